import PyProof.Rows.All
import Wide.All
import OpenK.AllK
import Wide.FinOn
import PySem.Challenge.RW_rh0120_01
set_option Elab.async false
set_option rowWalk.seconds 0
set_option maxRecDepth 100000
set_option maxHeartbeats 8000000
section
open PySem PySem.W PyProof.Rows
namespace Mine
theorem lim0 {d k R : Nat} (h : d + k < R) : d < R := Nat.lt_of_le_of_lt (Nat.le_add_right _ _) h
theorem lim1 {d j k R : Nat} (h : d + k < R) (e : Nat.ble j k = true) : d + j < R := Nat.lt_of_le_of_lt (Nat.add_le_add_left (Nat.le_of_ble_eq_true e) _) h
theorem lim2 {d i j k R : Nat} (h : d + k < R) (e : Nat.ble (i + j) k = true) : d + i + j < R := Nat.add_assoc d i j ▸ lim1 h e
theorem lim3 {d i j l k R : Nat} (h : d + k < R) (e : Nat.ble (i + j + l) k = true) : d + i + j + l < R := by
  have := lim1 h e; omega
theorem ltne {a b : Nat} (e : b = a) (h : a < b) : False := absurd h (e ▸ Nat.lt_irrefl _)
theorem ltne' {a b : Nat} (e : a = b) (h : a < b) : False := absurd h (e ▸ Nat.lt_irrefl _)
theorem nle {a b : Nat} (h : ¬ b ≤ a) : a < b := Nat.lt_of_not_le h
theorem c0 { A Q : Prop} (h : A ∧ Q) : A := h.1
theorem c1 {P0 A Q : Prop} (h : P0 ∧ A ∧ Q) : A := h.2.1
theorem e1 {P0 A : Prop} (h : P0 ∧ A) : A := h.2
theorem c2 {P0 P1 A Q : Prop} (h : P0 ∧ P1 ∧ A ∧ Q) : A := h.2.2.1
theorem e2 {P0 P1 A : Prop} (h : P0 ∧ P1 ∧ A) : A := h.2.2
theorem c3 {P0 P1 P2 A Q : Prop} (h : P0 ∧ P1 ∧ P2 ∧ A ∧ Q) : A := h.2.2.2.1
theorem e3 {P0 P1 P2 A : Prop} (h : P0 ∧ P1 ∧ P2 ∧ A) : A := h.2.2.2
theorem c4 {P0 P1 P2 P3 A Q : Prop} (h : P0 ∧ P1 ∧ P2 ∧ P3 ∧ A ∧ Q) : A := h.2.2.2.2.1
theorem e4 {P0 P1 P2 P3 A : Prop} (h : P0 ∧ P1 ∧ P2 ∧ P3 ∧ A) : A := h.2.2.2.2
theorem c5 {P0 P1 P2 P3 P4 A Q : Prop} (h : P0 ∧ P1 ∧ P2 ∧ P3 ∧ P4 ∧ A ∧ Q) : A := h.2.2.2.2.2.1
theorem e5 {P0 P1 P2 P3 P4 A : Prop} (h : P0 ∧ P1 ∧ P2 ∧ P3 ∧ P4 ∧ A) : A := h.2.2.2.2.2
theorem c6 {P0 P1 P2 P3 P4 P5 A Q : Prop} (h : P0 ∧ P1 ∧ P2 ∧ P3 ∧ P4 ∧ P5 ∧ A ∧ Q) : A := h.2.2.2.2.2.2.1
theorem e6 {P0 P1 P2 P3 P4 P5 A : Prop} (h : P0 ∧ P1 ∧ P2 ∧ P3 ∧ P4 ∧ P5 ∧ A) : A := h.2.2.2.2.2.2
theorem c7 {P0 P1 P2 P3 P4 P5 P6 A Q : Prop} (h : P0 ∧ P1 ∧ P2 ∧ P3 ∧ P4 ∧ P5 ∧ P6 ∧ A ∧ Q) : A := h.2.2.2.2.2.2.2.1
theorem e7 {P0 P1 P2 P3 P4 P5 P6 A : Prop} (h : P0 ∧ P1 ∧ P2 ∧ P3 ∧ P4 ∧ P5 ∧ P6 ∧ A) : A := h.2.2.2.2.2.2.2
theorem c8 {P0 P1 P2 P3 P4 P5 P6 P7 A Q : Prop} (h : P0 ∧ P1 ∧ P2 ∧ P3 ∧ P4 ∧ P5 ∧ P6 ∧ P7 ∧ A ∧ Q) : A := h.2.2.2.2.2.2.2.2.1
theorem e8 {P0 P1 P2 P3 P4 P5 P6 P7 A : Prop} (h : P0 ∧ P1 ∧ P2 ∧ P3 ∧ P4 ∧ P5 ∧ P6 ∧ P7 ∧ A) : A := h.2.2.2.2.2.2.2.2
theorem c9 {P0 P1 P2 P3 P4 P5 P6 P7 P8 A Q : Prop} (h : P0 ∧ P1 ∧ P2 ∧ P3 ∧ P4 ∧ P5 ∧ P6 ∧ P7 ∧ P8 ∧ A ∧ Q) : A := h.2.2.2.2.2.2.2.2.2.1
theorem e9 {P0 P1 P2 P3 P4 P5 P6 P7 P8 A : Prop} (h : P0 ∧ P1 ∧ P2 ∧ P3 ∧ P4 ∧ P5 ∧ P6 ∧ P7 ∧ P8 ∧ A) : A := h.2.2.2.2.2.2.2.2.2
theorem c10 {P0 P1 P2 P3 P4 P5 P6 P7 P8 P9 A Q : Prop} (h : P0 ∧ P1 ∧ P2 ∧ P3 ∧ P4 ∧ P5 ∧ P6 ∧ P7 ∧ P8 ∧ P9 ∧ A ∧ Q) : A := h.2.2.2.2.2.2.2.2.2.2.1
theorem e10 {P0 P1 P2 P3 P4 P5 P6 P7 P8 P9 A : Prop} (h : P0 ∧ P1 ∧ P2 ∧ P3 ∧ P4 ∧ P5 ∧ P6 ∧ P7 ∧ P8 ∧ P9 ∧ A) : A := h.2.2.2.2.2.2.2.2.2.2
theorem c11 {P0 P1 P2 P3 P4 P5 P6 P7 P8 P9 P10 A Q : Prop} (h : P0 ∧ P1 ∧ P2 ∧ P3 ∧ P4 ∧ P5 ∧ P6 ∧ P7 ∧ P8 ∧ P9 ∧ P10 ∧ A ∧ Q) : A := h.2.2.2.2.2.2.2.2.2.2.2.1
theorem e11 {P0 P1 P2 P3 P4 P5 P6 P7 P8 P9 P10 A : Prop} (h : P0 ∧ P1 ∧ P2 ∧ P3 ∧ P4 ∧ P5 ∧ P6 ∧ P7 ∧ P8 ∧ P9 ∧ P10 ∧ A) : A := h.2.2.2.2.2.2.2.2.2.2.2
theorem c12 {P0 P1 P2 P3 P4 P5 P6 P7 P8 P9 P10 P11 A Q : Prop} (h : P0 ∧ P1 ∧ P2 ∧ P3 ∧ P4 ∧ P5 ∧ P6 ∧ P7 ∧ P8 ∧ P9 ∧ P10 ∧ P11 ∧ A ∧ Q) : A := h.2.2.2.2.2.2.2.2.2.2.2.2.1
theorem e12 {P0 P1 P2 P3 P4 P5 P6 P7 P8 P9 P10 P11 A : Prop} (h : P0 ∧ P1 ∧ P2 ∧ P3 ∧ P4 ∧ P5 ∧ P6 ∧ P7 ∧ P8 ∧ P9 ∧ P10 ∧ P11 ∧ A) : A := h.2.2.2.2.2.2.2.2.2.2.2.2
theorem c13 {P0 P1 P2 P3 P4 P5 P6 P7 P8 P9 P10 P11 P12 A Q : Prop} (h : P0 ∧ P1 ∧ P2 ∧ P3 ∧ P4 ∧ P5 ∧ P6 ∧ P7 ∧ P8 ∧ P9 ∧ P10 ∧ P11 ∧ P12 ∧ A ∧ Q) : A := h.2.2.2.2.2.2.2.2.2.2.2.2.2.1
theorem e13 {P0 P1 P2 P3 P4 P5 P6 P7 P8 P9 P10 P11 P12 A : Prop} (h : P0 ∧ P1 ∧ P2 ∧ P3 ∧ P4 ∧ P5 ∧ P6 ∧ P7 ∧ P8 ∧ P9 ∧ P10 ∧ P11 ∧ P12 ∧ A) : A := h.2.2.2.2.2.2.2.2.2.2.2.2.2
theorem c14 {P0 P1 P2 P3 P4 P5 P6 P7 P8 P9 P10 P11 P12 P13 A Q : Prop} (h : P0 ∧ P1 ∧ P2 ∧ P3 ∧ P4 ∧ P5 ∧ P6 ∧ P7 ∧ P8 ∧ P9 ∧ P10 ∧ P11 ∧ P12 ∧ P13 ∧ A ∧ Q) : A := h.2.2.2.2.2.2.2.2.2.2.2.2.2.2.1
theorem e14 {P0 P1 P2 P3 P4 P5 P6 P7 P8 P9 P10 P11 P12 P13 A : Prop} (h : P0 ∧ P1 ∧ P2 ∧ P3 ∧ P4 ∧ P5 ∧ P6 ∧ P7 ∧ P8 ∧ P9 ∧ P10 ∧ P11 ∧ P12 ∧ P13 ∧ A) : A := h.2.2.2.2.2.2.2.2.2.2.2.2.2.2
theorem c15 {P0 P1 P2 P3 P4 P5 P6 P7 P8 P9 P10 P11 P12 P13 P14 A Q : Prop} (h : P0 ∧ P1 ∧ P2 ∧ P3 ∧ P4 ∧ P5 ∧ P6 ∧ P7 ∧ P8 ∧ P9 ∧ P10 ∧ P11 ∧ P12 ∧ P13 ∧ P14 ∧ A ∧ Q) : A := h.2.2.2.2.2.2.2.2.2.2.2.2.2.2.2.1
theorem e15 {P0 P1 P2 P3 P4 P5 P6 P7 P8 P9 P10 P11 P12 P13 P14 A : Prop} (h : P0 ∧ P1 ∧ P2 ∧ P3 ∧ P4 ∧ P5 ∧ P6 ∧ P7 ∧ P8 ∧ P9 ∧ P10 ∧ P11 ∧ P12 ∧ P13 ∧ P14 ∧ A) : A := h.2.2.2.2.2.2.2.2.2.2.2.2.2.2.2
theorem c16 {P0 P1 P2 P3 P4 P5 P6 P7 P8 P9 P10 P11 P12 P13 P14 P15 A Q : Prop} (h : P0 ∧ P1 ∧ P2 ∧ P3 ∧ P4 ∧ P5 ∧ P6 ∧ P7 ∧ P8 ∧ P9 ∧ P10 ∧ P11 ∧ P12 ∧ P13 ∧ P14 ∧ P15 ∧ A ∧ Q) : A := h.2.2.2.2.2.2.2.2.2.2.2.2.2.2.2.2.1
theorem e16 {P0 P1 P2 P3 P4 P5 P6 P7 P8 P9 P10 P11 P12 P13 P14 P15 A : Prop} (h : P0 ∧ P1 ∧ P2 ∧ P3 ∧ P4 ∧ P5 ∧ P6 ∧ P7 ∧ P8 ∧ P9 ∧ P10 ∧ P11 ∧ P12 ∧ P13 ∧ P14 ∧ P15 ∧ A) : A := h.2.2.2.2.2.2.2.2.2.2.2.2.2.2.2.2
theorem c17 {P0 P1 P2 P3 P4 P5 P6 P7 P8 P9 P10 P11 P12 P13 P14 P15 P16 A Q : Prop} (h : P0 ∧ P1 ∧ P2 ∧ P3 ∧ P4 ∧ P5 ∧ P6 ∧ P7 ∧ P8 ∧ P9 ∧ P10 ∧ P11 ∧ P12 ∧ P13 ∧ P14 ∧ P15 ∧ P16 ∧ A ∧ Q) : A := h.2.2.2.2.2.2.2.2.2.2.2.2.2.2.2.2.2.1
theorem e17 {P0 P1 P2 P3 P4 P5 P6 P7 P8 P9 P10 P11 P12 P13 P14 P15 P16 A : Prop} (h : P0 ∧ P1 ∧ P2 ∧ P3 ∧ P4 ∧ P5 ∧ P6 ∧ P7 ∧ P8 ∧ P9 ∧ P10 ∧ P11 ∧ P12 ∧ P13 ∧ P14 ∧ P15 ∧ P16 ∧ A) : A := h.2.2.2.2.2.2.2.2.2.2.2.2.2.2.2.2.2
theorem c18 {P0 P1 P2 P3 P4 P5 P6 P7 P8 P9 P10 P11 P12 P13 P14 P15 P16 P17 A Q : Prop} (h : P0 ∧ P1 ∧ P2 ∧ P3 ∧ P4 ∧ P5 ∧ P6 ∧ P7 ∧ P8 ∧ P9 ∧ P10 ∧ P11 ∧ P12 ∧ P13 ∧ P14 ∧ P15 ∧ P16 ∧ P17 ∧ A ∧ Q) : A := h.2.2.2.2.2.2.2.2.2.2.2.2.2.2.2.2.2.2.1
theorem e18 {P0 P1 P2 P3 P4 P5 P6 P7 P8 P9 P10 P11 P12 P13 P14 P15 P16 P17 A : Prop} (h : P0 ∧ P1 ∧ P2 ∧ P3 ∧ P4 ∧ P5 ∧ P6 ∧ P7 ∧ P8 ∧ P9 ∧ P10 ∧ P11 ∧ P12 ∧ P13 ∧ P14 ∧ P15 ∧ P16 ∧ P17 ∧ A) : A := h.2.2.2.2.2.2.2.2.2.2.2.2.2.2.2.2.2.2
theorem c19 {P0 P1 P2 P3 P4 P5 P6 P7 P8 P9 P10 P11 P12 P13 P14 P15 P16 P17 P18 A Q : Prop} (h : P0 ∧ P1 ∧ P2 ∧ P3 ∧ P4 ∧ P5 ∧ P6 ∧ P7 ∧ P8 ∧ P9 ∧ P10 ∧ P11 ∧ P12 ∧ P13 ∧ P14 ∧ P15 ∧ P16 ∧ P17 ∧ P18 ∧ A ∧ Q) : A := h.2.2.2.2.2.2.2.2.2.2.2.2.2.2.2.2.2.2.2.1
theorem e19 {P0 P1 P2 P3 P4 P5 P6 P7 P8 P9 P10 P11 P12 P13 P14 P15 P16 P17 P18 A : Prop} (h : P0 ∧ P1 ∧ P2 ∧ P3 ∧ P4 ∧ P5 ∧ P6 ∧ P7 ∧ P8 ∧ P9 ∧ P10 ∧ P11 ∧ P12 ∧ P13 ∧ P14 ∧ P15 ∧ P16 ∧ P17 ∧ P18 ∧ A) : A := h.2.2.2.2.2.2.2.2.2.2.2.2.2.2.2.2.2.2.2
theorem c20 {P0 P1 P2 P3 P4 P5 P6 P7 P8 P9 P10 P11 P12 P13 P14 P15 P16 P17 P18 P19 A Q : Prop} (h : P0 ∧ P1 ∧ P2 ∧ P3 ∧ P4 ∧ P5 ∧ P6 ∧ P7 ∧ P8 ∧ P9 ∧ P10 ∧ P11 ∧ P12 ∧ P13 ∧ P14 ∧ P15 ∧ P16 ∧ P17 ∧ P18 ∧ P19 ∧ A ∧ Q) : A := h.2.2.2.2.2.2.2.2.2.2.2.2.2.2.2.2.2.2.2.2.1
theorem e20 {P0 P1 P2 P3 P4 P5 P6 P7 P8 P9 P10 P11 P12 P13 P14 P15 P16 P17 P18 P19 A : Prop} (h : P0 ∧ P1 ∧ P2 ∧ P3 ∧ P4 ∧ P5 ∧ P6 ∧ P7 ∧ P8 ∧ P9 ∧ P10 ∧ P11 ∧ P12 ∧ P13 ∧ P14 ∧ P15 ∧ P16 ∧ P17 ∧ P18 ∧ P19 ∧ A) : A := h.2.2.2.2.2.2.2.2.2.2.2.2.2.2.2.2.2.2.2.2
theorem lim8 {d a j k b R : Nat} (h : d ≤ a) (g : b < R) (e : Nat.ble (a + j + k) b = true) : d + j + k < R :=
  Nat.lt_of_le_of_lt (Nat.le_trans (Nat.add_le_add_right (Nat.add_le_add_right h _) _) (Nat.le_of_ble_eq_true e)) g
theorem lim9 {d a j b R : Nat} (h : d ≤ a) (g : b < R) (e : Nat.ble (a + j) b = true) : d + j < R :=
  Nat.lt_of_le_of_lt (Nat.le_trans (Nat.add_le_add_right h _) (Nat.le_of_ble_eq_true e)) g
theorem lim10 {d a b R : Nat} (h : d ≤ a) (g : b < R) (e : Nat.ble a b = true) : d < R :=
  Nat.lt_of_le_of_lt (Nat.le_trans h (Nat.le_of_ble_eq_true e)) g
theorem i1 {v : Int} (h : 0 ≤ v) : 1 ≤ 1 + v := by omega
theorem i2 {v k : Int} (h : v < k) : 1 + v ≤ k := by omega
theorem i3 {v : Int} (h : 1 ≤ v) : 0 ≤ v := by omega
theorem i4 {v a b : Int} (h : v ≤ a) (e : decide (a ≤ b) = true) : v ≤ b := Int.le_trans h (of_decide_eq_true e)
theorem ltp0 {a : Nat} : a < a + 1 := Nat.lt_succ_self a
theorem ltp {a b : Nat} (h : a < b) : a < b + 1 := Nat.lt_succ_of_lt h
theorem toNe {a b : Nat} (h : a ≠ b) : a ≠ b := h
theorem i5 {P : Int} (h : 1 ≤ P ∧ P ≤ 12) : 2 + ((P - 0).toNat : Int) < 90 := by omega
theorem i6 {P k : Int} (h : 1 ≤ P ∧ P ≤ 12) (g : k ≤ 2 + ((P - 0).toNat : Int) + 3) : k < 100 := by omega
theorem i7 {P : Int} {i : Nat} (h : 1 ≤ P ∧ P ≤ 12) (g : i < (P - 0).toNat) : (i : Int) < 12 := by omega
theorem i8 {c : Int} {i : Nat} (h : c ≤ 3) (g : i < (c - 0).toNat) : 0 + (i : Int) < 2 ^ 64 := by omega
theorem viaL {a b x : Nat} {Q : Prop} (h : x < b ∧ Q) (k : x < b ∧ Q → a < b) : a < b := k h
theorem viaM {a b x : Nat} {Q : Prop} (h : ¬ b ≤ x ∧ Q) (k : ¬ b ≤ x ∧ Q → ¬ b ≤ a) : a < b := Nat.lt_of_not_le (k h)
theorem viaN {a b x : Nat} {Q : Prop} (h : x ≠ b ∧ Q) (k : x ≠ b ∧ Q → a ≠ b) : a ≠ b := k h
theorem viaN1 {a b x : Nat} {P Q : Prop} (h : (x ≠ b ∧ P) ∧ Q) (k : (x ≠ b ∧ P) ∧ Q → a ≠ b) : a ≠ b := k h
theorem viaN2 {a b x : Nat} {P R Q : Prop} (h : (P ∧ x ≠ b ∧ R) ∧ Q) (k : (P ∧ x ≠ b ∧ R) ∧ Q → a ≠ b) : a ≠ b := k h
theorem viaN3 {a b x : Nat} {P R Q : Prop} (h : (P ∧ R ∧ x ≠ b) ∧ Q) (k : (P ∧ R ∧ x ≠ b) ∧ Q → a ≠ b) : a ≠ b := k h
section
local macro_rules | `(tactic| refine $_:ident (q := $_) (loose := $_) (Xt := $_) (XP := $_) (Yf := $_) (Ya := $_) (YP := $_) (N := $_) $_*) => `(tactic| contradiction)
theorem seat (h : False) : PySem.Challenge.rw_rh0120_01.row.Holds := by
  k_head
end
def addrs : List Addr := 2 :: 3 :: 15 :: 17 :: 18 :: 20 :: 21 :: 22 :: 29 :: 31 :: 32 :: 34 :: 35 :: 36 :: 37 :: 38 :: 39 :: 42 :: 49 :: 50 :: 51 :: 54 :: 61 :: 63 :: 64 :: 66 :: 67 :: 68 :: 69 :: 70 :: 73 :: 75 :: 76 :: 78 :: 79 :: 87 :: 89 :: 90 :: 92 :: 93 :: 94 :: 96 :: 97 :: 99 :: 100 :: 101 :: 103 :: 104 :: 106 :: 107 :: 108 :: 110 :: 111 :: 113 :: 114 :: 115 :: 116 :: 117 :: 118 :: 119 :: 122 :: 124 :: 125 :: 127 :: 128 :: 129 :: 131 :: 132 :: 134 :: 135 :: 136 :: 138 :: 139 :: 141 :: 142 :: 143 :: 145 :: 146 :: 148 :: 149 :: 150 :: 152 :: 153 :: 155 :: 156 :: 157 :: 159 :: 160 :: 162 :: 163 :: 164 :: 167 :: 168 :: 169 :: 171 :: 172 :: 174 :: 175 :: 176 :: 178 :: 179 :: 181 :: 182 :: 190 :: 192 :: 193 :: 195 :: 196 :: 197 :: 199 :: 200 :: 202 :: 203 :: 204 :: 205 :: 206 :: 207 :: 208 :: 211 :: 213 :: 214 :: 216 :: 217 :: 218 :: 220 :: 221 :: 223 :: 224 :: 225 :: 227 :: 228 :: 230 :: 231 :: 232 :: 235 :: 236 :: 237 :: 239 :: 240 :: 242 :: 243 :: 251 :: 252 :: 254 :: 255 :: 257 :: 258 :: 259 :: 260 :: 261 :: 262 :: 263 :: 273 :: 275 :: 276 :: 278 :: 279 :: 280 :: 281 :: 282 :: 283 :: 284 :: 287 :: 290 :: 291 :: 299 :: 301 :: 302 :: 304 :: 305 :: 306 :: 307 :: 308 :: 309 :: 310 :: 313 :: 315 :: 316 :: 318 :: 319 :: 320 :: 322 :: 323 :: 325 :: 326 :: 327 :: 329 :: 330 :: 332 :: 333 :: 334 :: 336 :: 337 :: 339 :: 340 :: 341 :: 344 :: 345 :: 346 :: 348 :: 349 :: 351 :: 352 :: 353 :: 355 :: 356 :: 358 :: 359 :: 360 :: 362 :: 363 :: 365 :: 366 :: 367 :: 369 :: 370 :: 372 :: 373 :: 374 :: 376 :: 377 :: 379 :: 380 :: 381 :: 383 :: 384 :: 386 :: 387 :: 388 :: 390 :: 391 :: 393 :: 394 :: 395 :: 397 :: 398 :: 400 :: 401 :: 402 :: 404 :: 405 :: 407 :: 408 :: 409 :: 411 :: 412 :: 414 :: 415 :: 416 :: 418 :: 419 :: 421 :: 422 :: 423 :: 425 :: 426 :: 428 :: 429 :: 430 :: 432 :: 433 :: 435 :: 436 :: 437 :: 440 :: 441 :: []
theorem hd.tw10012880186880212623 : True := trivial
theorem hd.tw10024716035694756283 : True := trivial
theorem hd.tw10030107230732127627 : True := trivial
theorem hd.tw10042064328988086632 : True := trivial
theorem hd.tw1011335219593555734 : True := trivial
theorem hd.tw1013155817946168525 : True := trivial
theorem hd.tw10170382586518783626 : True := trivial
theorem hd.tw10208501265060282424 : True := trivial
theorem hd.tw10216474801634566288 : True := trivial
theorem hd.tw10246146449241189800 : True := trivial
theorem hd.tw10403243965636340961 : True := trivial
theorem hd.tw10424393626065333798 : True := trivial
theorem hd.tw10458740792067480800 : True := trivial
theorem hd.tw10525666975642140466 : True := trivial
theorem hd.tw10583446816852156582 : True := trivial
theorem hd.tw10601615944963115059 : True := trivial
theorem hd.tw10603584201595350602 : True := trivial
theorem hd.tw10614716105012338702 : True := trivial
theorem hd.tw10678649693572172417 : True := trivial
theorem hd.tw10752148897807903841 : True := trivial
theorem hd.tw10792051664901133789 : True := trivial
theorem hd.tw10879034167726328663 : True := trivial
theorem hd.tw10949625832625181284 : True := trivial
theorem hd.tw1097998534492414930 : True := trivial
theorem hd.tw11013492841495259373 : True := trivial
theorem hd.tw11032806212648032379 : True := trivial
theorem hd.tw11054480109507316185 : True := trivial
theorem hd.tw11136197038861592535 : True := trivial
theorem hd.tw11162318198679636149 : True := trivial
theorem hd.tw11210553801493137410 : True := trivial
theorem hd.tw11232374478483605306 : True := trivial
theorem hd.tw11251137523995926341 : True := trivial
theorem hd.tw1129884963351977449 : True := trivial
theorem hd.tw11319892378374348655 : True := trivial
theorem hd.tw11402939732021071671 : True := trivial
theorem hd.tw11465210709893060100 : True := trivial
theorem hd.tw11513968764499736323 : True := trivial
theorem hd.tw11631869004601391166 : True := trivial
theorem hd.tw11631947586910100387 : True := trivial
theorem hd.tw11652457597714270106 : True := trivial
theorem hd.tw11660266114150955751 : True := trivial
theorem hd.tw11709330566771433103 : True := trivial
theorem hd.tw11754176132448286083 : True := trivial
theorem hd.tw11893437276241958245 : True := trivial
theorem hd.tw11917015161858427179 : True := trivial
theorem hd.tw11953376511379268794 : True := trivial
theorem hd.tw11975651509544506050 : True := trivial
theorem hd.tw12023040214023829324 : True := trivial
theorem hd.tw12050417470231563642 : True := trivial
theorem hd.tw12070051907170230399 : True := trivial
theorem hd.tw12092154237167983948 : True := trivial
theorem hd.tw12112201142124510154 : True := trivial
theorem hd.tw1222794163293265305 : True := trivial
theorem hd.tw12399718760709695909 : True := trivial
theorem hd.tw1241404454085649124 : True := trivial
theorem hd.tw12487502673411948298 : True := trivial
theorem hd.tw12507593775071373291 : True := trivial
theorem hd.tw12588582704262371052 : True := trivial
theorem hd.tw12614811148066621264 : True := trivial
theorem hd.tw12629568148972539762 : True := trivial
theorem hd.tw12647368939536790636 : True := trivial
theorem hd.tw12701017443517248840 : True := trivial
theorem hd.tw12901994302517312135 : True := trivial
theorem hd.tw12936449754285732098 : True := trivial
theorem hd.tw12949589719889679912 : True := trivial
theorem hd.tw13047593935725612058 : True := trivial
theorem hd.tw13181700845877081190 : True := trivial
theorem hd.tw13217225542625558698 : True := trivial
theorem hd.tw13225837485096350037 : True := trivial
theorem hd.tw13285133528070534704 : True := trivial
theorem hd.tw13289513938125300765 : True := trivial
theorem hd.tw13315533130655954831 : True := trivial
theorem hd.tw13353348626548451038 : True := trivial
theorem hd.tw13368278939475635651 : True := trivial
theorem hd.tw13372043803930879067 : True := trivial
theorem hd.tw13409441903868389331 : True := trivial
theorem hd.tw13431754692932380062 : True := trivial
theorem hd.tw13483081372092288885 : True := trivial
theorem hd.tw1359830224848277088 : True := trivial
theorem hd.tw13609717118414637909 : True := trivial
theorem hd.tw13638418597567726942 : True := trivial
theorem hd.tw13770079208771991547 : True := trivial
theorem hd.tw13828106393651249627 : True := trivial
theorem hd.tw1382963296337349011 : True := trivial
theorem hd.tw13855881374063213867 : True := trivial
theorem hd.tw13855946660403688772 : True := trivial
theorem hd.tw13866372431405929976 : True := trivial
theorem hd.tw13893168526513508166 : True := trivial
theorem hd.tw13903934854276604550 : True := trivial
theorem hd.tw13919464512627920130 : True := trivial
theorem hd.tw14103535550066685397 : True := trivial
theorem hd.tw1413172679324656950 : True := trivial
theorem hd.tw14147866220447708227 : True := trivial
theorem hd.tw14168552714766633299 : True := trivial
theorem hd.tw14246236162039180721 : True := trivial
theorem hd.tw14294001040229213422 : True := trivial
theorem hd.tw14353793391729792155 : True := trivial
theorem hd.tw1439246655266547700 : True := trivial
theorem hd.tw14457593812595234344 : True := trivial
theorem hd.tw14478148883734587675 : True := trivial
theorem hd.tw1452849714261714991 : True := trivial
theorem hd.tw14553816603554493358 : True := trivial
theorem hd.tw14560493823538711346 : True := trivial
theorem hd.tw14727110085682223627 : True := trivial
theorem hd.tw14892549342360969540 : True := trivial
theorem hd.tw14896477498954680388 : True := trivial
theorem hd.tw14906377314874228009 : True := trivial
theorem hd.tw14980023328507725902 : True := trivial
theorem hd.tw15042006015671813226 : True := trivial
theorem hd.tw15043168886218598503 : True := trivial
theorem hd.tw15083628210047938546 : True := trivial
theorem hd.tw15103106377680225435 : True := trivial
theorem hd.tw15166520500009309586 : True := trivial
theorem hd.tw1518305811592690382 : True := trivial
theorem hd.tw15279998641719260112 : True := trivial
theorem hd.tw15344866539931968096 : True := trivial
theorem hd.tw15367242080415987702 : True := trivial
theorem hd.tw15411387601460861337 : True := trivial
theorem hd.tw15422856539912107476 : True := trivial
theorem hd.tw15527848837575444561 : True := trivial
theorem hd.tw1556766022789300190 : True := trivial
theorem hd.tw15615420239508185596 : True := trivial
theorem hd.tw15615537253650120727 : True := trivial
theorem hd.tw15616948245753086127 : True := trivial
theorem hd.tw15642763164714097627 : True := trivial
theorem hd.tw15643275761693703936 : True := trivial
theorem hd.tw15673258824015622330 : True := trivial
theorem hd.tw15683763237869141255 : True := trivial
theorem hd.tw15759970867653108152 : True := trivial
theorem hd.tw15790720579355451973 : True := trivial
theorem hd.tw1580110805410547442 : True := trivial
theorem hd.tw15833661619300960221 : True := trivial
theorem hd.tw15837987909243819085 : True := trivial
theorem hd.tw15852365999677673905 : True := trivial
theorem hd.tw1589133516308662214 : True := trivial
theorem hd.tw15967140613478806237 : True := trivial
theorem hd.tw1600037746751723098 : True := trivial
theorem hd.tw16011055738799735888 : True := trivial
theorem hd.tw16029623286316568529 : True := trivial
theorem hd.tw16037735763661986305 : True := trivial
theorem hd.tw16056359734778111409 : True := trivial
theorem hd.tw16064382804478563927 : True := trivial
theorem hd.tw16154546982801380032 : True := trivial
theorem hd.tw16155205043701107222 : True := trivial
theorem hd.tw16157073509204512506 : True := trivial
theorem hd.tw16160664900817543922 : True := trivial
theorem hd.tw16194383521188589630 : True := trivial
theorem hd.tw16259696140248634718 : True := trivial
theorem hd.tw162610821266807592 : True := trivial
theorem hd.tw16299908979028503884 : True := trivial
theorem hd.tw16302227732802510677 : True := trivial
theorem hd.tw16345102440705955213 : True := trivial
theorem hd.tw16412773359747925120 : True := trivial
theorem hd.tw16432713993328977331 : True := trivial
theorem hd.tw16473244170626142550 : True := trivial
theorem hd.tw16477043939570097188 : True := trivial
theorem hd.tw16634568088961857937 : True := trivial
theorem hd.tw16640546478005224243 : True := trivial
theorem hd.tw16722109127936396110 : True := trivial
theorem hd.tw16772102934027710169 : True := trivial
theorem hd.tw16794629799341752650 : True := trivial
theorem hd.tw16828841361933241965 : True := trivial
theorem hd.tw16853341256802265648 : True := trivial
theorem hd.tw16868993833207775613 : True := trivial
theorem hd.tw16904818350239718627 : True := trivial
theorem hd.tw16920754564084929960 : True := trivial
theorem hd.tw16945582573551092051 : True := trivial
theorem hd.tw16970440968685349367 : True := trivial
theorem hd.tw17006298447274111571 : True := trivial
theorem hd.tw17047115858639842297 : True := trivial
theorem hd.tw17054507655720011243 : True := trivial
theorem hd.tw17062030032774818151 : True := trivial
theorem hd.tw17087091549796120035 : True := trivial
theorem hd.tw17177331786930743035 : True := trivial
theorem hd.tw17183224562656869120 : True := trivial
theorem hd.tw17213754286329925777 : True := trivial
theorem hd.tw17252143746492648416 : True := trivial
theorem hd.tw17258206423299326598 : True := trivial
theorem hd.tw17420951861521290806 : True := trivial
theorem hd.tw17447410573909459338 : True := trivial
theorem hd.tw17574625026820762457 : True := trivial
theorem hd.tw17588044629489971554 : True := trivial
theorem hd.tw17599816209265215132 : True := trivial
theorem hd.tw1760603350576429475 : True := trivial
theorem hd.tw17606422857730326317 : True := trivial
theorem hd.tw17672654358674132775 : True := trivial
theorem hd.tw17711083657039698284 : True := trivial
theorem hd.tw17739348878880393726 : True := trivial
theorem hd.tw17893044597097874663 : True := trivial
theorem hd.tw17901334829092211166 : True := trivial
theorem hd.tw17903497710992402801 : True := trivial
theorem hd.tw17948085552500728524 : True := trivial
theorem hd.tw17950676927832955104 : True := trivial
theorem hd.tw17975533764899295144 : True := trivial
theorem hd.tw17986969038992634876 : True := trivial
theorem hd.tw1800889605409440832 : True := trivial
theorem hd.tw18093812233618175256 : True := trivial
theorem hd.tw18103739167541040201 : True := trivial
theorem hd.tw18166333605607142505 : True := trivial
theorem hd.tw18185175575083235020 : True := trivial
theorem hd.tw18227894937965515208 : True := trivial
theorem hd.tw18241275227582772068 : True := trivial
theorem hd.tw18245042118932799458 : True := trivial
theorem hd.tw18291419657060728153 : True := trivial
theorem hd.tw18293732401869909652 : True := trivial
theorem hd.tw18293851220164018083 : True := trivial
theorem hd.tw18300207936620678264 : True := trivial
theorem hd.tw18343703819029505601 : True := trivial
theorem hd.tw1836080755315867724 : True := trivial
theorem hd.tw1847840615245081061 : True := trivial
theorem hd.tw1848646778235469078 : True := trivial
theorem hd.tw1865391376527767206 : True := trivial
theorem hd.tw1882180444382439491 : True := trivial
theorem hd.tw189712035060473897 : True := trivial
theorem hd.tw190519026028168232 : True := trivial
theorem hd.tw1997569388931296116 : True := trivial
theorem hd.tw2068664650715991707 : True := trivial
theorem hd.tw2101469004524951375 : True := trivial
theorem hd.tw2114630138375439770 : True := trivial
theorem hd.tw212345690472687942 : True := trivial
theorem hd.tw2167537188350426706 : True := trivial
theorem hd.tw2195365466389143174 : True := trivial
theorem hd.tw2216850387143573719 : True := trivial
theorem hd.tw2225492998660141991 : True := trivial
theorem hd.tw2252305205657439004 : True := trivial
theorem hd.tw226724450230711188 : True := trivial
theorem hd.tw2315301623876862497 : True := trivial
theorem hd.tw2323474266016966308 : True := trivial
theorem hd.tw2327210489368252092 : True := trivial
theorem hd.tw2329189449893159454 : True := trivial
theorem hd.tw2386827423013361158 : True := trivial
theorem hd.tw2391449824757734642 : True := trivial
theorem hd.tw2432786521165267186 : True := trivial
theorem hd.tw2442259710966052079 : True := trivial
theorem hd.tw2603259988358896889 : True := trivial
theorem hd.tw2608437505485318709 : True := trivial
theorem hd.tw2708950531961675432 : True := trivial
theorem hd.tw2845679848157327705 : True := trivial
theorem hd.tw2887051446865420828 : True := trivial
theorem hd.tw2930668341846507884 : True := trivial
theorem hd.tw2999033326186475339 : True := trivial
theorem hd.tw3026753882482905222 : True := trivial
theorem hd.tw3039998526598829958 : True := trivial
theorem hd.tw307737655149646647 : True := trivial
theorem hd.tw3085183777334472315 : True := trivial
theorem hd.tw3109861748172591687 : True := trivial
theorem hd.tw3143712602261400420 : True := trivial
theorem hd.tw3229955645248102723 : True := trivial
theorem hd.tw3259873300814134281 : True := trivial
theorem hd.tw3309697970292668127 : True := trivial
theorem hd.tw3381375190539634487 : True := trivial
theorem hd.tw3429492842335990350 : True := trivial
theorem hd.tw3442329435671937591 : True := trivial
theorem hd.tw3451239065008710300 : True := trivial
theorem hd.tw3452082135128663414 : True := trivial
theorem hd.tw3480954088277226078 : True := trivial
theorem hd.tw3493717111155160527 : True := trivial
theorem hd.tw3571134770919094901 : True := trivial
theorem hd.tw3646829019195819677 : True := trivial
theorem hd.tw3673089383077640791 : True := trivial
theorem hd.tw3759623122121258479 : True := trivial
theorem hd.tw3789350110615891812 : True := trivial
theorem hd.tw3795277891434052102 : True := trivial
theorem hd.tw3915529967508079626 : True := trivial
theorem hd.tw3919010098100093602 : True := trivial
theorem hd.tw395138700845864316 : True := trivial
theorem hd.tw3953601041324332601 : True := trivial
theorem hd.tw4014540891139286612 : True := trivial
theorem hd.tw4015398097383911347 : True := trivial
theorem hd.tw402640490398009360 : True := trivial
theorem hd.tw4065347644161347641 : True := trivial
theorem hd.tw4086058157674990017 : True := trivial
theorem hd.tw4115565904173853331 : True := trivial
theorem hd.tw4172343393113369950 : True := trivial
theorem hd.tw4225703048834024713 : True := trivial
theorem hd.tw4272726840584523970 : True := trivial
theorem hd.tw4297731678662094536 : True := trivial
theorem hd.tw4315991029959535628 : True := trivial
theorem hd.tw432457690288141553 : True := trivial
theorem hd.tw4360684699965382250 : True := trivial
theorem hd.tw4377701919642642989 : True := trivial
theorem hd.tw4402725079659364252 : True := trivial
theorem hd.tw4478166936697009375 : True := trivial
theorem hd.tw4478964076566166474 : True := trivial
theorem hd.tw4494801613693538912 : True := trivial
theorem hd.tw461538923250603899 : True := trivial
theorem hd.tw4702841417184801058 : True := trivial
theorem hd.tw4706079058837389440 : True := trivial
theorem hd.tw4851647983119433812 : True := trivial
theorem hd.tw4856431653887292112 : True := trivial
theorem hd.tw4870687313549177768 : True := trivial
theorem hd.tw4971549296188076032 : True := trivial
theorem hd.tw5054737718236178183 : True := trivial
theorem hd.tw5130813555471234732 : True := trivial
theorem hd.tw5148922909946612681 : True := trivial
theorem hd.tw5190246844813560578 : True := trivial
theorem hd.tw5245234834050458271 : True := trivial
theorem hd.tw5282504435634884242 : True := trivial
theorem hd.tw5343241284826551009 : True := trivial
theorem hd.tw5363564295841288755 : True := trivial
theorem hd.tw5366084841770067474 : True := trivial
theorem hd.tw5373601922739893978 : True := trivial
theorem hd.tw5416991563250132298 : True := trivial
theorem hd.tw5511420028821071320 : True := trivial
theorem hd.tw5567388512258382067 : True := trivial
theorem hd.tw5608270528595127837 : True := trivial
theorem hd.tw5629675986466331604 : True := trivial
theorem hd.tw5716766192118558609 : True := trivial
theorem hd.tw5902613922787404954 : True := trivial
theorem hd.tw5961118342813265553 : True := trivial
theorem hd.tw5978321128707920903 : True := trivial
theorem hd.tw5987830557187376847 : True := trivial
theorem hd.tw6019021122589006684 : True := trivial
theorem hd.tw6038821095411175016 : True := trivial
theorem hd.tw6060742912462422084 : True := trivial
theorem hd.tw6082411064634330575 : True := trivial
theorem hd.tw6164396464334811476 : True := trivial
theorem hd.tw6184460063843016694 : True := trivial
theorem hd.tw6196171512934965099 : True := trivial
theorem hd.tw6245462706441815368 : True := trivial
theorem hd.tw6264232113106981867 : True := trivial
theorem hd.tw6276725880618359904 : True := trivial
theorem hd.tw6291416237084387574 : True := trivial
theorem hd.tw6297665217685582802 : True := trivial
theorem hd.tw6407587892757256292 : True := trivial
theorem hd.tw6411954120941647267 : True := trivial
theorem hd.tw6438293893037913957 : True := trivial
theorem hd.tw6528754448969337418 : True := trivial
theorem hd.tw6545403380812914513 : True := trivial
theorem hd.tw6555240042291301478 : True := trivial
theorem hd.tw6598312636042714100 : True := trivial
theorem hd.tw6759412095888398321 : True := trivial
theorem hd.tw6767318904944593275 : True := trivial
theorem hd.tw6785817131721698500 : True := trivial
theorem hd.tw6819123309680001836 : True := trivial
theorem hd.tw6820112392323778065 : True := trivial
theorem hd.tw6830512106363814048 : True := trivial
theorem hd.tw6838551448383532254 : True := trivial
theorem hd.tw6868836192036940282 : True := trivial
theorem hd.tw6882427118574961969 : True := trivial
theorem hd.tw6924109203229866365 : True := trivial
theorem hd.tw6931407450589930559 : True := trivial
theorem hd.tw6990203504111849199 : True := trivial
theorem hd.tw6998783941825042932 : True := trivial
theorem hd.tw701787995468756871 : True := trivial
theorem hd.tw7023726343779634624 : True := trivial
theorem hd.tw7028611270464810887 : True := trivial
theorem hd.tw7068711184596962023 : True := trivial
theorem hd.tw7082855905992002993 : True := trivial
theorem hd.tw7085514621470718492 : True := trivial
theorem hd.tw7131973826717234839 : True := trivial
theorem hd.tw7155415327029175403 : True := trivial
theorem hd.tw7270182246851987180 : True := trivial
theorem hd.tw728884934406724761 : True := trivial
theorem hd.tw7289634563603522867 : True := trivial
theorem hd.tw7296583596125217682 : True := trivial
theorem hd.tw7355570028127101125 : True := trivial
theorem hd.tw7366208706002141716 : True := trivial
theorem hd.tw7494724483528729301 : True := trivial
theorem hd.tw7510230149288206974 : True := trivial
theorem hd.tw7512474625130614241 : True := trivial
theorem hd.tw7519716089354478335 : True := trivial
theorem hd.tw7540655947842036084 : True := trivial
theorem hd.tw758273949599710562 : True := trivial
theorem hd.tw7610815399733428385 : True := trivial
theorem hd.tw7721951785955056133 : True := trivial
theorem hd.tw7746578258024575070 : True := trivial
theorem hd.tw7752767780024739350 : True := trivial
theorem hd.tw7754304195085646258 : True := trivial
theorem hd.tw7763873220885509757 : True := trivial
theorem hd.tw7891253978561527248 : True := trivial
theorem hd.tw7914949630228597729 : True := trivial
theorem hd.tw7975485470687201451 : True := trivial
theorem hd.tw8004679753235328684 : True := trivial
theorem hd.tw8025032847418708242 : True := trivial
theorem hd.tw8047900516022102942 : True := trivial
theorem hd.tw8068729725432388964 : True := trivial
theorem hd.tw8112040973832200146 : True := trivial
theorem hd.tw8117029840178788049 : True := trivial
theorem hd.tw8226494294326810461 : True := trivial
theorem hd.tw8268277133935991078 : True := trivial
theorem hd.tw8343274005884668182 : True := trivial
theorem hd.tw8356816923877370021 : True := trivial
theorem hd.tw8428860471423672150 : True := trivial
theorem hd.tw8457440626546761165 : True := trivial
theorem hd.tw8516288146210602744 : True := trivial
theorem hd.tw8671608845466749128 : True := trivial
theorem hd.tw8684328023851190084 : True := trivial
theorem hd.tw8716120427605611371 : True := trivial
theorem hd.tw8735263284916673568 : True := trivial
theorem hd.tw8770205317985620760 : True := trivial
theorem hd.tw8789358453043137523 : True := trivial
theorem hd.tw8879563391730754479 : True := trivial
theorem hd.tw8960069828448710407 : True := trivial
theorem hd.tw8977307856219701671 : True := trivial
theorem hd.tw8990313861142287110 : True := trivial
theorem hd.tw9170477692918782315 : True := trivial
theorem hd.tw9210833815706959935 : True := trivial
theorem hd.tw922143313871775805 : True := trivial
theorem hd.tw9244321171653502345 : True := trivial
theorem hd.tw9277588360372424766 : True := trivial
theorem hd.tw9345676750909349944 : True := trivial
theorem hd.tw9386895884608548742 : True := trivial
theorem hd.tw9421340871869096474 : True := trivial
theorem hd.tw9427301549700849589 : True := trivial
theorem hd.tw9499510787657705874 : True := trivial
theorem hd.tw9557236495431379559 : True := trivial
theorem hd.tw9641152695372364146 : True := trivial
theorem hd.tw9657781627882305391 : True := trivial
theorem hd.tw9673543361469618366 : True := trivial
theorem hd.tw9702936160620672325 : True := trivial
theorem hd.tw9719896912496429819 : True := trivial
theorem hd.tw9741134391959003819 : True := trivial
theorem hd.tw9748044761591592747 : True := trivial
theorem hd.tw9763420282994701918 : True := trivial
theorem hd.tw9783614193127449063 : True := trivial
theorem hd.tw978945382295711627 : True := trivial
theorem hd.tw991583007596301734 : True := trivial
theorem hd.tw9960721518486171458 : True := trivial
def Walk : Prop := ∀ (d : DefRec) (kwd : List (Str × PySem.Expr)), defOf seat.view_1 PySem.Challenge.rw_rh0120_01.row.name = some (d, kwd) →
    WalkO seat.view_1 [Str.ofString "counted_elements_iops", Str.ofString "counted_elements_plainio"] (XL seat.view_1 []) (kmHook seat.heap_1 addrs (fun _ => by kernel_rfl) [438]).says PySem.Challenge.rw_rh0120_01.row.toRowW d kwd fun f vs => PySem.call f vs
theorem Walk.of {d : DefRec} {kwd : List (Str × PySem.Expr)} (he : defOf seat.view_1 PySem.Challenge.rw_rh0120_01.row.name = some (d, kwd))
    (h : WalkO seat.view_1 [Str.ofString "counted_elements_iops", Str.ofString "counted_elements_plainio"] (XL seat.view_1 []) (kmHook seat.heap_1 addrs (fun _ => by kernel_rfl) [438]).says PySem.Challenge.rw_rh0120_01.row.toRowW d kwd fun f vs => PySem.call f vs) : Walk := by
  intro d' k' e'
  rw [he] at e'
  cases e'
  exact h
section
local macro_rules | `(tactic| refine $h:ident (q := $q) (loose := $l) (Xt := $a) (XP := $b) (Yf := $c) (Ya := $d) (YP := $e) (N := $n) $xs*) => `(tactic| (refine' $h (q := $q) (loose := $l) (Xt := $a) (XP := $b) (Yf := $c) (Ya := $d) (YP := $e) (N := $n) $xs*; (case hc => exact (‹Walk› : Walk) _ _ (by rfl))))
set_option Elab.async true in
theorem hd (walk : Walk) : PySem.Challenge.rw_rh0120_01.Holds := by
  w_on; o_law
  o_head (kmHook seat.heap_1 addrs (fun _ => by kernel_rfl) [438])
  w_witness2
end
theorem waits : True := trivial
end Mine
end
open PySem PySem.W PyProof.Rows PySem.Calls
namespace Mine
local macro_rules | `(tactic| walk_at $s:str) => `(tactic| k_extra $s)
local macro_rules | `(tactic| k_all) => `(tactic| k_extra "k_all")
local macro_rules | `(tactic| k_mem) => `(tactic| k_extra "k_mem")
local macro_rules | `(tactic| news_mem) => `(tactic| k_extra "news_mem")
local macro_rules | `(tactic| k_room) => `(tactic| k_extra "k_room")
local macro_rules | `(tactic| k_get) => `(tactic| k_extra "k_get")
local macro_rules | `(tactic| omega) => `(tactic| k_extra "omega")
section
section
theorem reg_Draught_1 : True := by
  w_top off
  k_with_none
  k_with "pj" => (first | exact Mine.c0 h9 | exact Mine.c1 h9 | exact Mine.e1 h9 | exact Mine.c2 h9 | exact Mine.e2 h9 | exact Mine.c3 h9 | exact Mine.e3 h9 | exact Mine.c4 h9 | exact Mine.e4 h9 | exact Mine.c5 h9 | exact Mine.e5 h9 | exact Mine.c6 h9 | exact Mine.e6 h9 | exact Mine.c7 h9 | exact Mine.e7 h9 | exact Mine.c8 h9 | exact Mine.e8 h9 | exact Mine.c9 h9 | exact Mine.e9 h9 | exact Mine.c10 h9 | exact Mine.e10 h9 | exact Mine.c11 h9 | exact Mine.e11 h9 | exact Mine.c12 h9 | exact Mine.e12 h9 | exact Mine.c13 h9 | exact Mine.e13 h9 | exact Mine.c14 h9 | exact Mine.e14 h9 | exact Mine.c15 h9 | exact Mine.e15 h9 | exact Mine.c16 h9 | exact Mine.e16 h9 | exact Mine.c17 h9 | exact Mine.e17 h9 | exact Mine.c18 h9 | exact Mine.e18 h9 | exact Mine.c19 h9 | exact Mine.e19 h9 | exact Mine.c20 h9 | exact Mine.e20 h9 | fail "pj")
  k_with "pj1" => (first | exact Mine.c0 (Mine.c0 h9) | exact Mine.c0 (Mine.c1 h9) | exact Mine.c0 (Mine.c2 h9) | exact Mine.c0 (Mine.c3 h9) | exact Mine.c0 (Mine.c4 h9) | exact Mine.c0 (Mine.c5 h9) | exact Mine.c0 (Mine.c6 h9) | exact Mine.c0 (Mine.c7 h9) | exact Mine.c0 (Mine.c8 h9) | exact Mine.c0 (Mine.c9 h9) | exact Mine.c0 (Mine.c10 h9) | exact Mine.c0 (Mine.c11 h9) | exact Mine.c0 (Mine.c12 h9) | exact Mine.c0 (Mine.c13 h9) | exact Mine.c0 (Mine.c14 h9) | exact Mine.c0 (Mine.c15 h9) | exact Mine.c0 (Mine.c16 h9) | exact Mine.c0 (Mine.c17 h9) | exact Mine.c0 (Mine.c18 h9) | exact Mine.c0 (Mine.c19 h9) | exact Mine.c0 (Mine.c20 h9) | fail "pj1")
  k_with "pj2" => (first | exact Mine.c1 (Mine.c0 h9) | exact Mine.c1 (Mine.c1 h9) | exact Mine.c1 (Mine.c2 h9) | exact Mine.c1 (Mine.c3 h9) | exact Mine.c1 (Mine.c4 h9) | exact Mine.c1 (Mine.c5 h9) | exact Mine.c1 (Mine.c6 h9) | exact Mine.c1 (Mine.c7 h9) | exact Mine.c1 (Mine.c8 h9) | exact Mine.c1 (Mine.c9 h9) | exact Mine.c1 (Mine.c10 h9) | exact Mine.c1 (Mine.c11 h9) | exact Mine.c1 (Mine.c12 h9) | exact Mine.c1 (Mine.c13 h9) | exact Mine.c1 (Mine.c14 h9) | exact Mine.c1 (Mine.c15 h9) | exact Mine.c1 (Mine.c16 h9) | exact Mine.c1 (Mine.c17 h9) | exact Mine.c1 (Mine.c18 h9) | exact Mine.c1 (Mine.c19 h9) | exact Mine.c1 (Mine.c20 h9) | fail "pj2")
  k_with "pj3" => (first | exact Mine.e2 (Mine.c0 h9) | exact Mine.e2 (Mine.c1 h9) | exact Mine.e2 (Mine.c2 h9) | exact Mine.e2 (Mine.c3 h9) | exact Mine.e2 (Mine.c4 h9) | exact Mine.e2 (Mine.c5 h9) | exact Mine.e2 (Mine.c6 h9) | exact Mine.e2 (Mine.c7 h9) | exact Mine.e2 (Mine.c8 h9) | exact Mine.e2 (Mine.c9 h9) | exact Mine.e2 (Mine.c10 h9) | exact Mine.e2 (Mine.c11 h9) | exact Mine.e2 (Mine.c12 h9) | exact Mine.e2 (Mine.c13 h9) | exact Mine.e2 (Mine.c14 h9) | exact Mine.e2 (Mine.c15 h9) | exact Mine.e2 (Mine.c16 h9) | exact Mine.e2 (Mine.c17 h9) | exact Mine.e2 (Mine.c18 h9) | exact Mine.e2 (Mine.c19 h9) | exact Mine.e2 (Mine.c20 h9) | fail "pj3")
  k_with "omega" => (first | exact Nat.le_refl _ | decide | with_reducible (first | exact Mine.lim0 (by assumption) | exact Mine.lim1 (by assumption) (by with_unfolding_all rfl) | exact Mine.lim2 (by assumption) (by with_unfolding_all rfl) | exact Mine.lim3 (by assumption) (by with_unfolding_all rfl) | exact Mine.lim8 (by assumption) (by assumption) (by with_unfolding_all rfl) | exact Mine.lim9 (by assumption) (by assumption) (by with_unfolding_all rfl) | exact Mine.lim10 (by assumption) (by assumption) (by with_unfolding_all rfl) | exact Mine.i1 (by assumption) | exact Mine.i2 (by assumption) | exact Mine.i3 (by assumption) | exact Mine.i4 (by assumption) (by with_unfolding_all rfl) | exact Mine.i5 (by assumption) | exact Mine.i6 (by assumption) (by assumption) | exact Mine.i7 (by assumption) (by assumption) | exact Mine.i8 (by assumption) (by assumption) | exact List.length_take_le _ _ | fail "l") | (refine Mine.toNe ?_; with_reducible (first | exact Nat.ne_of_lt (by ((repeat (first | assumption | exact Mine.ltp0 | refine Mine.ltp ?_)); (first | done | fail "c"))) | exact Nat.ne_of_gt (by ((repeat (first | assumption | exact Mine.ltp0 | refine Mine.ltp ?_)); (first | done | fail "c"))) | (refine Nat.ne_of_lt (Mine.viaL (by assumption) ?_); intro h9; k_extra "pj") | (refine Nat.ne_of_gt (Mine.viaL (by assumption) ?_); intro h9; k_extra "pj") | (refine Nat.ne_of_lt (Mine.viaM (by assumption) ?_); intro h9; k_extra "pj") | (refine Nat.ne_of_gt (Mine.viaM (by assumption) ?_); intro h9; k_extra "pj") | assumption | exact Ne.symm (by assumption) | (refine Mine.viaN (by assumption) ?_; intro h9; k_extra "pj") | (refine Ne.symm (Mine.viaN (by assumption) ?_); intro h9; k_extra "pj") | (refine Mine.viaN1 (by assumption) ?_; intro h9; k_extra "pj1") | (refine Ne.symm (Mine.viaN1 (by assumption) ?_); intro h9; k_extra "pj1") | (refine Mine.viaN2 (by assumption) ?_; intro h9; k_extra "pj2") | (refine Ne.symm (Mine.viaN2 (by assumption) ?_); intro h9; k_extra "pj2") | (refine Mine.viaN3 (by assumption) ?_; intro h9; k_extra "pj3") | (refine Ne.symm (Mine.viaN3 (by assumption) ?_); intro h9; k_extra "pj3") | fail "n")) | fail "o")
  k_with "k_all" => (first | (assumption) | fail "no")
  k_with "k_mem" => (first | (assumption) | fail "no")
  k_with "news_mem" => (first | (k_mem) | fail "no")
  trivial
theorem draught0 {w : World} {dp un : Nat} {gd : Option (List Code)} {cn : Str} {cs : Scope} {a : Addr} {ccd : Value} {cl : List (Str × Addr)} {outer : List Env} {A₀ : Around} {base h₀ : Heap} {L : Addr} {m : Str → Option Value} {s : Shared} {Q E : Value → Shared → Prop} {mean : ExcName → Option Value} {mg mb : Str → Option Value} {rest : List (Addr × Obj)} {mug D : Addr} {om : Obj} {ws : List Value} {ns : List Int} {k n : Int} {tn tk : Tok}
    (B : Below A₀ base outer h₀) (F : Fr h₀ L s.heap m) (X : (seat.heap_1 w.params).In h₀) (T : Top topProg ((looseW seat.view_1 [Str.ofString "counted_elements_iops", Str.ofString "counted_elements_plainio"]) ++ List.map (fun x => x.name) (recsOf seat.view_1) ++ List.map (fun x => x.fst) (litsOf seat.view_1) ++ List.map (fun x => x.name) (clssOf seat.view_1 (looseW seat.view_1 [Str.ofString "counted_elements_iops", Str.ofString "counted_elements_plainio"]))) mean mg mb h₀) (hkf : cs.kind = .function) (N : News h₀ L s.heap ((mug, om) :: rest)) (hdp : dp + 100 < recursionLimit) (hun : un + 1000 < cLine)
    (hD : (D, W.listOf ws.toArray 0) ∈ rest) (hne : ∀ p ∈ rest, p.1 ≠ mug) (hI : IntsAre ws ns) (hlen : ns.length ≤ 40) (hk : 0 ≤ k) (hk' : k < 100) (hn : 0 < n) (hn' : n < 100)
    (hd' : om.IsDictOf (strKind PySem.Challenge.rw_rh0120_01.row.prog w) [(Str.ofString "cells", .ref D), (Str.ofString "at", .int k tk)])
    (ret : ∀ v t t' om' h' tk', 0 ≤ v → v < n → om'.IsDictOf (strKind PySem.Challenge.rw_rh0120_01.row.prog w) [(Str.ofString "cells", .ref D), (Str.ofString "at", .int (k + 1) t')] → Fr h₀ L h' m → News h₀ L h' ((mug, om') :: rest) → Q (.int v t) { s with heap := h', toks := tk' }) :
    wpAny (model PySem.Challenge.rw_rh0120_01.row.prog w) (ktrTop dp un gd cn cs L a ccd cl outer) (call (.ref 408) [.ref mug, .int n tn]) Q E s := by
  revert X; k_fill; intro X
  refine wpAny_call ?_
  k_dflt ktr_enter
  k_steps
  all_goals exact ret _ _ _ _ _ _ (fmod_lo _ hn) (fmod_hi _ hn) (by assumption) (by assumption) (by assumption)
end
theorem reg_Draught_2 : True := by
  w_top off
  k_with_none
  k_with "pj" => (first | exact Mine.c0 h9 | exact Mine.c1 h9 | exact Mine.e1 h9 | exact Mine.c2 h9 | exact Mine.e2 h9 | exact Mine.c3 h9 | exact Mine.e3 h9 | exact Mine.c4 h9 | exact Mine.e4 h9 | exact Mine.c5 h9 | exact Mine.e5 h9 | exact Mine.c6 h9 | exact Mine.e6 h9 | exact Mine.c7 h9 | exact Mine.e7 h9 | exact Mine.c8 h9 | exact Mine.e8 h9 | exact Mine.c9 h9 | exact Mine.e9 h9 | exact Mine.c10 h9 | exact Mine.e10 h9 | exact Mine.c11 h9 | exact Mine.e11 h9 | exact Mine.c12 h9 | exact Mine.e12 h9 | exact Mine.c13 h9 | exact Mine.e13 h9 | exact Mine.c14 h9 | exact Mine.e14 h9 | exact Mine.c15 h9 | exact Mine.e15 h9 | exact Mine.c16 h9 | exact Mine.e16 h9 | exact Mine.c17 h9 | exact Mine.e17 h9 | exact Mine.c18 h9 | exact Mine.e18 h9 | exact Mine.c19 h9 | exact Mine.e19 h9 | exact Mine.c20 h9 | exact Mine.e20 h9 | fail "pj")
  k_with "pj1" => (first | exact Mine.c0 (Mine.c0 h9) | exact Mine.c0 (Mine.c1 h9) | exact Mine.c0 (Mine.c2 h9) | exact Mine.c0 (Mine.c3 h9) | exact Mine.c0 (Mine.c4 h9) | exact Mine.c0 (Mine.c5 h9) | exact Mine.c0 (Mine.c6 h9) | exact Mine.c0 (Mine.c7 h9) | exact Mine.c0 (Mine.c8 h9) | exact Mine.c0 (Mine.c9 h9) | exact Mine.c0 (Mine.c10 h9) | exact Mine.c0 (Mine.c11 h9) | exact Mine.c0 (Mine.c12 h9) | exact Mine.c0 (Mine.c13 h9) | exact Mine.c0 (Mine.c14 h9) | exact Mine.c0 (Mine.c15 h9) | exact Mine.c0 (Mine.c16 h9) | exact Mine.c0 (Mine.c17 h9) | exact Mine.c0 (Mine.c18 h9) | exact Mine.c0 (Mine.c19 h9) | exact Mine.c0 (Mine.c20 h9) | fail "pj1")
  k_with "pj2" => (first | exact Mine.c1 (Mine.c0 h9) | exact Mine.c1 (Mine.c1 h9) | exact Mine.c1 (Mine.c2 h9) | exact Mine.c1 (Mine.c3 h9) | exact Mine.c1 (Mine.c4 h9) | exact Mine.c1 (Mine.c5 h9) | exact Mine.c1 (Mine.c6 h9) | exact Mine.c1 (Mine.c7 h9) | exact Mine.c1 (Mine.c8 h9) | exact Mine.c1 (Mine.c9 h9) | exact Mine.c1 (Mine.c10 h9) | exact Mine.c1 (Mine.c11 h9) | exact Mine.c1 (Mine.c12 h9) | exact Mine.c1 (Mine.c13 h9) | exact Mine.c1 (Mine.c14 h9) | exact Mine.c1 (Mine.c15 h9) | exact Mine.c1 (Mine.c16 h9) | exact Mine.c1 (Mine.c17 h9) | exact Mine.c1 (Mine.c18 h9) | exact Mine.c1 (Mine.c19 h9) | exact Mine.c1 (Mine.c20 h9) | fail "pj2")
  k_with "pj3" => (first | exact Mine.e2 (Mine.c0 h9) | exact Mine.e2 (Mine.c1 h9) | exact Mine.e2 (Mine.c2 h9) | exact Mine.e2 (Mine.c3 h9) | exact Mine.e2 (Mine.c4 h9) | exact Mine.e2 (Mine.c5 h9) | exact Mine.e2 (Mine.c6 h9) | exact Mine.e2 (Mine.c7 h9) | exact Mine.e2 (Mine.c8 h9) | exact Mine.e2 (Mine.c9 h9) | exact Mine.e2 (Mine.c10 h9) | exact Mine.e2 (Mine.c11 h9) | exact Mine.e2 (Mine.c12 h9) | exact Mine.e2 (Mine.c13 h9) | exact Mine.e2 (Mine.c14 h9) | exact Mine.e2 (Mine.c15 h9) | exact Mine.e2 (Mine.c16 h9) | exact Mine.e2 (Mine.c17 h9) | exact Mine.e2 (Mine.c18 h9) | exact Mine.e2 (Mine.c19 h9) | exact Mine.e2 (Mine.c20 h9) | fail "pj3")
  k_with "omega" => (first | exact Nat.le_refl _ | decide | with_reducible (first | exact Mine.lim0 (by assumption) | exact Mine.lim1 (by assumption) (by with_unfolding_all rfl) | exact Mine.lim2 (by assumption) (by with_unfolding_all rfl) | exact Mine.lim3 (by assumption) (by with_unfolding_all rfl) | exact Mine.lim8 (by assumption) (by assumption) (by with_unfolding_all rfl) | exact Mine.lim9 (by assumption) (by assumption) (by with_unfolding_all rfl) | exact Mine.lim10 (by assumption) (by assumption) (by with_unfolding_all rfl) | exact Mine.i1 (by assumption) | exact Mine.i2 (by assumption) | exact Mine.i3 (by assumption) | exact Mine.i4 (by assumption) (by with_unfolding_all rfl) | exact Mine.i5 (by assumption) | exact Mine.i6 (by assumption) (by assumption) | exact Mine.i7 (by assumption) (by assumption) | exact Mine.i8 (by assumption) (by assumption) | exact List.length_take_le _ _ | fail "l") | (refine Mine.toNe ?_; with_reducible (first | exact Nat.ne_of_lt (by ((repeat (first | assumption | exact Mine.ltp0 | refine Mine.ltp ?_)); (first | done | fail "c"))) | exact Nat.ne_of_gt (by ((repeat (first | assumption | exact Mine.ltp0 | refine Mine.ltp ?_)); (first | done | fail "c"))) | (refine Nat.ne_of_lt (Mine.viaL (by assumption) ?_); intro h9; k_extra "pj") | (refine Nat.ne_of_gt (Mine.viaL (by assumption) ?_); intro h9; k_extra "pj") | (refine Nat.ne_of_lt (Mine.viaM (by assumption) ?_); intro h9; k_extra "pj") | (refine Nat.ne_of_gt (Mine.viaM (by assumption) ?_); intro h9; k_extra "pj") | assumption | exact Ne.symm (by assumption) | (refine Mine.viaN (by assumption) ?_; intro h9; k_extra "pj") | (refine Ne.symm (Mine.viaN (by assumption) ?_); intro h9; k_extra "pj") | (refine Mine.viaN1 (by assumption) ?_; intro h9; k_extra "pj1") | (refine Ne.symm (Mine.viaN1 (by assumption) ?_); intro h9; k_extra "pj1") | (refine Mine.viaN2 (by assumption) ?_; intro h9; k_extra "pj2") | (refine Ne.symm (Mine.viaN2 (by assumption) ?_); intro h9; k_extra "pj2") | (refine Mine.viaN3 (by assumption) ?_; intro h9; k_extra "pj3") | (refine Ne.symm (Mine.viaN3 (by assumption) ?_); intro h9; k_extra "pj3") | fail "n")) | fail "o")
  trivial
theorem draught {w : World} {dp un : Nat} {gd : Option (List Code)} {cn : Str} {cs : Scope} {a : Addr} {ccd : Value} {cl : List (Str × Addr)} {outer : List Env} {A₀ : Around} {base h₀ : Heap} {L : Addr} {m : Str → Option Value} {s : Shared} {Q E : Value → Shared → Prop} {mean : ExcName → Option Value} {mg mb : Str → Option Value} {news : List (Addr × Obj)} {g : Obj → List (Addr × Obj)} {mug D : Addr} {om : Obj} {ws : List Value} {ns : List Int} {k n : Int} {tn tk : Tok}
    (B : Below A₀ base outer h₀) (F : Fr h₀ L s.heap m) (X : (seat.heap_1 w.params).In h₀) (T : Top topProg ((looseW seat.view_1 [Str.ofString "counted_elements_iops", Str.ofString "counted_elements_plainio"]) ++ List.map (fun x => x.name) (recsOf seat.view_1) ++ List.map (fun x => x.fst) (litsOf seat.view_1) ++ List.map (fun x => x.name) (clssOf seat.view_1 (looseW seat.view_1 [Str.ofString "counted_elements_iops", Str.ofString "counted_elements_plainio"]))) mean mg mb h₀) (hkf : cs.kind = .function) (N : News h₀ L s.heap news) (hdp : dp + 100 < recursionLimit) (hun : un + 1000 < cLine)
    (U : UpdF mug om news g) (hD : (D, W.listOf ws.toArray 0) ∈ news) (hDm : D ≠ mug) (hI : IntsAre ws ns) (hlen : ns.length ≤ 40) (hk : 0 ≤ k) (hk' : k < 100) (hn : 0 < n) (hn' : n < 100)
    (hd' : om.IsDictOf (strKind PySem.Challenge.rw_rh0120_01.row.prog w) [(Str.ofString "cells", .ref D), (Str.ofString "at", .int k tk)])
    (ret : ∀ v t t' om' h' tk', 0 ≤ v → v < n → om'.IsDictOf (strKind PySem.Challenge.rw_rh0120_01.row.prog w) [(Str.ofString "cells", .ref D), (Str.ofString "at", .int (k + 1) t')] → Fr h₀ L h' m → News h₀ L h' (g om') → Q (.int v t) { s with heap := h', toks := tk' }) :
    wpAny (model PySem.Challenge.rw_rh0120_01.row.prog w) (ktrTop dp un gd cn cs L a ccd cl outer) (call (.ref 408) [.ref mug, .int n tn]) Q E s := by
  obtain ⟨pre, post, rfl, hg, h1, h2⟩ := U.split
  have hD' : (D, W.listOf ws.toArray 0) ∈ pre ++ post := by
    rcases List.mem_append.mp hD with q | q
    · exact List.mem_append_left _ q
    · rcases List.mem_cons.mp q with q | q
      · exact absurd (Prod.mk.inj q).1 hDm
      · exact List.mem_append_right _ q
  refine draught0 (rest := pre ++ post) B F X T hkf (fun p hp => N p ?_) hdp hun hD' (fun p hp => (List.mem_append.mp hp).elim (h1 p) (h2 p)) hI hlen hk hk' hn hn' hd' (fun v t t' om' h' tk' a b c F' N' => ret v t t' om' h' tk' a b c F' (fun p hp => N' p ?_))
  · rcases List.mem_cons.mp hp with rfl | hp
    · exact List.mem_append_right _ List.mem_cons_self
    · exact (List.mem_append.mp hp).elim (List.mem_append_left _) fun q => List.mem_append_right _ (List.mem_cons_of_mem _ q)
  · rw [hg] at hp
    rcases List.mem_append.mp hp with q | q
    · exact List.mem_cons_of_mem _ (List.mem_append_left _ q)
    · rcases List.mem_cons.mp q with rfl | q
      · exact List.mem_cons_self
      · exact List.mem_cons_of_mem _ (List.mem_append_right _ q)
end
section
abbrev bmF : List Value := [.ref 38, .type "Exception", .type "BaseException", .type "object"]
abbrev exObj (t : Addr) (dd : Option Addr) : Obj := { cls := .ref 51, dict := dd, data := .fields #[.ref t, .none, .none, .none, .bool false, .none] }
theorem reg_Fault_1 : True := by
  w_top off
  k_with_none
  k_with "pj" => (first | exact Mine.c0 h9 | exact Mine.c1 h9 | exact Mine.e1 h9 | exact Mine.c2 h9 | exact Mine.e2 h9 | exact Mine.c3 h9 | exact Mine.e3 h9 | exact Mine.c4 h9 | exact Mine.e4 h9 | exact Mine.c5 h9 | exact Mine.e5 h9 | exact Mine.c6 h9 | exact Mine.e6 h9 | exact Mine.c7 h9 | exact Mine.e7 h9 | exact Mine.c8 h9 | exact Mine.e8 h9 | exact Mine.c9 h9 | exact Mine.e9 h9 | exact Mine.c10 h9 | exact Mine.e10 h9 | exact Mine.c11 h9 | exact Mine.e11 h9 | exact Mine.c12 h9 | exact Mine.e12 h9 | exact Mine.c13 h9 | exact Mine.e13 h9 | exact Mine.c14 h9 | exact Mine.e14 h9 | exact Mine.c15 h9 | exact Mine.e15 h9 | exact Mine.c16 h9 | exact Mine.e16 h9 | exact Mine.c17 h9 | exact Mine.e17 h9 | exact Mine.c18 h9 | exact Mine.e18 h9 | exact Mine.c19 h9 | exact Mine.e19 h9 | exact Mine.c20 h9 | exact Mine.e20 h9 | fail "pj")
  k_with "pj1" => (first | exact Mine.c0 (Mine.c0 h9) | exact Mine.c0 (Mine.c1 h9) | exact Mine.c0 (Mine.c2 h9) | exact Mine.c0 (Mine.c3 h9) | exact Mine.c0 (Mine.c4 h9) | exact Mine.c0 (Mine.c5 h9) | exact Mine.c0 (Mine.c6 h9) | exact Mine.c0 (Mine.c7 h9) | exact Mine.c0 (Mine.c8 h9) | exact Mine.c0 (Mine.c9 h9) | exact Mine.c0 (Mine.c10 h9) | exact Mine.c0 (Mine.c11 h9) | exact Mine.c0 (Mine.c12 h9) | exact Mine.c0 (Mine.c13 h9) | exact Mine.c0 (Mine.c14 h9) | exact Mine.c0 (Mine.c15 h9) | exact Mine.c0 (Mine.c16 h9) | exact Mine.c0 (Mine.c17 h9) | exact Mine.c0 (Mine.c18 h9) | exact Mine.c0 (Mine.c19 h9) | exact Mine.c0 (Mine.c20 h9) | fail "pj1")
  k_with "pj2" => (first | exact Mine.c1 (Mine.c0 h9) | exact Mine.c1 (Mine.c1 h9) | exact Mine.c1 (Mine.c2 h9) | exact Mine.c1 (Mine.c3 h9) | exact Mine.c1 (Mine.c4 h9) | exact Mine.c1 (Mine.c5 h9) | exact Mine.c1 (Mine.c6 h9) | exact Mine.c1 (Mine.c7 h9) | exact Mine.c1 (Mine.c8 h9) | exact Mine.c1 (Mine.c9 h9) | exact Mine.c1 (Mine.c10 h9) | exact Mine.c1 (Mine.c11 h9) | exact Mine.c1 (Mine.c12 h9) | exact Mine.c1 (Mine.c13 h9) | exact Mine.c1 (Mine.c14 h9) | exact Mine.c1 (Mine.c15 h9) | exact Mine.c1 (Mine.c16 h9) | exact Mine.c1 (Mine.c17 h9) | exact Mine.c1 (Mine.c18 h9) | exact Mine.c1 (Mine.c19 h9) | exact Mine.c1 (Mine.c20 h9) | fail "pj2")
  k_with "pj3" => (first | exact Mine.e2 (Mine.c0 h9) | exact Mine.e2 (Mine.c1 h9) | exact Mine.e2 (Mine.c2 h9) | exact Mine.e2 (Mine.c3 h9) | exact Mine.e2 (Mine.c4 h9) | exact Mine.e2 (Mine.c5 h9) | exact Mine.e2 (Mine.c6 h9) | exact Mine.e2 (Mine.c7 h9) | exact Mine.e2 (Mine.c8 h9) | exact Mine.e2 (Mine.c9 h9) | exact Mine.e2 (Mine.c10 h9) | exact Mine.e2 (Mine.c11 h9) | exact Mine.e2 (Mine.c12 h9) | exact Mine.e2 (Mine.c13 h9) | exact Mine.e2 (Mine.c14 h9) | exact Mine.e2 (Mine.c15 h9) | exact Mine.e2 (Mine.c16 h9) | exact Mine.e2 (Mine.c17 h9) | exact Mine.e2 (Mine.c18 h9) | exact Mine.e2 (Mine.c19 h9) | exact Mine.e2 (Mine.c20 h9) | fail "pj3")
  k_with "omega" => (first | exact Nat.le_refl _ | decide | with_reducible (first | exact Mine.lim0 (by assumption) | exact Mine.lim1 (by assumption) (by with_unfolding_all rfl) | exact Mine.lim2 (by assumption) (by with_unfolding_all rfl) | exact Mine.lim3 (by assumption) (by with_unfolding_all rfl) | exact Mine.lim8 (by assumption) (by assumption) (by with_unfolding_all rfl) | exact Mine.lim9 (by assumption) (by assumption) (by with_unfolding_all rfl) | exact Mine.lim10 (by assumption) (by assumption) (by with_unfolding_all rfl) | exact Mine.i1 (by assumption) | exact Mine.i2 (by assumption) | exact Mine.i3 (by assumption) | exact Mine.i4 (by assumption) (by with_unfolding_all rfl) | exact Mine.i5 (by assumption) | exact Mine.i6 (by assumption) (by assumption) | exact Mine.i7 (by assumption) (by assumption) | exact Mine.i8 (by assumption) (by assumption) | exact List.length_take_le _ _ | fail "l") | (refine Mine.toNe ?_; with_reducible (first | exact Nat.ne_of_lt (by ((repeat (first | assumption | exact Mine.ltp0 | refine Mine.ltp ?_)); (first | done | fail "c"))) | exact Nat.ne_of_gt (by ((repeat (first | assumption | exact Mine.ltp0 | refine Mine.ltp ?_)); (first | done | fail "c"))) | (refine Nat.ne_of_lt (Mine.viaL (by assumption) ?_); intro h9; k_extra "pj") | (refine Nat.ne_of_gt (Mine.viaL (by assumption) ?_); intro h9; k_extra "pj") | (refine Nat.ne_of_lt (Mine.viaM (by assumption) ?_); intro h9; k_extra "pj") | (refine Nat.ne_of_gt (Mine.viaM (by assumption) ?_); intro h9; k_extra "pj") | assumption | exact Ne.symm (by assumption) | (refine Mine.viaN (by assumption) ?_; intro h9; k_extra "pj") | (refine Ne.symm (Mine.viaN (by assumption) ?_); intro h9; k_extra "pj") | (refine Mine.viaN1 (by assumption) ?_; intro h9; k_extra "pj1") | (refine Ne.symm (Mine.viaN1 (by assumption) ?_); intro h9; k_extra "pj1") | (refine Mine.viaN2 (by assumption) ?_; intro h9; k_extra "pj2") | (refine Ne.symm (Mine.viaN2 (by assumption) ?_); intro h9; k_extra "pj2") | (refine Mine.viaN3 (by assumption) ?_; intro h9; k_extra "pj3") | (refine Ne.symm (Mine.viaN3 (by assumption) ?_); intro h9; k_extra "pj3") | fail "n")) | fail "o")
  trivial
theorem fault_cls {w : World} {h : Heap} (X : (seat.heap_1 w.params).In h) : ∃ nm q bs sn sub ab col dd k0 k1 k2 k3 k5, h.get? 51 = some (excClassObj nm q 51 50 bs bmF true sn sub ab col dd k0 k1 k2 k3 k5 "Exception.__new__") :=
  ⟨_, _, _, _, _, _, _, _, _, _, _, _, _, X 51 _ rfl⟩

section
variable {w : World} {A : Around} {R : Result → Shared → Prop} {h : Heap} {g : Array GenState} {d : Drawn} {t : Nat} {os : OsState}
theorem fault_check {M : Model} {E : Value → Shared → Prop} {v : Value} {Q : Unit → Shared → Prop} (X : (seat.heap_1 w.params).In h) (hq : Q () ⟨h, g, d, t, os⟩) :
    wpAny M A (checkBuiltinCall "Exception.__new__" ⟨[.ref 51, v], []⟩) Q E ⟨h, g, d, t, os⟩ := by
  obtain ⟨nm, q, bs, sn, sub, ab, col, dd, k0, k1, k2, k3, k5, hC⟩ := fault_cls X
  have F := F.excBase_Exception
  have hcont : (Value.ref 51 :: bmF).contains (.type "Exception") = true := by decide
  have hstar := F.noStar
  simp only [checkBuiltinCall, F.newKind, F.newSplit, F.newRow]
  repeat (first | refine wpAny_loadPart_at hC ?_ | (refine wpAny_isSubtype_exc hC ?_; rw [hcont]) | refine wpAny_staticBase_exc hC ?_ | refine wpAny_madeBy_exc hC ?_ | simp only [bne_self_eq_false, Bool.false_eq_true, if_false] | wp_step)
  exact hq
theorem fault_new {v : Value} (X : (seat.heap_1 w.params).In h)
    (hq : R (.ok (.ret (.ref (h.objs.size + 1)))) ⟨(h.push { cls := .type "tuple", data := .seq #[v] }).push (exObj h.objs.size none), g, d, t, os⟩) :
    codeAny (model PySem.Challenge.rw_rh0120_01.row.prog w) A (.builtin "Exception.__new__" ⟨[.ref 51, v], []⟩) R ⟨h, g, d, t, os⟩ := by
  obtain ⟨nm, q, bs, sn, sub, ab, col, dd, k0, k1, k2, k3, k5, hC⟩ := fault_cls X
  have F := F.excBase_Exception
  have hends := F.ends
  have hcB : (Value.ref 51 :: bmF).contains (.type "Exception") = true := by decide
  have hcA : (Value.ref 51 :: bmF).contains (.type "AttributeError") = false := by decide
  have hcN : (Value.ref 51 :: bmF).contains (.type "NameError") = false := by decide
  have hrest : [v].length ≤ sizeLine := by size_fits
  refine codeAny_builtinAt F.entry ?_
  unfold Builtin.«BaseException.__new__»
  refine PySem.wpAt_bind ?_
  show PySem.wpAt _ _ _ (stack >>= _) _ _ _
  refine PySem.wpAt_bind (PySem.wpAt_stack fun p below => PySem.wpAt_of_wpAny ?_)
  wp_walk
  refine PySem.wpAt_of_wpAny ?_
  rw [F.owner]
  repeat (first | with_reducible refine wpAny_madeHere_exc F.canon hC ?_ | with_reducible refine wpAny_loadPart_at hC ?_ | (with_reducible refine wpAny_isSubtype_exc hC ?_; first | rw [hcB] | rw [hcA] | rw [hcN]) | wp_step)
  show R _ _
  rw [Heap.size_push]
  exact hq

theorem fault_init_at {w : World} : findIn (seat.heap_1 w.params) (.ref 51) "__init__" = some (some (.ref 35)) := by rfl
theorem fault_init_ty {w : World} : typeIn (seat.heap_1 w.params) (.ref 35) = some (.type "function") := by rfl
theorem fault_call {v : Value} (X : (seat.heap_1 w.params).In h)
    (hq : codeAny (model PySem.Challenge.rw_rh0120_01.row.prog w) (A.under (.builtin "type.__call__" ⟨[.ref 51, v], []⟩)) (.call (.ref 35) ⟨[.ref (h.objs.size + 1), v], []⟩) (InitBack (h.objs.size + 1) R) ⟨(h.push { cls := .type "tuple", data := .seq #[v] }).push (exObj h.objs.size none), g, d, t, os⟩) :
    codeAny (model PySem.Challenge.rw_rh0120_01.row.prog w) A (.call (.ref 51) ⟨[v], []⟩) R ⟨h, g, d, t, os⟩ := by
  obtain ⟨nm, q, bs, sn, sub, ab, col, dd, k0, k1, k2, k3, k5, hC⟩ := fault_cls X
  have F := F.excBase_Exception
  have f1 := tc_lookup
  have f2 := tc_bind (.ref 51)
  have hT : (⟨h, g, d, t, os⟩ : Shared).TypeIs (.ref 51) "type" := ⟨_, hC, rfl⟩
  have kp : ∀ b o, h.get? b = some o → ((h.push { cls := .type "tuple", data := .seq #[v] }).push (exObj h.objs.size none)).get? b = some o := fun b o e => Heap.get?_push_of_some _ (Heap.get?_push_of_some _ e)
  have hC₁ := kp _ _ hC
  have X₁ := X.keeps kp
  have hget : ((h.push { cls := .type "tuple", data := .seq #[v] }).push (exObj h.objs.size none)).get? (h.objs.size + 1) = some (exObj h.objs.size none) := by heap_get
  have hcC : (Value.ref 51 :: bmF).contains (.ref 51) = true := by decide
  refine codeAny_of_tree ?_
  show wpAny _ _ (callAny (.ref 51) _) _ _ _
  repeat (any_goals (first | assumption | with_reducible refine wpAny_loadPart_at hC ?_ | wp_step))
  refine ⟨rfl, ?_⟩
  refine codeAny_call_builtin_at (Code.quiet_builtin _ (by decide +kernel)) entry_typeCall (wpAny_check_type_call_sub hC ?_)
  repeat (first | with_reducible refine wpAny_loadPart_at hC ?_ | with_reducible refine wpAny_madeBy_exc hC ?_ | wp_step)
  refine codeAny_call_builtin_code (Code.quiet_builtin _ F.quiet) (fault_check X ?_)
  refine fault_new X ?_
  show wpAny _ _ _ _ _ _
  unfold isInstance
  repeat (first | with_reducible refine wpAny_loadPart_at hget ?_ | (with_reducible refine wpAny_isSubtype_exc hC₁ ?_; rw [hcC]) | wp_step)
  show wpAny _ _ (typeLookup (.ref 51) _) _ _ _
  refine (looks_findIn X₁ fault_init_at).here ?_
  refine wpAny_holding (wpAny_bind ((bind_fn X₁ (.ref (h.objs.size + 1)) fault_init_ty).here ?_))
  refine wpAny_bind (wpAny_call (codeAny_mono hq fun r s' z => ?_))
  rcases r with e | (v | _ | _ | _) <;> first | exact z | exact z.elim | skip
  obtain ⟨rfl, z⟩ := z
  wp_walk
  exact z
end

section
variable {w : World} {A : Around} {Q E : Value → Shared → Prop} {h : Heap} {g : Array GenState} {d : Drawn} {tk : Nat} {os : OsState}
theorem exc_init {e t : Addr} {dd : Option Addr} {v : Value} (X : (seat.heap_1 w.params).In h) (he : h.get? e = some (exObj t dd))
    (hq : Q .none ⟨(h.push { cls := .type "tuple", data := .seq #[v] }).update e (Obj.mapFields (·.setIfInBounds 0 (.ref h.objs.size))), g, d, tk, os⟩) :
    wpAny (model PySem.Challenge.rw_rh0120_01.row.prog w) A (call (.builtin "Exception.__init__") [.ref e, v]) Q E ⟨h, g, d, tk, os⟩ := by
  obtain ⟨nm, q, bs, sn, sub, ab, col, dd', k0, k1, k2, k3, k5, hC⟩ := fault_cls X
  have F := F.excBase_Exception
  have hcB : (Value.ref 51 :: bmF).contains (.type "Exception") = true := by decide
  have hshort := F.noStar
  refine wpAny_call (codeAny_call_builtin F.init.plain F.initEntry ?_)
  simp only [checkBuiltinCall, F.initKind, F.initSplit, F.initRow]
  repeat (first | with_reducible refine wpAny_loadPart_at he ?_ | with_reducible refine wpAny_loadPart_at hC ?_ | (with_reducible refine wpAny_isSubtype_exc hC ?_; rw [hcB]) | wp_step)
  exact hq
end
end
section
open Builtin.ObjectAttr
section
variable {w : World} {A : Around} {Q : Unit → Shared → Prop} {E : Value → Shared → Prop} {h : Heap} {g : Array GenState} {d : Drawn} {tk : Nat} {os : OsState}
theorem reg_Fault2_1 : True := by
  w_top off
  k_with_none
  k_with "pj" => (first | exact Mine.c0 h9 | exact Mine.c1 h9 | exact Mine.e1 h9 | exact Mine.c2 h9 | exact Mine.e2 h9 | exact Mine.c3 h9 | exact Mine.e3 h9 | exact Mine.c4 h9 | exact Mine.e4 h9 | exact Mine.c5 h9 | exact Mine.e5 h9 | exact Mine.c6 h9 | exact Mine.e6 h9 | exact Mine.c7 h9 | exact Mine.e7 h9 | exact Mine.c8 h9 | exact Mine.e8 h9 | exact Mine.c9 h9 | exact Mine.e9 h9 | exact Mine.c10 h9 | exact Mine.e10 h9 | exact Mine.c11 h9 | exact Mine.e11 h9 | exact Mine.c12 h9 | exact Mine.e12 h9 | exact Mine.c13 h9 | exact Mine.e13 h9 | exact Mine.c14 h9 | exact Mine.e14 h9 | exact Mine.c15 h9 | exact Mine.e15 h9 | exact Mine.c16 h9 | exact Mine.e16 h9 | exact Mine.c17 h9 | exact Mine.e17 h9 | exact Mine.c18 h9 | exact Mine.e18 h9 | exact Mine.c19 h9 | exact Mine.e19 h9 | exact Mine.c20 h9 | exact Mine.e20 h9 | fail "pj")
  k_with "pj1" => (first | exact Mine.c0 (Mine.c0 h9) | exact Mine.c0 (Mine.c1 h9) | exact Mine.c0 (Mine.c2 h9) | exact Mine.c0 (Mine.c3 h9) | exact Mine.c0 (Mine.c4 h9) | exact Mine.c0 (Mine.c5 h9) | exact Mine.c0 (Mine.c6 h9) | exact Mine.c0 (Mine.c7 h9) | exact Mine.c0 (Mine.c8 h9) | exact Mine.c0 (Mine.c9 h9) | exact Mine.c0 (Mine.c10 h9) | exact Mine.c0 (Mine.c11 h9) | exact Mine.c0 (Mine.c12 h9) | exact Mine.c0 (Mine.c13 h9) | exact Mine.c0 (Mine.c14 h9) | exact Mine.c0 (Mine.c15 h9) | exact Mine.c0 (Mine.c16 h9) | exact Mine.c0 (Mine.c17 h9) | exact Mine.c0 (Mine.c18 h9) | exact Mine.c0 (Mine.c19 h9) | exact Mine.c0 (Mine.c20 h9) | fail "pj1")
  k_with "pj2" => (first | exact Mine.c1 (Mine.c0 h9) | exact Mine.c1 (Mine.c1 h9) | exact Mine.c1 (Mine.c2 h9) | exact Mine.c1 (Mine.c3 h9) | exact Mine.c1 (Mine.c4 h9) | exact Mine.c1 (Mine.c5 h9) | exact Mine.c1 (Mine.c6 h9) | exact Mine.c1 (Mine.c7 h9) | exact Mine.c1 (Mine.c8 h9) | exact Mine.c1 (Mine.c9 h9) | exact Mine.c1 (Mine.c10 h9) | exact Mine.c1 (Mine.c11 h9) | exact Mine.c1 (Mine.c12 h9) | exact Mine.c1 (Mine.c13 h9) | exact Mine.c1 (Mine.c14 h9) | exact Mine.c1 (Mine.c15 h9) | exact Mine.c1 (Mine.c16 h9) | exact Mine.c1 (Mine.c17 h9) | exact Mine.c1 (Mine.c18 h9) | exact Mine.c1 (Mine.c19 h9) | exact Mine.c1 (Mine.c20 h9) | fail "pj2")
  k_with "pj3" => (first | exact Mine.e2 (Mine.c0 h9) | exact Mine.e2 (Mine.c1 h9) | exact Mine.e2 (Mine.c2 h9) | exact Mine.e2 (Mine.c3 h9) | exact Mine.e2 (Mine.c4 h9) | exact Mine.e2 (Mine.c5 h9) | exact Mine.e2 (Mine.c6 h9) | exact Mine.e2 (Mine.c7 h9) | exact Mine.e2 (Mine.c8 h9) | exact Mine.e2 (Mine.c9 h9) | exact Mine.e2 (Mine.c10 h9) | exact Mine.e2 (Mine.c11 h9) | exact Mine.e2 (Mine.c12 h9) | exact Mine.e2 (Mine.c13 h9) | exact Mine.e2 (Mine.c14 h9) | exact Mine.e2 (Mine.c15 h9) | exact Mine.e2 (Mine.c16 h9) | exact Mine.e2 (Mine.c17 h9) | exact Mine.e2 (Mine.c18 h9) | exact Mine.e2 (Mine.c19 h9) | exact Mine.e2 (Mine.c20 h9) | fail "pj3")
  k_with "omega" => (first | exact Nat.le_refl _ | decide | with_reducible (first | exact Mine.lim0 (by assumption) | exact Mine.lim1 (by assumption) (by with_unfolding_all rfl) | exact Mine.lim2 (by assumption) (by with_unfolding_all rfl) | exact Mine.lim3 (by assumption) (by with_unfolding_all rfl) | exact Mine.lim8 (by assumption) (by assumption) (by with_unfolding_all rfl) | exact Mine.lim9 (by assumption) (by assumption) (by with_unfolding_all rfl) | exact Mine.lim10 (by assumption) (by assumption) (by with_unfolding_all rfl) | exact Mine.i1 (by assumption) | exact Mine.i2 (by assumption) | exact Mine.i3 (by assumption) | exact Mine.i4 (by assumption) (by with_unfolding_all rfl) | exact Mine.i5 (by assumption) | exact Mine.i6 (by assumption) (by assumption) | exact Mine.i7 (by assumption) (by assumption) | exact Mine.i8 (by assumption) (by assumption) | exact List.length_take_le _ _ | fail "l") | (refine Mine.toNe ?_; with_reducible (first | exact Nat.ne_of_lt (by ((repeat (first | assumption | exact Mine.ltp0 | refine Mine.ltp ?_)); (first | done | fail "c"))) | exact Nat.ne_of_gt (by ((repeat (first | assumption | exact Mine.ltp0 | refine Mine.ltp ?_)); (first | done | fail "c"))) | (refine Nat.ne_of_lt (Mine.viaL (by assumption) ?_); intro h9; k_extra "pj") | (refine Nat.ne_of_gt (Mine.viaL (by assumption) ?_); intro h9; k_extra "pj") | (refine Nat.ne_of_lt (Mine.viaM (by assumption) ?_); intro h9; k_extra "pj") | (refine Nat.ne_of_gt (Mine.viaM (by assumption) ?_); intro h9; k_extra "pj") | assumption | exact Ne.symm (by assumption) | (refine Mine.viaN (by assumption) ?_; intro h9; k_extra "pj") | (refine Ne.symm (Mine.viaN (by assumption) ?_); intro h9; k_extra "pj") | (refine Mine.viaN1 (by assumption) ?_; intro h9; k_extra "pj1") | (refine Ne.symm (Mine.viaN1 (by assumption) ?_); intro h9; k_extra "pj1") | (refine Mine.viaN2 (by assumption) ?_; intro h9; k_extra "pj2") | (refine Ne.symm (Mine.viaN2 (by assumption) ?_); intro h9; k_extra "pj2") | (refine Mine.viaN3 (by assumption) ?_; intro h9; k_extra "pj3") | (refine Ne.symm (Mine.viaN3 (by assumption) ?_); intro h9; k_extra "pj3") | fail "n")) | fail "o")
  trivial
theorem exc_set_at {w : World} : findIn (seat.heap_1 w.params) (.ref 51) "__setattr__" = some (some (.builtin "object.__setattr__")) := by rfl
theorem exc_text_at {w : World} : findIn (seat.heap_1 w.params) (.ref 51) "text" = some none := by rfl
theorem exc_set {e t : Addr} {v : Value} (X : (seat.heap_1 w.params).In h) (he : h.get? e = some (exObj t none))
    (hq : ∀ h' tk' dd, h'.get? e = some (exObj t (some dd)) → (∀ b o, b ≠ e → h.get? b = some o → h'.get? b = some o) → Q () ⟨h', g, d, tk', os⟩) :
    wpAny (model PySem.Challenge.rw_rh0120_01.row.prog w) A (setAttr (.ref e) "text" v) Q E ⟨h, g, d, tk, os⟩ := by
  obtain ⟨nm, q, bs, sn, sub, ab, col, dd', k0, k1, k2, k3, k5, hC⟩ := fault_cls X
  have I : InstAt h e (exObj t none) 51 none := ⟨he, rfl, rfl, trivial⟩
  have SF := PySem.F.store_object
  refine set_plain (s := ⟨h, g, d, tk, os⟩) X I exc_set_at ?_
  dsimp only
  have hm : Looks (model PySem.Challenge.rw_rh0120_01.row.prog w) h (mroOf (.ref 51)) (.ref 51 :: bmF) := fun A Q E s k q => by
    obtain ⟨hh, g, d, t, os⟩ := s
    exact wpAny_mroOf_exc (k _ _ hC) q
  have sub : Looks (model PySem.Challenge.rw_rh0120_01.row.prog w) h (isInstance (.ref e) (.type "object")) true := I.type.andThen (fun A Q E s k q => by
    obtain ⟨hh, g, d, t, os⟩ := s
    exact wpAny_isSubtype_exc (k _ _ hC) q)
  refine codeAny_call_builtin SF.slot.plain SF.entry (@check_slot (model PySem.Challenge.rw_rh0120_01.row.prog w) _ _ _ "object.__setattr__" "object" "__setattr__" (.ref e) [.str "text" tk, v] [] _ SF.kind SF.split sub (SF.args (.ref e) (.str "text" tk) v) ?_)
  have L3 : Looks (model PySem.Challenge.rw_rh0120_01.row.prog w) h (storeTaker? none) none := .now
  rw [osa_eq, refuse_eq]
  refine wpAny_bind (wpAny_bind (I.type.here (wpAny_bind (hm.here ?_))))
  rw [refuseLoop_ref, refuseLoop_ref, PySem.F.store_Exception.passes]
  refine wpAny_pure (wpAny_bind (I.type.here (wpAny_bind ((looks_findIn X exc_text_at).here (wpAny_bind (L3.here ?_))))))
  dsimp only
  unfold storeInOwnDict
  repeat ((fail_if_success (with_reducible show wpAny _ _ (storeInDict _ _ _ _) _ _ _)); (first | with_reducible refine wpAny_loadPart_at he ?_ | with_reducible refine wpAny_loadPart_at hC ?_ | wp_step))
  have hx₁ : (h.push { cls := .type "dict", data := .dict #[] }).get? e = some (exObj t none) := Heap.get?_push_of_some _ he
  have hxs : e ≠ h.objs.size := Nat.ne_of_lt (Heap.lt_size he)
  have hgd : ((h.push { cls := .type "dict", data := .dict #[] }).update e fun o => { cls := o.cls, dict := some h.objs.size, data := o.data, slots := o.slots }).get? h.objs.size
      = some { cls := .type "dict", data := .dict #[] } :=
    (Heap.get?_update_ne _ _ _ _ hxs.symm).trans (Heap.get?_push_at rfl rfl)
  have hnd : ((h.push { cls := .type "dict", data := .dict #[] }).update e fun o => { cls := o.cls, dict := some h.objs.size, data := o.data, slots := o.slots }).Ns h.objs.size (fun _ => none) :=
    ⟨_, #[], _, hgd, rfl, fun e he => absurd he (by simp), fun _ => rfl⟩
  show wpAny _ _ (storeInDict h.objs.size (.str "text" tk) "text" v) _ _ _
  unfold storeInDict newKeyGuard
  refine wpAny_bind (wpAny_pure (wpAny_bind (wpAny_nsSet1 (Heap.Ns1.of_empty hnd) fun h' hn' hs => ?_)))
  obtain ⟨oD, esD, epD, hoD, hdD, hcD⟩ := hn'.count (Within.cons "text" v Within.nil)
  refine wpAny_bind (wpAny_lookBehind hoD (by rw [hdD]; exact pastItsLine_dict (Nat.le_trans hcD (by rw [List.length_cons, List.length_nil, sizeLine_eq]; omega))) ?_)
  wp_walk
  refine hq h' _ h.objs.size ?_ fun b ob hbx hb => ?_
  · exact (hs.2 e hxs).trans (Heap.get?_update_self _ hx₁ rfl)
  · exact (hs.2 b (Nat.ne_of_lt (Heap.lt_size hb))).trans ((Heap.get?_update_ne _ _ _ _ hbx).trans (Heap.get?_push_of_some _ hb))
end
end
section
section
variable {w : World} {A : Around} {h₀ : Heap} {L e t : Addr} {m : Str → Option Value} {s : Shared} {rest : List (Addr × Obj)}
theorem reg_Fault3_1 : True := by
  w_top off
  k_with_none
  k_with "pj" => (first | exact Mine.c0 h9 | exact Mine.c1 h9 | exact Mine.e1 h9 | exact Mine.c2 h9 | exact Mine.e2 h9 | exact Mine.c3 h9 | exact Mine.e3 h9 | exact Mine.c4 h9 | exact Mine.e4 h9 | exact Mine.c5 h9 | exact Mine.e5 h9 | exact Mine.c6 h9 | exact Mine.e6 h9 | exact Mine.c7 h9 | exact Mine.e7 h9 | exact Mine.c8 h9 | exact Mine.e8 h9 | exact Mine.c9 h9 | exact Mine.e9 h9 | exact Mine.c10 h9 | exact Mine.e10 h9 | exact Mine.c11 h9 | exact Mine.e11 h9 | exact Mine.c12 h9 | exact Mine.e12 h9 | exact Mine.c13 h9 | exact Mine.e13 h9 | exact Mine.c14 h9 | exact Mine.e14 h9 | exact Mine.c15 h9 | exact Mine.e15 h9 | exact Mine.c16 h9 | exact Mine.e16 h9 | exact Mine.c17 h9 | exact Mine.e17 h9 | exact Mine.c18 h9 | exact Mine.e18 h9 | exact Mine.c19 h9 | exact Mine.e19 h9 | exact Mine.c20 h9 | exact Mine.e20 h9 | fail "pj")
  k_with "pj1" => (first | exact Mine.c0 (Mine.c0 h9) | exact Mine.c0 (Mine.c1 h9) | exact Mine.c0 (Mine.c2 h9) | exact Mine.c0 (Mine.c3 h9) | exact Mine.c0 (Mine.c4 h9) | exact Mine.c0 (Mine.c5 h9) | exact Mine.c0 (Mine.c6 h9) | exact Mine.c0 (Mine.c7 h9) | exact Mine.c0 (Mine.c8 h9) | exact Mine.c0 (Mine.c9 h9) | exact Mine.c0 (Mine.c10 h9) | exact Mine.c0 (Mine.c11 h9) | exact Mine.c0 (Mine.c12 h9) | exact Mine.c0 (Mine.c13 h9) | exact Mine.c0 (Mine.c14 h9) | exact Mine.c0 (Mine.c15 h9) | exact Mine.c0 (Mine.c16 h9) | exact Mine.c0 (Mine.c17 h9) | exact Mine.c0 (Mine.c18 h9) | exact Mine.c0 (Mine.c19 h9) | exact Mine.c0 (Mine.c20 h9) | fail "pj1")
  k_with "pj2" => (first | exact Mine.c1 (Mine.c0 h9) | exact Mine.c1 (Mine.c1 h9) | exact Mine.c1 (Mine.c2 h9) | exact Mine.c1 (Mine.c3 h9) | exact Mine.c1 (Mine.c4 h9) | exact Mine.c1 (Mine.c5 h9) | exact Mine.c1 (Mine.c6 h9) | exact Mine.c1 (Mine.c7 h9) | exact Mine.c1 (Mine.c8 h9) | exact Mine.c1 (Mine.c9 h9) | exact Mine.c1 (Mine.c10 h9) | exact Mine.c1 (Mine.c11 h9) | exact Mine.c1 (Mine.c12 h9) | exact Mine.c1 (Mine.c13 h9) | exact Mine.c1 (Mine.c14 h9) | exact Mine.c1 (Mine.c15 h9) | exact Mine.c1 (Mine.c16 h9) | exact Mine.c1 (Mine.c17 h9) | exact Mine.c1 (Mine.c18 h9) | exact Mine.c1 (Mine.c19 h9) | exact Mine.c1 (Mine.c20 h9) | fail "pj2")
  k_with "pj3" => (first | exact Mine.e2 (Mine.c0 h9) | exact Mine.e2 (Mine.c1 h9) | exact Mine.e2 (Mine.c2 h9) | exact Mine.e2 (Mine.c3 h9) | exact Mine.e2 (Mine.c4 h9) | exact Mine.e2 (Mine.c5 h9) | exact Mine.e2 (Mine.c6 h9) | exact Mine.e2 (Mine.c7 h9) | exact Mine.e2 (Mine.c8 h9) | exact Mine.e2 (Mine.c9 h9) | exact Mine.e2 (Mine.c10 h9) | exact Mine.e2 (Mine.c11 h9) | exact Mine.e2 (Mine.c12 h9) | exact Mine.e2 (Mine.c13 h9) | exact Mine.e2 (Mine.c14 h9) | exact Mine.e2 (Mine.c15 h9) | exact Mine.e2 (Mine.c16 h9) | exact Mine.e2 (Mine.c17 h9) | exact Mine.e2 (Mine.c18 h9) | exact Mine.e2 (Mine.c19 h9) | exact Mine.e2 (Mine.c20 h9) | fail "pj3")
  k_with "omega" => (first | exact Nat.le_refl _ | decide | with_reducible (first | exact Mine.lim0 (by assumption) | exact Mine.lim1 (by assumption) (by with_unfolding_all rfl) | exact Mine.lim2 (by assumption) (by with_unfolding_all rfl) | exact Mine.lim3 (by assumption) (by with_unfolding_all rfl) | exact Mine.lim8 (by assumption) (by assumption) (by with_unfolding_all rfl) | exact Mine.lim9 (by assumption) (by assumption) (by with_unfolding_all rfl) | exact Mine.lim10 (by assumption) (by assumption) (by with_unfolding_all rfl) | exact Mine.i1 (by assumption) | exact Mine.i2 (by assumption) | exact Mine.i3 (by assumption) | exact Mine.i4 (by assumption) (by with_unfolding_all rfl) | exact Mine.i5 (by assumption) | exact Mine.i6 (by assumption) (by assumption) | exact Mine.i7 (by assumption) (by assumption) | exact Mine.i8 (by assumption) (by assumption) | exact List.length_take_le _ _ | fail "l") | (refine Mine.toNe ?_; with_reducible (first | exact Nat.ne_of_lt (by ((repeat (first | assumption | exact Mine.ltp0 | refine Mine.ltp ?_)); (first | done | fail "c"))) | exact Nat.ne_of_gt (by ((repeat (first | assumption | exact Mine.ltp0 | refine Mine.ltp ?_)); (first | done | fail "c"))) | (refine Nat.ne_of_lt (Mine.viaL (by assumption) ?_); intro h9; k_extra "pj") | (refine Nat.ne_of_gt (Mine.viaL (by assumption) ?_); intro h9; k_extra "pj") | (refine Nat.ne_of_lt (Mine.viaM (by assumption) ?_); intro h9; k_extra "pj") | (refine Nat.ne_of_gt (Mine.viaM (by assumption) ?_); intro h9; k_extra "pj") | assumption | exact Ne.symm (by assumption) | (refine Mine.viaN (by assumption) ?_; intro h9; k_extra "pj") | (refine Ne.symm (Mine.viaN (by assumption) ?_); intro h9; k_extra "pj") | (refine Mine.viaN1 (by assumption) ?_; intro h9; k_extra "pj1") | (refine Ne.symm (Mine.viaN1 (by assumption) ?_); intro h9; k_extra "pj1") | (refine Mine.viaN2 (by assumption) ?_; intro h9; k_extra "pj2") | (refine Ne.symm (Mine.viaN2 (by assumption) ?_); intro h9; k_extra "pj2") | (refine Mine.viaN3 (by assumption) ?_; intro h9; k_extra "pj3") | (refine Ne.symm (Mine.viaN3 (by assumption) ?_); intro h9; k_extra "pj3") | fail "n")) | fail "o")
  trivial
theorem exc_initF {v : Value} {Q E : Value → Shared → Prop} (F : Fr h₀ L s.heap m) (X : (seat.heap_1 w.params).In h₀) (N : News h₀ L s.heap ((e, exObj t none) :: rest)) (hne : ∀ p ∈ rest, p.1 ≠ e)
    (ret : ∀ h' t', Fr h₀ L h' m → News h₀ L h' ((e, exObj t' none) :: rest) → Q .none { s with heap := h' }) :
    wpAny (model PySem.Challenge.rw_rh0120_01.row.prog w) A (call (.builtin "Exception.__init__") [.ref e, v]) Q E s := by
  obtain ⟨h, g, d, tk, os⟩ := s
  have he := (N _ (List.mem_cons_self)).1
  refine exc_init (X.keeps F.keep) he ?_
  have F' := F.push { cls := .type "tuple", data := .seq #[v] }
  have N' := N.grown fun b o e => Heap.get?_push_of_some { cls := .type "tuple", data := .seq #[v] } e
  obtain ⟨F2, N2⟩ := news_upd (pre := []) (f := Obj.mapFields (·.setIfInBounds 0 (.ref h.objs.size))) F' N' (fun _ h => nomatch h) hne rfl rfl
  exact ret _ h.objs.size F2 N2
theorem exc_setF {v : Value} {Q : Unit → Shared → Prop} {E : Value → Shared → Prop} (F : Fr h₀ L s.heap m) (X : (seat.heap_1 w.params).In h₀) (N : News h₀ L s.heap ((e, exObj t none) :: rest)) (hne : ∀ p ∈ rest, p.1 ≠ e)
    (ret : ∀ h' tk' dd, Fr h₀ L h' m → News h₀ L h' ((e, exObj t (some dd)) :: rest) → Q () { s with heap := h', toks := tk' }) :
    wpAny (model PySem.Challenge.rw_rh0120_01.row.prog w) A (setAttr (.ref e) "text" v) Q E s := by
  obtain ⟨h, g, d, tk, os⟩ := s
  have he := N _ (List.mem_cons_self)
  refine exc_set (X.keeps F.keep) he.1 fun h' tk' dd e1 kp => ?_
  refine ret h' tk' dd ⟨F.ns.at' fun o q => kp L o (fun z => he.2.1 z.symm) q, fun b o q => kp b o (fun z => ?_) (F.keep b o q), F.above⟩ fun p hp => ?_
  · rw [z, he.2.2] at q; cases q
  · rcases List.mem_cons.mp hp with rfl | hp
    · exact ⟨e1, he.2⟩
    · have P := N p (List.mem_cons_of_mem _ hp)
      exact ⟨kp _ _ (hne p hp) P.1, P.2⟩
end
section
theorem reg_Fault3_2 : True := by
  w_top off
  k_with_none
  k_with "pj" => (first | exact Mine.c0 h9 | exact Mine.c1 h9 | exact Mine.e1 h9 | exact Mine.c2 h9 | exact Mine.e2 h9 | exact Mine.c3 h9 | exact Mine.e3 h9 | exact Mine.c4 h9 | exact Mine.e4 h9 | exact Mine.c5 h9 | exact Mine.e5 h9 | exact Mine.c6 h9 | exact Mine.e6 h9 | exact Mine.c7 h9 | exact Mine.e7 h9 | exact Mine.c8 h9 | exact Mine.e8 h9 | exact Mine.c9 h9 | exact Mine.e9 h9 | exact Mine.c10 h9 | exact Mine.e10 h9 | exact Mine.c11 h9 | exact Mine.e11 h9 | exact Mine.c12 h9 | exact Mine.e12 h9 | exact Mine.c13 h9 | exact Mine.e13 h9 | exact Mine.c14 h9 | exact Mine.e14 h9 | exact Mine.c15 h9 | exact Mine.e15 h9 | exact Mine.c16 h9 | exact Mine.e16 h9 | exact Mine.c17 h9 | exact Mine.e17 h9 | exact Mine.c18 h9 | exact Mine.e18 h9 | exact Mine.c19 h9 | exact Mine.e19 h9 | exact Mine.c20 h9 | exact Mine.e20 h9 | fail "pj")
  k_with "pj1" => (first | exact Mine.c0 (Mine.c0 h9) | exact Mine.c0 (Mine.c1 h9) | exact Mine.c0 (Mine.c2 h9) | exact Mine.c0 (Mine.c3 h9) | exact Mine.c0 (Mine.c4 h9) | exact Mine.c0 (Mine.c5 h9) | exact Mine.c0 (Mine.c6 h9) | exact Mine.c0 (Mine.c7 h9) | exact Mine.c0 (Mine.c8 h9) | exact Mine.c0 (Mine.c9 h9) | exact Mine.c0 (Mine.c10 h9) | exact Mine.c0 (Mine.c11 h9) | exact Mine.c0 (Mine.c12 h9) | exact Mine.c0 (Mine.c13 h9) | exact Mine.c0 (Mine.c14 h9) | exact Mine.c0 (Mine.c15 h9) | exact Mine.c0 (Mine.c16 h9) | exact Mine.c0 (Mine.c17 h9) | exact Mine.c0 (Mine.c18 h9) | exact Mine.c0 (Mine.c19 h9) | exact Mine.c0 (Mine.c20 h9) | fail "pj1")
  k_with "pj2" => (first | exact Mine.c1 (Mine.c0 h9) | exact Mine.c1 (Mine.c1 h9) | exact Mine.c1 (Mine.c2 h9) | exact Mine.c1 (Mine.c3 h9) | exact Mine.c1 (Mine.c4 h9) | exact Mine.c1 (Mine.c5 h9) | exact Mine.c1 (Mine.c6 h9) | exact Mine.c1 (Mine.c7 h9) | exact Mine.c1 (Mine.c8 h9) | exact Mine.c1 (Mine.c9 h9) | exact Mine.c1 (Mine.c10 h9) | exact Mine.c1 (Mine.c11 h9) | exact Mine.c1 (Mine.c12 h9) | exact Mine.c1 (Mine.c13 h9) | exact Mine.c1 (Mine.c14 h9) | exact Mine.c1 (Mine.c15 h9) | exact Mine.c1 (Mine.c16 h9) | exact Mine.c1 (Mine.c17 h9) | exact Mine.c1 (Mine.c18 h9) | exact Mine.c1 (Mine.c19 h9) | exact Mine.c1 (Mine.c20 h9) | fail "pj2")
  k_with "pj3" => (first | exact Mine.e2 (Mine.c0 h9) | exact Mine.e2 (Mine.c1 h9) | exact Mine.e2 (Mine.c2 h9) | exact Mine.e2 (Mine.c3 h9) | exact Mine.e2 (Mine.c4 h9) | exact Mine.e2 (Mine.c5 h9) | exact Mine.e2 (Mine.c6 h9) | exact Mine.e2 (Mine.c7 h9) | exact Mine.e2 (Mine.c8 h9) | exact Mine.e2 (Mine.c9 h9) | exact Mine.e2 (Mine.c10 h9) | exact Mine.e2 (Mine.c11 h9) | exact Mine.e2 (Mine.c12 h9) | exact Mine.e2 (Mine.c13 h9) | exact Mine.e2 (Mine.c14 h9) | exact Mine.e2 (Mine.c15 h9) | exact Mine.e2 (Mine.c16 h9) | exact Mine.e2 (Mine.c17 h9) | exact Mine.e2 (Mine.c18 h9) | exact Mine.e2 (Mine.c19 h9) | exact Mine.e2 (Mine.c20 h9) | fail "pj3")
  k_with "omega" => (first | exact Nat.le_refl _ | decide | with_reducible (first | exact Mine.lim0 (by assumption) | exact Mine.lim1 (by assumption) (by with_unfolding_all rfl) | exact Mine.lim2 (by assumption) (by with_unfolding_all rfl) | exact Mine.lim3 (by assumption) (by with_unfolding_all rfl) | exact Mine.lim8 (by assumption) (by assumption) (by with_unfolding_all rfl) | exact Mine.lim9 (by assumption) (by assumption) (by with_unfolding_all rfl) | exact Mine.lim10 (by assumption) (by assumption) (by with_unfolding_all rfl) | exact Mine.i1 (by assumption) | exact Mine.i2 (by assumption) | exact Mine.i3 (by assumption) | exact Mine.i4 (by assumption) (by with_unfolding_all rfl) | exact Mine.i5 (by assumption) | exact Mine.i6 (by assumption) (by assumption) | exact Mine.i7 (by assumption) (by assumption) | exact Mine.i8 (by assumption) (by assumption) | exact List.length_take_le _ _ | fail "l") | (refine Mine.toNe ?_; with_reducible (first | exact Nat.ne_of_lt (by ((repeat (first | assumption | exact Mine.ltp0 | refine Mine.ltp ?_)); (first | done | fail "c"))) | exact Nat.ne_of_gt (by ((repeat (first | assumption | exact Mine.ltp0 | refine Mine.ltp ?_)); (first | done | fail "c"))) | (refine Nat.ne_of_lt (Mine.viaL (by assumption) ?_); intro h9; k_extra "pj") | (refine Nat.ne_of_gt (Mine.viaL (by assumption) ?_); intro h9; k_extra "pj") | (refine Nat.ne_of_lt (Mine.viaM (by assumption) ?_); intro h9; k_extra "pj") | (refine Nat.ne_of_gt (Mine.viaM (by assumption) ?_); intro h9; k_extra "pj") | assumption | exact Ne.symm (by assumption) | (refine Mine.viaN (by assumption) ?_; intro h9; k_extra "pj") | (refine Ne.symm (Mine.viaN (by assumption) ?_); intro h9; k_extra "pj") | (refine Mine.viaN1 (by assumption) ?_; intro h9; k_extra "pj1") | (refine Ne.symm (Mine.viaN1 (by assumption) ?_); intro h9; k_extra "pj1") | (refine Mine.viaN2 (by assumption) ?_; intro h9; k_extra "pj2") | (refine Ne.symm (Mine.viaN2 (by assumption) ?_); intro h9; k_extra "pj2") | (refine Mine.viaN3 (by assumption) ?_; intro h9; k_extra "pj3") | (refine Ne.symm (Mine.viaN3 (by assumption) ?_); intro h9; k_extra "pj3") | fail "n")) | fail "o")
  k_with "getMethod type:Exception" => (first | (k_here; refine' method_type ?q936786c3F ?q936786c3X (by kernel_rfl) (by decide +kernel) ?q936786c3e ?q936786c3h ?_; (case q936786c3F => k_asm); (case q936786c3X => k_asm); (case q936786c3e => k_dflt k_is); (case q936786c3h => k_handed)) | fail "no")
  k_with "call builtin:Exception.__init__" => (first | (k_here; k_dflt (refine' exc_initF ?q95912deF ?q95912deX ?q95912deN ?q95912den ?_; (case q95912deF => k_asm); (case q95912deX => k_asm); (case q95912deN => k_asm); (case q95912den => assumption)); intro _ _ _ _; (try k_sweep)) | fail "no")
  k_with "setAttr ref" => (first | (k_here; k_dflt (refine' exc_setF ?q932357abF ?q932357abX ?q932357abN ?q932357abn ?_; (case q932357abF => k_asm); (case q932357abX => k_asm); (case q932357abN => k_asm); (case q932357abn => assumption)); intro _ _ _ _ _; (try k_sweep)) | fail "no")
  trivial
theorem fault_initF {w : World} {cn : Str} {cs : Scope} {a : Addr} {ccd : Value} {cl : List (Str × Addr)} {outer : List Env} {A₀ : Around} {base h₀ : Heap} {L : Addr} {m : Str → Option Value} {s : Shared} {mean : ExcName → Option Value} {mg mb : Str → Option Value} {A : Around} {R : Result → Shared → Prop} {rest : List (Addr × Obj)} {e t : Addr} {tx : Str} {tk : Tok}
    (B : Below A₀ base outer h₀) (F : Fr h₀ L s.heap m) (X : (seat.heap_1 w.params).In h₀) (T : Top topProg ((looseW seat.view_1 [Str.ofString "counted_elements_iops", Str.ofString "counted_elements_plainio"]) ++ List.map (fun x => x.name) (recsOf seat.view_1) ++ List.map (fun x => x.fst) (litsOf seat.view_1) ++ List.map (fun x => x.name) (clssOf seat.view_1 (looseW seat.view_1 [Str.ofString "counted_elements_iops", Str.ofString "counted_elements_plainio"]))) mean mg mb h₀) (hkf : cs.kind = .function) (hA : A.frames = some (envX cn cs L a ccd cl :: outer)) (hroom : A.depth < recursionLimit) (N : News h₀ L s.heap ((e, exObj t none) :: rest)) (hne : ∀ p ∈ rest, p.1 ≠ e)
    (ret : ∀ h' t' dd tk', Fr h₀ L h' m → News h₀ L h' ((e, exObj t' (some dd)) :: rest) → R (.ok (.ret .none)) { s with heap := h', toks := tk' }) :
    codeAny (model PySem.Challenge.rw_rh0120_01.row.prog w) A (.call (.ref 35) ⟨[.ref e, .str tx tk], []⟩) R s := by
  revert X; k_fill; intro X
  k_dflt (refine' code_def ?q9k1 ?q9k2 ?q9k3 ?q9k4 ?q9k5 ?q9kA ?q9kF ?q9kK ?q9k6 ?q9k7 ?q9k8 ?q9k9 ?q9kB ?_ ?q9c2 ?q9c3 ?q9c4 ?q9c5; (case q9kA => exact hA); (case q9kF => exact rfl); (case q9kK => assumption); (case q9k1 => k_asm); (case q9k2 => k_asm); (case q9k3 => k_asm); (case q9k4 => k_asm); (case q9k5 => k_asm); (case q9k6 => k_is); (case q9k7 => k_is); (case q9k8 => exact hroom); (case q9k9 => exact BindsTo.of_eq rfl); (case q9c5 => decide); (case q9kB => exact locs rfl); (case q9c2 => exact rfl); (case q9c3 => exact rfl); (case q9c4 => exact rfl); k_whole; intro g' L' h' FG' F' N' B' X' T'; (try dsimp only); (try k_fold))
  k_steps
  all_goals exact ret _ _ _ _ (by assumption) (by assumption)
end
theorem reg_Fault3_3 : True := by
  w_top off
  k_with_none
  k_with "pj" => (first | exact Mine.c0 h9 | exact Mine.c1 h9 | exact Mine.e1 h9 | exact Mine.c2 h9 | exact Mine.e2 h9 | exact Mine.c3 h9 | exact Mine.e3 h9 | exact Mine.c4 h9 | exact Mine.e4 h9 | exact Mine.c5 h9 | exact Mine.e5 h9 | exact Mine.c6 h9 | exact Mine.e6 h9 | exact Mine.c7 h9 | exact Mine.e7 h9 | exact Mine.c8 h9 | exact Mine.e8 h9 | exact Mine.c9 h9 | exact Mine.e9 h9 | exact Mine.c10 h9 | exact Mine.e10 h9 | exact Mine.c11 h9 | exact Mine.e11 h9 | exact Mine.c12 h9 | exact Mine.e12 h9 | exact Mine.c13 h9 | exact Mine.e13 h9 | exact Mine.c14 h9 | exact Mine.e14 h9 | exact Mine.c15 h9 | exact Mine.e15 h9 | exact Mine.c16 h9 | exact Mine.e16 h9 | exact Mine.c17 h9 | exact Mine.e17 h9 | exact Mine.c18 h9 | exact Mine.e18 h9 | exact Mine.c19 h9 | exact Mine.e19 h9 | exact Mine.c20 h9 | exact Mine.e20 h9 | fail "pj")
  k_with "pj1" => (first | exact Mine.c0 (Mine.c0 h9) | exact Mine.c0 (Mine.c1 h9) | exact Mine.c0 (Mine.c2 h9) | exact Mine.c0 (Mine.c3 h9) | exact Mine.c0 (Mine.c4 h9) | exact Mine.c0 (Mine.c5 h9) | exact Mine.c0 (Mine.c6 h9) | exact Mine.c0 (Mine.c7 h9) | exact Mine.c0 (Mine.c8 h9) | exact Mine.c0 (Mine.c9 h9) | exact Mine.c0 (Mine.c10 h9) | exact Mine.c0 (Mine.c11 h9) | exact Mine.c0 (Mine.c12 h9) | exact Mine.c0 (Mine.c13 h9) | exact Mine.c0 (Mine.c14 h9) | exact Mine.c0 (Mine.c15 h9) | exact Mine.c0 (Mine.c16 h9) | exact Mine.c0 (Mine.c17 h9) | exact Mine.c0 (Mine.c18 h9) | exact Mine.c0 (Mine.c19 h9) | exact Mine.c0 (Mine.c20 h9) | fail "pj1")
  k_with "pj2" => (first | exact Mine.c1 (Mine.c0 h9) | exact Mine.c1 (Mine.c1 h9) | exact Mine.c1 (Mine.c2 h9) | exact Mine.c1 (Mine.c3 h9) | exact Mine.c1 (Mine.c4 h9) | exact Mine.c1 (Mine.c5 h9) | exact Mine.c1 (Mine.c6 h9) | exact Mine.c1 (Mine.c7 h9) | exact Mine.c1 (Mine.c8 h9) | exact Mine.c1 (Mine.c9 h9) | exact Mine.c1 (Mine.c10 h9) | exact Mine.c1 (Mine.c11 h9) | exact Mine.c1 (Mine.c12 h9) | exact Mine.c1 (Mine.c13 h9) | exact Mine.c1 (Mine.c14 h9) | exact Mine.c1 (Mine.c15 h9) | exact Mine.c1 (Mine.c16 h9) | exact Mine.c1 (Mine.c17 h9) | exact Mine.c1 (Mine.c18 h9) | exact Mine.c1 (Mine.c19 h9) | exact Mine.c1 (Mine.c20 h9) | fail "pj2")
  k_with "pj3" => (first | exact Mine.e2 (Mine.c0 h9) | exact Mine.e2 (Mine.c1 h9) | exact Mine.e2 (Mine.c2 h9) | exact Mine.e2 (Mine.c3 h9) | exact Mine.e2 (Mine.c4 h9) | exact Mine.e2 (Mine.c5 h9) | exact Mine.e2 (Mine.c6 h9) | exact Mine.e2 (Mine.c7 h9) | exact Mine.e2 (Mine.c8 h9) | exact Mine.e2 (Mine.c9 h9) | exact Mine.e2 (Mine.c10 h9) | exact Mine.e2 (Mine.c11 h9) | exact Mine.e2 (Mine.c12 h9) | exact Mine.e2 (Mine.c13 h9) | exact Mine.e2 (Mine.c14 h9) | exact Mine.e2 (Mine.c15 h9) | exact Mine.e2 (Mine.c16 h9) | exact Mine.e2 (Mine.c17 h9) | exact Mine.e2 (Mine.c18 h9) | exact Mine.e2 (Mine.c19 h9) | exact Mine.e2 (Mine.c20 h9) | fail "pj3")
  k_with "omega" => (first | exact Nat.le_refl _ | decide | with_reducible (first | exact Mine.lim0 (by assumption) | exact Mine.lim1 (by assumption) (by with_unfolding_all rfl) | exact Mine.lim2 (by assumption) (by with_unfolding_all rfl) | exact Mine.lim3 (by assumption) (by with_unfolding_all rfl) | exact Mine.lim8 (by assumption) (by assumption) (by with_unfolding_all rfl) | exact Mine.lim9 (by assumption) (by assumption) (by with_unfolding_all rfl) | exact Mine.lim10 (by assumption) (by assumption) (by with_unfolding_all rfl) | exact Mine.i1 (by assumption) | exact Mine.i2 (by assumption) | exact Mine.i3 (by assumption) | exact Mine.i4 (by assumption) (by with_unfolding_all rfl) | exact Mine.i5 (by assumption) | exact Mine.i6 (by assumption) (by assumption) | exact Mine.i7 (by assumption) (by assumption) | exact Mine.i8 (by assumption) (by assumption) | exact List.length_take_le _ _ | fail "l") | (refine Mine.toNe ?_; with_reducible (first | exact Nat.ne_of_lt (by ((repeat (first | assumption | exact Mine.ltp0 | refine Mine.ltp ?_)); (first | done | fail "c"))) | exact Nat.ne_of_gt (by ((repeat (first | assumption | exact Mine.ltp0 | refine Mine.ltp ?_)); (first | done | fail "c"))) | (refine Nat.ne_of_lt (Mine.viaL (by assumption) ?_); intro h9; k_extra "pj") | (refine Nat.ne_of_gt (Mine.viaL (by assumption) ?_); intro h9; k_extra "pj") | (refine Nat.ne_of_lt (Mine.viaM (by assumption) ?_); intro h9; k_extra "pj") | (refine Nat.ne_of_gt (Mine.viaM (by assumption) ?_); intro h9; k_extra "pj") | assumption | exact Ne.symm (by assumption) | (refine Mine.viaN (by assumption) ?_; intro h9; k_extra "pj") | (refine Ne.symm (Mine.viaN (by assumption) ?_); intro h9; k_extra "pj") | (refine Mine.viaN1 (by assumption) ?_; intro h9; k_extra "pj1") | (refine Ne.symm (Mine.viaN1 (by assumption) ?_); intro h9; k_extra "pj1") | (refine Mine.viaN2 (by assumption) ?_; intro h9; k_extra "pj2") | (refine Ne.symm (Mine.viaN2 (by assumption) ?_); intro h9; k_extra "pj2") | (refine Mine.viaN3 (by assumption) ?_; intro h9; k_extra "pj3") | (refine Ne.symm (Mine.viaN3 (by assumption) ?_); intro h9; k_extra "pj3") | fail "n")) | fail "o")
  trivial
theorem fault_mk {w : World} {cn : Str} {cs : Scope} {a : Addr} {ccd : Value} {cl : List (Str × Addr)} {outer : List Env} {A₀ : Around} {base h₀ : Heap} {L : Addr} {m : Str → Option Value} {s : Shared} {mean : ExcName → Option Value} {mg mb : Str → Option Value} {A : Around} {Q E : Value → Shared → Prop} {news : List (Addr × Obj)} {tx : Str} {tk : Tok}
    (B : Below A₀ base outer h₀) (F : Fr h₀ L s.heap m) (X : (seat.heap_1 w.params).In h₀) (T : Top topProg ((looseW seat.view_1 [Str.ofString "counted_elements_iops", Str.ofString "counted_elements_plainio"]) ++ List.map (fun x => x.name) (recsOf seat.view_1) ++ List.map (fun x => x.fst) (litsOf seat.view_1) ++ List.map (fun x => x.name) (clssOf seat.view_1 (looseW seat.view_1 [Str.ofString "counted_elements_iops", Str.ofString "counted_elements_plainio"]))) mean mg mb h₀) (hkf : cs.kind = .function) (hA : A.frames = some (envX cn cs L a ccd cl :: outer)) (hroom : A.depth + 10 < recursionLimit) (N : News h₀ L s.heap news)
    (ret : ∀ e h' t' dd tk', Fr h₀ L h' m → News h₀ L h' ((e, exObj t' (some dd)) :: news) → (∀ p ∈ news, p.1 ≠ e) → Q (.ref e) { s with heap := h', toks := tk' }) :
    wpAny (model PySem.Challenge.rw_rh0120_01.row.prog w) A (call (.ref 51) [.str tx tk]) Q E s := by
  obtain ⟨h, g, d, tk', os⟩ := s
  have N1 := (N.push F { cls := .type "tuple", data := .seq #[.str tx tk] }).push (F.push _) (exObj h.objs.size none)
  have F1 := (F.push { cls := .type "tuple", data := .seq #[.str tx tk] }).push (exObj h.objs.size none)
  rw [Heap.size_push] at N1
  have lt : ∀ p ∈ news, p.1 < h.objs.size := fun p hp => Heap.lt_size (N p hp).1
  have hne : ∀ p ∈ news, p.1 ≠ h.objs.size + 1 := fun p hp => Nat.ne_of_lt (Nat.lt_succ_of_lt (lt p hp))
  have hA' : (A.under (.builtin "type.__call__" ⟨[.ref 51, .str tx tk], []⟩)).frames = some (envX cn cs L a ccd cl :: outer) := hA
  have hr' : (A.under (.builtin "type.__call__" ⟨[.ref 51, .str tx tk], []⟩)).depth < recursionLimit := by rw [depth_under_make]; omega
  refine wpAny_call (fault_call (X.keeps F.keep) (fault_initF (t := h.objs.size) (s := ⟨_, g, d, tk', os⟩) (rest := news) B F1 X T hkf hA' hr' (fun p hp => N1 p ?_) hne fun h' t' dd tk2 F2 N2 => ?_))
  · rcases List.mem_cons.mp hp with rfl | hp
    · exact List.mem_cons_self
    · exact List.mem_cons_of_mem _ (List.mem_cons_of_mem _ hp)
  · exact ⟨rfl, ret _ h' t' dd tk2 F2 N2 hne⟩
end
section
section
variable {A : Around} {base g g₂ h : Heap} {outer : List Env} {L : Addr} {m : Str → Option Value} {env : Env}
theorem reg_Fault4_1 : True := by
  w_top off
  k_with_none
  k_with "pj" => (first | exact Mine.c0 h9 | exact Mine.c1 h9 | exact Mine.e1 h9 | exact Mine.c2 h9 | exact Mine.e2 h9 | exact Mine.c3 h9 | exact Mine.e3 h9 | exact Mine.c4 h9 | exact Mine.e4 h9 | exact Mine.c5 h9 | exact Mine.e5 h9 | exact Mine.c6 h9 | exact Mine.e6 h9 | exact Mine.c7 h9 | exact Mine.e7 h9 | exact Mine.c8 h9 | exact Mine.e8 h9 | exact Mine.c9 h9 | exact Mine.e9 h9 | exact Mine.c10 h9 | exact Mine.e10 h9 | exact Mine.c11 h9 | exact Mine.e11 h9 | exact Mine.c12 h9 | exact Mine.e12 h9 | exact Mine.c13 h9 | exact Mine.e13 h9 | exact Mine.c14 h9 | exact Mine.e14 h9 | exact Mine.c15 h9 | exact Mine.e15 h9 | exact Mine.c16 h9 | exact Mine.e16 h9 | exact Mine.c17 h9 | exact Mine.e17 h9 | exact Mine.c18 h9 | exact Mine.e18 h9 | exact Mine.c19 h9 | exact Mine.e19 h9 | exact Mine.c20 h9 | exact Mine.e20 h9 | fail "pj")
  k_with "pj1" => (first | exact Mine.c0 (Mine.c0 h9) | exact Mine.c0 (Mine.c1 h9) | exact Mine.c0 (Mine.c2 h9) | exact Mine.c0 (Mine.c3 h9) | exact Mine.c0 (Mine.c4 h9) | exact Mine.c0 (Mine.c5 h9) | exact Mine.c0 (Mine.c6 h9) | exact Mine.c0 (Mine.c7 h9) | exact Mine.c0 (Mine.c8 h9) | exact Mine.c0 (Mine.c9 h9) | exact Mine.c0 (Mine.c10 h9) | exact Mine.c0 (Mine.c11 h9) | exact Mine.c0 (Mine.c12 h9) | exact Mine.c0 (Mine.c13 h9) | exact Mine.c0 (Mine.c14 h9) | exact Mine.c0 (Mine.c15 h9) | exact Mine.c0 (Mine.c16 h9) | exact Mine.c0 (Mine.c17 h9) | exact Mine.c0 (Mine.c18 h9) | exact Mine.c0 (Mine.c19 h9) | exact Mine.c0 (Mine.c20 h9) | fail "pj1")
  k_with "pj2" => (first | exact Mine.c1 (Mine.c0 h9) | exact Mine.c1 (Mine.c1 h9) | exact Mine.c1 (Mine.c2 h9) | exact Mine.c1 (Mine.c3 h9) | exact Mine.c1 (Mine.c4 h9) | exact Mine.c1 (Mine.c5 h9) | exact Mine.c1 (Mine.c6 h9) | exact Mine.c1 (Mine.c7 h9) | exact Mine.c1 (Mine.c8 h9) | exact Mine.c1 (Mine.c9 h9) | exact Mine.c1 (Mine.c10 h9) | exact Mine.c1 (Mine.c11 h9) | exact Mine.c1 (Mine.c12 h9) | exact Mine.c1 (Mine.c13 h9) | exact Mine.c1 (Mine.c14 h9) | exact Mine.c1 (Mine.c15 h9) | exact Mine.c1 (Mine.c16 h9) | exact Mine.c1 (Mine.c17 h9) | exact Mine.c1 (Mine.c18 h9) | exact Mine.c1 (Mine.c19 h9) | exact Mine.c1 (Mine.c20 h9) | fail "pj2")
  k_with "pj3" => (first | exact Mine.e2 (Mine.c0 h9) | exact Mine.e2 (Mine.c1 h9) | exact Mine.e2 (Mine.c2 h9) | exact Mine.e2 (Mine.c3 h9) | exact Mine.e2 (Mine.c4 h9) | exact Mine.e2 (Mine.c5 h9) | exact Mine.e2 (Mine.c6 h9) | exact Mine.e2 (Mine.c7 h9) | exact Mine.e2 (Mine.c8 h9) | exact Mine.e2 (Mine.c9 h9) | exact Mine.e2 (Mine.c10 h9) | exact Mine.e2 (Mine.c11 h9) | exact Mine.e2 (Mine.c12 h9) | exact Mine.e2 (Mine.c13 h9) | exact Mine.e2 (Mine.c14 h9) | exact Mine.e2 (Mine.c15 h9) | exact Mine.e2 (Mine.c16 h9) | exact Mine.e2 (Mine.c17 h9) | exact Mine.e2 (Mine.c18 h9) | exact Mine.e2 (Mine.c19 h9) | exact Mine.e2 (Mine.c20 h9) | fail "pj3")
  k_with "omega" => (first | exact Nat.le_refl _ | decide | with_reducible (first | exact Mine.lim0 (by assumption) | exact Mine.lim1 (by assumption) (by with_unfolding_all rfl) | exact Mine.lim2 (by assumption) (by with_unfolding_all rfl) | exact Mine.lim3 (by assumption) (by with_unfolding_all rfl) | exact Mine.lim8 (by assumption) (by assumption) (by with_unfolding_all rfl) | exact Mine.lim9 (by assumption) (by assumption) (by with_unfolding_all rfl) | exact Mine.lim10 (by assumption) (by assumption) (by with_unfolding_all rfl) | exact Mine.i1 (by assumption) | exact Mine.i2 (by assumption) | exact Mine.i3 (by assumption) | exact Mine.i4 (by assumption) (by with_unfolding_all rfl) | exact Mine.i5 (by assumption) | exact Mine.i6 (by assumption) (by assumption) | exact Mine.i7 (by assumption) (by assumption) | exact Mine.i8 (by assumption) (by assumption) | exact List.length_take_le _ _ | fail "l") | (refine Mine.toNe ?_; with_reducible (first | exact Nat.ne_of_lt (by ((repeat (first | assumption | exact Mine.ltp0 | refine Mine.ltp ?_)); (first | done | fail "c"))) | exact Nat.ne_of_gt (by ((repeat (first | assumption | exact Mine.ltp0 | refine Mine.ltp ?_)); (first | done | fail "c"))) | (refine Nat.ne_of_lt (Mine.viaL (by assumption) ?_); intro h9; k_extra "pj") | (refine Nat.ne_of_gt (Mine.viaL (by assumption) ?_); intro h9; k_extra "pj") | (refine Nat.ne_of_lt (Mine.viaM (by assumption) ?_); intro h9; k_extra "pj") | (refine Nat.ne_of_gt (Mine.viaM (by assumption) ?_); intro h9; k_extra "pj") | assumption | exact Ne.symm (by assumption) | (refine Mine.viaN (by assumption) ?_; intro h9; k_extra "pj") | (refine Ne.symm (Mine.viaN (by assumption) ?_); intro h9; k_extra "pj") | (refine Mine.viaN1 (by assumption) ?_; intro h9; k_extra "pj1") | (refine Ne.symm (Mine.viaN1 (by assumption) ?_); intro h9; k_extra "pj1") | (refine Mine.viaN2 (by assumption) ?_; intro h9; k_extra "pj2") | (refine Ne.symm (Mine.viaN2 (by assumption) ?_); intro h9; k_extra "pj2") | (refine Mine.viaN3 (by assumption) ?_; intro h9; k_extra "pj3") | (refine Ne.symm (Mine.viaN3 (by assumption) ?_); intro h9; k_extra "pj3") | fail "n")) | fail "o")
  trivial
theorem bpush (K : Below A base outer g) (F : Fr g L h m) (hf : env.frame = some L) (hk : env.scope.kind = .function) : Below (A.deeper env) base (env :: outer) h := by
  have hnew : base.get? L = none := by
    cases hq : base.get? L with
    | none => rfl
    | some o => exact absurd (Nat.lt_of_lt_of_le (Heap.lt_size (K.stays L o hq)) F.above) (Nat.lt_irrefl _)
  refine ⟨Around.frames_deeper K.stack, fun b o e => F.keep b o (K.stays b o e), ?_⟩
  exact .cons (by rw [hk]; decide) hf F.ns hnew (K.frames.of_keeps fun b o e _ => ⟨o, F.keep b o e, rfl⟩)
theorem fr_mem {b : Addr} (hf : env.frame = some L) (hm : b ∈ (env :: outer).filterMap (·.frame)) : b = L ∨ b ∈ outer.filterMap (·.frame) := by
  obtain ⟨en, he, hb⟩ := List.mem_filterMap.mp hm
  rcases List.mem_cons.mp he with rfl | he
  · rw [hf] at hb; exact .inl (Option.some.inj hb).symm
  · exact .inr (List.mem_filterMap.mpr ⟨en, he, hb⟩)

variable {M : Model} {E : Value → Shared → Prop} {s' : Shared} {e t dd : Addr} {Q : Unit → Shared → Prop} {news : List (Addr × Obj)}
/-- a fault made in this frame leaves it -/
theorem leave_fault (K : Below A base outer g) (F : Fr g L s'.heap m) (N : News g L s'.heap ((e, exObj t (some dd)) :: news)) (hne : ∀ p ∈ news, p.1 ≠ e)
    (hQ : ∀ h', RaisedSN base g outer e (.ref 51) news h' → g.UpToSlots h' → Q () { s' with heap := h' }) (hf : env.frame = some L) (hk : env.scope.kind = .function) :
    wpAny M (A.deeper env) (leaving env (.ref e)) Q E s' := by
  have K' := bpush K F hf hk
  have P := N _ List.mem_cons_self
  have be : base.get? e = none := fresh_of_stays K.stays P.2.2
  have fe : e ∉ (env :: outer).filterMap (·.frame) := fun hm => by
    obtain ⟨_, o, ho, hn⟩ := K'.frames.mem hm
    rw [P.1] at ho; cases ho
    exact hn _ rfl
  have hL : ∀ p ∈ news, p.1 ∉ e :: (env :: outer).filterMap (·.frame) := fun p hp hm => by
    have Np := N p (List.mem_cons_of_mem _ hp)
    rcases List.mem_cons.mp hm with z | z
    · exact hne p hp z
    · rcases fr_mem hf z with z | z
      · exact Np.2.1 z
      · obtain ⟨_, o, ho, _⟩ := K.frames.mem z
        rw [Np.2.2] at ho; cases ho
  have hen : (hideAll s'.heap (e :: (env :: outer).filterMap (·.frame))).get? e = none := hideAll_none _ List.mem_cons_self
  have st : base.StaysIn (hideAll s'.heap (e :: (env :: outer).filterMap (·.frame))) := fun b o q => hideAll_get _ (K'.stays b o q) fun hm => by
    rcases List.mem_cons.mp hm with z | z
    · rw [z, be] at q; cases q
    · rw [(K'.frames.mem z).1] at q; cases q
  have sg : ∀ b o, g.get? b = some o → b ∉ outer.filterMap (·.frame) → (hideAll s'.heap (e :: (env :: outer).filterMap (·.frame))).get? b = some o := fun b o q nm => hideAll_get _ (F.keep b o q) fun hm => by
    rcases List.mem_cons.mp hm with z | z
    · rw [z, P.2.2] at q; cases q
    · rcases fr_mem hf z with z | z
      · rw [z, kts_self F] at q; cases q
      · exact nm z
  refine wpAny_leaving_firstW (a0 := .ref t) K'.stack (funFrames_hide K'.frames fun en hen a ha => List.mem_cons_of_mem _ (List.mem_filterMap.mpr ⟨en, hen, ha⟩)) hf P.1 (fun b o q => of_hideAll _ q) hen rfl rfl rfl fun h' hLw => ?_
  obtain ⟨k1, ⟨_, _, k2⟩, k3, k4⟩ := hLw
  exact hQ h' ⟨_, .ref t, st, sg, fun q hq => ⟨hideAll_get _ (N q (List.mem_cons_of_mem _ hq)).1 (hL q hq), (N q (List.mem_cons_of_mem _ hq)).2.2, fresh_of_stays K.stays (N q (List.mem_cons_of_mem _ hq)).2.2⟩, k1, hen, k2, k3⟩
    ((Heap.UpToSlots.of_keeps F.keep).trans k4)
/-- a fault that came from below leaves this frame too -/
theorem leave_past {cls : Value} (K : Below A base outer g) (F : Fr g L g₂ m) (R : RaisedSN base g₂ (env :: outer) e cls news s'.heap) (hsm : g₂.UpToSlots s'.heap)
    (hQ : ∀ h', RaisedSN base g outer e cls news h' → g.UpToSlots h' → Q () { s' with heap := h' }) (hf : env.frame = some L) :
    wpAny M (A.deeper env) (leaving env (.ref e)) Q E s' := by
  obtain ⟨B, a0, hB, hBG, hl, hfl⟩ := R
  refine wpAny_leaves_onW (Around.frames_deeper K.stack) hf hfl fun h' x1 x2 => ?_
  refine hQ h' ⟨B, a0, hB, fun b o q nm => hBG b o (F.keep b o q) (fun hm => ?_), fun q hq => ⟨(hl q hq).1, kts_none F.keep (hl q hq).2.1, (hl q hq).2.2⟩, x1⟩ ((Heap.UpToSlots.of_keeps F.keep).trans (hsm.trans x2))
  rcases fr_mem hf hm with z | z
  · rw [z, kts_self F] at q; cases q
  · exact nm z
end
def RaisedVal (w : World) (E : Value → Shared → Prop) (v : Value) (s : Shared) : Prop := ∃ e t dd, v = .ref e ∧ (seat.heap_1 w.params).In s.heap ∧ s.heap.get? e = some (exObj t (some dd)) ∧ E (.ref e) s
theorem raise_open {w : World} {A : Around} {E : Value → Shared → Prop} {s : Shared} {env : Env} {x : Expr} {pos : Pos} {Q : Flow → Shared → Prop} (hh : A.handled = none)
    (h : wpAny (model PySem.Challenge.rw_rh0120_01.row.prog w) A (eval x env) (RaisedVal w E) E s) :
    wpAny (model PySem.Challenge.rw_rh0120_01.row.prog w) A (exec (.Raise (some x) none pos) env) Q E s := by
  have hcB : (Value.ref 51 :: bmF).contains (.type "BaseException") = true := by decide
  rw [arm_exec_Raise]
  refine wpAny_bind (wpAny_standAt ?_)
  show wpAny _ A (raiseStmt env (some _) none) Q E s
  unfold raiseStmt
  refine wpAny_bind ?_
  refine wpAny_bind (wpAny_mono h (fun v s₁ h₁ => wpAny_bind (wpAny_standAt (wpAny_pure ?_))) fun _ _ x => x)
  obtain ⟨e, t, dd, rfl, X, he, hE⟩ := h₁
  obtain ⟨nm, q, bs, sn, sub, ab, col, dd', k0, k1, k2, k3, k5, hC⟩ := fault_cls X
  obtain ⟨hp, g, d, tk, os⟩ := s₁
  repeat (first | with_reducible refine wpAny_loadPart_at he ?_ | with_reducible refine wpAny_loadPart_at hC ?_ | (with_reducible refine wpAny_isSubtype_exc hC ?_; rw [hcB]) | wp_step)
  exact wpAny_raiseNew_none hh hE
end
local macro_rules | `(tactic| walk_at "tl3225b9b") => `(tactic| (intro _ R' U'; (try dsimp only at R' U' ⊢)))
section
section
theorem reg_Need_1 : True := by
  w_top off
  k_with_none
  k_with "pj" => (first | exact Mine.c0 h9 | exact Mine.c1 h9 | exact Mine.e1 h9 | exact Mine.c2 h9 | exact Mine.e2 h9 | exact Mine.c3 h9 | exact Mine.e3 h9 | exact Mine.c4 h9 | exact Mine.e4 h9 | exact Mine.c5 h9 | exact Mine.e5 h9 | exact Mine.c6 h9 | exact Mine.e6 h9 | exact Mine.c7 h9 | exact Mine.e7 h9 | exact Mine.c8 h9 | exact Mine.e8 h9 | exact Mine.c9 h9 | exact Mine.e9 h9 | exact Mine.c10 h9 | exact Mine.e10 h9 | exact Mine.c11 h9 | exact Mine.e11 h9 | exact Mine.c12 h9 | exact Mine.e12 h9 | exact Mine.c13 h9 | exact Mine.e13 h9 | exact Mine.c14 h9 | exact Mine.e14 h9 | exact Mine.c15 h9 | exact Mine.e15 h9 | exact Mine.c16 h9 | exact Mine.e16 h9 | exact Mine.c17 h9 | exact Mine.e17 h9 | exact Mine.c18 h9 | exact Mine.e18 h9 | exact Mine.c19 h9 | exact Mine.e19 h9 | exact Mine.c20 h9 | exact Mine.e20 h9 | fail "pj")
  k_with "pj1" => (first | exact Mine.c0 (Mine.c0 h9) | exact Mine.c0 (Mine.c1 h9) | exact Mine.c0 (Mine.c2 h9) | exact Mine.c0 (Mine.c3 h9) | exact Mine.c0 (Mine.c4 h9) | exact Mine.c0 (Mine.c5 h9) | exact Mine.c0 (Mine.c6 h9) | exact Mine.c0 (Mine.c7 h9) | exact Mine.c0 (Mine.c8 h9) | exact Mine.c0 (Mine.c9 h9) | exact Mine.c0 (Mine.c10 h9) | exact Mine.c0 (Mine.c11 h9) | exact Mine.c0 (Mine.c12 h9) | exact Mine.c0 (Mine.c13 h9) | exact Mine.c0 (Mine.c14 h9) | exact Mine.c0 (Mine.c15 h9) | exact Mine.c0 (Mine.c16 h9) | exact Mine.c0 (Mine.c17 h9) | exact Mine.c0 (Mine.c18 h9) | exact Mine.c0 (Mine.c19 h9) | exact Mine.c0 (Mine.c20 h9) | fail "pj1")
  k_with "pj2" => (first | exact Mine.c1 (Mine.c0 h9) | exact Mine.c1 (Mine.c1 h9) | exact Mine.c1 (Mine.c2 h9) | exact Mine.c1 (Mine.c3 h9) | exact Mine.c1 (Mine.c4 h9) | exact Mine.c1 (Mine.c5 h9) | exact Mine.c1 (Mine.c6 h9) | exact Mine.c1 (Mine.c7 h9) | exact Mine.c1 (Mine.c8 h9) | exact Mine.c1 (Mine.c9 h9) | exact Mine.c1 (Mine.c10 h9) | exact Mine.c1 (Mine.c11 h9) | exact Mine.c1 (Mine.c12 h9) | exact Mine.c1 (Mine.c13 h9) | exact Mine.c1 (Mine.c14 h9) | exact Mine.c1 (Mine.c15 h9) | exact Mine.c1 (Mine.c16 h9) | exact Mine.c1 (Mine.c17 h9) | exact Mine.c1 (Mine.c18 h9) | exact Mine.c1 (Mine.c19 h9) | exact Mine.c1 (Mine.c20 h9) | fail "pj2")
  k_with "pj3" => (first | exact Mine.e2 (Mine.c0 h9) | exact Mine.e2 (Mine.c1 h9) | exact Mine.e2 (Mine.c2 h9) | exact Mine.e2 (Mine.c3 h9) | exact Mine.e2 (Mine.c4 h9) | exact Mine.e2 (Mine.c5 h9) | exact Mine.e2 (Mine.c6 h9) | exact Mine.e2 (Mine.c7 h9) | exact Mine.e2 (Mine.c8 h9) | exact Mine.e2 (Mine.c9 h9) | exact Mine.e2 (Mine.c10 h9) | exact Mine.e2 (Mine.c11 h9) | exact Mine.e2 (Mine.c12 h9) | exact Mine.e2 (Mine.c13 h9) | exact Mine.e2 (Mine.c14 h9) | exact Mine.e2 (Mine.c15 h9) | exact Mine.e2 (Mine.c16 h9) | exact Mine.e2 (Mine.c17 h9) | exact Mine.e2 (Mine.c18 h9) | exact Mine.e2 (Mine.c19 h9) | exact Mine.e2 (Mine.c20 h9) | fail "pj3")
  k_with "omega" => (first | exact Nat.le_refl _ | decide | with_reducible (first | exact Mine.lim0 (by assumption) | exact Mine.lim1 (by assumption) (by with_unfolding_all rfl) | exact Mine.lim2 (by assumption) (by with_unfolding_all rfl) | exact Mine.lim3 (by assumption) (by with_unfolding_all rfl) | exact Mine.lim8 (by assumption) (by assumption) (by with_unfolding_all rfl) | exact Mine.lim9 (by assumption) (by assumption) (by with_unfolding_all rfl) | exact Mine.lim10 (by assumption) (by assumption) (by with_unfolding_all rfl) | exact Mine.i1 (by assumption) | exact Mine.i2 (by assumption) | exact Mine.i3 (by assumption) | exact Mine.i4 (by assumption) (by with_unfolding_all rfl) | exact Mine.i5 (by assumption) | exact Mine.i6 (by assumption) (by assumption) | exact Mine.i7 (by assumption) (by assumption) | exact Mine.i8 (by assumption) (by assumption) | exact List.length_take_le _ _ | fail "l") | (refine Mine.toNe ?_; with_reducible (first | exact Nat.ne_of_lt (by ((repeat (first | assumption | exact Mine.ltp0 | refine Mine.ltp ?_)); (first | done | fail "c"))) | exact Nat.ne_of_gt (by ((repeat (first | assumption | exact Mine.ltp0 | refine Mine.ltp ?_)); (first | done | fail "c"))) | (refine Nat.ne_of_lt (Mine.viaL (by assumption) ?_); intro h9; k_extra "pj") | (refine Nat.ne_of_gt (Mine.viaL (by assumption) ?_); intro h9; k_extra "pj") | (refine Nat.ne_of_lt (Mine.viaM (by assumption) ?_); intro h9; k_extra "pj") | (refine Nat.ne_of_gt (Mine.viaM (by assumption) ?_); intro h9; k_extra "pj") | assumption | exact Ne.symm (by assumption) | (refine Mine.viaN (by assumption) ?_; intro h9; k_extra "pj") | (refine Ne.symm (Mine.viaN (by assumption) ?_); intro h9; k_extra "pj") | (refine Mine.viaN1 (by assumption) ?_; intro h9; k_extra "pj1") | (refine Ne.symm (Mine.viaN1 (by assumption) ?_); intro h9; k_extra "pj1") | (refine Mine.viaN2 (by assumption) ?_; intro h9; k_extra "pj2") | (refine Ne.symm (Mine.viaN2 (by assumption) ?_); intro h9; k_extra "pj2") | (refine Mine.viaN3 (by assumption) ?_; intro h9; k_extra "pj3") | (refine Ne.symm (Mine.viaN3 (by assumption) ?_); intro h9; k_extra "pj3") | fail "n")) | fail "o")
  k_with "k_all" => (first | (assumption) | fail "no")
  k_with "k_mem" => (first | (assumption) | fail "no")
  k_with "news_mem" => (first | (k_mem) | fail "no")
  k_with "exec Raise some none" => (first | (k_here; refine raise_open rfl ?_) | fail "no")
  k_with "call ref" => (first | (k_here; (with_reducible show wpAny _ _ (call (Value.ref 51) [Value.str _ _] _) _ _ _); k_dflt (refine' fault_mk ?q96b9c5B ?q96b9c5F ?q96b9c5X ?q96b9c5T ?q96b9c5hk ?q96b9c5hA ?q96b9c5hr ?q96b9c5N ?_; (case q96b9c5hA => exact rfl); (case q96b9c5hk => first | exact rfl | assumption); (case q96b9c5B => k_asm); (case q96b9c5F => k_asm); (case q96b9c5X => k_asm); (case q96b9c5T => k_asm); (case q96b9c5hr => ((simp only [depth_under_make, depth_under_kw, depth_in1, depth_deeper, depth_caller]); first | decide | ((try dsimp only [ktrTop]); omega))); (case q96b9c5N => k_asm)); intro _ _ _ _ _ _ _ _; (try k_sweep)) | fail "no")
  k_with "RaisedVal" => (first | (refine ⟨_, _, _, rfl, Frag.In.keeps (by assumption) (Fr.keep (by assumption)), ((by assumption : News _ _ _ (_ :: _)) _ List.mem_cons_self).1, ?_⟩) | fail "no")
  k_with "leaving ref" => (first | (k_here; first | (refine' leave_fault ?q91bf5e95K ?q91bf5e95F ?q91bf5e95N ?q91bf5e95n ?_ ?q91bf5e95hf ?q91bf5e95hk; (case q91bf5e95hf => exact rfl); (case q91bf5e95hk => first | exact rfl | assumption); (case q91bf5e95F => assumption); (case q91bf5e95K => assumption); (case q91bf5e95N => assumption); (case q91bf5e95n => assumption); k_whole; walk_at "tl3225b9b") | (refine' leave_past ?q91bf5e95K ?q91bf5e95F ?q91bf5e95R ?q91bf5e95U ?_ ?q91bf5e95hf; (case q91bf5e95hf => exact rfl); (case q91bf5e95R => assumption); (case q91bf5e95U => assumption); (case q91bf5e95K => assumption); (case q91bf5e95F => assumption); k_whole; walk_at "tl3225b9b")) | fail "no")
  k_with "call builtin:len" => (first | (k_here; k_dflt (refine call_len_list (by is_list) (by omega) ?_)) | fail "no")
  trivial
theorem need_ok {w : World} {dp un : Nat} {gd : Option (List Code)} {cn : Str} {cs : Scope} {a : Addr} {ccd : Value} {cl : List (Str × Addr)} {outer : List Env} {A₀ : Around} {base h₀ : Heap} {L : Addr} {m : Str → Option Value} {s : Shared} {Q E : Value → Shared → Prop} {mean : ExcName → Option Value} {mg mb : Str → Option Value} {news : List (Addr × Obj)} {l : Addr} {items : Array Value} {c : Nat} {ad n : Int} {t1 t2 : Tok}
    (B : Below A₀ base outer h₀) (F : Fr h₀ L s.heap m) (X : (seat.heap_1 w.params).In h₀) (T : Top topProg ((looseW seat.view_1 [Str.ofString "counted_elements_iops", Str.ofString "counted_elements_plainio"]) ++ List.map (fun x => x.name) (recsOf seat.view_1) ++ List.map (fun x => x.fst) (litsOf seat.view_1) ++ List.map (fun x => x.name) (clssOf seat.view_1 (looseW seat.view_1 [Str.ofString "counted_elements_iops", Str.ofString "counted_elements_plainio"]))) mean mg mb h₀) (hkf : cs.kind = .function) (N : News h₀ L s.heap news) (hdp : dp + 20 < recursionLimit)
    (hl : (l, W.listOf items c) ∈ news) (hz : items.size ≤ 1000) (h1 : 0 ≤ ad) (h2 : ad + n ≤ items.size) (h3 : 0 ≤ n)
    (ret : ∀ h' tk', Fr h₀ L h' m → News h₀ L h' news → Q .none { s with heap := h', toks := tk' }) :
    wpAny (model PySem.Challenge.rw_rh0120_01.row.prog w) (ktrTop dp un gd cn cs L a ccd cl outer) (call (.ref 128) [.ref l, .int ad t1, .int n t2]) Q E s := by
  (revert X; k_fill; intro X)
  (refine wpAny_call ?_; k_dflt ktr_enter)
  k_steps
  all_goals exact ret _ _ (by assumption) (by assumption)
theorem need_bad {w : World} {dp un : Nat} {gd : Option (List Code)} {cn : Str} {cs : Scope} {a : Addr} {ccd : Value} {cl : List (Str × Addr)} {outer : List Env} {A₀ : Around} {base h₀ : Heap} {L : Addr} {m : Str → Option Value} {s : Shared} {Q E : Value → Shared → Prop} {mean : ExcName → Option Value} {mg mb : Str → Option Value} {news : List (Addr × Obj)} {l : Addr} {items : Array Value} {c : Nat} {ad n : Int} {t1 t2 : Tok}
    (B : Below A₀ base outer h₀) (F : Fr h₀ L s.heap m) (X : (seat.heap_1 w.params).In h₀) (T : Top topProg ((looseW seat.view_1 [Str.ofString "counted_elements_iops", Str.ofString "counted_elements_plainio"]) ++ List.map (fun x => x.name) (recsOf seat.view_1) ++ List.map (fun x => x.fst) (litsOf seat.view_1) ++ List.map (fun x => x.name) (clssOf seat.view_1 (looseW seat.view_1 [Str.ofString "counted_elements_iops", Str.ofString "counted_elements_plainio"]))) mean mg mb h₀) (hkf : cs.kind = .function) (N : News h₀ L s.heap news) (hdp : dp + 20 < recursionLimit)
    (hl : (l, W.listOf items c) ∈ news) (hz : items.size ≤ 1000) (h1 : 0 ≤ ad) (h2 : ¬ ad + n ≤ items.size) (h3 : 0 ≤ n) (h4 : n ≤ 1000) (h5 : ad ≤ 1000)
    (exc : ∀ e g₂ h' tk', Fr h₀ L g₂ m → RaisedSN base g₂ (envX cn cs L a ccd cl :: outer) e (.ref 51) news h' → g₂.UpToSlots h' → E (.ref e) { s with heap := h', toks := tk' }) :
    wpAny (model PySem.Challenge.rw_rh0120_01.row.prog w) (ktrTop dp un gd cn cs L a ccd cl outer) (call (.ref 128) [.ref l, .int ad t1, .int n t2]) Q E s := by
  (revert X; k_fill; intro X)
  (refine wpAny_call ?_; k_dflt ktr_enter)
  k_steps
  all_goals exact exc _ _ _ _ (by assumption) (by assumption) (by assumption)
end
end
section
/-- one sign of the storage -/
inductive Sg : Value → Option Str → Prop
  | none : Sg .none .none
  | some (c : Str) (t : Tok) : c.length = 1 → Sg (.str c t) (.some c)
inductive Sgs : List Value → List (Option Str) → Prop
  | nil : Sgs [] []
  | cons {v : Value} {o : Option Str} {vs : List Value} {os : List (Option Str)} : Sg v o → Sgs vs os → Sgs (v :: vs) (o :: os)
theorem reg_Data_1 : True := by
  w_top off
  k_with_none
  k_with "pj" => (first | exact Mine.c0 h9 | exact Mine.c1 h9 | exact Mine.e1 h9 | exact Mine.c2 h9 | exact Mine.e2 h9 | exact Mine.c3 h9 | exact Mine.e3 h9 | exact Mine.c4 h9 | exact Mine.e4 h9 | exact Mine.c5 h9 | exact Mine.e5 h9 | exact Mine.c6 h9 | exact Mine.e6 h9 | exact Mine.c7 h9 | exact Mine.e7 h9 | exact Mine.c8 h9 | exact Mine.e8 h9 | exact Mine.c9 h9 | exact Mine.e9 h9 | exact Mine.c10 h9 | exact Mine.e10 h9 | exact Mine.c11 h9 | exact Mine.e11 h9 | exact Mine.c12 h9 | exact Mine.e12 h9 | exact Mine.c13 h9 | exact Mine.e13 h9 | exact Mine.c14 h9 | exact Mine.e14 h9 | exact Mine.c15 h9 | exact Mine.e15 h9 | exact Mine.c16 h9 | exact Mine.e16 h9 | exact Mine.c17 h9 | exact Mine.e17 h9 | exact Mine.c18 h9 | exact Mine.e18 h9 | exact Mine.c19 h9 | exact Mine.e19 h9 | exact Mine.c20 h9 | exact Mine.e20 h9 | fail "pj")
  k_with "pj1" => (first | exact Mine.c0 (Mine.c0 h9) | exact Mine.c0 (Mine.c1 h9) | exact Mine.c0 (Mine.c2 h9) | exact Mine.c0 (Mine.c3 h9) | exact Mine.c0 (Mine.c4 h9) | exact Mine.c0 (Mine.c5 h9) | exact Mine.c0 (Mine.c6 h9) | exact Mine.c0 (Mine.c7 h9) | exact Mine.c0 (Mine.c8 h9) | exact Mine.c0 (Mine.c9 h9) | exact Mine.c0 (Mine.c10 h9) | exact Mine.c0 (Mine.c11 h9) | exact Mine.c0 (Mine.c12 h9) | exact Mine.c0 (Mine.c13 h9) | exact Mine.c0 (Mine.c14 h9) | exact Mine.c0 (Mine.c15 h9) | exact Mine.c0 (Mine.c16 h9) | exact Mine.c0 (Mine.c17 h9) | exact Mine.c0 (Mine.c18 h9) | exact Mine.c0 (Mine.c19 h9) | exact Mine.c0 (Mine.c20 h9) | fail "pj1")
  k_with "pj2" => (first | exact Mine.c1 (Mine.c0 h9) | exact Mine.c1 (Mine.c1 h9) | exact Mine.c1 (Mine.c2 h9) | exact Mine.c1 (Mine.c3 h9) | exact Mine.c1 (Mine.c4 h9) | exact Mine.c1 (Mine.c5 h9) | exact Mine.c1 (Mine.c6 h9) | exact Mine.c1 (Mine.c7 h9) | exact Mine.c1 (Mine.c8 h9) | exact Mine.c1 (Mine.c9 h9) | exact Mine.c1 (Mine.c10 h9) | exact Mine.c1 (Mine.c11 h9) | exact Mine.c1 (Mine.c12 h9) | exact Mine.c1 (Mine.c13 h9) | exact Mine.c1 (Mine.c14 h9) | exact Mine.c1 (Mine.c15 h9) | exact Mine.c1 (Mine.c16 h9) | exact Mine.c1 (Mine.c17 h9) | exact Mine.c1 (Mine.c18 h9) | exact Mine.c1 (Mine.c19 h9) | exact Mine.c1 (Mine.c20 h9) | fail "pj2")
  k_with "pj3" => (first | exact Mine.e2 (Mine.c0 h9) | exact Mine.e2 (Mine.c1 h9) | exact Mine.e2 (Mine.c2 h9) | exact Mine.e2 (Mine.c3 h9) | exact Mine.e2 (Mine.c4 h9) | exact Mine.e2 (Mine.c5 h9) | exact Mine.e2 (Mine.c6 h9) | exact Mine.e2 (Mine.c7 h9) | exact Mine.e2 (Mine.c8 h9) | exact Mine.e2 (Mine.c9 h9) | exact Mine.e2 (Mine.c10 h9) | exact Mine.e2 (Mine.c11 h9) | exact Mine.e2 (Mine.c12 h9) | exact Mine.e2 (Mine.c13 h9) | exact Mine.e2 (Mine.c14 h9) | exact Mine.e2 (Mine.c15 h9) | exact Mine.e2 (Mine.c16 h9) | exact Mine.e2 (Mine.c17 h9) | exact Mine.e2 (Mine.c18 h9) | exact Mine.e2 (Mine.c19 h9) | exact Mine.e2 (Mine.c20 h9) | fail "pj3")
  k_with "omega" => (first | exact Nat.le_refl _ | decide | with_reducible (first | exact Mine.lim0 (by assumption) | exact Mine.lim1 (by assumption) (by with_unfolding_all rfl) | exact Mine.lim2 (by assumption) (by with_unfolding_all rfl) | exact Mine.lim3 (by assumption) (by with_unfolding_all rfl) | exact Mine.lim8 (by assumption) (by assumption) (by with_unfolding_all rfl) | exact Mine.lim9 (by assumption) (by assumption) (by with_unfolding_all rfl) | exact Mine.lim10 (by assumption) (by assumption) (by with_unfolding_all rfl) | exact Mine.i1 (by assumption) | exact Mine.i2 (by assumption) | exact Mine.i3 (by assumption) | exact Mine.i4 (by assumption) (by with_unfolding_all rfl) | exact Mine.i5 (by assumption) | exact Mine.i6 (by assumption) (by assumption) | exact Mine.i7 (by assumption) (by assumption) | exact Mine.i8 (by assumption) (by assumption) | exact List.length_take_le _ _ | fail "l") | (refine Mine.toNe ?_; with_reducible (first | exact Nat.ne_of_lt (by ((repeat (first | assumption | exact Mine.ltp0 | refine Mine.ltp ?_)); (first | done | fail "c"))) | exact Nat.ne_of_gt (by ((repeat (first | assumption | exact Mine.ltp0 | refine Mine.ltp ?_)); (first | done | fail "c"))) | (refine Nat.ne_of_lt (Mine.viaL (by assumption) ?_); intro h9; k_extra "pj") | (refine Nat.ne_of_gt (Mine.viaL (by assumption) ?_); intro h9; k_extra "pj") | (refine Nat.ne_of_lt (Mine.viaM (by assumption) ?_); intro h9; k_extra "pj") | (refine Nat.ne_of_gt (Mine.viaM (by assumption) ?_); intro h9; k_extra "pj") | assumption | exact Ne.symm (by assumption) | (refine Mine.viaN (by assumption) ?_; intro h9; k_extra "pj") | (refine Ne.symm (Mine.viaN (by assumption) ?_); intro h9; k_extra "pj") | (refine Mine.viaN1 (by assumption) ?_; intro h9; k_extra "pj1") | (refine Ne.symm (Mine.viaN1 (by assumption) ?_); intro h9; k_extra "pj1") | (refine Mine.viaN2 (by assumption) ?_; intro h9; k_extra "pj2") | (refine Ne.symm (Mine.viaN2 (by assumption) ?_); intro h9; k_extra "pj2") | (refine Mine.viaN3 (by assumption) ?_; intro h9; k_extra "pj3") | (refine Ne.symm (Mine.viaN3 (by assumption) ?_); intro h9; k_extra "pj3") | fail "n")) | fail "o")
  trivial
theorem Sgs.length {vs : List Value} {os : List (Option Str)} (h : Sgs vs os) : vs.length = os.length := by
  induction h with
  | nil => rfl
  | cons _ _ ih => simp [ih]
theorem Sgs.drop {vs : List Value} {os : List (Option Str)} (h : Sgs vs os) : ∀ n, Sgs (vs.drop n) (os.drop n) := by
  induction h with
  | nil => intro n; simpa using Sgs.nil
  | cons a b ih => intro n; cases n with
    | zero => exact .cons a b
    | succ n => exact ih n
theorem Sgs.take {vs : List Value} {os : List (Option Str)} (h : Sgs vs os) : ∀ n, Sgs (vs.take n) (os.take n) := by
  induction h with
  | nil => intro n; simpa using Sgs.nil
  | cons a b ih => intro n; cases n with
    | zero => exact .nil
    | succ n => exact .cons a (ih n)
theorem Sgs.append {vs ws : List Value} {os ps : List (Option Str)} (h : Sgs vs os) (k : Sgs ws ps) : Sgs (vs ++ ws) (os ++ ps) := by
  induction h with
  | nil => exact k
  | cons a _ ih => exact .cons a ih
abbrev tupO (vs : List Value) : Obj := { cls := .type "tuple", data := .seq vs.toArray }
end
section
section
variable {prog : Program} {w : World} {A : Around} {E : Value → Shared → Prop} {s : Shared} {env : Env} {h₀ : Heap} {x : Str} {body : List Stmt} {Q : Flow → Shared → Prop}
theorem reg_Iter_1 : True := by
  w_top off
  k_with_none
  k_with "pj" => (first | exact Mine.c0 h9 | exact Mine.c1 h9 | exact Mine.e1 h9 | exact Mine.c2 h9 | exact Mine.e2 h9 | exact Mine.c3 h9 | exact Mine.e3 h9 | exact Mine.c4 h9 | exact Mine.e4 h9 | exact Mine.c5 h9 | exact Mine.e5 h9 | exact Mine.c6 h9 | exact Mine.e6 h9 | exact Mine.c7 h9 | exact Mine.e7 h9 | exact Mine.c8 h9 | exact Mine.e8 h9 | exact Mine.c9 h9 | exact Mine.e9 h9 | exact Mine.c10 h9 | exact Mine.e10 h9 | exact Mine.c11 h9 | exact Mine.e11 h9 | exact Mine.c12 h9 | exact Mine.e12 h9 | exact Mine.c13 h9 | exact Mine.e13 h9 | exact Mine.c14 h9 | exact Mine.e14 h9 | exact Mine.c15 h9 | exact Mine.e15 h9 | exact Mine.c16 h9 | exact Mine.e16 h9 | exact Mine.c17 h9 | exact Mine.e17 h9 | exact Mine.c18 h9 | exact Mine.e18 h9 | exact Mine.c19 h9 | exact Mine.e19 h9 | exact Mine.c20 h9 | exact Mine.e20 h9 | fail "pj")
  k_with "pj1" => (first | exact Mine.c0 (Mine.c0 h9) | exact Mine.c0 (Mine.c1 h9) | exact Mine.c0 (Mine.c2 h9) | exact Mine.c0 (Mine.c3 h9) | exact Mine.c0 (Mine.c4 h9) | exact Mine.c0 (Mine.c5 h9) | exact Mine.c0 (Mine.c6 h9) | exact Mine.c0 (Mine.c7 h9) | exact Mine.c0 (Mine.c8 h9) | exact Mine.c0 (Mine.c9 h9) | exact Mine.c0 (Mine.c10 h9) | exact Mine.c0 (Mine.c11 h9) | exact Mine.c0 (Mine.c12 h9) | exact Mine.c0 (Mine.c13 h9) | exact Mine.c0 (Mine.c14 h9) | exact Mine.c0 (Mine.c15 h9) | exact Mine.c0 (Mine.c16 h9) | exact Mine.c0 (Mine.c17 h9) | exact Mine.c0 (Mine.c18 h9) | exact Mine.c0 (Mine.c19 h9) | exact Mine.c0 (Mine.c20 h9) | fail "pj1")
  k_with "pj2" => (first | exact Mine.c1 (Mine.c0 h9) | exact Mine.c1 (Mine.c1 h9) | exact Mine.c1 (Mine.c2 h9) | exact Mine.c1 (Mine.c3 h9) | exact Mine.c1 (Mine.c4 h9) | exact Mine.c1 (Mine.c5 h9) | exact Mine.c1 (Mine.c6 h9) | exact Mine.c1 (Mine.c7 h9) | exact Mine.c1 (Mine.c8 h9) | exact Mine.c1 (Mine.c9 h9) | exact Mine.c1 (Mine.c10 h9) | exact Mine.c1 (Mine.c11 h9) | exact Mine.c1 (Mine.c12 h9) | exact Mine.c1 (Mine.c13 h9) | exact Mine.c1 (Mine.c14 h9) | exact Mine.c1 (Mine.c15 h9) | exact Mine.c1 (Mine.c16 h9) | exact Mine.c1 (Mine.c17 h9) | exact Mine.c1 (Mine.c18 h9) | exact Mine.c1 (Mine.c19 h9) | exact Mine.c1 (Mine.c20 h9) | fail "pj2")
  k_with "pj3" => (first | exact Mine.e2 (Mine.c0 h9) | exact Mine.e2 (Mine.c1 h9) | exact Mine.e2 (Mine.c2 h9) | exact Mine.e2 (Mine.c3 h9) | exact Mine.e2 (Mine.c4 h9) | exact Mine.e2 (Mine.c5 h9) | exact Mine.e2 (Mine.c6 h9) | exact Mine.e2 (Mine.c7 h9) | exact Mine.e2 (Mine.c8 h9) | exact Mine.e2 (Mine.c9 h9) | exact Mine.e2 (Mine.c10 h9) | exact Mine.e2 (Mine.c11 h9) | exact Mine.e2 (Mine.c12 h9) | exact Mine.e2 (Mine.c13 h9) | exact Mine.e2 (Mine.c14 h9) | exact Mine.e2 (Mine.c15 h9) | exact Mine.e2 (Mine.c16 h9) | exact Mine.e2 (Mine.c17 h9) | exact Mine.e2 (Mine.c18 h9) | exact Mine.e2 (Mine.c19 h9) | exact Mine.e2 (Mine.c20 h9) | fail "pj3")
  k_with "omega" => (first | exact Nat.le_refl _ | decide | with_reducible (first | exact Mine.lim0 (by assumption) | exact Mine.lim1 (by assumption) (by with_unfolding_all rfl) | exact Mine.lim2 (by assumption) (by with_unfolding_all rfl) | exact Mine.lim3 (by assumption) (by with_unfolding_all rfl) | exact Mine.lim8 (by assumption) (by assumption) (by with_unfolding_all rfl) | exact Mine.lim9 (by assumption) (by assumption) (by with_unfolding_all rfl) | exact Mine.lim10 (by assumption) (by assumption) (by with_unfolding_all rfl) | exact Mine.i1 (by assumption) | exact Mine.i2 (by assumption) | exact Mine.i3 (by assumption) | exact Mine.i4 (by assumption) (by with_unfolding_all rfl) | exact Mine.i5 (by assumption) | exact Mine.i6 (by assumption) (by assumption) | exact Mine.i7 (by assumption) (by assumption) | exact Mine.i8 (by assumption) (by assumption) | exact List.length_take_le _ _ | fail "l") | (refine Mine.toNe ?_; with_reducible (first | exact Nat.ne_of_lt (by ((repeat (first | assumption | exact Mine.ltp0 | refine Mine.ltp ?_)); (first | done | fail "c"))) | exact Nat.ne_of_gt (by ((repeat (first | assumption | exact Mine.ltp0 | refine Mine.ltp ?_)); (first | done | fail "c"))) | (refine Nat.ne_of_lt (Mine.viaL (by assumption) ?_); intro h9; k_extra "pj") | (refine Nat.ne_of_gt (Mine.viaL (by assumption) ?_); intro h9; k_extra "pj") | (refine Nat.ne_of_lt (Mine.viaM (by assumption) ?_); intro h9; k_extra "pj") | (refine Nat.ne_of_gt (Mine.viaM (by assumption) ?_); intro h9; k_extra "pj") | assumption | exact Ne.symm (by assumption) | (refine Mine.viaN (by assumption) ?_; intro h9; k_extra "pj") | (refine Ne.symm (Mine.viaN (by assumption) ?_); intro h9; k_extra "pj") | (refine Mine.viaN1 (by assumption) ?_; intro h9; k_extra "pj1") | (refine Ne.symm (Mine.viaN1 (by assumption) ?_); intro h9; k_extra "pj1") | (refine Mine.viaN2 (by assumption) ?_; intro h9; k_extra "pj2") | (refine Ne.symm (Mine.viaN2 (by assumption) ?_); intro h9; k_extra "pj2") | (refine Mine.viaN3 (by assumption) ?_; intro h9; k_extra "pj3") | (refine Ne.symm (Mine.viaN3 (by assumption) ?_); intro h9; k_extra "pj3") | fail "n")) | fail "o")
  trivial
/-- a for over a list of the ledger, whatever it holds -/
theorem iter_any {l : Addr} {vs : List Value} {nn : Nat} {m₀ : Str → Option Value} {news : List (Addr × Obj)} (J : Nat → (Str → Option Value) → List (Addr × Obj) → Prop)
    (hh : A.handled = none) (hl : (l, W.listOf vs.toArray nn) ∈ news) (F : Fr h₀ env.locals s.heap m₀) (N : News h₀ env.locals s.heap news) (hj : J 0 m₀ news)
    (turn : ∀ i v m₁ news₁ h tk own, vs[i]? = some v → news₁.map (·.1) = news.map (·.1) → OwnOff own (news.map (·.1)) → (l, W.listOf vs.toArray nn) ∈ news₁ → J i m₁ news₁ → Fr h₀ env.locals h (fun y => if y = x then some v else m₁ y) → News h₀ env.locals h (news₁ ++ own) →
      wpAny (model prog w) A (execs body env) (InvPostN h₀ env.locals (fun m' nx => (l, W.listOf vs.toArray nn) ∈ nx ∧ J (i + 1) m' nx) own (news.map (·.1)) { s with heap := h, toks := tk } Q) E { s with heap := h, toks := tk })
    (done : ∀ m₁ news₁ h tk, news₁.map (·.1) = news.map (·.1) → (l, W.listOf vs.toArray nn) ∈ news₁ → J vs.length m₁ news₁ → Fr h₀ env.locals h m₁ → News h₀ env.locals h news₁ → Q .next { s with heap := h, toks := tk }) :
    wpAny (model prog w) A (pyIter (.ref l)) (fun it s₂ => LoopAtV prog w A h₀ env x body Q E it s₂) E s := by
  have hol : s.heap.get? l = some (W.listOf vs.toArray nn) := (N _ hl).1
  have hls : s.heap.IsList l vs.toArray := ⟨_, hol, rfl, nn, rfl⟩
  have hne : l ≠ s.heap.objs.size := Nat.ne_of_lt (Heap.lt_size hol)
  have newI : ∀ p ∈ news, p.1 ≠ s.heap.objs.size := fun p hp => Nat.ne_of_lt (Heap.lt_size (N p hp).1)
  refine wpAny_pyIter_list hls ?_
  have Wk := Walks.list (prog := prog) (w := w) hh s.heap.objs.size l hne vs.toArray
  rw [List.size_toArray] at Wk
  refine ⟨_, _, _, vs.length, _, _, m₀, news, (fun i m nx => nx.map (·.1) = news.map (·.1) ∧ (l, W.listOf vs.toArray nn) ∈ nx ∧ J i m nx), rfl, Wk, ?_, ?_, ?_,
    ⟨⟨_, Heap.get?_push_size _ rfl, rfl, rfl⟩, hls.at fun o e => Heap.get?_push_of_some _ e⟩, F.push _, (fun p hp => ⟨Heap.get?_push_of_some _ (N p hp).1, (N p hp).2⟩), ⟨rfl, hl, hj⟩, ?_, ?_⟩
  · intro hm
    rcases List.mem_cons.mp hm with e | hm
    · exact absurd F.ns.lt (e ▸ Nat.lt_irrefl _)
    · exact (N _ hl).2.1 ((List.mem_singleton.mp hm).symm)
  · intro b hb
    rw [List.mem_singleton.mp hb]
    exact next_is_new F
  · exact fun p hp hI => newI p hp (List.mem_singleton.mp hI)
  · rintro i v m₁ news₁ s₁ own ⟨hh', tk', rfl⟩ hin hP ⟨hadr, hl₁, hJ⟩ _ hown hget _ _ F₁ N₁
    have hsep : OwnOff (own.filter fun p => decide (p.1 = s.heap.objs.size)) (news.map (·.1)) := by
      intro p hp b hb e
      obtain ⟨q, hq, rfl⟩ := List.mem_map.mp hb
      exact newI q hq (by rw [← e]; simpa using (List.mem_filter.mp hp).2)
    have hv : vs[i]? = some v := by simpa using hP
    have N₂ : News h₀ env.locals hh' (news₁ ++ own.filter fun p => decide (p.1 = s.heap.objs.size)) := fun p hp =>
      N₁ p ((List.mem_append.mp hp).elim (fun h => List.mem_append.mpr (.inr h)) fun h => List.mem_append.mpr (.inl ((List.mem_filter.mp h).1)))
    have hlo : hh'.get? l = some (W.listOf vs.toArray nn) := (N₁ _ (List.mem_append.mpr (.inr hl₁))).1
    have fin : ∀ s₂, InvEndN h₀ env.locals (fun m' nx => (l, W.listOf vs.toArray nn) ∈ nx ∧ J (i + 1) m' nx) (own.filter fun p => decide (p.1 = s.heap.objs.size)) (news.map (·.1)) { s with heap := hh', toks := tk' } s₂ →
        LoopStepU h₀ env.locals [s.heap.objs.size] own (fun m nx => nx.map (·.1) = news.map (·.1) ∧ (l, W.listOf vs.toArray nn) ∈ nx ∧ J (i + 1) m nx) { s with heap := hh', toks := tk' } .next s₂ := by
      rintro s₂ ⟨h', tk, m', news', nx, e, F', N', hn, ho, ha, hm⟩
      refine ⟨rfl, h', tk, m', nx, e, F', fun p hp => ?_, fun p hp hI => ?_, ha, hm⟩
      · rcases List.mem_append.mp hp with h | h
        · rcases List.mem_cons.mp (hown p h) with h2 | h2
          · exact N' p (ho p (List.mem_filter.mpr ⟨h, by simpa using h2⟩))
          · have h1 : p.1 = l := List.mem_singleton.mp h2
            have h2 : hh'.get? p.1 = some p.2 := hget p h
            rw [h1, hlo] at h2
            have h3 : p = (l, W.listOf vs.toArray nn) := Prod.ext h1 (Option.some.inj h2).symm
            rw [h3]
            exact N' _ (hn _ hm.1)
        · exact N' p (hn p h)
      · have h1 : p.1 ∈ nx.map (·.1) := List.mem_map.mpr ⟨p, hp, rfl⟩
        rw [ha] at h1
        obtain ⟨q, hq, e⟩ := List.mem_map.mp h1
        exact newI q hq (by rw [e]; exact List.mem_singleton.mp hI)
    refine wpAny_mono (turn i v m₁ news₁ hh' tk' _ hv hadr hsep hl₁ hJ F₁ N₂) (fun f s₂ p => ?_) fun _ _ e => e
    cases f with
    | ret v => exact .ret p
    | brk => exact .brk p
    | next => exact .next (fin _ p)
    | cont => exact .cont (fin _ p)
  · rintro h' tk m' news' F' N' _ ⟨ha, hl', hJ⟩
    exact done m' news' h' tk ha hl' hJ F' N'
end
end
section
open PySem.SeqRoads2
theorem reg_Lists_1 : True := by
  w_top off
  k_with_none
  k_with "pj" => (first | exact Mine.c0 h9 | exact Mine.c1 h9 | exact Mine.e1 h9 | exact Mine.c2 h9 | exact Mine.e2 h9 | exact Mine.c3 h9 | exact Mine.e3 h9 | exact Mine.c4 h9 | exact Mine.e4 h9 | exact Mine.c5 h9 | exact Mine.e5 h9 | exact Mine.c6 h9 | exact Mine.e6 h9 | exact Mine.c7 h9 | exact Mine.e7 h9 | exact Mine.c8 h9 | exact Mine.e8 h9 | exact Mine.c9 h9 | exact Mine.e9 h9 | exact Mine.c10 h9 | exact Mine.e10 h9 | exact Mine.c11 h9 | exact Mine.e11 h9 | exact Mine.c12 h9 | exact Mine.e12 h9 | exact Mine.c13 h9 | exact Mine.e13 h9 | exact Mine.c14 h9 | exact Mine.e14 h9 | exact Mine.c15 h9 | exact Mine.e15 h9 | exact Mine.c16 h9 | exact Mine.e16 h9 | exact Mine.c17 h9 | exact Mine.e17 h9 | exact Mine.c18 h9 | exact Mine.e18 h9 | exact Mine.c19 h9 | exact Mine.e19 h9 | exact Mine.c20 h9 | exact Mine.e20 h9 | fail "pj")
  k_with "pj1" => (first | exact Mine.c0 (Mine.c0 h9) | exact Mine.c0 (Mine.c1 h9) | exact Mine.c0 (Mine.c2 h9) | exact Mine.c0 (Mine.c3 h9) | exact Mine.c0 (Mine.c4 h9) | exact Mine.c0 (Mine.c5 h9) | exact Mine.c0 (Mine.c6 h9) | exact Mine.c0 (Mine.c7 h9) | exact Mine.c0 (Mine.c8 h9) | exact Mine.c0 (Mine.c9 h9) | exact Mine.c0 (Mine.c10 h9) | exact Mine.c0 (Mine.c11 h9) | exact Mine.c0 (Mine.c12 h9) | exact Mine.c0 (Mine.c13 h9) | exact Mine.c0 (Mine.c14 h9) | exact Mine.c0 (Mine.c15 h9) | exact Mine.c0 (Mine.c16 h9) | exact Mine.c0 (Mine.c17 h9) | exact Mine.c0 (Mine.c18 h9) | exact Mine.c0 (Mine.c19 h9) | exact Mine.c0 (Mine.c20 h9) | fail "pj1")
  k_with "pj2" => (first | exact Mine.c1 (Mine.c0 h9) | exact Mine.c1 (Mine.c1 h9) | exact Mine.c1 (Mine.c2 h9) | exact Mine.c1 (Mine.c3 h9) | exact Mine.c1 (Mine.c4 h9) | exact Mine.c1 (Mine.c5 h9) | exact Mine.c1 (Mine.c6 h9) | exact Mine.c1 (Mine.c7 h9) | exact Mine.c1 (Mine.c8 h9) | exact Mine.c1 (Mine.c9 h9) | exact Mine.c1 (Mine.c10 h9) | exact Mine.c1 (Mine.c11 h9) | exact Mine.c1 (Mine.c12 h9) | exact Mine.c1 (Mine.c13 h9) | exact Mine.c1 (Mine.c14 h9) | exact Mine.c1 (Mine.c15 h9) | exact Mine.c1 (Mine.c16 h9) | exact Mine.c1 (Mine.c17 h9) | exact Mine.c1 (Mine.c18 h9) | exact Mine.c1 (Mine.c19 h9) | exact Mine.c1 (Mine.c20 h9) | fail "pj2")
  k_with "pj3" => (first | exact Mine.e2 (Mine.c0 h9) | exact Mine.e2 (Mine.c1 h9) | exact Mine.e2 (Mine.c2 h9) | exact Mine.e2 (Mine.c3 h9) | exact Mine.e2 (Mine.c4 h9) | exact Mine.e2 (Mine.c5 h9) | exact Mine.e2 (Mine.c6 h9) | exact Mine.e2 (Mine.c7 h9) | exact Mine.e2 (Mine.c8 h9) | exact Mine.e2 (Mine.c9 h9) | exact Mine.e2 (Mine.c10 h9) | exact Mine.e2 (Mine.c11 h9) | exact Mine.e2 (Mine.c12 h9) | exact Mine.e2 (Mine.c13 h9) | exact Mine.e2 (Mine.c14 h9) | exact Mine.e2 (Mine.c15 h9) | exact Mine.e2 (Mine.c16 h9) | exact Mine.e2 (Mine.c17 h9) | exact Mine.e2 (Mine.c18 h9) | exact Mine.e2 (Mine.c19 h9) | exact Mine.e2 (Mine.c20 h9) | fail "pj3")
  k_with "omega" => (first | exact Nat.le_refl _ | decide | with_reducible (first | exact Mine.lim0 (by assumption) | exact Mine.lim1 (by assumption) (by with_unfolding_all rfl) | exact Mine.lim2 (by assumption) (by with_unfolding_all rfl) | exact Mine.lim3 (by assumption) (by with_unfolding_all rfl) | exact Mine.lim8 (by assumption) (by assumption) (by with_unfolding_all rfl) | exact Mine.lim9 (by assumption) (by assumption) (by with_unfolding_all rfl) | exact Mine.lim10 (by assumption) (by assumption) (by with_unfolding_all rfl) | exact Mine.i1 (by assumption) | exact Mine.i2 (by assumption) | exact Mine.i3 (by assumption) | exact Mine.i4 (by assumption) (by with_unfolding_all rfl) | exact Mine.i5 (by assumption) | exact Mine.i6 (by assumption) (by assumption) | exact Mine.i7 (by assumption) (by assumption) | exact Mine.i8 (by assumption) (by assumption) | exact List.length_take_le _ _ | fail "l") | (refine Mine.toNe ?_; with_reducible (first | exact Nat.ne_of_lt (by ((repeat (first | assumption | exact Mine.ltp0 | refine Mine.ltp ?_)); (first | done | fail "c"))) | exact Nat.ne_of_gt (by ((repeat (first | assumption | exact Mine.ltp0 | refine Mine.ltp ?_)); (first | done | fail "c"))) | (refine Nat.ne_of_lt (Mine.viaL (by assumption) ?_); intro h9; k_extra "pj") | (refine Nat.ne_of_gt (Mine.viaL (by assumption) ?_); intro h9; k_extra "pj") | (refine Nat.ne_of_lt (Mine.viaM (by assumption) ?_); intro h9; k_extra "pj") | (refine Nat.ne_of_gt (Mine.viaM (by assumption) ?_); intro h9; k_extra "pj") | assumption | exact Ne.symm (by assumption) | (refine Mine.viaN (by assumption) ?_; intro h9; k_extra "pj") | (refine Ne.symm (Mine.viaN (by assumption) ?_); intro h9; k_extra "pj") | (refine Mine.viaN1 (by assumption) ?_; intro h9; k_extra "pj1") | (refine Ne.symm (Mine.viaN1 (by assumption) ?_); intro h9; k_extra "pj1") | (refine Mine.viaN2 (by assumption) ?_; intro h9; k_extra "pj2") | (refine Ne.symm (Mine.viaN2 (by assumption) ?_); intro h9; k_extra "pj2") | (refine Mine.viaN3 (by assumption) ?_; intro h9; k_extra "pj3") | (refine Ne.symm (Mine.viaN3 (by assumption) ?_); intro h9; k_extra "pj3") | fail "n")) | fail "o")
  trivial
theorem newsSub {h₀ h : Heap} {L : Addr} {news news' : List (Addr × Obj)} (N : News h₀ L h news') (hs : ∀ p ∈ news, p ∈ news') : News h₀ L h news := fun p hp => N p (hs p hp)
theorem raisedSub {base G h : Heap} {l : List Env} {e : Addr} {cls : Value} {news news' : List (Addr × Obj)} (R : RaisedSN base G l e cls news' h) (hs : ∀ p ∈ news, p ∈ news') : RaisedSN base G l e cls news h := by
  obtain ⟨B, a0, h1, h2, h3, h4⟩ := R
  exact ⟨B, a0, h1, h2, fun q hq => h3 q (hs q hq), h4⟩
theorem seg_next {α : Type} (os : List α) {ad n : Int} {i : Nat} (h1 : 0 ≤ ad) (h3 : 0 ≤ n) :
    (os.drop ad.toNat).take ((i + 1) * n.toNat) = (os.drop ad.toNat).take (i * n.toNat) ++ (os.drop (ad + i * n).toNat).take (ad + i * n + n - (ad + i * n)).toNat := by
  have e2 : (ad + i * n + n - (ad + i * n)).toNat = n.toNat := by congr 1; omega
  have e1 : (ad + i * n).toNat = ad.toNat + i * n.toNat := by
    obtain ⟨a, rfl⟩ := Int.eq_ofNat_of_zero_le h1
    obtain ⟨b, rfl⟩ := Int.eq_ofNat_of_zero_le h3
    show ((a : Int) + i * b).toNat = a + i * b
    rw [← Int.natCast_mul, ← Int.natCast_add, Int.toNat_natCast]
  rw [e1, e2, Nat.add_mul, Nat.one_mul, List.take_add, List.drop_drop]
theorem pick_mid {vs : List Value} {a b : Int} (h0 : 0 ≤ a) (hab : a ≤ b) (hb : b ≤ vs.length) : slicePick vs.toArray (some a) (some b) none = ((vs.drop a.toNat).take (b - a).toNat).toArray := by
  have e : sliceBounds (some a) (some b) none vs.toArray.size = ((a.toNat : Int), (b.toNat : Int), 1) := by
    have e1 : (a.toNat : Int) = a := Int.toNat_of_nonneg h0
    have e2 : (b.toNat : Int) = b := Int.toNat_of_nonneg (by omega)
    simp only [sliceBounds, Option.getD_none, show (1 : Int) > 0 by decide, if_true, if_neg (show ¬ (a < 0) by omega), if_neg (show ¬ (b < 0) by omega), List.size_toArray]
    rw [e1, e2]
    congr 1
    · omega
    · congr 1; omega
  rw [kmk_pick_nat _ e, show (b - a).toNat = b.toNat - a.toNat by omega]
theorem pick_to {vs : List Value} {b : Int} (h0 : 0 ≤ b) (hb : b ≤ vs.length) : slicePick vs.toArray none (some b) none = (vs.take b.toNat).toArray := by
  have e : sliceBounds none (some b) none vs.toArray.size = (((0 : Nat) : Int), (b.toNat : Int), 1) := by
    have e2 : (b.toNat : Int) = b := Int.toNat_of_nonneg h0
    simp only [sliceBounds, Option.getD_none, show (1 : Int) > 0 by decide, if_true, if_neg (show ¬ (b < 0) by omega), List.size_toArray]
    rw [e2]
    congr 1
    congr 1; omega
  rw [kmk_pick_nat _ e, Nat.sub_zero, List.drop_zero]
section
variable {prog : Program} {w : World} {A : Around} {E : Value → Shared → Prop} {s : Shared} {h₀ : Heap} {L l : Addr} {m : Str → Option Value} {news : List (Addr × Obj)} {value slice : PySem.Expr} {vs : List Value} {os : List (Option Str)} {c : Nat} {Q : Value → Shared → Prop}
theorem cut_mid {a b : Int} {ta tb : Tok} (F : Fr h₀ L s.heap m) (N : News h₀ L s.heap news) (hl : (l, W.listOf vs.toArray c) ∈ news) (h0 : 0 ≤ a) (hab : a ≤ b) (hb : b ≤ vs.length)
    (h : ∀ D h', Fr h₀ L h' m → News h₀ L h' ((D, W.listOf ((vs.drop a.toNat).take (b - a).toNat).toArray 0) :: news) → (∀ p ∈ news, p.1 < D) → Q (.ref D) { s with heap := h' })
    (hs : subscripted slice false (.ref l) (.ref s.heap.objs.size) = operate [.ref s.heap.objs.size, .ref l] (getItem (.ref l) (.ref s.heap.objs.size))) (ht : ∀ r, letTemporaryGo value (.ref l) r = pure ()) (hz : vs.length ≤ sizeLine) :
    wpAny (model prog w) A (subscriptTail value slice (.ref l) (.ref s.heap.objs.size)) Q E { s with heap := s.heap.push { cls := .type "slice", data := .fields #[.int a ta, .int b tb, .none] } } := by
  refine kmk_slice F N (News.isList N hl) (.int a ta) (.int b tb) (fun D h' F' N' l1 => h D h' F' ?_ l1) hs ht (by rw [List.size_toArray]; exact hz)
  rw [pick_mid h0 hab hb] at N'; exact N'
theorem cut_to {b : Int} {tb : Tok} (F : Fr h₀ L s.heap m) (N : News h₀ L s.heap news) (hl : (l, W.listOf vs.toArray c) ∈ news) (h0 : 0 ≤ b) (hb : b ≤ vs.length)
    (h : ∀ D h', Fr h₀ L h' m → News h₀ L h' ((D, W.listOf (vs.take b.toNat).toArray 0) :: news) → (∀ p ∈ news, p.1 < D) → Q (.ref D) { s with heap := h' })
    (hs : subscripted slice false (.ref l) (.ref s.heap.objs.size) = operate [.ref s.heap.objs.size, .ref l] (getItem (.ref l) (.ref s.heap.objs.size))) (ht : ∀ r, letTemporaryGo value (.ref l) r = pure ()) (hz : vs.length ≤ sizeLine) :
    wpAny (model prog w) A (subscriptTail value slice (.ref l) (.ref s.heap.objs.size)) Q E { s with heap := s.heap.push { cls := .type "slice", data := .fields #[.none, .int b tb, .none] } } := by
  refine kmk_slice F N (News.isList N hl) .none (.int b tb) (fun D h' F' N' l1 => h D h' F' ?_ l1) hs ht (by rw [List.size_toArray]; exact hz)
  rw [pick_to h0 hb] at N'; exact N'
theorem ext_any {D b : Addr} {ys zs : List Value} {n n2 : Nat} {g : Obj → List (Addr × Obj)} (F : Fr h₀ L s.heap m) (N : News h₀ L s.heap news) (U : UpdF D (W.listOf ys.toArray n) news g) (hb : (b, W.listOf zs.toArray n2) ∈ news) (hz : ys.length + zs.length ≤ sizeLine)
    (h : ∀ h' n', Fr h₀ L h' m → News h₀ L h' (g (W.listOf (ys ++ zs).toArray n')) → Q .none { s with heap := h' }) :
    wpAny (model prog w) A (call (.builtin "list.extend") [.ref D, .ref b]) Q E s := by
  obtain ⟨pre, post, rfl, hg, h1, h2⟩ := U.split
  refine extend_in F N h1 h2 (N _ hb).1 (fun h' n' F' N' => h h' n' F' ?_) (by simpa using hz)
  rw [hg]; exact N'
theorem eqg_str_none (c : Str) (t : Tok) : MeetsSeq.EqGives (.str c t) .none false := by
  intro prog w A E s Q h
  unfold eqBool
  refine wpAny_holding ?_
  refine wpAny_ite_split (fun hab => absurd hab (by intro q; cases eq_of_beq q)) (fun hab => ?_)
  exact wpAny_bind (EqNone.eq_str_none (wpAny_truthy_bool h))
theorem eqg_none_none : MeetsSeq.EqGives .none .none true := by
  intro prog w A E s Q h
  unfold eqBool
  refine wpAny_holding ?_
  refine wpAny_ite_split (fun _ => wpAny_bind (wpAny_rule (wpAny_pure h))) (fun hab => absurd rfl hab)
def isNone : Value → Bool
  | .none => true
  | _ => false
theorem sg_eqg {v : Value} {o : Option Str} (h : Sg v o) : MeetsSeq.EqGives v .none (isNone v) := by
  cases h with
  | none => exact eqg_none_none
  | some c t _ => exact eqg_str_none c t
theorem Sgs.mem {vs : List Value} {os : List (Option Str)} (h : Sgs vs os) : ∀ v ∈ vs, ∃ o, Sg v o := by
  induction h with
  | nil => intro v hv; cases hv
  | cons a _ ih => intro v hv; rcases List.mem_cons.mp hv with rfl | hv; exact ⟨_, a⟩; exact ih v hv
theorem Sgs.any {vs : List Value} {os : List (Option Str)} (h : Sgs vs os) : vs.any isNone = os.any (·.isNone) := by
  induction h with
  | nil => rfl
  | cons a _ ih => cases a <;> simp [isNone, ih]
theorem in_none {b : Bool} (N : News h₀ L s.heap news) (hl : (l, W.listOf vs.toArray c) ∈ news) (hS : Sgs vs os) (hb : os.any (·.isNone) = b) (h : Q (.bool b) s) : wpAny (model prog w) A (compareOp .In .none (.ref l)) Q E s :=
  SeqInW.in_listW isNone (fun y hy => (hS.mem y (by simpa using hy)).elim fun o => sg_eqg) (News.isList N hl) (by rw [← Array.any_toList]; show Q (.bool (vs.any isNone)) s; rw [hS.any, hb]; exact h)

theorem index_none {k : Nat} (N : News h₀ L s.heap news) (hl : (l, W.listOf vs.toArray c) ∈ news) (hS : Sgs vs os) (hk : k < vs.length) (hz : vs.length ≤ 1000) (hit : isNone vs[k] = true) (hno : ∀ m (hm : m < vs.length), m < k → isNone vs[m] = false)
    (h : Q (.int k s.toks) { s with toks := s.toks + 1 }) : wpAny (model prog w) A (call (.builtin "list.index") [.ref l, .none]) Q E s := by
  have ho := (N _ hl).1
  refine call_meets PySem.F.slot_list_index ⟨_, ho, rfl⟩ PySem.F.entry_list_index (PySem.F.args_list_index_2 _ _)
    (PySem.SeqAt.list_indexAt l vs.toArray c none #[] .none isNone k (by simpa using hk) (by omega) ?_ ?_) ⟨ho, fun y hy => ((hS.mem y (by simpa using hy)).elim fun o ho => sg_eqg ho).at _ _, h⟩
  · simpa using hit
  · intro m hm hlt; simpa using hno m (by simpa using hm) hlt
theorem eq_nil {e : Addr} {ce : Nat} {b : Bool} (N : News h₀ L s.heap news) (hl : (l, W.listOf vs.toArray c) ∈ news) (he : (e, W.listOf [].toArray ce) ∈ news) (hu : A.units < cLine)
    (hb : vs.isEmpty = b) (h : Q (.bool b) s) : wpAny (model prog w) A (compareOp .Eq (.ref l) (.ref e)) Q E s := by
  subst hb
  cases vs with
  | nil => exact PySem.SeqAt.eq_listAt (e := fun _ => true) (News.isList N hl) (News.isList N he) rfl hu (fun j h1 _ => by simp at h1) h
  | cons v r => exact PySem.SeqAt.eq_list_lengthsAt (News.isList N hl) (News.isList N he) (by simp) hu h
end
/-- the leading signs that are defined -/
def upTo : List (Option Str) → List Str
  | .some c :: r => c :: upTo r
  | _ => []
def lead (os : List (Option Str)) : Str := (upTo os).foldl (· ++ ·) Str.empty
theorem glue_nil (l : List Str) : ∀ x : Str, l.foldl (fun acc p => acc ++ (Str.ofString "").cps ++ p.cps) x.cps = (l.foldl (· ++ ·) x).cps := by
  induction l with
  | nil => intro x; rfl
  | cons a r ih =>
    intro x
    have e : x.cps ++ (Str.ofString "").cps ++ a.cps = (x ++ a).cps := by
      show x.cps ++ #[] ++ a.cps = x.cps ++ a.cps
      rw [Array.append_empty]
    rw [List.foldl_cons, List.foldl_cons, e]
    exact ih _
theorem join_lead (l : List Str) : Txt.join (Str.ofString "") l = l.foldl (· ++ ·) Str.empty := by
  cases l with
  | nil => rfl
  | cons a r =>
    show Str.mk (r.foldl (fun acc p => acc ++ (Str.ofString "").cps ++ p.cps) a.cps) = _
    rw [glue_nil r a, List.foldl_cons]
    have e : Str.empty ++ a = a := by
      show Str.mk (#[] ++ a.cps) = a
      rw [Array.empty_append]
    rw [e]
theorem strs_empty {vs : List Value} {ys : List Str} (h : StrsAre vs ys) : vs.isEmpty = ys.isEmpty := by cases h <;> rfl
theorem strs_len {vs : List Value} {ys : List Str} (h : StrsAre vs ys) : vs.length = ys.length := by
  induction h with
  | nil => rfl
  | cons _ _ _ ih => simp [ih]
theorem sum_ones {l : List Str} (h : ∀ c ∈ l, c.length = 1) : (l.map (·.length)).sum = l.length := by
  induction l with
  | nil => rfl
  | cons a r ih => rw [List.map_cons, List.sum_cons, h a List.mem_cons_self, ih fun c hc => h c (List.mem_cons_of_mem _ hc), List.length_cons]; omega
theorem join_any {prog : Program} {w : World} {A : Around} {E : Value → Shared → Prop} {s : Shared} {h₀ : Heap} {L l : Addr} {news : List (Addr × Obj)} {vs : List Value} {ys : List Str} {c : Nat} {t : Tok} {Q : Value → Shared → Prop}
    (N : News h₀ L s.heap news) (hl : (l, W.listOf vs.toArray c) ∈ news) (hi : StrsAre vs ys) (h1 : ∀ c ∈ ys, c.length = 1) (hz : ys.length ≤ 1000)
    (h : ∀ t' k, Q (.str (ys.foldl (· ++ ·) Str.empty) t') { s with toks := k }) : wpAny (model prog w) A (call (.builtin "str.join") [.str (Str.ofString "") t, .ref l]) Q E s := by
  refine join_list (News.isList N hl) hi ?_ fun t' k => by rw [join_lead]; exact h t' k
  have e : (Str.ofString "").length = 0 := rfl
  rw [sum_ones h1, e]; omega
theorem upTo_none {vs : List Value} {os : List (Option Str)} (h : Sgs vs os) (hn : os.any (·.isNone) = false) : StrsAre vs (upTo os) := by
  induction h with
  | nil => exact .nil
  | cons a _ ih =>
    cases a with
    | none => simp at hn
    | some c t _ => exact .cons c t (ih (by simpa using hn))
/-- where the first undefined sign stands, and what is ahead of it -/
theorem upTo_some {vs : List Value} {os : List (Option Str)} (h : Sgs vs os) (hn : os.any (·.isNone) = true) :
    ∃ k, ∃ hk : k < vs.length, isNone vs[k] = true ∧ (∀ m (hm : m < vs.length), m < k → isNone vs[m] = false) ∧ StrsAre (vs.take k) (upTo os) := by
  induction h with
  | nil => simp at hn
  | cons a _ ih =>
    cases a with
    | none => exact ⟨0, by simp, rfl, fun m _ h => absurd h (Nat.not_lt_zero m), .nil⟩
    | some c t _ =>
      obtain ⟨k, hk, h1, h2, h3⟩ := ih (by simpa using hn)
      refine ⟨k + 1, by simpa using hk, by simpa using h1, fun m hm hlt => ?_, .cons c t h3⟩
      cases m with
      | zero => rfl
      | succ m => simpa using h2 m (by simpa using hm) (by omega)
theorem upTo_len {os : List (Option Str)} : ∀ {vs : List Value}, Sgs vs os → (∀ c ∈ upTo os, c.length = 1) ∧ (upTo os).length ≤ vs.length := by
  intro vs h
  induction h with
  | nil => exact ⟨fun c h => (nomatch h), Nat.le_refl _⟩
  | cons a _ ih =>
    cases a with
    | none => exact ⟨fun c h => (nomatch h), Nat.zero_le _⟩
    | some c t h1 =>
      refine ⟨fun d hd => ?_, by simpa [upTo] using ih.2⟩
      rcases List.mem_cons.mp hd with rfl | hd
      · exact h1
      · exact ih.1 d hd
end
local macro_rules | `(tactic| walk_at "tl2332102") => `(tactic| (intro _ _ _ _ l1; (try k_lt l1)))
local macro_rules | `(tactic| walk_at "tl262cc1d") => `(tactic| (intro _ _ _ N'; (try dsimp only at N')))
section
/-- c places of n signs each, one behind another from ad on -/
def PlAt (news : List (Addr × Obj)) (ps : List Value) (ad n : Int) (c : Nat) : Prop :=
  ps.length = c ∧ ∀ (i : Nat) v, ps[i]? = some v → ∃ r t0 t1 t2 em, v = .ref r ∧ (r, tupO [.int 5 t0, .int (ad + i * n) t1, .int n t2, .ref em]) ∈ news
section
theorem reg_Lead1_1 : True := by
  w_top off
  k_with_none
  k_with "pj" => (first | exact Mine.c0 h9 | exact Mine.c1 h9 | exact Mine.e1 h9 | exact Mine.c2 h9 | exact Mine.e2 h9 | exact Mine.c3 h9 | exact Mine.e3 h9 | exact Mine.c4 h9 | exact Mine.e4 h9 | exact Mine.c5 h9 | exact Mine.e5 h9 | exact Mine.c6 h9 | exact Mine.e6 h9 | exact Mine.c7 h9 | exact Mine.e7 h9 | exact Mine.c8 h9 | exact Mine.e8 h9 | exact Mine.c9 h9 | exact Mine.e9 h9 | exact Mine.c10 h9 | exact Mine.e10 h9 | exact Mine.c11 h9 | exact Mine.e11 h9 | exact Mine.c12 h9 | exact Mine.e12 h9 | exact Mine.c13 h9 | exact Mine.e13 h9 | exact Mine.c14 h9 | exact Mine.e14 h9 | exact Mine.c15 h9 | exact Mine.e15 h9 | exact Mine.c16 h9 | exact Mine.e16 h9 | exact Mine.c17 h9 | exact Mine.e17 h9 | exact Mine.c18 h9 | exact Mine.e18 h9 | exact Mine.c19 h9 | exact Mine.e19 h9 | exact Mine.c20 h9 | exact Mine.e20 h9 | fail "pj")
  k_with "pj1" => (first | exact Mine.c0 (Mine.c0 h9) | exact Mine.c0 (Mine.c1 h9) | exact Mine.c0 (Mine.c2 h9) | exact Mine.c0 (Mine.c3 h9) | exact Mine.c0 (Mine.c4 h9) | exact Mine.c0 (Mine.c5 h9) | exact Mine.c0 (Mine.c6 h9) | exact Mine.c0 (Mine.c7 h9) | exact Mine.c0 (Mine.c8 h9) | exact Mine.c0 (Mine.c9 h9) | exact Mine.c0 (Mine.c10 h9) | exact Mine.c0 (Mine.c11 h9) | exact Mine.c0 (Mine.c12 h9) | exact Mine.c0 (Mine.c13 h9) | exact Mine.c0 (Mine.c14 h9) | exact Mine.c0 (Mine.c15 h9) | exact Mine.c0 (Mine.c16 h9) | exact Mine.c0 (Mine.c17 h9) | exact Mine.c0 (Mine.c18 h9) | exact Mine.c0 (Mine.c19 h9) | exact Mine.c0 (Mine.c20 h9) | fail "pj1")
  k_with "pj2" => (first | exact Mine.c1 (Mine.c0 h9) | exact Mine.c1 (Mine.c1 h9) | exact Mine.c1 (Mine.c2 h9) | exact Mine.c1 (Mine.c3 h9) | exact Mine.c1 (Mine.c4 h9) | exact Mine.c1 (Mine.c5 h9) | exact Mine.c1 (Mine.c6 h9) | exact Mine.c1 (Mine.c7 h9) | exact Mine.c1 (Mine.c8 h9) | exact Mine.c1 (Mine.c9 h9) | exact Mine.c1 (Mine.c10 h9) | exact Mine.c1 (Mine.c11 h9) | exact Mine.c1 (Mine.c12 h9) | exact Mine.c1 (Mine.c13 h9) | exact Mine.c1 (Mine.c14 h9) | exact Mine.c1 (Mine.c15 h9) | exact Mine.c1 (Mine.c16 h9) | exact Mine.c1 (Mine.c17 h9) | exact Mine.c1 (Mine.c18 h9) | exact Mine.c1 (Mine.c19 h9) | exact Mine.c1 (Mine.c20 h9) | fail "pj2")
  k_with "pj3" => (first | exact Mine.e2 (Mine.c0 h9) | exact Mine.e2 (Mine.c1 h9) | exact Mine.e2 (Mine.c2 h9) | exact Mine.e2 (Mine.c3 h9) | exact Mine.e2 (Mine.c4 h9) | exact Mine.e2 (Mine.c5 h9) | exact Mine.e2 (Mine.c6 h9) | exact Mine.e2 (Mine.c7 h9) | exact Mine.e2 (Mine.c8 h9) | exact Mine.e2 (Mine.c9 h9) | exact Mine.e2 (Mine.c10 h9) | exact Mine.e2 (Mine.c11 h9) | exact Mine.e2 (Mine.c12 h9) | exact Mine.e2 (Mine.c13 h9) | exact Mine.e2 (Mine.c14 h9) | exact Mine.e2 (Mine.c15 h9) | exact Mine.e2 (Mine.c16 h9) | exact Mine.e2 (Mine.c17 h9) | exact Mine.e2 (Mine.c18 h9) | exact Mine.e2 (Mine.c19 h9) | exact Mine.e2 (Mine.c20 h9) | fail "pj3")
  k_with "omega" => (first | exact Nat.le_refl _ | decide | with_reducible (first | exact Mine.lim0 (by assumption) | exact Mine.lim1 (by assumption) (by with_unfolding_all rfl) | exact Mine.lim2 (by assumption) (by with_unfolding_all rfl) | exact Mine.lim3 (by assumption) (by with_unfolding_all rfl) | exact Mine.lim8 (by assumption) (by assumption) (by with_unfolding_all rfl) | exact Mine.lim9 (by assumption) (by assumption) (by with_unfolding_all rfl) | exact Mine.lim10 (by assumption) (by assumption) (by with_unfolding_all rfl) | exact Mine.i1 (by assumption) | exact Mine.i2 (by assumption) | exact Mine.i3 (by assumption) | exact Mine.i4 (by assumption) (by with_unfolding_all rfl) | exact Mine.i5 (by assumption) | exact Mine.i6 (by assumption) (by assumption) | exact Mine.i7 (by assumption) (by assumption) | exact Mine.i8 (by assumption) (by assumption) | exact List.length_take_le _ _ | fail "l") | (refine Mine.toNe ?_; with_reducible (first | exact Nat.ne_of_lt (by ((repeat (first | assumption | exact Mine.ltp0 | refine Mine.ltp ?_)); (first | done | fail "c"))) | exact Nat.ne_of_gt (by ((repeat (first | assumption | exact Mine.ltp0 | refine Mine.ltp ?_)); (first | done | fail "c"))) | (refine Nat.ne_of_lt (Mine.viaL (by assumption) ?_); intro h9; k_extra "pj") | (refine Nat.ne_of_gt (Mine.viaL (by assumption) ?_); intro h9; k_extra "pj") | (refine Nat.ne_of_lt (Mine.viaM (by assumption) ?_); intro h9; k_extra "pj") | (refine Nat.ne_of_gt (Mine.viaM (by assumption) ?_); intro h9; k_extra "pj") | assumption | exact Ne.symm (by assumption) | (refine Mine.viaN (by assumption) ?_; intro h9; k_extra "pj") | (refine Ne.symm (Mine.viaN (by assumption) ?_); intro h9; k_extra "pj") | (refine Mine.viaN1 (by assumption) ?_; intro h9; k_extra "pj1") | (refine Ne.symm (Mine.viaN1 (by assumption) ?_); intro h9; k_extra "pj1") | (refine Mine.viaN2 (by assumption) ?_; intro h9; k_extra "pj2") | (refine Ne.symm (Mine.viaN2 (by assumption) ?_); intro h9; k_extra "pj2") | (refine Mine.viaN3 (by assumption) ?_; intro h9; k_extra "pj3") | (refine Ne.symm (Mine.viaN3 (by assumption) ?_); intro h9; k_extra "pj3") | fail "n")) | fail "o")
  k_with "k_all" => (first | (assumption) | fail "no")
  k_with "k_mem" => (first | (assumption) | fail "no")
  k_with "news_mem" => (first | (k_mem) | fail "no")
  k_with "exec Raise some none" => (first | (k_here; refine raise_open rfl ?_) | fail "no")
  k_with "call ref" => (first | (k_here; (with_reducible show wpAny _ _ (call (Value.ref 51) [Value.str _ _] _) _ _ _); k_dflt (refine' fault_mk ?q96b9c5B ?q96b9c5F ?q96b9c5X ?q96b9c5T ?q96b9c5hk ?q96b9c5hA ?q96b9c5hr ?q96b9c5N ?_; (case q96b9c5hA => exact rfl); (case q96b9c5hk => first | exact rfl | assumption); (case q96b9c5B => k_asm); (case q96b9c5F => k_asm); (case q96b9c5X => k_asm); (case q96b9c5T => k_asm); (case q96b9c5hr => ((simp only [depth_under_make, depth_under_kw, depth_in1, depth_deeper, depth_caller]); first | decide | ((try dsimp only [ktrTop]); omega))); (case q96b9c5N => k_asm)); intro _ _ _ _ _ _ _ _; (try k_sweep)) | fail "no")
  k_with "RaisedVal" => (first | (refine ⟨_, _, _, rfl, Frag.In.keeps (by assumption) (Fr.keep (by assumption)), ((by assumption : News _ _ _ (_ :: _)) _ List.mem_cons_self).1, ?_⟩) | fail "no")
  k_with "leaving ref" => (first | (k_here; first | (refine' leave_fault ?q91bf5e95K ?q91bf5e95F ?q91bf5e95N ?q91bf5e95n ?_ ?q91bf5e95hf ?q91bf5e95hk; (case q91bf5e95hf => exact rfl); (case q91bf5e95hk => first | exact rfl | assumption); (case q91bf5e95F => assumption); (case q91bf5e95K => assumption); (case q91bf5e95N => assumption); (case q91bf5e95n => assumption); k_whole; walk_at "tl3225b9b") | (refine' leave_past ?q91bf5e95K ?q91bf5e95F ?q91bf5e95R ?q91bf5e95U ?_ ?q91bf5e95hf; (case q91bf5e95hf => exact rfl); (case q91bf5e95R => assumption); (case q91bf5e95U => assumption); (case q91bf5e95K => assumption); (case q91bf5e95F => assumption); k_whole; walk_at "tl3225b9b")) | fail "no")
  k_with "k_get" => (first | (assumption) | fail "no")
  k_with "call ref" => (first | (k_here; (with_reducible show wpAny _ _ (call (Value.ref 128) [Value.ref _, Value.int _ _, Value.int _ _] _) _ _ _); k_dflt (refine' need_ok ?q93f2525B ?q93f2525F ?q93f2525X ?q93f2525T ?q93f2525hk ?q93f2525N ?q93f2525hdp ?q93f2525hl ?q93f2525hz ?q93f2525h1 ?q93f2525h2 ?q93f2525h3 ?_; (case q93f2525hk => first | exact rfl | assumption); (case q93f2525B => k_asm); (case q93f2525F => k_asm); (case q93f2525X => k_asm); (case q93f2525T => k_asm); (case q93f2525N => k_asm); (case q93f2525hl => k_mem); (case q93f2525hdp => ((simp only [depth_under_make, depth_under_kw, depth_in1, depth_deeper, depth_caller]); first | decide | ((try dsimp only [ktrTop]); omega))); (case q93f2525hz => (simp only [List.size_toArray]; omega)); (case q93f2525h1 => omega); (case q93f2525h2 => (simp only [List.size_toArray]; omega)); (case q93f2525h3 => omega)); intro _ _ _ _; (try k_sweep)) | fail "no")
  k_with "subscriptTail" => (first | (k_here; (with_reducible show wpAny _ _ (subscriptTail _ (Expr.Slice (some _) (some _) none _) (Value.ref _) (Value.ref _)) _ _ _); k_dflt (refine' cut_mid ?q9273b488F ?q9273b488N ?q9273b488l ?q9273b488a ?q9273b488b ?q9273b488c ?_ ?q9273b488s ?q9273b488t ?q9273b488z; (case q9273b488F => k_asm); (case q9273b488N => k_asm); (case q9273b488l => k_mem); (case q9273b488a => omega); (case q9273b488b => omega); (case q9273b488c => omega); (case q9273b488s => with_unfolding_all rfl); (case q9273b488t => kmk_pure); (case q9273b488z => (rw [sizeLine_eq]; omega))); walk_at "tl2332102"; (try k_sweep)) | fail "no")
  k_with "subscriptTail Name Slice ref ref" => (first | (k_here; (with_reducible show wpAny _ _ (subscriptTail _ (Expr.Slice (some _) (some _) none _) (Value.ref _) (Value.ref _)) _ _ _); k_dflt (refine' cut_mid ?q9273b488F ?q9273b488N ?q9273b488l ?q9273b488a ?q9273b488b ?q9273b488c ?_ ?q9273b488s ?q9273b488t ?q9273b488z; (case q9273b488F => k_asm); (case q9273b488N => k_asm); (case q9273b488l => k_mem); (case q9273b488a => omega); (case q9273b488b => omega); (case q9273b488c => omega); (case q9273b488s => with_unfolding_all rfl); (case q9273b488t => kmk_pure); (case q9273b488z => (rw [sizeLine_eq]; omega))); walk_at "tl2332102"; (try k_sweep)) | fail "no")
  k_with "subscriptTail" => (first | (k_here; (with_reducible show wpAny _ _ (subscriptTail _ (Expr.Slice none (some _) none _) (Value.ref _) (Value.ref _)) _ _ _); k_dflt (refine' cut_to ?q919a111F ?q919a111N ?q919a111l ?q919a111a ?q919a111b ?_ ?q919a111s ?q919a111t ?q919a111z; (case q919a111F => k_asm); (case q919a111N => k_asm); (case q919a111l => k_mem); (case q919a111a => omega); (case q919a111b => omega); (case q919a111s => with_unfolding_all rfl); (case q919a111t => kmk_pure); (case q919a111z => (rw [sizeLine_eq]; omega))); walk_at "tl2332102"; (try k_sweep)) | fail "no")
  k_with "subscriptTail Name Slice ref ref" => (first | (k_here; (with_reducible show wpAny _ _ (subscriptTail _ (Expr.Slice none (some _) none _) (Value.ref _) (Value.ref _)) _ _ _); k_dflt (refine' cut_to ?q919a111F ?q919a111N ?q919a111l ?q919a111a ?q919a111b ?_ ?q919a111s ?q919a111t ?q919a111z; (case q919a111F => k_asm); (case q919a111N => k_asm); (case q919a111l => k_mem); (case q919a111a => omega); (case q919a111b => omega); (case q919a111s => with_unfolding_all rfl); (case q919a111t => kmk_pure); (case q919a111z => (rw [sizeLine_eq]; omega))); walk_at "tl2332102"; (try k_sweep)) | fail "no")
  k_with "call builtin:list.extend" => (first | (k_here; (with_reducible show wpAny _ _ (call (Value.builtin _) [Value.ref _, Value.ref _]) _ _ _); k_dflt (refine' ext_any ?q932ba17fF ?q932ba17fN ?q932ba17fU ?q932ba17fb ?q932ba17fz ?_; (case q932ba17fF => k_asm); (case q932ba17fN => k_asm); (case q932ba17fb => k_mem); (case q932ba17fU => k_updF); (case q932ba17fz => (rw [sizeLine_eq]; (simp only [List.length_take, List.length_drop] at *); omega))); walk_at "tl262cc1d"; (try k_sweep)) | fail "no")
  k_with "compareOp In none ref" => (first | (k_here; k_dflt (refine' in_none ?q92d397aN ?q92d397al ?q92d397ah ?q92d397ab ?_; (case q92d397aN => k_asm); (case q92d397al => k_mem); (case q92d397ah => assumption); (case q92d397ab => assumption))) | fail "no")
  k_with "call builtin:list.index" => (first | (k_here; k_dflt (refine' index_none ?q990548cN ?q990548cl ?q990548cS _ ?q990548cz ?q990548ci ?q990548cn ?_; (case q990548cN => k_asm); (case q990548cl => k_mem); (case q990548cS => assumption); (case q990548ci => assumption); (case q990548cz => omega); (case q990548cn => assumption))) | fail "no")
  k_with "compareOp Eq ref ref" => (first | (k_here; k_dflt (refine' eq_nil ?q935e72a2N ?q935e72a2l ?q935e72a2e ?q935e72a2u ?q935e72a2b ?_; (case q935e72a2N => k_asm); (case q935e72a2e => k_mem); (case q935e72a2l => k_mem); (case q935e72a2b => assumption); (case q935e72a2u => ((simp only [units_in1, units_deeper, Around.mark_units, units_caller]); first | decide | ((try dsimp only [ktrTop]); omega))))) | fail "no")
  k_with "call builtin:str.join" => (first | (k_here; k_dflt (refine' join_any ?q9f662fdN ?q9f662fdl ?q9f662fdi ?q9f662fdo ?q9f662fdz ?_; (case q9f662fdN => k_asm); (case q9f662fdl => k_mem); (case q9f662fdi => assumption); (case q9f662fdo => assumption); (case q9f662fdz => omega)); intro _ _) | fail "no")
  trivial
theorem lead1 {w : World} {dp un : Nat} {gd : Option (List Code)} {cn : Str} {cs : Scope} {a : Addr} {ccd : Value} {cl : List (Str × Addr)} {outer : List Env} {A₀ : Around} {base h₀ : Heap} {L : Addr} {m : Str → Option Value} {s : Shared} {Q E : Value → Shared → Prop} {mean : ExcName → Option Value} {mg mb : Str → Option Value} {news : List (Addr × Obj)} {mem md ch pl : Addr} {es : List DictEntry} {nn c c0 cnt : Nat} {vs ps : List Value} {os : List (Option Str)} {ad n : Int}
    (B : Below A₀ base outer h₀) (F : Fr h₀ L s.heap m) (X : (seat.heap_1 w.params).In h₀) (T : Top topProg ((looseW seat.view_1 [Str.ofString "counted_elements_iops", Str.ofString "counted_elements_plainio"]) ++ List.map (fun x => x.name) (recsOf seat.view_1) ++ List.map (fun x => x.fst) (litsOf seat.view_1) ++ List.map (fun x => x.name) (clssOf seat.view_1 (looseW seat.view_1 [Str.ofString "counted_elements_iops", Str.ofString "counted_elements_plainio"]))) mean mg mb h₀) (hkf : cs.kind = .function) (N : News h₀ L s.heap news) (hdp : dp + 40 < recursionLimit) (hun : un + 400 < cLine)
    (hm1 : (mem, instObj 117 md) ∈ news) (hm2 : (md, dictOf es nn) ∈ news) (hg : getL (Str.ofString "characters") es = some (some (.ref ch))) (hcl : (ch, W.listOf vs.toArray c) ∈ news)
    (hS : Sgs vs os) (hz : vs.length ≤ 1000) (hpl : (pl, W.listOf ps.toArray c0) ∈ news) (hP : PlAt news ps ad n cnt)
    (h1 : 0 ≤ ad) (h2 : ad + cnt * n ≤ vs.length) (h3 : 1 ≤ n)
    (res : ((upTo ((os.drop ad.toNat).take (cnt * n.toNat))).isEmpty = true → ∀ e g₂ h' tk', Fr h₀ L g₂ m → RaisedSN base g₂ (envX cn cs L a ccd cl :: outer) e (.ref 51) news h' → g₂.UpToSlots h' → E (.ref e) { s with heap := h', toks := tk' }) ∧
      ((upTo ((os.drop ad.toNat).take (cnt * n.toNat))).isEmpty = false → ∀ t h' tk', Fr h₀ L h' m → News h₀ L h' news → Q (.str (lead ((os.drop ad.toNat).take (cnt * n.toNat))) t) { s with heap := h', toks := tk' })) :
    wpAny (model PySem.Challenge.rw_rh0120_01.row.prog w) (ktrTop dp un gd cn cs L a ccd cl outer) (call (.ref 135) [.ref mem, .ref pl]) Q E s := by
  (revert X; k_fill; intro X)
  (refine wpAny_call ?_; k_dflt ktr_enter)
  k_steps
  rename_i sl _ lt9 h9 F9 N9
  refine For_invVF F9 rfl rfl ?_
  k_dflt (refine ld F9 rfl ?_)
  refine iter_any (fun i m₁ nx => ∃ ws k pv, nx = (sl, W.listOf ws.toArray k) :: news ∧ Sgs ws ((os.drop ad.toNat).take (i * n.toNat)) ∧ m₁ = (fun y => if y = Str.ofString "place" then pv else if y = Str.ofString "signs" then some (.ref sl) else List.lookup y [(Str.ofString "places", .ref pl), (Str.ofString "memory", .ref mem)])) rfl (List.mem_cons_of_mem _ hpl) F9 N9 ?_ ?_ ?_
  · refine ⟨[], 0, none, rfl, by simpa using Sgs.nil, ?_⟩
    funext y
    by_cases hy : y = Str.ofString "place"
    · subst hy; rfl
    · simp only [hy, if_false]; rfl
  · rintro i v m₁ nx h10 tk10 own hv hadr hoff hl₁ ⟨ws, k, pv, rfl, hW, rfl⟩ F10 N10
    obtain ⟨hc, hall⟩ := hP
    obtain ⟨r, t0, t1, t2, em, rfl, hr⟩ := hall i v hv
    have hi : i < cnt := by
      have := (List.getElem?_eq_some_iff.mp hv).1
      omega
    have hb : (i : Int) * n + n ≤ cnt * n := by
      have := Int.mul_le_mul_of_nonneg_right (show ((i : Int) + 1) ≤ cnt by omega) (show (0 : Int) ≤ n by omega)
      rw [Int.add_mul, Int.one_mul] at this; exact this
    have hb0 : 0 ≤ (i : Int) * n := Int.mul_nonneg (by omega) (by omega)
    simp only [List.cons_append] at N10
    have hnw : ∀ p ∈ news, p ∈ news ++ own := fun p hp => List.mem_append_left _ hp
    have how : ∀ p ∈ own, p ∈ news ++ own := fun p hp => List.mem_append_right _ hp
    have ltw : ∀ p ∈ news ++ own, p.1 ≠ sl := fun p hp => by
      rcases List.mem_append.mp hp with q | q
      · exact Nat.ne_of_lt (lt9 p q)
      · exact hoff p q sl (by simp)
    have hm1' := hnw _ hm1
    have hm2' := hnw _ hm2
    have hcl' := hnw _ hcl
    have hr' := hnw _ hr
    have hwl : ws.length ≤ 1000 := by
      have h5 := hW.length
      have h6 := hS.length
      simp only [List.length_take, List.length_drop] at h5
      omega
    generalize news ++ own = nw at N10 hnw how ltw hm1' hm2' hcl' hr'
    k_steps
    rename Fr _ _ _ _ => F11
    rename News _ _ _ _ => N11
    obtain ⟨D9, o9, n9, N12⟩ : ∃ D9 o9 n9, News _ _ _ ((D9, o9) :: (sl, W.listOf (ws ++ (vs.drop (ad + i * n).toNat).take (ad + i * n + n - (ad + i * n)).toNat).toArray n9) :: nw) := ⟨_, _, _, N11⟩
    refine ⟨_, _, _, _, (sl, W.listOf (ws ++ (vs.drop (ad + i * n).toNat).take (ad + i * n + n - (ad + i * n)).toNat).toArray n9) :: news, rfl, F11, N12, fun p hp => ?_, fun p hp => List.mem_cons_of_mem _ (List.mem_cons_of_mem _ (how p hp)), rfl, List.mem_cons_of_mem _ hpl, _, n9, some (.ref r), rfl, ?_, ?_⟩
    · rcases List.mem_cons.mp hp with rfl | hp
      · exact List.mem_cons_of_mem _ List.mem_cons_self
      · exact List.mem_cons_of_mem _ (List.mem_cons_of_mem _ (hnw p hp))
    · rw [seg_next os h1 (by omega)]
      exact hW.append ((hS.drop _).take _)
    · funext y
      by_cases hy : y = Str.ofString "place" <;> simp [hy]
  · rintro m₁ nx h10 tk10 hadr hl₁ ⟨ws, k, pv, rfl, hW, rfl⟩ F10 N10
    have hwl : ws.length ≤ 1000 := by
      have h5 := hW.length
      have h6 := hS.length
      simp only [List.length_take, List.length_drop] at h5
      omega
    have hlt : ∀ p ∈ news, p.1 ≠ sl := fun p hp => Nat.ne_of_lt (lt9 p hp)
    rw [hP.1] at hW
    generalize (os.drop ad.toNat).take (cnt * n.toNat) = os' at hW res
    obtain ⟨hone, hul⟩ := upTo_len hW
    have hul2 : (upTo os').length ≤ 1000 := by omega
    cases hn : os'.any (·.isNone) with
    | false =>
      have hi := upTo_none hW hn
      cases hb : (upTo os').isEmpty with
      | true =>
        have hb2 := (strs_empty hi).trans hb
        k_steps
        all_goals exact res.1 hb _ _ _ _ (by assumption) (raisedSub (by assumption) (by intro p hp; repeat (first | exact hp | refine List.mem_cons_of_mem _ ?_))) (by assumption)
      | false =>
        have hb2 := (strs_empty hi).trans hb
        k_steps
        all_goals exact res.2 hb _ _ _ (by assumption) (newsSub (by assumption) (by intro p hp; repeat (first | exact hp | refine List.mem_cons_of_mem _ ?_)))
    | true =>
      obtain ⟨k2, hk2, hit, hno, hi⟩ := upTo_some hW hn
      cases hb : (upTo os').isEmpty with
      | true =>
        have hb2 := (strs_empty hi).trans hb
        k_steps
        all_goals exact res.1 hb _ _ _ _ (by assumption) (raisedSub (by assumption) (by intro p hp; repeat (first | exact hp | refine List.mem_cons_of_mem _ ?_))) (by assumption)
      | false =>
        have hb2 := (strs_empty hi).trans hb
        k_steps
        all_goals exact res.2 hb _ _ _ (by assumption) (newsSub (by assumption) (by intro p hp; repeat (first | exact hp | refine List.mem_cons_of_mem _ ?_)))
end
end
section
theorem reg_Ext_1 : True := by
  w_top off
  k_with_none
  k_with "pj" => (first | exact Mine.c0 h9 | exact Mine.c1 h9 | exact Mine.e1 h9 | exact Mine.c2 h9 | exact Mine.e2 h9 | exact Mine.c3 h9 | exact Mine.e3 h9 | exact Mine.c4 h9 | exact Mine.e4 h9 | exact Mine.c5 h9 | exact Mine.e5 h9 | exact Mine.c6 h9 | exact Mine.e6 h9 | exact Mine.c7 h9 | exact Mine.e7 h9 | exact Mine.c8 h9 | exact Mine.e8 h9 | exact Mine.c9 h9 | exact Mine.e9 h9 | exact Mine.c10 h9 | exact Mine.e10 h9 | exact Mine.c11 h9 | exact Mine.e11 h9 | exact Mine.c12 h9 | exact Mine.e12 h9 | exact Mine.c13 h9 | exact Mine.e13 h9 | exact Mine.c14 h9 | exact Mine.e14 h9 | exact Mine.c15 h9 | exact Mine.e15 h9 | exact Mine.c16 h9 | exact Mine.e16 h9 | exact Mine.c17 h9 | exact Mine.e17 h9 | exact Mine.c18 h9 | exact Mine.e18 h9 | exact Mine.c19 h9 | exact Mine.e19 h9 | exact Mine.c20 h9 | exact Mine.e20 h9 | fail "pj")
  k_with "pj1" => (first | exact Mine.c0 (Mine.c0 h9) | exact Mine.c0 (Mine.c1 h9) | exact Mine.c0 (Mine.c2 h9) | exact Mine.c0 (Mine.c3 h9) | exact Mine.c0 (Mine.c4 h9) | exact Mine.c0 (Mine.c5 h9) | exact Mine.c0 (Mine.c6 h9) | exact Mine.c0 (Mine.c7 h9) | exact Mine.c0 (Mine.c8 h9) | exact Mine.c0 (Mine.c9 h9) | exact Mine.c0 (Mine.c10 h9) | exact Mine.c0 (Mine.c11 h9) | exact Mine.c0 (Mine.c12 h9) | exact Mine.c0 (Mine.c13 h9) | exact Mine.c0 (Mine.c14 h9) | exact Mine.c0 (Mine.c15 h9) | exact Mine.c0 (Mine.c16 h9) | exact Mine.c0 (Mine.c17 h9) | exact Mine.c0 (Mine.c18 h9) | exact Mine.c0 (Mine.c19 h9) | exact Mine.c0 (Mine.c20 h9) | fail "pj1")
  k_with "pj2" => (first | exact Mine.c1 (Mine.c0 h9) | exact Mine.c1 (Mine.c1 h9) | exact Mine.c1 (Mine.c2 h9) | exact Mine.c1 (Mine.c3 h9) | exact Mine.c1 (Mine.c4 h9) | exact Mine.c1 (Mine.c5 h9) | exact Mine.c1 (Mine.c6 h9) | exact Mine.c1 (Mine.c7 h9) | exact Mine.c1 (Mine.c8 h9) | exact Mine.c1 (Mine.c9 h9) | exact Mine.c1 (Mine.c10 h9) | exact Mine.c1 (Mine.c11 h9) | exact Mine.c1 (Mine.c12 h9) | exact Mine.c1 (Mine.c13 h9) | exact Mine.c1 (Mine.c14 h9) | exact Mine.c1 (Mine.c15 h9) | exact Mine.c1 (Mine.c16 h9) | exact Mine.c1 (Mine.c17 h9) | exact Mine.c1 (Mine.c18 h9) | exact Mine.c1 (Mine.c19 h9) | exact Mine.c1 (Mine.c20 h9) | fail "pj2")
  k_with "pj3" => (first | exact Mine.e2 (Mine.c0 h9) | exact Mine.e2 (Mine.c1 h9) | exact Mine.e2 (Mine.c2 h9) | exact Mine.e2 (Mine.c3 h9) | exact Mine.e2 (Mine.c4 h9) | exact Mine.e2 (Mine.c5 h9) | exact Mine.e2 (Mine.c6 h9) | exact Mine.e2 (Mine.c7 h9) | exact Mine.e2 (Mine.c8 h9) | exact Mine.e2 (Mine.c9 h9) | exact Mine.e2 (Mine.c10 h9) | exact Mine.e2 (Mine.c11 h9) | exact Mine.e2 (Mine.c12 h9) | exact Mine.e2 (Mine.c13 h9) | exact Mine.e2 (Mine.c14 h9) | exact Mine.e2 (Mine.c15 h9) | exact Mine.e2 (Mine.c16 h9) | exact Mine.e2 (Mine.c17 h9) | exact Mine.e2 (Mine.c18 h9) | exact Mine.e2 (Mine.c19 h9) | exact Mine.e2 (Mine.c20 h9) | fail "pj3")
  k_with "omega" => (first | exact Nat.le_refl _ | decide | with_reducible (first | exact Mine.lim0 (by assumption) | exact Mine.lim1 (by assumption) (by with_unfolding_all rfl) | exact Mine.lim2 (by assumption) (by with_unfolding_all rfl) | exact Mine.lim3 (by assumption) (by with_unfolding_all rfl) | exact Mine.lim8 (by assumption) (by assumption) (by with_unfolding_all rfl) | exact Mine.lim9 (by assumption) (by assumption) (by with_unfolding_all rfl) | exact Mine.lim10 (by assumption) (by assumption) (by with_unfolding_all rfl) | exact Mine.i1 (by assumption) | exact Mine.i2 (by assumption) | exact Mine.i3 (by assumption) | exact Mine.i4 (by assumption) (by with_unfolding_all rfl) | exact Mine.i5 (by assumption) | exact Mine.i6 (by assumption) (by assumption) | exact Mine.i7 (by assumption) (by assumption) | exact Mine.i8 (by assumption) (by assumption) | exact List.length_take_le _ _ | fail "l") | (refine Mine.toNe ?_; with_reducible (first | exact Nat.ne_of_lt (by ((repeat (first | assumption | exact Mine.ltp0 | refine Mine.ltp ?_)); (first | done | fail "c"))) | exact Nat.ne_of_gt (by ((repeat (first | assumption | exact Mine.ltp0 | refine Mine.ltp ?_)); (first | done | fail "c"))) | (refine Nat.ne_of_lt (Mine.viaL (by assumption) ?_); intro h9; k_extra "pj") | (refine Nat.ne_of_gt (Mine.viaL (by assumption) ?_); intro h9; k_extra "pj") | (refine Nat.ne_of_lt (Mine.viaM (by assumption) ?_); intro h9; k_extra "pj") | (refine Nat.ne_of_gt (Mine.viaM (by assumption) ?_); intro h9; k_extra "pj") | assumption | exact Ne.symm (by assumption) | (refine Mine.viaN (by assumption) ?_; intro h9; k_extra "pj") | (refine Ne.symm (Mine.viaN (by assumption) ?_); intro h9; k_extra "pj") | (refine Mine.viaN1 (by assumption) ?_; intro h9; k_extra "pj1") | (refine Ne.symm (Mine.viaN1 (by assumption) ?_); intro h9; k_extra "pj1") | (refine Mine.viaN2 (by assumption) ?_; intro h9; k_extra "pj2") | (refine Ne.symm (Mine.viaN2 (by assumption) ?_); intro h9; k_extra "pj2") | (refine Mine.viaN3 (by assumption) ?_; intro h9; k_extra "pj3") | (refine Ne.symm (Mine.viaN3 (by assumption) ?_); intro h9; k_extra "pj3") | fail "n")) | fail "o")
  trivial
theorem newsTop {h₀ h : Heap} {L : Addr} {news : List (Addr × Obj)} {p : Addr × Obj} (N : News h₀ L h news) (hp : p ∈ news) : News h₀ L h (p :: news) := fun q hq => by
  rcases List.mem_cons.mp hq with rfl | hq
  · exact N _ hp
  · exact N _ hq
inductive DimAt (news : List (Addr × Obj)) (dm : Addr) : Int → Prop
  | one : (dm, tupO []) ∈ news → DimAt news dm 1
  | arr (d1 : Addr) (t t' : Tok) (c : Int) : (dm, tupO [.ref d1]) ∈ news → (d1, tupO [.int 1 t, .int c t']) ∈ news → DimAt news dm c
section
theorem reg_Ext_2 : True := by
  w_top off
  k_with_none
  k_with "pj" => (first | exact Mine.c0 h9 | exact Mine.c1 h9 | exact Mine.e1 h9 | exact Mine.c2 h9 | exact Mine.e2 h9 | exact Mine.c3 h9 | exact Mine.e3 h9 | exact Mine.c4 h9 | exact Mine.e4 h9 | exact Mine.c5 h9 | exact Mine.e5 h9 | exact Mine.c6 h9 | exact Mine.e6 h9 | exact Mine.c7 h9 | exact Mine.e7 h9 | exact Mine.c8 h9 | exact Mine.e8 h9 | exact Mine.c9 h9 | exact Mine.e9 h9 | exact Mine.c10 h9 | exact Mine.e10 h9 | exact Mine.c11 h9 | exact Mine.e11 h9 | exact Mine.c12 h9 | exact Mine.e12 h9 | exact Mine.c13 h9 | exact Mine.e13 h9 | exact Mine.c14 h9 | exact Mine.e14 h9 | exact Mine.c15 h9 | exact Mine.e15 h9 | exact Mine.c16 h9 | exact Mine.e16 h9 | exact Mine.c17 h9 | exact Mine.e17 h9 | exact Mine.c18 h9 | exact Mine.e18 h9 | exact Mine.c19 h9 | exact Mine.e19 h9 | exact Mine.c20 h9 | exact Mine.e20 h9 | fail "pj")
  k_with "pj1" => (first | exact Mine.c0 (Mine.c0 h9) | exact Mine.c0 (Mine.c1 h9) | exact Mine.c0 (Mine.c2 h9) | exact Mine.c0 (Mine.c3 h9) | exact Mine.c0 (Mine.c4 h9) | exact Mine.c0 (Mine.c5 h9) | exact Mine.c0 (Mine.c6 h9) | exact Mine.c0 (Mine.c7 h9) | exact Mine.c0 (Mine.c8 h9) | exact Mine.c0 (Mine.c9 h9) | exact Mine.c0 (Mine.c10 h9) | exact Mine.c0 (Mine.c11 h9) | exact Mine.c0 (Mine.c12 h9) | exact Mine.c0 (Mine.c13 h9) | exact Mine.c0 (Mine.c14 h9) | exact Mine.c0 (Mine.c15 h9) | exact Mine.c0 (Mine.c16 h9) | exact Mine.c0 (Mine.c17 h9) | exact Mine.c0 (Mine.c18 h9) | exact Mine.c0 (Mine.c19 h9) | exact Mine.c0 (Mine.c20 h9) | fail "pj1")
  k_with "pj2" => (first | exact Mine.c1 (Mine.c0 h9) | exact Mine.c1 (Mine.c1 h9) | exact Mine.c1 (Mine.c2 h9) | exact Mine.c1 (Mine.c3 h9) | exact Mine.c1 (Mine.c4 h9) | exact Mine.c1 (Mine.c5 h9) | exact Mine.c1 (Mine.c6 h9) | exact Mine.c1 (Mine.c7 h9) | exact Mine.c1 (Mine.c8 h9) | exact Mine.c1 (Mine.c9 h9) | exact Mine.c1 (Mine.c10 h9) | exact Mine.c1 (Mine.c11 h9) | exact Mine.c1 (Mine.c12 h9) | exact Mine.c1 (Mine.c13 h9) | exact Mine.c1 (Mine.c14 h9) | exact Mine.c1 (Mine.c15 h9) | exact Mine.c1 (Mine.c16 h9) | exact Mine.c1 (Mine.c17 h9) | exact Mine.c1 (Mine.c18 h9) | exact Mine.c1 (Mine.c19 h9) | exact Mine.c1 (Mine.c20 h9) | fail "pj2")
  k_with "pj3" => (first | exact Mine.e2 (Mine.c0 h9) | exact Mine.e2 (Mine.c1 h9) | exact Mine.e2 (Mine.c2 h9) | exact Mine.e2 (Mine.c3 h9) | exact Mine.e2 (Mine.c4 h9) | exact Mine.e2 (Mine.c5 h9) | exact Mine.e2 (Mine.c6 h9) | exact Mine.e2 (Mine.c7 h9) | exact Mine.e2 (Mine.c8 h9) | exact Mine.e2 (Mine.c9 h9) | exact Mine.e2 (Mine.c10 h9) | exact Mine.e2 (Mine.c11 h9) | exact Mine.e2 (Mine.c12 h9) | exact Mine.e2 (Mine.c13 h9) | exact Mine.e2 (Mine.c14 h9) | exact Mine.e2 (Mine.c15 h9) | exact Mine.e2 (Mine.c16 h9) | exact Mine.e2 (Mine.c17 h9) | exact Mine.e2 (Mine.c18 h9) | exact Mine.e2 (Mine.c19 h9) | exact Mine.e2 (Mine.c20 h9) | fail "pj3")
  k_with "omega" => (first | exact Nat.le_refl _ | decide | with_reducible (first | exact Mine.lim0 (by assumption) | exact Mine.lim1 (by assumption) (by with_unfolding_all rfl) | exact Mine.lim2 (by assumption) (by with_unfolding_all rfl) | exact Mine.lim3 (by assumption) (by with_unfolding_all rfl) | exact Mine.lim8 (by assumption) (by assumption) (by with_unfolding_all rfl) | exact Mine.lim9 (by assumption) (by assumption) (by with_unfolding_all rfl) | exact Mine.lim10 (by assumption) (by assumption) (by with_unfolding_all rfl) | exact Mine.i1 (by assumption) | exact Mine.i2 (by assumption) | exact Mine.i3 (by assumption) | exact Mine.i4 (by assumption) (by with_unfolding_all rfl) | exact Mine.i5 (by assumption) | exact Mine.i6 (by assumption) (by assumption) | exact Mine.i7 (by assumption) (by assumption) | exact Mine.i8 (by assumption) (by assumption) | exact List.length_take_le _ _ | fail "l") | (refine Mine.toNe ?_; with_reducible (first | exact Nat.ne_of_lt (by ((repeat (first | assumption | exact Mine.ltp0 | refine Mine.ltp ?_)); (first | done | fail "c"))) | exact Nat.ne_of_gt (by ((repeat (first | assumption | exact Mine.ltp0 | refine Mine.ltp ?_)); (first | done | fail "c"))) | (refine Nat.ne_of_lt (Mine.viaL (by assumption) ?_); intro h9; k_extra "pj") | (refine Nat.ne_of_gt (Mine.viaL (by assumption) ?_); intro h9; k_extra "pj") | (refine Nat.ne_of_lt (Mine.viaM (by assumption) ?_); intro h9; k_extra "pj") | (refine Nat.ne_of_gt (Mine.viaM (by assumption) ?_); intro h9; k_extra "pj") | assumption | exact Ne.symm (by assumption) | (refine Mine.viaN (by assumption) ?_; intro h9; k_extra "pj") | (refine Ne.symm (Mine.viaN (by assumption) ?_); intro h9; k_extra "pj") | (refine Mine.viaN1 (by assumption) ?_; intro h9; k_extra "pj1") | (refine Ne.symm (Mine.viaN1 (by assumption) ?_); intro h9; k_extra "pj1") | (refine Mine.viaN2 (by assumption) ?_; intro h9; k_extra "pj2") | (refine Ne.symm (Mine.viaN2 (by assumption) ?_); intro h9; k_extra "pj2") | (refine Mine.viaN3 (by assumption) ?_; intro h9; k_extra "pj3") | (refine Ne.symm (Mine.viaN3 (by assumption) ?_); intro h9; k_extra "pj3") | fail "n")) | fail "o")
  k_with "k_all" => (first | (assumption) | fail "no")
  k_with "k_mem" => (first | (assumption) | fail "no")
  k_with "news_mem" => (first | (k_mem) | fail "no")
  trivial
theorem extent_c {w : World} {dp un : Nat} {gd : Option (List Code)} {cn : Str} {cs : Scope} {a : Addr} {ccd : Value} {cl : List (Str × Addr)} {outer : List Env} {A₀ : Around} {base h₀ : Heap} {L : Addr} {m : Str → Option Value} {s : Shared} {Q E : Value → Shared → Prop} {mean : ExcName → Option Value} {mg mb : Str → Option Value} {news : List (Addr × Obj)} {dm : Addr} {c : Int}
    (B : Below A₀ base outer h₀) (F : Fr h₀ L s.heap m) (X : (seat.heap_1 w.params).In h₀) (T : Top topProg ((looseW seat.view_1 [Str.ofString "counted_elements_iops", Str.ofString "counted_elements_plainio"]) ++ List.map (fun x => x.name) (recsOf seat.view_1) ++ List.map (fun x => x.fst) (litsOf seat.view_1) ++ List.map (fun x => x.name) (clssOf seat.view_1 (looseW seat.view_1 [Str.ofString "counted_elements_iops", Str.ofString "counted_elements_plainio"]))) mean mg mb h₀) (hkf : cs.kind = .function) (N : News h₀ L s.heap news) (hdp : dp + 10 < recursionLimit) (hD : DimAt news dm c) (h1 : 1 ≤ c) (h2 : c ≤ 3)
    (ret : ∀ t h' tk', Fr h₀ L h' m → News h₀ L h' news → Q (.int c t) { s with heap := h', toks := tk' }) :
    wpAny (model PySem.Challenge.rw_rh0120_01.row.prog w) (ktrTop dp un gd cn cs L a ccd cl outer) (call (.ref 149) [.ref dm]) Q E s := by
  (revert X; k_fill; intro X)
  cases hD with
  | one hm =>
    replace N := newsTop N hm
    (refine wpAny_call ?_; k_dflt ktr_enter)
    k_steps
    rename Fr _ _ _ _ => F9
    rename News _ _ _ _ => N9
    refine For_turns F9 ?_
    k_dflt (refine ld F9 rfl ?_)
    refine iter_tupTurns (vs := []) rfl F9 N9 List.mem_cons_self rfl rfl ?_
    intro I lI
    k_steps
    all_goals exact ret _ _ _ (by assumption) (newsSub (by assumption) (by intro p hp; repeat (first | exact hp | refine List.mem_cons_of_mem _ ?_)))
  | arr d1 t t' c hm hm1 =>
    replace N := newsTop (newsTop N hm1) (List.mem_cons_of_mem _ hm)
    (refine wpAny_call ?_; k_dflt ktr_enter)
    k_steps
    rename Fr _ _ _ _ => F9
    rename News _ _ _ _ => N9
    refine For_turns F9 ?_
    k_dflt (refine ld F9 rfl ?_)
    refine iter_tupTurns (vs := [.ref d1]) rfl F9 N9 List.mem_cons_self rfl rfl ?_
    intro I lI
    k_steps
    rename Fr _ _ _ _ => F10
    rename News _ _ _ _ => N10
    refine ⟨_, _, _, (dm, tupO [.ref d1]) :: (d1, tupO [.int 1 t, .int c t']) :: news, rfl, F10, newsSub N10 (fun p hp => by simpa using hp), fun p hp q hq => ?_, ?_⟩
    · rw [List.mem_singleton.mp hq]; exact Nat.ne_of_lt (lI p hp)
    k_steps
    · exact And.intro List.mem_cons_self trivial
    · rw [show 1 * (c - 1 + 1) = c by omega]
      exact ret _ _ _ (by assumption) (newsSub (by assumption) (by intro p hp; repeat (first | exact hp | refine List.mem_cons_of_mem _ ?_)))

/-- a place: kind, address, length, dims -/
def PlaceAt (news : List (Addr × Obj)) (pr : Addr) (ad n c : Int) : Prop := ∃ t0 t1 t2 dm, (pr, tupO [.int 5 t0, .int ad t1, .int n t2, .ref dm]) ∈ news ∧ DimAt news dm c
theorem DimAt.mono {news news' : List (Addr × Obj)} {dm : Addr} {c : Int} (h : DimAt news dm c) (hs : ∀ p ∈ news, p ∈ news') : DimAt news' dm c := by
  cases h with
  | one a => exact .one (hs _ a)
  | arr d t t' c a b => exact .arr d t t' c (hs _ a) (hs _ b)
theorem PlaceAt.mono {news news' : List (Addr × Obj)} {pr : Addr} {ad n c : Int} (h : PlaceAt news pr ad n c) (hs : ∀ p ∈ news, p ∈ news') : PlaceAt news' pr ad n c := by
  obtain ⟨t0, t1, t2, dm, a, b⟩ := h
  exact ⟨t0, t1, t2, dm, hs _ a, b.mono hs⟩
theorem reg_Ext_3 : True := by
  w_top off
  k_with_none
  k_with "pj" => (first | exact Mine.c0 h9 | exact Mine.c1 h9 | exact Mine.e1 h9 | exact Mine.c2 h9 | exact Mine.e2 h9 | exact Mine.c3 h9 | exact Mine.e3 h9 | exact Mine.c4 h9 | exact Mine.e4 h9 | exact Mine.c5 h9 | exact Mine.e5 h9 | exact Mine.c6 h9 | exact Mine.e6 h9 | exact Mine.c7 h9 | exact Mine.e7 h9 | exact Mine.c8 h9 | exact Mine.e8 h9 | exact Mine.c9 h9 | exact Mine.e9 h9 | exact Mine.c10 h9 | exact Mine.e10 h9 | exact Mine.c11 h9 | exact Mine.e11 h9 | exact Mine.c12 h9 | exact Mine.e12 h9 | exact Mine.c13 h9 | exact Mine.e13 h9 | exact Mine.c14 h9 | exact Mine.e14 h9 | exact Mine.c15 h9 | exact Mine.e15 h9 | exact Mine.c16 h9 | exact Mine.e16 h9 | exact Mine.c17 h9 | exact Mine.e17 h9 | exact Mine.c18 h9 | exact Mine.e18 h9 | exact Mine.c19 h9 | exact Mine.e19 h9 | exact Mine.c20 h9 | exact Mine.e20 h9 | fail "pj")
  k_with "pj1" => (first | exact Mine.c0 (Mine.c0 h9) | exact Mine.c0 (Mine.c1 h9) | exact Mine.c0 (Mine.c2 h9) | exact Mine.c0 (Mine.c3 h9) | exact Mine.c0 (Mine.c4 h9) | exact Mine.c0 (Mine.c5 h9) | exact Mine.c0 (Mine.c6 h9) | exact Mine.c0 (Mine.c7 h9) | exact Mine.c0 (Mine.c8 h9) | exact Mine.c0 (Mine.c9 h9) | exact Mine.c0 (Mine.c10 h9) | exact Mine.c0 (Mine.c11 h9) | exact Mine.c0 (Mine.c12 h9) | exact Mine.c0 (Mine.c13 h9) | exact Mine.c0 (Mine.c14 h9) | exact Mine.c0 (Mine.c15 h9) | exact Mine.c0 (Mine.c16 h9) | exact Mine.c0 (Mine.c17 h9) | exact Mine.c0 (Mine.c18 h9) | exact Mine.c0 (Mine.c19 h9) | exact Mine.c0 (Mine.c20 h9) | fail "pj1")
  k_with "pj2" => (first | exact Mine.c1 (Mine.c0 h9) | exact Mine.c1 (Mine.c1 h9) | exact Mine.c1 (Mine.c2 h9) | exact Mine.c1 (Mine.c3 h9) | exact Mine.c1 (Mine.c4 h9) | exact Mine.c1 (Mine.c5 h9) | exact Mine.c1 (Mine.c6 h9) | exact Mine.c1 (Mine.c7 h9) | exact Mine.c1 (Mine.c8 h9) | exact Mine.c1 (Mine.c9 h9) | exact Mine.c1 (Mine.c10 h9) | exact Mine.c1 (Mine.c11 h9) | exact Mine.c1 (Mine.c12 h9) | exact Mine.c1 (Mine.c13 h9) | exact Mine.c1 (Mine.c14 h9) | exact Mine.c1 (Mine.c15 h9) | exact Mine.c1 (Mine.c16 h9) | exact Mine.c1 (Mine.c17 h9) | exact Mine.c1 (Mine.c18 h9) | exact Mine.c1 (Mine.c19 h9) | exact Mine.c1 (Mine.c20 h9) | fail "pj2")
  k_with "pj3" => (first | exact Mine.e2 (Mine.c0 h9) | exact Mine.e2 (Mine.c1 h9) | exact Mine.e2 (Mine.c2 h9) | exact Mine.e2 (Mine.c3 h9) | exact Mine.e2 (Mine.c4 h9) | exact Mine.e2 (Mine.c5 h9) | exact Mine.e2 (Mine.c6 h9) | exact Mine.e2 (Mine.c7 h9) | exact Mine.e2 (Mine.c8 h9) | exact Mine.e2 (Mine.c9 h9) | exact Mine.e2 (Mine.c10 h9) | exact Mine.e2 (Mine.c11 h9) | exact Mine.e2 (Mine.c12 h9) | exact Mine.e2 (Mine.c13 h9) | exact Mine.e2 (Mine.c14 h9) | exact Mine.e2 (Mine.c15 h9) | exact Mine.e2 (Mine.c16 h9) | exact Mine.e2 (Mine.c17 h9) | exact Mine.e2 (Mine.c18 h9) | exact Mine.e2 (Mine.c19 h9) | exact Mine.e2 (Mine.c20 h9) | fail "pj3")
  k_with "omega" => (first | exact Nat.le_refl _ | decide | with_reducible (first | exact Mine.lim0 (by assumption) | exact Mine.lim1 (by assumption) (by with_unfolding_all rfl) | exact Mine.lim2 (by assumption) (by with_unfolding_all rfl) | exact Mine.lim3 (by assumption) (by with_unfolding_all rfl) | exact Mine.lim8 (by assumption) (by assumption) (by with_unfolding_all rfl) | exact Mine.lim9 (by assumption) (by assumption) (by with_unfolding_all rfl) | exact Mine.lim10 (by assumption) (by assumption) (by with_unfolding_all rfl) | exact Mine.i1 (by assumption) | exact Mine.i2 (by assumption) | exact Mine.i3 (by assumption) | exact Mine.i4 (by assumption) (by with_unfolding_all rfl) | exact Mine.i5 (by assumption) | exact Mine.i6 (by assumption) (by assumption) | exact Mine.i7 (by assumption) (by assumption) | exact Mine.i8 (by assumption) (by assumption) | exact List.length_take_le _ _ | fail "l") | (refine Mine.toNe ?_; with_reducible (first | exact Nat.ne_of_lt (by ((repeat (first | assumption | exact Mine.ltp0 | refine Mine.ltp ?_)); (first | done | fail "c"))) | exact Nat.ne_of_gt (by ((repeat (first | assumption | exact Mine.ltp0 | refine Mine.ltp ?_)); (first | done | fail "c"))) | (refine Nat.ne_of_lt (Mine.viaL (by assumption) ?_); intro h9; k_extra "pj") | (refine Nat.ne_of_gt (Mine.viaL (by assumption) ?_); intro h9; k_extra "pj") | (refine Nat.ne_of_lt (Mine.viaM (by assumption) ?_); intro h9; k_extra "pj") | (refine Nat.ne_of_gt (Mine.viaM (by assumption) ?_); intro h9; k_extra "pj") | assumption | exact Ne.symm (by assumption) | (refine Mine.viaN (by assumption) ?_; intro h9; k_extra "pj") | (refine Ne.symm (Mine.viaN (by assumption) ?_); intro h9; k_extra "pj") | (refine Mine.viaN1 (by assumption) ?_; intro h9; k_extra "pj1") | (refine Ne.symm (Mine.viaN1 (by assumption) ?_); intro h9; k_extra "pj1") | (refine Mine.viaN2 (by assumption) ?_; intro h9; k_extra "pj2") | (refine Ne.symm (Mine.viaN2 (by assumption) ?_); intro h9; k_extra "pj2") | (refine Mine.viaN3 (by assumption) ?_; intro h9; k_extra "pj3") | (refine Ne.symm (Mine.viaN3 (by assumption) ?_); intro h9; k_extra "pj3") | fail "n")) | fail "o")
  k_with "k_all" => (first | (assumption) | fail "no")
  k_with "k_mem" => (first | (assumption) | fail "no")
  k_with "news_mem" => (first | (k_mem) | fail "no")
  k_with "call ref" => (first | (k_here; (refine wpAny_call ?_); k_dflt (refine' code_def ?q92f5ae95k1 ?q92f5ae95k2 ?q92f5ae95k3 ?q92f5ae95k4 ?q92f5ae95k5 ?q92f5ae95kA ?q92f5ae95kF ?q92f5ae95kK ?q92f5ae95k6 ?q92f5ae95k7 ?q92f5ae95k8 ?q92f5ae95k9 ?q92f5ae95kB ?_ ?q92f5ae95c2 ?q92f5ae95c3 ?q92f5ae95c4 ?q92f5ae95c5; (case q92f5ae95kA => exact rfl); (case q92f5ae95kF => exact rfl); (case q92f5ae95kK => first | exact rfl | assumption); (case q92f5ae95k1 => k_asm); (case q92f5ae95k2 => k_asm); (case q92f5ae95k3 => k_asm); (case q92f5ae95k4 => k_asm); (case q92f5ae95k5 => k_asm); (case q92f5ae95k6 => k_is); (case q92f5ae95k7 => k_is); (case q92f5ae95k8 => ((simp only [depth_under_make, depth_under_kw, depth_in1, depth_deeper, depth_caller]); first | decide | ((try dsimp only [ktrTop]); omega))); (case q92f5ae95k9 => exact BindsTo.of_eq rfl); (case q92f5ae95c5 => decide); (case q92f5ae95kB => exact locs rfl); (case q92f5ae95c2 => exact rfl); (case q92f5ae95c3 => exact rfl); (case q92f5ae95c4 => exact rfl); k_whole; intro _ _ _ _ _ _ _ _ _; (try dsimp only); (try k_fold))) | fail "no")
  k_with "call ref" => (first | (k_here; (with_reducible show wpAny _ _ (call (Value.ref 149) [Value.ref _] _) _ _ _); k_dflt (refine' extent_c ?q938f04edB ?q938f04edF ?q938f04edX ?q938f04edT ?q938f04edhk ?q938f04edN ?q938f04edhdp ?q938f04edhD ?q938f04edh1 ?q938f04edh2 ?_; (case q938f04edhk => first | exact rfl | assumption); (case q938f04edB => k_asm); (case q938f04edF => k_asm); (case q938f04edX => k_asm); (case q938f04edT => k_asm); (case q938f04edN => k_asm); (case q938f04edhD => first | assumption | exact DimAt.mono (by assumption) (by intro p hp; repeat (first | exact hp | refine List.mem_cons_of_mem _ ?_))); (case q938f04edhdp => ((simp only [depth_under_make, depth_under_kw, depth_in1, depth_deeper, depth_caller]); first | decide | ((try dsimp only [ktrTop]); omega))); (case q938f04edh1 => omega); (case q938f04edh2 => omega)); intro _ _ _ _ _; (try k_sweep)) | fail "no")
  trivial
theorem span_c {w : World} {dp un : Nat} {gd : Option (List Code)} {cn : Str} {cs : Scope} {a : Addr} {ccd : Value} {cl : List (Str × Addr)} {outer : List Env} {A₀ : Around} {base h₀ : Heap} {L : Addr} {m : Str → Option Value} {s : Shared} {Q E : Value → Shared → Prop} {mean : ExcName → Option Value} {mg mb : Str → Option Value} {news : List (Addr × Obj)} {pr : Addr} {ad n c : Int}
    (B : Below A₀ base outer h₀) (F : Fr h₀ L s.heap m) (X : (seat.heap_1 w.params).In h₀) (T : Top topProg ((looseW seat.view_1 [Str.ofString "counted_elements_iops", Str.ofString "counted_elements_plainio"]) ++ List.map (fun x => x.name) (recsOf seat.view_1) ++ List.map (fun x => x.fst) (litsOf seat.view_1) ++ List.map (fun x => x.name) (clssOf seat.view_1 (looseW seat.view_1 [Str.ofString "counted_elements_iops", Str.ofString "counted_elements_plainio"]))) mean mg mb h₀) (hkf : cs.kind = .function) (N : News h₀ L s.heap news) (hdp : dp + 20 < recursionLimit) (hP : PlaceAt news pr ad n c) (h1 : 1 ≤ c) (h2 : c ≤ 3) (h3 : 0 ≤ n) (h4 : n ≤ 100) (h5 : -1000 ≤ ad) (h6 : ad ≤ 1000)
    (ret : ∀ r t1 t2 h' tk', Fr h₀ L h' m → News h₀ L h' ((r, tupO [.bool true, .int ad t1, .int (ad + c * n) t2]) :: news) → (∀ p ∈ news, p.1 < r) → Q (.ref r) { s with heap := h', toks := tk' }) :
    wpAny (model PySem.Challenge.rw_rh0120_01.row.prog w) (ktrTop dp un gd cn cs L a ccd cl outer) (call (.ref 182) [.ref pr]) Q E s := by
  (revert X; k_fill; intro X)
  obtain ⟨t0, t1, t2, dm, hm, hD⟩ := hP
  (refine wpAny_call ?_; k_dflt ktr_enter)
  k_steps
  all_goals exact ret _ _ _ _ _ (by assumption) (by assumption) (by assumption)
end
end
section
/-- a goal that the walk leaves alone -/
def Halt (P : Prop) : Prop := P
theorem reg_Comp_1 : True := by
  w_top off
  k_with_none
  k_with "pj" => (first | exact Mine.c0 h9 | exact Mine.c1 h9 | exact Mine.e1 h9 | exact Mine.c2 h9 | exact Mine.e2 h9 | exact Mine.c3 h9 | exact Mine.e3 h9 | exact Mine.c4 h9 | exact Mine.e4 h9 | exact Mine.c5 h9 | exact Mine.e5 h9 | exact Mine.c6 h9 | exact Mine.e6 h9 | exact Mine.c7 h9 | exact Mine.e7 h9 | exact Mine.c8 h9 | exact Mine.e8 h9 | exact Mine.c9 h9 | exact Mine.e9 h9 | exact Mine.c10 h9 | exact Mine.e10 h9 | exact Mine.c11 h9 | exact Mine.e11 h9 | exact Mine.c12 h9 | exact Mine.e12 h9 | exact Mine.c13 h9 | exact Mine.e13 h9 | exact Mine.c14 h9 | exact Mine.e14 h9 | exact Mine.c15 h9 | exact Mine.e15 h9 | exact Mine.c16 h9 | exact Mine.e16 h9 | exact Mine.c17 h9 | exact Mine.e17 h9 | exact Mine.c18 h9 | exact Mine.e18 h9 | exact Mine.c19 h9 | exact Mine.e19 h9 | exact Mine.c20 h9 | exact Mine.e20 h9 | fail "pj")
  k_with "pj1" => (first | exact Mine.c0 (Mine.c0 h9) | exact Mine.c0 (Mine.c1 h9) | exact Mine.c0 (Mine.c2 h9) | exact Mine.c0 (Mine.c3 h9) | exact Mine.c0 (Mine.c4 h9) | exact Mine.c0 (Mine.c5 h9) | exact Mine.c0 (Mine.c6 h9) | exact Mine.c0 (Mine.c7 h9) | exact Mine.c0 (Mine.c8 h9) | exact Mine.c0 (Mine.c9 h9) | exact Mine.c0 (Mine.c10 h9) | exact Mine.c0 (Mine.c11 h9) | exact Mine.c0 (Mine.c12 h9) | exact Mine.c0 (Mine.c13 h9) | exact Mine.c0 (Mine.c14 h9) | exact Mine.c0 (Mine.c15 h9) | exact Mine.c0 (Mine.c16 h9) | exact Mine.c0 (Mine.c17 h9) | exact Mine.c0 (Mine.c18 h9) | exact Mine.c0 (Mine.c19 h9) | exact Mine.c0 (Mine.c20 h9) | fail "pj1")
  k_with "pj2" => (first | exact Mine.c1 (Mine.c0 h9) | exact Mine.c1 (Mine.c1 h9) | exact Mine.c1 (Mine.c2 h9) | exact Mine.c1 (Mine.c3 h9) | exact Mine.c1 (Mine.c4 h9) | exact Mine.c1 (Mine.c5 h9) | exact Mine.c1 (Mine.c6 h9) | exact Mine.c1 (Mine.c7 h9) | exact Mine.c1 (Mine.c8 h9) | exact Mine.c1 (Mine.c9 h9) | exact Mine.c1 (Mine.c10 h9) | exact Mine.c1 (Mine.c11 h9) | exact Mine.c1 (Mine.c12 h9) | exact Mine.c1 (Mine.c13 h9) | exact Mine.c1 (Mine.c14 h9) | exact Mine.c1 (Mine.c15 h9) | exact Mine.c1 (Mine.c16 h9) | exact Mine.c1 (Mine.c17 h9) | exact Mine.c1 (Mine.c18 h9) | exact Mine.c1 (Mine.c19 h9) | exact Mine.c1 (Mine.c20 h9) | fail "pj2")
  k_with "pj3" => (first | exact Mine.e2 (Mine.c0 h9) | exact Mine.e2 (Mine.c1 h9) | exact Mine.e2 (Mine.c2 h9) | exact Mine.e2 (Mine.c3 h9) | exact Mine.e2 (Mine.c4 h9) | exact Mine.e2 (Mine.c5 h9) | exact Mine.e2 (Mine.c6 h9) | exact Mine.e2 (Mine.c7 h9) | exact Mine.e2 (Mine.c8 h9) | exact Mine.e2 (Mine.c9 h9) | exact Mine.e2 (Mine.c10 h9) | exact Mine.e2 (Mine.c11 h9) | exact Mine.e2 (Mine.c12 h9) | exact Mine.e2 (Mine.c13 h9) | exact Mine.e2 (Mine.c14 h9) | exact Mine.e2 (Mine.c15 h9) | exact Mine.e2 (Mine.c16 h9) | exact Mine.e2 (Mine.c17 h9) | exact Mine.e2 (Mine.c18 h9) | exact Mine.e2 (Mine.c19 h9) | exact Mine.e2 (Mine.c20 h9) | fail "pj3")
  k_with "omega" => (first | exact Nat.le_refl _ | decide | with_reducible (first | exact Mine.lim0 (by assumption) | exact Mine.lim1 (by assumption) (by with_unfolding_all rfl) | exact Mine.lim2 (by assumption) (by with_unfolding_all rfl) | exact Mine.lim3 (by assumption) (by with_unfolding_all rfl) | exact Mine.lim8 (by assumption) (by assumption) (by with_unfolding_all rfl) | exact Mine.lim9 (by assumption) (by assumption) (by with_unfolding_all rfl) | exact Mine.lim10 (by assumption) (by assumption) (by with_unfolding_all rfl) | exact Mine.i1 (by assumption) | exact Mine.i2 (by assumption) | exact Mine.i3 (by assumption) | exact Mine.i4 (by assumption) (by with_unfolding_all rfl) | exact Mine.i5 (by assumption) | exact Mine.i6 (by assumption) (by assumption) | exact Mine.i7 (by assumption) (by assumption) | exact Mine.i8 (by assumption) (by assumption) | exact List.length_take_le _ _ | fail "l") | (refine Mine.toNe ?_; with_reducible (first | exact Nat.ne_of_lt (by ((repeat (first | assumption | exact Mine.ltp0 | refine Mine.ltp ?_)); (first | done | fail "c"))) | exact Nat.ne_of_gt (by ((repeat (first | assumption | exact Mine.ltp0 | refine Mine.ltp ?_)); (first | done | fail "c"))) | (refine Nat.ne_of_lt (Mine.viaL (by assumption) ?_); intro h9; k_extra "pj") | (refine Nat.ne_of_gt (Mine.viaL (by assumption) ?_); intro h9; k_extra "pj") | (refine Nat.ne_of_lt (Mine.viaM (by assumption) ?_); intro h9; k_extra "pj") | (refine Nat.ne_of_gt (Mine.viaM (by assumption) ?_); intro h9; k_extra "pj") | assumption | exact Ne.symm (by assumption) | (refine Mine.viaN (by assumption) ?_; intro h9; k_extra "pj") | (refine Ne.symm (Mine.viaN (by assumption) ?_); intro h9; k_extra "pj") | (refine Mine.viaN1 (by assumption) ?_; intro h9; k_extra "pj1") | (refine Ne.symm (Mine.viaN1 (by assumption) ?_); intro h9; k_extra "pj1") | (refine Mine.viaN2 (by assumption) ?_; intro h9; k_extra "pj2") | (refine Ne.symm (Mine.viaN2 (by assumption) ?_); intro h9; k_extra "pj2") | (refine Mine.viaN3 (by assumption) ?_; intro h9; k_extra "pj3") | (refine Ne.symm (Mine.viaN3 (by assumption) ?_); intro h9; k_extra "pj3") | fail "n")) | fail "o")
  trivial
theorem halt {P : Prop} (h : Halt P) : P := h
theorem unhalt {P : Prop} (h : P) : Halt P := h
section
variable {prog : Program} {w : World} {A : Around} {h₀ : Heap} {L : Addr} {m : Str → Option Value} {env : Env} {elt : Expr} {x : Str} {scope : Scope} {cl : List (Str × Addr)} {s : Shared} {S : List (Addr × Obj) → Prop} {Fin : List Value → List (Addr × Obj) → Prop} {news : List (Addr × Obj)}
/-- a list comprehension over a range, by what holds of the items and of the ledger -/
theorem comp_inv {n : Nat} {a : Int} (J : Nat → List Value → List (Addr × Obj) → Prop) (h0 : J 0 [] news)
    (turn : ∀ i ys nw t I oI C oC D m₂ h tk (E' : Value → Shared → Prop), i < n → J i ys nw → LCg.NsObj oC m₂ → m₂ x = some (.int (a + (i : Int)) t) → Fr h₀ L h m → News h₀ L h ((I, oI) :: (C, oC) :: (D, LCg.lst ys) :: nw) → LCg.Off3 I C D nw → ((@Ne Nat I C) ∧ (@Ne Nat I D) ∧ (@Ne Nat C D)) →
      wpAny (model prog w) A (eval elt (compEnvC scope cl C env)) (LCg.CompEnd h₀ L m { s with heap := h, toks := tk } I oI C oC D (LCg.lst ys) S (fun y nw' => J (i + 1) (ys ++ [y]) nw')) E' { s with heap := h, toks := tk })
    (fin : ∀ ys nw, J n ys nw → Fin ys nw) : LCg.CompRest prog w A h₀ L m env elt x scope cl s S (fun i v => ∃ t, v = .int (a + (i : Int)) t) Fin n 0 [] news := by
  have key : ∀ (j i : Nat) (ys : List Value) (nw : List (Addr × Obj)), i + j = n → J i ys nw → LCg.CompRest prog w A h₀ L m env elt x scope cl s S (fun i v => ∃ t, v = .int (a + (i : Int)) t) Fin j i ys nw := by
    intro j
    induction j with
    | zero =>
      intro i ys nw hi hy
      obtain rfl : i = n := by omega
      exact LCg.CompRest.zero (fin ys nw hy)
    | succ j ih =>
      intro i ys nw hi hy
      refine LCg.CompRest.succ ?_
      intro v I oI C oC D m₂ h tk E' hv hC hx F N off ne
      obtain ⟨t, rfl⟩ := hv
      refine wpAny_mono (turn i ys nw t I oI C oC D m₂ h tk E' (by omega) hy hC hx F N off ne) (fun y s₂ hq => ?_) fun _ _ e => e
      obtain ⟨h', tk', nw', e, F', N', off', hS, hJ⟩ := hq
      exact ⟨h', tk', nw', e, F', N', off', hS, ih (i + 1) _ _ (by omega) hJ⟩
  exact key n 0 [] news (by omega) h0
end
end
section
theorem reg_Elems_1 : True := by
  w_top off
  k_with_none
  k_with "pj" => (first | exact Mine.c0 h9 | exact Mine.c1 h9 | exact Mine.e1 h9 | exact Mine.c2 h9 | exact Mine.e2 h9 | exact Mine.c3 h9 | exact Mine.e3 h9 | exact Mine.c4 h9 | exact Mine.e4 h9 | exact Mine.c5 h9 | exact Mine.e5 h9 | exact Mine.c6 h9 | exact Mine.e6 h9 | exact Mine.c7 h9 | exact Mine.e7 h9 | exact Mine.c8 h9 | exact Mine.e8 h9 | exact Mine.c9 h9 | exact Mine.e9 h9 | exact Mine.c10 h9 | exact Mine.e10 h9 | exact Mine.c11 h9 | exact Mine.e11 h9 | exact Mine.c12 h9 | exact Mine.e12 h9 | exact Mine.c13 h9 | exact Mine.e13 h9 | exact Mine.c14 h9 | exact Mine.e14 h9 | exact Mine.c15 h9 | exact Mine.e15 h9 | exact Mine.c16 h9 | exact Mine.e16 h9 | exact Mine.c17 h9 | exact Mine.e17 h9 | exact Mine.c18 h9 | exact Mine.e18 h9 | exact Mine.c19 h9 | exact Mine.e19 h9 | exact Mine.c20 h9 | exact Mine.e20 h9 | fail "pj")
  k_with "pj1" => (first | exact Mine.c0 (Mine.c0 h9) | exact Mine.c0 (Mine.c1 h9) | exact Mine.c0 (Mine.c2 h9) | exact Mine.c0 (Mine.c3 h9) | exact Mine.c0 (Mine.c4 h9) | exact Mine.c0 (Mine.c5 h9) | exact Mine.c0 (Mine.c6 h9) | exact Mine.c0 (Mine.c7 h9) | exact Mine.c0 (Mine.c8 h9) | exact Mine.c0 (Mine.c9 h9) | exact Mine.c0 (Mine.c10 h9) | exact Mine.c0 (Mine.c11 h9) | exact Mine.c0 (Mine.c12 h9) | exact Mine.c0 (Mine.c13 h9) | exact Mine.c0 (Mine.c14 h9) | exact Mine.c0 (Mine.c15 h9) | exact Mine.c0 (Mine.c16 h9) | exact Mine.c0 (Mine.c17 h9) | exact Mine.c0 (Mine.c18 h9) | exact Mine.c0 (Mine.c19 h9) | exact Mine.c0 (Mine.c20 h9) | fail "pj1")
  k_with "pj2" => (first | exact Mine.c1 (Mine.c0 h9) | exact Mine.c1 (Mine.c1 h9) | exact Mine.c1 (Mine.c2 h9) | exact Mine.c1 (Mine.c3 h9) | exact Mine.c1 (Mine.c4 h9) | exact Mine.c1 (Mine.c5 h9) | exact Mine.c1 (Mine.c6 h9) | exact Mine.c1 (Mine.c7 h9) | exact Mine.c1 (Mine.c8 h9) | exact Mine.c1 (Mine.c9 h9) | exact Mine.c1 (Mine.c10 h9) | exact Mine.c1 (Mine.c11 h9) | exact Mine.c1 (Mine.c12 h9) | exact Mine.c1 (Mine.c13 h9) | exact Mine.c1 (Mine.c14 h9) | exact Mine.c1 (Mine.c15 h9) | exact Mine.c1 (Mine.c16 h9) | exact Mine.c1 (Mine.c17 h9) | exact Mine.c1 (Mine.c18 h9) | exact Mine.c1 (Mine.c19 h9) | exact Mine.c1 (Mine.c20 h9) | fail "pj2")
  k_with "pj3" => (first | exact Mine.e2 (Mine.c0 h9) | exact Mine.e2 (Mine.c1 h9) | exact Mine.e2 (Mine.c2 h9) | exact Mine.e2 (Mine.c3 h9) | exact Mine.e2 (Mine.c4 h9) | exact Mine.e2 (Mine.c5 h9) | exact Mine.e2 (Mine.c6 h9) | exact Mine.e2 (Mine.c7 h9) | exact Mine.e2 (Mine.c8 h9) | exact Mine.e2 (Mine.c9 h9) | exact Mine.e2 (Mine.c10 h9) | exact Mine.e2 (Mine.c11 h9) | exact Mine.e2 (Mine.c12 h9) | exact Mine.e2 (Mine.c13 h9) | exact Mine.e2 (Mine.c14 h9) | exact Mine.e2 (Mine.c15 h9) | exact Mine.e2 (Mine.c16 h9) | exact Mine.e2 (Mine.c17 h9) | exact Mine.e2 (Mine.c18 h9) | exact Mine.e2 (Mine.c19 h9) | exact Mine.e2 (Mine.c20 h9) | fail "pj3")
  k_with "omega" => (first | exact Nat.le_refl _ | decide | with_reducible (first | exact Mine.lim0 (by assumption) | exact Mine.lim1 (by assumption) (by with_unfolding_all rfl) | exact Mine.lim2 (by assumption) (by with_unfolding_all rfl) | exact Mine.lim3 (by assumption) (by with_unfolding_all rfl) | exact Mine.lim8 (by assumption) (by assumption) (by with_unfolding_all rfl) | exact Mine.lim9 (by assumption) (by assumption) (by with_unfolding_all rfl) | exact Mine.lim10 (by assumption) (by assumption) (by with_unfolding_all rfl) | exact Mine.i1 (by assumption) | exact Mine.i2 (by assumption) | exact Mine.i3 (by assumption) | exact Mine.i4 (by assumption) (by with_unfolding_all rfl) | exact Mine.i5 (by assumption) | exact Mine.i6 (by assumption) (by assumption) | exact Mine.i7 (by assumption) (by assumption) | exact Mine.i8 (by assumption) (by assumption) | exact List.length_take_le _ _ | fail "l") | (refine Mine.toNe ?_; with_reducible (first | exact Nat.ne_of_lt (by ((repeat (first | assumption | exact Mine.ltp0 | refine Mine.ltp ?_)); (first | done | fail "c"))) | exact Nat.ne_of_gt (by ((repeat (first | assumption | exact Mine.ltp0 | refine Mine.ltp ?_)); (first | done | fail "c"))) | (refine Nat.ne_of_lt (Mine.viaL (by assumption) ?_); intro h9; k_extra "pj") | (refine Nat.ne_of_gt (Mine.viaL (by assumption) ?_); intro h9; k_extra "pj") | (refine Nat.ne_of_lt (Mine.viaM (by assumption) ?_); intro h9; k_extra "pj") | (refine Nat.ne_of_gt (Mine.viaM (by assumption) ?_); intro h9; k_extra "pj") | assumption | exact Ne.symm (by assumption) | (refine Mine.viaN (by assumption) ?_; intro h9; k_extra "pj") | (refine Ne.symm (Mine.viaN (by assumption) ?_); intro h9; k_extra "pj") | (refine Mine.viaN1 (by assumption) ?_; intro h9; k_extra "pj1") | (refine Ne.symm (Mine.viaN1 (by assumption) ?_); intro h9; k_extra "pj1") | (refine Mine.viaN2 (by assumption) ?_; intro h9; k_extra "pj2") | (refine Ne.symm (Mine.viaN2 (by assumption) ?_); intro h9; k_extra "pj2") | (refine Mine.viaN3 (by assumption) ?_; intro h9; k_extra "pj3") | (refine Ne.symm (Mine.viaN3 (by assumption) ?_); intro h9; k_extra "pj3") | fail "n")) | fail "o")
  trivial
theorem allLt_mem {d : Addr} : ∀ {l : List (Addr × Obj)}, AllLt d l → ∀ p ∈ l, p.1 < d
  | [], _, _, h => nomatch h
  | a :: r, ⟨h1, h2⟩, p, h => by
    rcases List.mem_cons.mp h with rfl | h
    · exact h1
    · exact allLt_mem h2 p h
theorem off1_mem {D : Addr} : ∀ {l : List (Addr × Obj)}, LCg.Off1 D l → ∀ p ∈ l, p.1 ≠ D
  | [], _, _, h => nomatch h
  | a :: r, ⟨h1, h2⟩, p, h => by
    rcases List.mem_cons.mp h with rfl | h
    · exact h1
    · exact off1_mem h2 p h
section
theorem reg_Elems_2 : True := by
  w_top off
  k_with_none
  k_with "pj" => (first | exact Mine.c0 h9 | exact Mine.c1 h9 | exact Mine.e1 h9 | exact Mine.c2 h9 | exact Mine.e2 h9 | exact Mine.c3 h9 | exact Mine.e3 h9 | exact Mine.c4 h9 | exact Mine.e4 h9 | exact Mine.c5 h9 | exact Mine.e5 h9 | exact Mine.c6 h9 | exact Mine.e6 h9 | exact Mine.c7 h9 | exact Mine.e7 h9 | exact Mine.c8 h9 | exact Mine.e8 h9 | exact Mine.c9 h9 | exact Mine.e9 h9 | exact Mine.c10 h9 | exact Mine.e10 h9 | exact Mine.c11 h9 | exact Mine.e11 h9 | exact Mine.c12 h9 | exact Mine.e12 h9 | exact Mine.c13 h9 | exact Mine.e13 h9 | exact Mine.c14 h9 | exact Mine.e14 h9 | exact Mine.c15 h9 | exact Mine.e15 h9 | exact Mine.c16 h9 | exact Mine.e16 h9 | exact Mine.c17 h9 | exact Mine.e17 h9 | exact Mine.c18 h9 | exact Mine.e18 h9 | exact Mine.c19 h9 | exact Mine.e19 h9 | exact Mine.c20 h9 | exact Mine.e20 h9 | fail "pj")
  k_with "pj1" => (first | exact Mine.c0 (Mine.c0 h9) | exact Mine.c0 (Mine.c1 h9) | exact Mine.c0 (Mine.c2 h9) | exact Mine.c0 (Mine.c3 h9) | exact Mine.c0 (Mine.c4 h9) | exact Mine.c0 (Mine.c5 h9) | exact Mine.c0 (Mine.c6 h9) | exact Mine.c0 (Mine.c7 h9) | exact Mine.c0 (Mine.c8 h9) | exact Mine.c0 (Mine.c9 h9) | exact Mine.c0 (Mine.c10 h9) | exact Mine.c0 (Mine.c11 h9) | exact Mine.c0 (Mine.c12 h9) | exact Mine.c0 (Mine.c13 h9) | exact Mine.c0 (Mine.c14 h9) | exact Mine.c0 (Mine.c15 h9) | exact Mine.c0 (Mine.c16 h9) | exact Mine.c0 (Mine.c17 h9) | exact Mine.c0 (Mine.c18 h9) | exact Mine.c0 (Mine.c19 h9) | exact Mine.c0 (Mine.c20 h9) | fail "pj1")
  k_with "pj2" => (first | exact Mine.c1 (Mine.c0 h9) | exact Mine.c1 (Mine.c1 h9) | exact Mine.c1 (Mine.c2 h9) | exact Mine.c1 (Mine.c3 h9) | exact Mine.c1 (Mine.c4 h9) | exact Mine.c1 (Mine.c5 h9) | exact Mine.c1 (Mine.c6 h9) | exact Mine.c1 (Mine.c7 h9) | exact Mine.c1 (Mine.c8 h9) | exact Mine.c1 (Mine.c9 h9) | exact Mine.c1 (Mine.c10 h9) | exact Mine.c1 (Mine.c11 h9) | exact Mine.c1 (Mine.c12 h9) | exact Mine.c1 (Mine.c13 h9) | exact Mine.c1 (Mine.c14 h9) | exact Mine.c1 (Mine.c15 h9) | exact Mine.c1 (Mine.c16 h9) | exact Mine.c1 (Mine.c17 h9) | exact Mine.c1 (Mine.c18 h9) | exact Mine.c1 (Mine.c19 h9) | exact Mine.c1 (Mine.c20 h9) | fail "pj2")
  k_with "pj3" => (first | exact Mine.e2 (Mine.c0 h9) | exact Mine.e2 (Mine.c1 h9) | exact Mine.e2 (Mine.c2 h9) | exact Mine.e2 (Mine.c3 h9) | exact Mine.e2 (Mine.c4 h9) | exact Mine.e2 (Mine.c5 h9) | exact Mine.e2 (Mine.c6 h9) | exact Mine.e2 (Mine.c7 h9) | exact Mine.e2 (Mine.c8 h9) | exact Mine.e2 (Mine.c9 h9) | exact Mine.e2 (Mine.c10 h9) | exact Mine.e2 (Mine.c11 h9) | exact Mine.e2 (Mine.c12 h9) | exact Mine.e2 (Mine.c13 h9) | exact Mine.e2 (Mine.c14 h9) | exact Mine.e2 (Mine.c15 h9) | exact Mine.e2 (Mine.c16 h9) | exact Mine.e2 (Mine.c17 h9) | exact Mine.e2 (Mine.c18 h9) | exact Mine.e2 (Mine.c19 h9) | exact Mine.e2 (Mine.c20 h9) | fail "pj3")
  k_with "omega" => (first | exact Nat.le_refl _ | decide | with_reducible (first | exact Mine.lim0 (by assumption) | exact Mine.lim1 (by assumption) (by with_unfolding_all rfl) | exact Mine.lim2 (by assumption) (by with_unfolding_all rfl) | exact Mine.lim3 (by assumption) (by with_unfolding_all rfl) | exact Mine.lim8 (by assumption) (by assumption) (by with_unfolding_all rfl) | exact Mine.lim9 (by assumption) (by assumption) (by with_unfolding_all rfl) | exact Mine.lim10 (by assumption) (by assumption) (by with_unfolding_all rfl) | exact Mine.i1 (by assumption) | exact Mine.i2 (by assumption) | exact Mine.i3 (by assumption) | exact Mine.i4 (by assumption) (by with_unfolding_all rfl) | exact Mine.i5 (by assumption) | exact Mine.i6 (by assumption) (by assumption) | exact Mine.i7 (by assumption) (by assumption) | exact Mine.i8 (by assumption) (by assumption) | exact List.length_take_le _ _ | fail "l") | (refine Mine.toNe ?_; with_reducible (first | exact Nat.ne_of_lt (by ((repeat (first | assumption | exact Mine.ltp0 | refine Mine.ltp ?_)); (first | done | fail "c"))) | exact Nat.ne_of_gt (by ((repeat (first | assumption | exact Mine.ltp0 | refine Mine.ltp ?_)); (first | done | fail "c"))) | (refine Nat.ne_of_lt (Mine.viaL (by assumption) ?_); intro h9; k_extra "pj") | (refine Nat.ne_of_gt (Mine.viaL (by assumption) ?_); intro h9; k_extra "pj") | (refine Nat.ne_of_lt (Mine.viaM (by assumption) ?_); intro h9; k_extra "pj") | (refine Nat.ne_of_gt (Mine.viaM (by assumption) ?_); intro h9; k_extra "pj") | assumption | exact Ne.symm (by assumption) | (refine Mine.viaN (by assumption) ?_; intro h9; k_extra "pj") | (refine Ne.symm (Mine.viaN (by assumption) ?_); intro h9; k_extra "pj") | (refine Mine.viaN1 (by assumption) ?_; intro h9; k_extra "pj1") | (refine Ne.symm (Mine.viaN1 (by assumption) ?_); intro h9; k_extra "pj1") | (refine Mine.viaN2 (by assumption) ?_; intro h9; k_extra "pj2") | (refine Ne.symm (Mine.viaN2 (by assumption) ?_); intro h9; k_extra "pj2") | (refine Mine.viaN3 (by assumption) ?_; intro h9; k_extra "pj3") | (refine Ne.symm (Mine.viaN3 (by assumption) ?_); intro h9; k_extra "pj3") | fail "n")) | fail "o")
  k_with "k_all" => (first | (assumption) | fail "no")
  k_with "k_mem" => (first | (assumption) | fail "no")
  k_with "news_mem" => (first | (k_mem) | fail "no")
  k_with "k_all" => (first | (refine fun p9 hp9 => Nat.ne_of_lt (Nat.lt_of_lt_of_le ((by assumption : ∀ p ∈ _, p.1 < _) p9 hp9) ?_); omega) | fail "no")
  k_with "call ref" => (first | (k_here; (refine wpAny_call ?_); k_dflt (refine' code_def ?q92f5ae95k1 ?q92f5ae95k2 ?q92f5ae95k3 ?q92f5ae95k4 ?q92f5ae95k5 ?q92f5ae95kA ?q92f5ae95kF ?q92f5ae95kK ?q92f5ae95k6 ?q92f5ae95k7 ?q92f5ae95k8 ?q92f5ae95k9 ?q92f5ae95kB ?_ ?q92f5ae95c2 ?q92f5ae95c3 ?q92f5ae95c4 ?q92f5ae95c5; (case q92f5ae95kA => exact rfl); (case q92f5ae95kF => exact rfl); (case q92f5ae95kK => first | exact rfl | assumption); (case q92f5ae95k1 => k_asm); (case q92f5ae95k2 => k_asm); (case q92f5ae95k3 => k_asm); (case q92f5ae95k4 => k_asm); (case q92f5ae95k5 => k_asm); (case q92f5ae95k6 => k_is); (case q92f5ae95k7 => k_is); (case q92f5ae95k8 => ((simp only [depth_under_make, depth_under_kw, depth_in1, depth_deeper, depth_caller]); first | decide | ((try dsimp only [ktrTop]); omega))); (case q92f5ae95k9 => exact BindsTo.of_eq rfl); (case q92f5ae95c5 => decide); (case q92f5ae95kB => exact locs rfl); (case q92f5ae95c2 => exact rfl); (case q92f5ae95c3 => exact rfl); (case q92f5ae95c4 => exact rfl); k_whole; intro _ _ _ _ _ _ _ _ _; (try dsimp only); (try k_fold))) | fail "no")
  k_with "call ref" => (first | (k_here; (with_reducible show wpAny _ _ (call (Value.ref 149) [Value.ref _] _) _ _ _); k_dflt (refine' extent_c ?q938f04edB ?q938f04edF ?q938f04edX ?q938f04edT ?q938f04edhk ?q938f04edN ?q938f04edhdp ?q938f04edhD ?q938f04edh1 ?q938f04edh2 ?_; (case q938f04edhk => first | exact rfl | assumption); (case q938f04edB => k_asm); (case q938f04edF => k_asm); (case q938f04edX => k_asm); (case q938f04edT => k_asm); (case q938f04edN => k_asm); (case q938f04edhD => first | assumption | exact DimAt.mono (by assumption) (by intro p hp; repeat (first | exact hp | refine List.mem_cons_of_mem _ ?_))); (case q938f04edhdp => ((simp only [depth_under_make, depth_under_kw, depth_in1, depth_deeper, depth_caller]); first | decide | ((try dsimp only [ktrTop]); omega))); (case q938f04edh1 => omega); (case q938f04edh2 => omega)); intro _ _ _ _ _; (try k_sweep)) | fail "no")
  k_with "CompSrc" => (first | (refine halt ?_) | fail "no")
  k_with "CompEnd" => (first | (refine halt ?_) | fail "no")
  trivial
theorem elems_c {w : World} {dp un : Nat} {gd : Option (List Code)} {cn : Str} {cs : Scope} {a : Addr} {ccd : Value} {cl : List (Str × Addr)} {outer : List Env} {A₀ : Around} {base h₀ : Heap} {L : Addr} {m : Str → Option Value} {s : Shared} {Q E : Value → Shared → Prop} {mean : ExcName → Option Value} {mg mb : Str → Option Value} {news : List (Addr × Obj)} {pr : Addr} {ad n c : Int}
    (B : Below A₀ base outer h₀) (F : Fr h₀ L s.heap m) (X : (seat.heap_1 w.params).In h₀) (T : Top topProg ((looseW seat.view_1 [Str.ofString "counted_elements_iops", Str.ofString "counted_elements_plainio"]) ++ List.map (fun x => x.name) (recsOf seat.view_1) ++ List.map (fun x => x.fst) (litsOf seat.view_1) ++ List.map (fun x => x.name) (clssOf seat.view_1 (looseW seat.view_1 [Str.ofString "counted_elements_iops", Str.ofString "counted_elements_plainio"]))) mean mg mb h₀) (hkf : cs.kind = .function) (N : News h₀ L s.heap news) (hdp : dp + 20 < recursionLimit) (hP : PlaceAt news pr ad n c) (h1 : 1 ≤ c) (h2 : c ≤ 3) (h3 : 0 ≤ n) (h4 : n ≤ 100) (h5 : -1000 ≤ ad) (h6 : ad ≤ 1000)
    (ret : ∀ pl ps c0 ex h' tk', Fr h₀ L h' m → News h₀ L h' ((pl, W.listOf ps.toArray c0) :: (ex ++ news)) → (∀ p ∈ ex, ∀ q ∈ news, q.1 < p.1) → (∀ q ∈ ex ++ news, q.1 ≠ pl) → PlAt ex ps ad n c.toNat → Q (.ref pl) { s with heap := h', toks := tk' }) :
    wpAny (model PySem.Challenge.rw_rh0120_01.row.prog w) (ktrTop dp un gd cn cs L a ccd cl outer) (call (.ref 168) [.ref pr]) Q E s := by
  (revert X; k_fill; intro X)
  obtain ⟨t0, t1, t2, dm, hm, hD⟩ := hP
  (refine wpAny_call ?_; k_dflt (refine' code_defC ?q9k1 ?q9k2 ?q9k3 ?q9k4 ?q9k5 ?q9kA ?q9kF ?q9kK ?q9k6 ?q9k7 ?q9k8 ?q9k9 ?q9kB ?q9kD ?_ ?q9c2 ?q9c3 ?q9c4; (case q9kA => exact rfl); (case q9kF => exact rfl); (case q9kK => first | exact rfl | assumption); (case q9k1 => k_asm); (case q9k2 => k_asm); (case q9k3 => k_asm); (case q9k4 => k_asm); (case q9k5 => k_asm); (case q9k6 => k_is); (case q9k7 => k_is); (case q9k8 => ((simp only [depth_under_make, depth_under_kw, depth_in1, depth_deeper, depth_caller]); first | decide | ((try dsimp only [ktrTop]); omega))); (case q9k9 => exact BindsTo.of_eq rfl); (case q9kB => exact rfl); (case q9kD => decide +kernel); (case q9c2 => exact rfl); (case q9c3 => exact rfl); (case q9c4 => exact rfl); k_whole; intro g' L' h' tk' cells' FG' F' N' Y' B' X' T' l1; (try k_lt l1); k_cells Y'; (try simp only [List.cons_append, List.nil_append] at N'); (try dsimp only); (try k_lift B'); (try k_fold)))
  k_steps
  rename News _ _ _ _ => N9
  rename Fr _ _ _ _ => F9
  obtain ⟨oa, ob, oc, od, N10, da, db, dc, dd⟩ : ∃ oa ob oc od, News _ _ _ ((L' + 1 + 1 + 1 + 1, oa) :: (L' + 1 + 1 + 1, ob) :: (L' + 1 + 1, oc) :: (L' + 1, od) :: news) ∧ oa.data = .cell (some (.int n t2)) ∧ ob.data = .cell (some (.int n t2)) ∧ oc.data = .cell (some (.int ad t1)) ∧ od.data = .cell (some (.int 5 t0)) :=
    ⟨_, _, _, _, N9, by assumption, by assumption, by assumption, by assumption⟩
  refine unhalt ?_
  k_dflt (refine LCg.CompSrc.range (by rfl) F9 N10 (by assumption) (by exact small_one (by kcf_bnd) (by kcf_bnd) (by kcf_bnd) (by kcf_bnd)) (by exact rangeSize_nat _ _) (by rw [sizeLine_eq]; omega) ?_)
  intro gg
  refine comp_inv (fun i ys nw => ∃ ex, nw = (L' + 1 + 1 + 1 + 1, oa) :: (L' + 1 + 1 + 1, ob) :: (L' + 1 + 1, oc) :: (L' + 1, od) :: (ex ++ news) ∧ ys.length = i ∧ (∀ p ∈ ex, ∀ q ∈ news, q.1 < p.1) ∧
    ∀ (j : Nat) v, ys[j]? = some v → ∃ r t0 t1 t2 em, v = .ref r ∧ (r, tupO [.int 5 t0, .int (ad + j * n) t1, .int n t2, .ref em]) ∈ ex) ?_ ?_ ?_
  · exact ⟨[], rfl, rfl, fun _ h => (nomatch h), fun j v h => by simp at h⟩
  · rintro i ys nw t I oI C oC D m₂ h tk E' hi ⟨ex, rfl, hl, hlt, hall⟩ hC hx F11 N11 off ne
    have hmem : ∀ p ∈ news, p ∈ ex ++ news := fun p hp => List.mem_append_right _ hp
    have hex : ∀ p ∈ ex, p ∈ ex ++ news := fun p hp => List.mem_append_left _ hp
    generalize hnx : ex ++ news = nx at N11 off hmem hex
    simp only [LCg.Off3] at off
    k_steps
    rename News _ _ _ _ => N12
    rename Fr _ _ _ _ => F12
    rename (_ < _ ∧ I < _ ∧ _) => l9
    rename (I < _ ∧ C < _ ∧ _) => l8
    rename_i D2 hh2 D1 hh1
    simp only [Int.zero_add] at N12
    have l8n := allLt_mem (l := nx) (by simpa using l8.2.2.2.2.2.2.2)
    have l9n := allLt_mem (l := nx) (by simpa using l9.2.2.2.2.2.2.2.2)
    obtain ⟨tv, N13⟩ : ∃ tv, News _ _ _ ((D1, tupO [.int 5 t0, .int (ad + i * n) tv, .int n t2, .ref D2]) :: (D2, tupO []) :: (I, oI) :: (C, oC) :: (D, LCg.lst ys) :: (L' + 1 + 1 + 1 + 1, oa) :: (L' + 1 + 1 + 1, ob) :: (L' + 1 + 1, oc) :: (L' + 1, od) :: nx) := ⟨_, N12⟩
    subst hnx
    refine unhalt (LCg.CompEnd.intro F12 N13 ((L' + 1 + 1 + 1 + 1, oa) :: (L' + 1 + 1 + 1, ob) :: (L' + 1 + 1, oc) :: (L' + 1, od) :: (((D1, tupO [.int 5 t0, .int (ad + i * n) tv, .int n t2, .ref D2]) :: (D2, tupO []) :: ex) ++ news)) ?_ ?_ trivial ⟨(D1, tupO [.int 5 t0, .int (ad + i * n) tv, .int n t2, .ref D2]) :: (D2, tupO []) :: ex, rfl, ?_, ?_, ?_⟩)
    · intro p hp
      simp only [List.mem_cons, List.mem_append] at hp ⊢
      grind
    · exact ⟨off.1, off.2.1, off.2.2.1, off.2.2.2.1, ⟨Nat.ne_of_gt l9.2.1, Nat.ne_of_gt l9.2.2.1, Nat.ne_of_gt l9.2.2.2.1⟩, ⟨Nat.ne_of_gt l8.1, Nat.ne_of_gt l8.2.1, Nat.ne_of_gt l8.2.2.1⟩, off.2.2.2.2⟩
    · simp [hl]
    · intro p hp q hq
      rcases List.mem_cons.mp hp with rfl | hp
      · exact l9n q (hmem q hq)
      · rcases List.mem_cons.mp hp with rfl | hp
        · exact l8n q (hmem q hq)
        · exact hlt p hp q hq
    · intro j v hv
      by_cases hj : j < ys.length
      · rw [List.getElem?_append_left hj] at hv
        obtain ⟨r, a0, a1, a2, em, e1, e2⟩ := hall j v hv
        exact ⟨r, a0, a1, a2, em, e1, List.mem_cons_of_mem _ (List.mem_cons_of_mem _ e2)⟩
      · have hj2 : j = i := by
          have := (List.getElem?_eq_some_iff.mp hv).1
          simp only [List.length_append, List.length_cons, List.length_nil] at this
          omega
        subst hj2
        rw [← hl, List.getElem?_append_right (Nat.le_refl _), Nat.sub_self] at hv
        rw [← hl]
        exact ⟨D1, t0, tv, t2, D2, (Option.some.inj hv).symm, by rw [hl]; exact List.mem_cons_self⟩
  · rintro ys nw ⟨ex, rfl, hl, hlt, hall⟩
    generalize hnx : ex ++ news = nx
    k_steps
    subst hnx
    refine ret _ ys ys.length ex _ _ (by assumption) (newsSub (by assumption) (fun p hp => ?_)) hlt (off1_mem (by simpa using (by assumption : _ ∧ _ ∧ _ ∧ _ ∧ LCg.Off1 _ (ex ++ news)).2.2.2.2)) ⟨by rw [hl, Int.sub_zero], fun j v hv => ?_⟩
    · rcases List.mem_cons.mp hp with rfl | hp
      · exact List.mem_cons_self
      · exact List.mem_cons_of_mem _ (List.mem_cons_of_mem _ (List.mem_cons_of_mem _ (List.mem_cons_of_mem _ (List.mem_cons_of_mem _ hp))))
    · exact hall j v hv
end
end
local macro_rules | `(tactic| walk_at "tl5ff37f") => `(tactic| (intro _ _ _ _ _ _ _ l1; (try k_lt l1)))
local macro_rules | `(tactic| walk_at "tl314f0fd") => `(tactic| (intro _ _ _ _ _ R' U'; (try dsimp only at R' U' ⊢)))
section
/-- the storage of signs -/
def MemAt (news : List (Addr × Obj)) (mem ch : Addr) (vs : List Value) : Prop := ∃ md es nn c, (mem, instObj 117 md) ∈ news ∧ (md, dictOf es nn) ∈ news ∧ getL (Str.ofString "characters") es = some (some (.ref ch)) ∧ (ch, W.listOf vs.toArray c) ∈ news
theorem reg_Held_1 : True := by
  w_top off
  k_with_none
  k_with "pj" => (first | exact Mine.c0 h9 | exact Mine.c1 h9 | exact Mine.e1 h9 | exact Mine.c2 h9 | exact Mine.e2 h9 | exact Mine.c3 h9 | exact Mine.e3 h9 | exact Mine.c4 h9 | exact Mine.e4 h9 | exact Mine.c5 h9 | exact Mine.e5 h9 | exact Mine.c6 h9 | exact Mine.e6 h9 | exact Mine.c7 h9 | exact Mine.e7 h9 | exact Mine.c8 h9 | exact Mine.e8 h9 | exact Mine.c9 h9 | exact Mine.e9 h9 | exact Mine.c10 h9 | exact Mine.e10 h9 | exact Mine.c11 h9 | exact Mine.e11 h9 | exact Mine.c12 h9 | exact Mine.e12 h9 | exact Mine.c13 h9 | exact Mine.e13 h9 | exact Mine.c14 h9 | exact Mine.e14 h9 | exact Mine.c15 h9 | exact Mine.e15 h9 | exact Mine.c16 h9 | exact Mine.e16 h9 | exact Mine.c17 h9 | exact Mine.e17 h9 | exact Mine.c18 h9 | exact Mine.e18 h9 | exact Mine.c19 h9 | exact Mine.e19 h9 | exact Mine.c20 h9 | exact Mine.e20 h9 | fail "pj")
  k_with "pj1" => (first | exact Mine.c0 (Mine.c0 h9) | exact Mine.c0 (Mine.c1 h9) | exact Mine.c0 (Mine.c2 h9) | exact Mine.c0 (Mine.c3 h9) | exact Mine.c0 (Mine.c4 h9) | exact Mine.c0 (Mine.c5 h9) | exact Mine.c0 (Mine.c6 h9) | exact Mine.c0 (Mine.c7 h9) | exact Mine.c0 (Mine.c8 h9) | exact Mine.c0 (Mine.c9 h9) | exact Mine.c0 (Mine.c10 h9) | exact Mine.c0 (Mine.c11 h9) | exact Mine.c0 (Mine.c12 h9) | exact Mine.c0 (Mine.c13 h9) | exact Mine.c0 (Mine.c14 h9) | exact Mine.c0 (Mine.c15 h9) | exact Mine.c0 (Mine.c16 h9) | exact Mine.c0 (Mine.c17 h9) | exact Mine.c0 (Mine.c18 h9) | exact Mine.c0 (Mine.c19 h9) | exact Mine.c0 (Mine.c20 h9) | fail "pj1")
  k_with "pj2" => (first | exact Mine.c1 (Mine.c0 h9) | exact Mine.c1 (Mine.c1 h9) | exact Mine.c1 (Mine.c2 h9) | exact Mine.c1 (Mine.c3 h9) | exact Mine.c1 (Mine.c4 h9) | exact Mine.c1 (Mine.c5 h9) | exact Mine.c1 (Mine.c6 h9) | exact Mine.c1 (Mine.c7 h9) | exact Mine.c1 (Mine.c8 h9) | exact Mine.c1 (Mine.c9 h9) | exact Mine.c1 (Mine.c10 h9) | exact Mine.c1 (Mine.c11 h9) | exact Mine.c1 (Mine.c12 h9) | exact Mine.c1 (Mine.c13 h9) | exact Mine.c1 (Mine.c14 h9) | exact Mine.c1 (Mine.c15 h9) | exact Mine.c1 (Mine.c16 h9) | exact Mine.c1 (Mine.c17 h9) | exact Mine.c1 (Mine.c18 h9) | exact Mine.c1 (Mine.c19 h9) | exact Mine.c1 (Mine.c20 h9) | fail "pj2")
  k_with "pj3" => (first | exact Mine.e2 (Mine.c0 h9) | exact Mine.e2 (Mine.c1 h9) | exact Mine.e2 (Mine.c2 h9) | exact Mine.e2 (Mine.c3 h9) | exact Mine.e2 (Mine.c4 h9) | exact Mine.e2 (Mine.c5 h9) | exact Mine.e2 (Mine.c6 h9) | exact Mine.e2 (Mine.c7 h9) | exact Mine.e2 (Mine.c8 h9) | exact Mine.e2 (Mine.c9 h9) | exact Mine.e2 (Mine.c10 h9) | exact Mine.e2 (Mine.c11 h9) | exact Mine.e2 (Mine.c12 h9) | exact Mine.e2 (Mine.c13 h9) | exact Mine.e2 (Mine.c14 h9) | exact Mine.e2 (Mine.c15 h9) | exact Mine.e2 (Mine.c16 h9) | exact Mine.e2 (Mine.c17 h9) | exact Mine.e2 (Mine.c18 h9) | exact Mine.e2 (Mine.c19 h9) | exact Mine.e2 (Mine.c20 h9) | fail "pj3")
  k_with "omega" => (first | exact Nat.le_refl _ | decide | with_reducible (first | exact Mine.lim0 (by assumption) | exact Mine.lim1 (by assumption) (by with_unfolding_all rfl) | exact Mine.lim2 (by assumption) (by with_unfolding_all rfl) | exact Mine.lim3 (by assumption) (by with_unfolding_all rfl) | exact Mine.lim8 (by assumption) (by assumption) (by with_unfolding_all rfl) | exact Mine.lim9 (by assumption) (by assumption) (by with_unfolding_all rfl) | exact Mine.lim10 (by assumption) (by assumption) (by with_unfolding_all rfl) | exact Mine.i1 (by assumption) | exact Mine.i2 (by assumption) | exact Mine.i3 (by assumption) | exact Mine.i4 (by assumption) (by with_unfolding_all rfl) | exact Mine.i5 (by assumption) | exact Mine.i6 (by assumption) (by assumption) | exact Mine.i7 (by assumption) (by assumption) | exact Mine.i8 (by assumption) (by assumption) | exact List.length_take_le _ _ | fail "l") | (refine Mine.toNe ?_; with_reducible (first | exact Nat.ne_of_lt (by ((repeat (first | assumption | exact Mine.ltp0 | refine Mine.ltp ?_)); (first | done | fail "c"))) | exact Nat.ne_of_gt (by ((repeat (first | assumption | exact Mine.ltp0 | refine Mine.ltp ?_)); (first | done | fail "c"))) | (refine Nat.ne_of_lt (Mine.viaL (by assumption) ?_); intro h9; k_extra "pj") | (refine Nat.ne_of_gt (Mine.viaL (by assumption) ?_); intro h9; k_extra "pj") | (refine Nat.ne_of_lt (Mine.viaM (by assumption) ?_); intro h9; k_extra "pj") | (refine Nat.ne_of_gt (Mine.viaM (by assumption) ?_); intro h9; k_extra "pj") | assumption | exact Ne.symm (by assumption) | (refine Mine.viaN (by assumption) ?_; intro h9; k_extra "pj") | (refine Ne.symm (Mine.viaN (by assumption) ?_); intro h9; k_extra "pj") | (refine Mine.viaN1 (by assumption) ?_; intro h9; k_extra "pj1") | (refine Ne.symm (Mine.viaN1 (by assumption) ?_); intro h9; k_extra "pj1") | (refine Mine.viaN2 (by assumption) ?_; intro h9; k_extra "pj2") | (refine Ne.symm (Mine.viaN2 (by assumption) ?_); intro h9; k_extra "pj2") | (refine Mine.viaN3 (by assumption) ?_; intro h9; k_extra "pj3") | (refine Ne.symm (Mine.viaN3 (by assumption) ?_); intro h9; k_extra "pj3") | fail "n")) | fail "o")
  trivial
theorem MemAt.mono {news news' : List (Addr × Obj)} {mem ch : Addr} {vs : List Value} (h : MemAt news mem ch vs) (hs : ∀ p ∈ news, p ∈ news') : MemAt news' mem ch vs := by
  obtain ⟨md, es, nn, c, a, b, d, e⟩ := h
  exact ⟨md, es, nn, c, hs _ a, hs _ b, d, hs _ e⟩
theorem sub_mid0 {ex news : List (Addr × Obj)} {y : Addr × Obj} : ∀ p ∈ ex ++ news, p ∈ ex ++ y :: news := fun p hp => (List.mem_append.mp hp).elim (List.mem_append_left _) fun h => List.mem_append_right _ (List.mem_cons_of_mem _ h)
theorem sub_mid {ex news : List (Addr × Obj)} {x y : Addr × Obj} : ∀ p ∈ x :: (ex ++ news), p ∈ x :: (ex ++ y :: news) := fun p hp => by
  rcases List.mem_cons.mp hp with rfl | hp
  · exact List.mem_cons_self
  · exact List.mem_cons_of_mem _ (sub_mid0 p hp)
section
theorem reg_Held_2 : True := by
  w_top off
  k_with_none
  k_with "pj" => (first | exact Mine.c0 h9 | exact Mine.c1 h9 | exact Mine.e1 h9 | exact Mine.c2 h9 | exact Mine.e2 h9 | exact Mine.c3 h9 | exact Mine.e3 h9 | exact Mine.c4 h9 | exact Mine.e4 h9 | exact Mine.c5 h9 | exact Mine.e5 h9 | exact Mine.c6 h9 | exact Mine.e6 h9 | exact Mine.c7 h9 | exact Mine.e7 h9 | exact Mine.c8 h9 | exact Mine.e8 h9 | exact Mine.c9 h9 | exact Mine.e9 h9 | exact Mine.c10 h9 | exact Mine.e10 h9 | exact Mine.c11 h9 | exact Mine.e11 h9 | exact Mine.c12 h9 | exact Mine.e12 h9 | exact Mine.c13 h9 | exact Mine.e13 h9 | exact Mine.c14 h9 | exact Mine.e14 h9 | exact Mine.c15 h9 | exact Mine.e15 h9 | exact Mine.c16 h9 | exact Mine.e16 h9 | exact Mine.c17 h9 | exact Mine.e17 h9 | exact Mine.c18 h9 | exact Mine.e18 h9 | exact Mine.c19 h9 | exact Mine.e19 h9 | exact Mine.c20 h9 | exact Mine.e20 h9 | fail "pj")
  k_with "pj1" => (first | exact Mine.c0 (Mine.c0 h9) | exact Mine.c0 (Mine.c1 h9) | exact Mine.c0 (Mine.c2 h9) | exact Mine.c0 (Mine.c3 h9) | exact Mine.c0 (Mine.c4 h9) | exact Mine.c0 (Mine.c5 h9) | exact Mine.c0 (Mine.c6 h9) | exact Mine.c0 (Mine.c7 h9) | exact Mine.c0 (Mine.c8 h9) | exact Mine.c0 (Mine.c9 h9) | exact Mine.c0 (Mine.c10 h9) | exact Mine.c0 (Mine.c11 h9) | exact Mine.c0 (Mine.c12 h9) | exact Mine.c0 (Mine.c13 h9) | exact Mine.c0 (Mine.c14 h9) | exact Mine.c0 (Mine.c15 h9) | exact Mine.c0 (Mine.c16 h9) | exact Mine.c0 (Mine.c17 h9) | exact Mine.c0 (Mine.c18 h9) | exact Mine.c0 (Mine.c19 h9) | exact Mine.c0 (Mine.c20 h9) | fail "pj1")
  k_with "pj2" => (first | exact Mine.c1 (Mine.c0 h9) | exact Mine.c1 (Mine.c1 h9) | exact Mine.c1 (Mine.c2 h9) | exact Mine.c1 (Mine.c3 h9) | exact Mine.c1 (Mine.c4 h9) | exact Mine.c1 (Mine.c5 h9) | exact Mine.c1 (Mine.c6 h9) | exact Mine.c1 (Mine.c7 h9) | exact Mine.c1 (Mine.c8 h9) | exact Mine.c1 (Mine.c9 h9) | exact Mine.c1 (Mine.c10 h9) | exact Mine.c1 (Mine.c11 h9) | exact Mine.c1 (Mine.c12 h9) | exact Mine.c1 (Mine.c13 h9) | exact Mine.c1 (Mine.c14 h9) | exact Mine.c1 (Mine.c15 h9) | exact Mine.c1 (Mine.c16 h9) | exact Mine.c1 (Mine.c17 h9) | exact Mine.c1 (Mine.c18 h9) | exact Mine.c1 (Mine.c19 h9) | exact Mine.c1 (Mine.c20 h9) | fail "pj2")
  k_with "pj3" => (first | exact Mine.e2 (Mine.c0 h9) | exact Mine.e2 (Mine.c1 h9) | exact Mine.e2 (Mine.c2 h9) | exact Mine.e2 (Mine.c3 h9) | exact Mine.e2 (Mine.c4 h9) | exact Mine.e2 (Mine.c5 h9) | exact Mine.e2 (Mine.c6 h9) | exact Mine.e2 (Mine.c7 h9) | exact Mine.e2 (Mine.c8 h9) | exact Mine.e2 (Mine.c9 h9) | exact Mine.e2 (Mine.c10 h9) | exact Mine.e2 (Mine.c11 h9) | exact Mine.e2 (Mine.c12 h9) | exact Mine.e2 (Mine.c13 h9) | exact Mine.e2 (Mine.c14 h9) | exact Mine.e2 (Mine.c15 h9) | exact Mine.e2 (Mine.c16 h9) | exact Mine.e2 (Mine.c17 h9) | exact Mine.e2 (Mine.c18 h9) | exact Mine.e2 (Mine.c19 h9) | exact Mine.e2 (Mine.c20 h9) | fail "pj3")
  k_with "omega" => (first | exact Nat.le_refl _ | decide | with_reducible (first | exact Mine.lim0 (by assumption) | exact Mine.lim1 (by assumption) (by with_unfolding_all rfl) | exact Mine.lim2 (by assumption) (by with_unfolding_all rfl) | exact Mine.lim3 (by assumption) (by with_unfolding_all rfl) | exact Mine.lim8 (by assumption) (by assumption) (by with_unfolding_all rfl) | exact Mine.lim9 (by assumption) (by assumption) (by with_unfolding_all rfl) | exact Mine.lim10 (by assumption) (by assumption) (by with_unfolding_all rfl) | exact Mine.i1 (by assumption) | exact Mine.i2 (by assumption) | exact Mine.i3 (by assumption) | exact Mine.i4 (by assumption) (by with_unfolding_all rfl) | exact Mine.i5 (by assumption) | exact Mine.i6 (by assumption) (by assumption) | exact Mine.i7 (by assumption) (by assumption) | exact Mine.i8 (by assumption) (by assumption) | exact List.length_take_le _ _ | fail "l") | (refine Mine.toNe ?_; with_reducible (first | exact Nat.ne_of_lt (by ((repeat (first | assumption | exact Mine.ltp0 | refine Mine.ltp ?_)); (first | done | fail "c"))) | exact Nat.ne_of_gt (by ((repeat (first | assumption | exact Mine.ltp0 | refine Mine.ltp ?_)); (first | done | fail "c"))) | (refine Nat.ne_of_lt (Mine.viaL (by assumption) ?_); intro h9; k_extra "pj") | (refine Nat.ne_of_gt (Mine.viaL (by assumption) ?_); intro h9; k_extra "pj") | (refine Nat.ne_of_lt (Mine.viaM (by assumption) ?_); intro h9; k_extra "pj") | (refine Nat.ne_of_gt (Mine.viaM (by assumption) ?_); intro h9; k_extra "pj") | assumption | exact Ne.symm (by assumption) | (refine Mine.viaN (by assumption) ?_; intro h9; k_extra "pj") | (refine Ne.symm (Mine.viaN (by assumption) ?_); intro h9; k_extra "pj") | (refine Mine.viaN1 (by assumption) ?_; intro h9; k_extra "pj1") | (refine Ne.symm (Mine.viaN1 (by assumption) ?_); intro h9; k_extra "pj1") | (refine Mine.viaN2 (by assumption) ?_; intro h9; k_extra "pj2") | (refine Ne.symm (Mine.viaN2 (by assumption) ?_); intro h9; k_extra "pj2") | (refine Mine.viaN3 (by assumption) ?_; intro h9; k_extra "pj3") | (refine Ne.symm (Mine.viaN3 (by assumption) ?_); intro h9; k_extra "pj3") | fail "n")) | fail "o")
  k_with "k_all" => (first | (assumption) | fail "no")
  k_with "k_mem" => (first | (assumption) | fail "no")
  k_with "news_mem" => (first | (k_mem) | fail "no")
  k_with "call ref" => (first | (k_here; (refine wpAny_call ?_); k_dflt (refine' code_def ?q92f5ae95k1 ?q92f5ae95k2 ?q92f5ae95k3 ?q92f5ae95k4 ?q92f5ae95k5 ?q92f5ae95kA ?q92f5ae95kF ?q92f5ae95kK ?q92f5ae95k6 ?q92f5ae95k7 ?q92f5ae95k8 ?q92f5ae95k9 ?q92f5ae95kB ?_ ?q92f5ae95c2 ?q92f5ae95c3 ?q92f5ae95c4 ?q92f5ae95c5; (case q92f5ae95kA => exact rfl); (case q92f5ae95kF => exact rfl); (case q92f5ae95kK => first | exact rfl | assumption); (case q92f5ae95k1 => k_asm); (case q92f5ae95k2 => k_asm); (case q92f5ae95k3 => k_asm); (case q92f5ae95k4 => k_asm); (case q92f5ae95k5 => k_asm); (case q92f5ae95k6 => k_is); (case q92f5ae95k7 => k_is); (case q92f5ae95k8 => ((simp only [depth_under_make, depth_under_kw, depth_in1, depth_deeper, depth_caller]); first | decide | ((try dsimp only [ktrTop]); omega))); (case q92f5ae95k9 => exact BindsTo.of_eq rfl); (case q92f5ae95c5 => decide); (case q92f5ae95kB => exact locs rfl); (case q92f5ae95c2 => exact rfl); (case q92f5ae95c3 => exact rfl); (case q92f5ae95c4 => exact rfl); k_whole; intro _ _ _ _ _ _ _ _ _; (try dsimp only); (try k_fold))) | fail "no")
  k_with "exec Raise some none" => (first | (k_here; refine raise_open rfl ?_) | fail "no")
  k_with "call ref" => (first | (k_here; (with_reducible show wpAny _ _ (call (Value.ref 51) [Value.str _ _] _) _ _ _); k_dflt (refine' fault_mk ?q96b9c5B ?q96b9c5F ?q96b9c5X ?q96b9c5T ?q96b9c5hk ?q96b9c5hA ?q96b9c5hr ?q96b9c5N ?_; (case q96b9c5hA => exact rfl); (case q96b9c5hk => first | exact rfl | assumption); (case q96b9c5B => k_asm); (case q96b9c5F => k_asm); (case q96b9c5X => k_asm); (case q96b9c5T => k_asm); (case q96b9c5hr => ((simp only [depth_under_make, depth_under_kw, depth_in1, depth_deeper, depth_caller]); first | decide | ((try dsimp only [ktrTop]); omega))); (case q96b9c5N => k_asm)); intro _ _ _ _ _ _ _ _; (try k_sweep)) | fail "no")
  k_with "RaisedVal" => (first | (refine ⟨_, _, _, rfl, Frag.In.keeps (by assumption) (Fr.keep (by assumption)), ((by assumption : News _ _ _ (_ :: _)) _ List.mem_cons_self).1, ?_⟩) | fail "no")
  k_with "leaving ref" => (first | (k_here; first | (refine' leave_fault ?q91bf5e95K ?q91bf5e95F ?q91bf5e95N ?q91bf5e95n ?_ ?q91bf5e95hf ?q91bf5e95hk; (case q91bf5e95hf => exact rfl); (case q91bf5e95hk => first | exact rfl | assumption); (case q91bf5e95F => assumption); (case q91bf5e95K => assumption); (case q91bf5e95N => assumption); (case q91bf5e95n => assumption); k_whole; walk_at "tl3225b9b") | (refine' leave_past ?q91bf5e95K ?q91bf5e95F ?q91bf5e95R ?q91bf5e95U ?_ ?q91bf5e95hf; (case q91bf5e95hf => exact rfl); (case q91bf5e95R => assumption); (case q91bf5e95U => assumption); (case q91bf5e95K => assumption); (case q91bf5e95F => assumption); k_whole; walk_at "tl3225b9b")) | fail "no")
  k_with "call ref" => (first | (k_here; (with_reducible show wpAny _ _ (call (Value.ref 149) [Value.ref _] _) _ _ _); k_dflt (refine' extent_c ?q938f04edB ?q938f04edF ?q938f04edX ?q938f04edT ?q938f04edhk ?q938f04edN ?q938f04edhdp ?q938f04edhD ?q938f04edh1 ?q938f04edh2 ?_; (case q938f04edhk => first | exact rfl | assumption); (case q938f04edB => k_asm); (case q938f04edF => k_asm); (case q938f04edX => k_asm); (case q938f04edT => k_asm); (case q938f04edN => k_asm); (case q938f04edhD => first | assumption | exact DimAt.mono (by assumption) (by intro p hp; repeat (first | exact hp | refine List.mem_cons_of_mem _ ?_))); (case q938f04edhdp => ((simp only [depth_under_make, depth_under_kw, depth_in1, depth_deeper, depth_caller]); first | decide | ((try dsimp only [ktrTop]); omega))); (case q938f04edh1 => omega); (case q938f04edh2 => omega)); intro _ _ _ _ _; (try k_sweep)) | fail "no")
  k_with "call ref" => (first | (k_here; (with_reducible show wpAny _ _ (call (Value.ref 182) [Value.ref _] _) _ _ _); k_dflt (refine' span_c ?q919752c0B ?q919752c0F ?q919752c0X ?q919752c0T ?q919752c0hk ?q919752c0N ?q919752c0hdp ?q919752c0hP ?q919752c0h1 ?q919752c0h2 ?q919752c0h3 ?q919752c0h4 ?q919752c0h5 ?q919752c0h6 ?_; (case q919752c0hk => first | exact rfl | assumption); (case q919752c0B => k_asm); (case q919752c0F => k_asm); (case q919752c0X => k_asm); (case q919752c0T => k_asm); (case q919752c0N => k_asm); (case q919752c0hdp => ((simp only [depth_under_make, depth_under_kw, depth_in1, depth_deeper, depth_caller]); first | decide | ((try dsimp only [ktrTop]); omega))); (case q919752c0hP => first | assumption | exact PlaceAt.mono (by assumption) (by intro p hp; repeat (first | exact hp | refine List.mem_cons_of_mem _ ?_))); (case q919752c0h1 => omega); (case q919752c0h2 => omega); (case q919752c0h3 => omega); (case q919752c0h4 => omega); (case q919752c0h5 => omega); (case q919752c0h6 => omega)); walk_at "tl5ff37f"; (try k_sweep)) | fail "no")
  k_with "call ref" => (first | (k_here; (with_reducible show wpAny _ _ (call (Value.ref 168) [Value.ref _] _) _ _ _); k_dflt (refine' elems_c ?q91fe9cf6B ?q91fe9cf6F ?q91fe9cf6X ?q91fe9cf6T ?q91fe9cf6hk ?q91fe9cf6N ?q91fe9cf6hdp ?q91fe9cf6hP ?q91fe9cf6h1 ?q91fe9cf6h2 ?q91fe9cf6h3 ?q91fe9cf6h4 ?q91fe9cf6h5 ?q91fe9cf6h6 ?_; (case q91fe9cf6hk => first | exact rfl | assumption); (case q91fe9cf6B => k_asm); (case q91fe9cf6F => k_asm); (case q91fe9cf6X => k_asm); (case q91fe9cf6T => k_asm); (case q91fe9cf6N => k_asm); (case q91fe9cf6hdp => ((simp only [depth_under_make, depth_under_kw, depth_in1, depth_deeper, depth_caller]); first | decide | ((try dsimp only [ktrTop]); omega))); (case q91fe9cf6hP => first | assumption | exact PlaceAt.mono (by assumption) (by intro p hp; repeat (first | exact hp | refine List.mem_cons_of_mem _ ?_))); (case q91fe9cf6h1 => omega); (case q91fe9cf6h2 => omega); (case q91fe9cf6h3 => omega); (case q91fe9cf6h4 => omega); (case q91fe9cf6h5 => omega); (case q91fe9cf6h6 => omega)); intro _ _ _ _ _ _ _ _ _ _ _; (try k_sweep)) | fail "no")
  k_with "k_get" => (first | (assumption) | fail "no")
  k_with "call ref" => (first | (k_here; (with_reducible show wpAny _ _ (call (Value.ref 128) [Value.ref _, Value.int _ _, Value.int _ _] _) _ _ _); k_dflt (refine' need_ok ?q93f2525B ?q93f2525F ?q93f2525X ?q93f2525T ?q93f2525hk ?q93f2525N ?q93f2525hdp ?q93f2525hl ?q93f2525hz ?q93f2525h1 ?q93f2525h2 ?q93f2525h3 ?_; (case q93f2525hk => first | exact rfl | assumption); (case q93f2525B => k_asm); (case q93f2525F => k_asm); (case q93f2525X => k_asm); (case q93f2525T => k_asm); (case q93f2525N => k_asm); (case q93f2525hl => k_mem); (case q93f2525hdp => ((simp only [depth_under_make, depth_under_kw, depth_in1, depth_deeper, depth_caller]); first | decide | ((try dsimp only [ktrTop]); omega))); (case q93f2525hz => (simp only [List.size_toArray]; omega)); (case q93f2525h1 => omega); (case q93f2525h2 => (simp only [List.size_toArray]; omega)); (case q93f2525h3 => omega)); intro _ _ _ _; (try k_sweep)) | fail "no")
  trivial
theorem held_ok {w : World} {dp un : Nat} {gd : Option (List Code)} {cn : Str} {cs : Scope} {a : Addr} {ccd : Value} {cl : List (Str × Addr)} {outer : List Env} {A₀ : Around} {base h₀ : Heap} {L : Addr} {m : Str → Option Value} {s : Shared} {Q E : Value → Shared → Prop} {mean : ExcName → Option Value} {mg mb : Str → Option Value} {news : List (Addr × Obj)} {mem ch pr : Addr} {vs : List Value} {ad n c : Int}
    (B : Below A₀ base outer h₀) (F : Fr h₀ L s.heap m) (X : (seat.heap_1 w.params).In h₀) (T : Top topProg ((looseW seat.view_1 [Str.ofString "counted_elements_iops", Str.ofString "counted_elements_plainio"]) ++ List.map (fun x => x.name) (recsOf seat.view_1) ++ List.map (fun x => x.fst) (litsOf seat.view_1) ++ List.map (fun x => x.name) (clssOf seat.view_1 (looseW seat.view_1 [Str.ofString "counted_elements_iops", Str.ofString "counted_elements_plainio"]))) mean mg mb h₀) (hkf : cs.kind = .function) (N : News h₀ L s.heap news) (hdp : dp + 40 < recursionLimit) (hM : MemAt news mem ch vs) (hz : vs.length ≤ 1000)
    (hP : PlaceAt news pr ad n c) (h1 : 1 ≤ c) (h2 : c ≤ 3) (h3 : 1 ≤ n) (h4 : n ≤ 100) (h5 : 0 ≤ ad) (h6 : ad ≤ 1000) (hfit : ad + c * n ≤ vs.length)
    (ret : ∀ pl ps c0 ex h' tk', Fr h₀ L h' m → News h₀ L h' ((pl, W.listOf ps.toArray c0) :: (ex ++ news)) → (∀ p ∈ ex, ∀ q ∈ news, q.1 < p.1) → (∀ q ∈ ex ++ news, q.1 ≠ pl) → PlAt ex ps ad n c.toNat → Q (.ref pl) { s with heap := h', toks := tk' }) :
    wpAny (model PySem.Challenge.rw_rh0120_01.row.prog w) (ktrTop dp un gd cn cs L a ccd cl outer) (call (.ref 175) [.ref mem, .ref pr]) Q E s := by
  (revert X; k_fill; intro X)
  obtain ⟨md, es, nn, c9, hm1, hm2, hg, hch⟩ := hM
  have hP9 := hP
  obtain ⟨t0, t1, t2, dm, hm, hD⟩ := hP
  have hb0 : 0 ≤ c * n := Int.mul_nonneg (by omega) (by omega)
  (refine wpAny_call ?_; k_dflt ktr_enter)
  k_steps
  rename PlAt _ _ _ _ _ => hPl
  rename (∀ q : Addr × Obj, q ∈ _ → q.1 ≠ _) => l2
  rename (∀ p : Addr × Obj, p ∈ _ → ∀ q : Addr × Obj, q ∈ _ → q.1 < p.1) => l1
  rename News _ _ _ _ => kN
  exact ret _ _ _ _ _ _ (by assumption) (newsSub kN sub_mid) (fun p hp q hq => l1 p hp q (List.mem_cons_of_mem _ hq)) (fun q hq => l2 q (sub_mid0 q hq)) hPl
theorem reg_Held_3 : True := by
  w_top off
  k_with_none
  k_with "pj" => (first | exact Mine.c0 h9 | exact Mine.c1 h9 | exact Mine.e1 h9 | exact Mine.c2 h9 | exact Mine.e2 h9 | exact Mine.c3 h9 | exact Mine.e3 h9 | exact Mine.c4 h9 | exact Mine.e4 h9 | exact Mine.c5 h9 | exact Mine.e5 h9 | exact Mine.c6 h9 | exact Mine.e6 h9 | exact Mine.c7 h9 | exact Mine.e7 h9 | exact Mine.c8 h9 | exact Mine.e8 h9 | exact Mine.c9 h9 | exact Mine.e9 h9 | exact Mine.c10 h9 | exact Mine.e10 h9 | exact Mine.c11 h9 | exact Mine.e11 h9 | exact Mine.c12 h9 | exact Mine.e12 h9 | exact Mine.c13 h9 | exact Mine.e13 h9 | exact Mine.c14 h9 | exact Mine.e14 h9 | exact Mine.c15 h9 | exact Mine.e15 h9 | exact Mine.c16 h9 | exact Mine.e16 h9 | exact Mine.c17 h9 | exact Mine.e17 h9 | exact Mine.c18 h9 | exact Mine.e18 h9 | exact Mine.c19 h9 | exact Mine.e19 h9 | exact Mine.c20 h9 | exact Mine.e20 h9 | fail "pj")
  k_with "pj1" => (first | exact Mine.c0 (Mine.c0 h9) | exact Mine.c0 (Mine.c1 h9) | exact Mine.c0 (Mine.c2 h9) | exact Mine.c0 (Mine.c3 h9) | exact Mine.c0 (Mine.c4 h9) | exact Mine.c0 (Mine.c5 h9) | exact Mine.c0 (Mine.c6 h9) | exact Mine.c0 (Mine.c7 h9) | exact Mine.c0 (Mine.c8 h9) | exact Mine.c0 (Mine.c9 h9) | exact Mine.c0 (Mine.c10 h9) | exact Mine.c0 (Mine.c11 h9) | exact Mine.c0 (Mine.c12 h9) | exact Mine.c0 (Mine.c13 h9) | exact Mine.c0 (Mine.c14 h9) | exact Mine.c0 (Mine.c15 h9) | exact Mine.c0 (Mine.c16 h9) | exact Mine.c0 (Mine.c17 h9) | exact Mine.c0 (Mine.c18 h9) | exact Mine.c0 (Mine.c19 h9) | exact Mine.c0 (Mine.c20 h9) | fail "pj1")
  k_with "pj2" => (first | exact Mine.c1 (Mine.c0 h9) | exact Mine.c1 (Mine.c1 h9) | exact Mine.c1 (Mine.c2 h9) | exact Mine.c1 (Mine.c3 h9) | exact Mine.c1 (Mine.c4 h9) | exact Mine.c1 (Mine.c5 h9) | exact Mine.c1 (Mine.c6 h9) | exact Mine.c1 (Mine.c7 h9) | exact Mine.c1 (Mine.c8 h9) | exact Mine.c1 (Mine.c9 h9) | exact Mine.c1 (Mine.c10 h9) | exact Mine.c1 (Mine.c11 h9) | exact Mine.c1 (Mine.c12 h9) | exact Mine.c1 (Mine.c13 h9) | exact Mine.c1 (Mine.c14 h9) | exact Mine.c1 (Mine.c15 h9) | exact Mine.c1 (Mine.c16 h9) | exact Mine.c1 (Mine.c17 h9) | exact Mine.c1 (Mine.c18 h9) | exact Mine.c1 (Mine.c19 h9) | exact Mine.c1 (Mine.c20 h9) | fail "pj2")
  k_with "pj3" => (first | exact Mine.e2 (Mine.c0 h9) | exact Mine.e2 (Mine.c1 h9) | exact Mine.e2 (Mine.c2 h9) | exact Mine.e2 (Mine.c3 h9) | exact Mine.e2 (Mine.c4 h9) | exact Mine.e2 (Mine.c5 h9) | exact Mine.e2 (Mine.c6 h9) | exact Mine.e2 (Mine.c7 h9) | exact Mine.e2 (Mine.c8 h9) | exact Mine.e2 (Mine.c9 h9) | exact Mine.e2 (Mine.c10 h9) | exact Mine.e2 (Mine.c11 h9) | exact Mine.e2 (Mine.c12 h9) | exact Mine.e2 (Mine.c13 h9) | exact Mine.e2 (Mine.c14 h9) | exact Mine.e2 (Mine.c15 h9) | exact Mine.e2 (Mine.c16 h9) | exact Mine.e2 (Mine.c17 h9) | exact Mine.e2 (Mine.c18 h9) | exact Mine.e2 (Mine.c19 h9) | exact Mine.e2 (Mine.c20 h9) | fail "pj3")
  k_with "omega" => (first | exact Nat.le_refl _ | decide | with_reducible (first | exact Mine.lim0 (by assumption) | exact Mine.lim1 (by assumption) (by with_unfolding_all rfl) | exact Mine.lim2 (by assumption) (by with_unfolding_all rfl) | exact Mine.lim3 (by assumption) (by with_unfolding_all rfl) | exact Mine.lim8 (by assumption) (by assumption) (by with_unfolding_all rfl) | exact Mine.lim9 (by assumption) (by assumption) (by with_unfolding_all rfl) | exact Mine.lim10 (by assumption) (by assumption) (by with_unfolding_all rfl) | exact Mine.i1 (by assumption) | exact Mine.i2 (by assumption) | exact Mine.i3 (by assumption) | exact Mine.i4 (by assumption) (by with_unfolding_all rfl) | exact Mine.i5 (by assumption) | exact Mine.i6 (by assumption) (by assumption) | exact Mine.i7 (by assumption) (by assumption) | exact Mine.i8 (by assumption) (by assumption) | exact List.length_take_le _ _ | fail "l") | (refine Mine.toNe ?_; with_reducible (first | exact Nat.ne_of_lt (by ((repeat (first | assumption | exact Mine.ltp0 | refine Mine.ltp ?_)); (first | done | fail "c"))) | exact Nat.ne_of_gt (by ((repeat (first | assumption | exact Mine.ltp0 | refine Mine.ltp ?_)); (first | done | fail "c"))) | (refine Nat.ne_of_lt (Mine.viaL (by assumption) ?_); intro h9; k_extra "pj") | (refine Nat.ne_of_gt (Mine.viaL (by assumption) ?_); intro h9; k_extra "pj") | (refine Nat.ne_of_lt (Mine.viaM (by assumption) ?_); intro h9; k_extra "pj") | (refine Nat.ne_of_gt (Mine.viaM (by assumption) ?_); intro h9; k_extra "pj") | assumption | exact Ne.symm (by assumption) | (refine Mine.viaN (by assumption) ?_; intro h9; k_extra "pj") | (refine Ne.symm (Mine.viaN (by assumption) ?_); intro h9; k_extra "pj") | (refine Mine.viaN1 (by assumption) ?_; intro h9; k_extra "pj1") | (refine Ne.symm (Mine.viaN1 (by assumption) ?_); intro h9; k_extra "pj1") | (refine Mine.viaN2 (by assumption) ?_; intro h9; k_extra "pj2") | (refine Ne.symm (Mine.viaN2 (by assumption) ?_); intro h9; k_extra "pj2") | (refine Mine.viaN3 (by assumption) ?_; intro h9; k_extra "pj3") | (refine Ne.symm (Mine.viaN3 (by assumption) ?_); intro h9; k_extra "pj3") | fail "n")) | fail "o")
  k_with "k_all" => (first | (assumption) | fail "no")
  k_with "k_mem" => (first | (assumption) | fail "no")
  k_with "news_mem" => (first | (k_mem) | fail "no")
  k_with "call ref" => (first | (k_here; (refine wpAny_call ?_); k_dflt (refine' code_def ?q92f5ae95k1 ?q92f5ae95k2 ?q92f5ae95k3 ?q92f5ae95k4 ?q92f5ae95k5 ?q92f5ae95kA ?q92f5ae95kF ?q92f5ae95kK ?q92f5ae95k6 ?q92f5ae95k7 ?q92f5ae95k8 ?q92f5ae95k9 ?q92f5ae95kB ?_ ?q92f5ae95c2 ?q92f5ae95c3 ?q92f5ae95c4 ?q92f5ae95c5; (case q92f5ae95kA => exact rfl); (case q92f5ae95kF => exact rfl); (case q92f5ae95kK => first | exact rfl | assumption); (case q92f5ae95k1 => k_asm); (case q92f5ae95k2 => k_asm); (case q92f5ae95k3 => k_asm); (case q92f5ae95k4 => k_asm); (case q92f5ae95k5 => k_asm); (case q92f5ae95k6 => k_is); (case q92f5ae95k7 => k_is); (case q92f5ae95k8 => ((simp only [depth_under_make, depth_under_kw, depth_in1, depth_deeper, depth_caller]); first | decide | ((try dsimp only [ktrTop]); omega))); (case q92f5ae95k9 => exact BindsTo.of_eq rfl); (case q92f5ae95c5 => decide); (case q92f5ae95kB => exact locs rfl); (case q92f5ae95c2 => exact rfl); (case q92f5ae95c3 => exact rfl); (case q92f5ae95c4 => exact rfl); k_whole; intro _ _ _ _ _ _ _ _ _; (try dsimp only); (try k_fold))) | fail "no")
  k_with "exec Raise some none" => (first | (k_here; refine raise_open rfl ?_) | fail "no")
  k_with "call ref" => (first | (k_here; (with_reducible show wpAny _ _ (call (Value.ref 51) [Value.str _ _] _) _ _ _); k_dflt (refine' fault_mk ?q96b9c5B ?q96b9c5F ?q96b9c5X ?q96b9c5T ?q96b9c5hk ?q96b9c5hA ?q96b9c5hr ?q96b9c5N ?_; (case q96b9c5hA => exact rfl); (case q96b9c5hk => first | exact rfl | assumption); (case q96b9c5B => k_asm); (case q96b9c5F => k_asm); (case q96b9c5X => k_asm); (case q96b9c5T => k_asm); (case q96b9c5hr => ((simp only [depth_under_make, depth_under_kw, depth_in1, depth_deeper, depth_caller]); first | decide | ((try dsimp only [ktrTop]); omega))); (case q96b9c5N => k_asm)); intro _ _ _ _ _ _ _ _; (try k_sweep)) | fail "no")
  k_with "RaisedVal" => (first | (refine ⟨_, _, _, rfl, Frag.In.keeps (by assumption) (Fr.keep (by assumption)), ((by assumption : News _ _ _ (_ :: _)) _ List.mem_cons_self).1, ?_⟩) | fail "no")
  k_with "leaving ref" => (first | (k_here; first | (refine' leave_fault ?q91bf5e95K ?q91bf5e95F ?q91bf5e95N ?q91bf5e95n ?_ ?q91bf5e95hf ?q91bf5e95hk; (case q91bf5e95hf => exact rfl); (case q91bf5e95hk => first | exact rfl | assumption); (case q91bf5e95F => assumption); (case q91bf5e95K => assumption); (case q91bf5e95N => assumption); (case q91bf5e95n => assumption); k_whole; walk_at "tl3225b9b") | (refine' leave_past ?q91bf5e95K ?q91bf5e95F ?q91bf5e95R ?q91bf5e95U ?_ ?q91bf5e95hf; (case q91bf5e95hf => exact rfl); (case q91bf5e95R => assumption); (case q91bf5e95U => assumption); (case q91bf5e95K => assumption); (case q91bf5e95F => assumption); k_whole; walk_at "tl3225b9b")) | fail "no")
  k_with "call ref" => (first | (k_here; (with_reducible show wpAny _ _ (call (Value.ref 149) [Value.ref _] _) _ _ _); k_dflt (refine' extent_c ?q938f04edB ?q938f04edF ?q938f04edX ?q938f04edT ?q938f04edhk ?q938f04edN ?q938f04edhdp ?q938f04edhD ?q938f04edh1 ?q938f04edh2 ?_; (case q938f04edhk => first | exact rfl | assumption); (case q938f04edB => k_asm); (case q938f04edF => k_asm); (case q938f04edX => k_asm); (case q938f04edT => k_asm); (case q938f04edN => k_asm); (case q938f04edhD => first | assumption | exact DimAt.mono (by assumption) (by intro p hp; repeat (first | exact hp | refine List.mem_cons_of_mem _ ?_))); (case q938f04edhdp => ((simp only [depth_under_make, depth_under_kw, depth_in1, depth_deeper, depth_caller]); first | decide | ((try dsimp only [ktrTop]); omega))); (case q938f04edh1 => omega); (case q938f04edh2 => omega)); intro _ _ _ _ _; (try k_sweep)) | fail "no")
  k_with "call ref" => (first | (k_here; (with_reducible show wpAny _ _ (call (Value.ref 182) [Value.ref _] _) _ _ _); k_dflt (refine' span_c ?q919752c0B ?q919752c0F ?q919752c0X ?q919752c0T ?q919752c0hk ?q919752c0N ?q919752c0hdp ?q919752c0hP ?q919752c0h1 ?q919752c0h2 ?q919752c0h3 ?q919752c0h4 ?q919752c0h5 ?q919752c0h6 ?_; (case q919752c0hk => first | exact rfl | assumption); (case q919752c0B => k_asm); (case q919752c0F => k_asm); (case q919752c0X => k_asm); (case q919752c0T => k_asm); (case q919752c0N => k_asm); (case q919752c0hdp => ((simp only [depth_under_make, depth_under_kw, depth_in1, depth_deeper, depth_caller]); first | decide | ((try dsimp only [ktrTop]); omega))); (case q919752c0hP => first | assumption | exact PlaceAt.mono (by assumption) (by intro p hp; repeat (first | exact hp | refine List.mem_cons_of_mem _ ?_))); (case q919752c0h1 => omega); (case q919752c0h2 => omega); (case q919752c0h3 => omega); (case q919752c0h4 => omega); (case q919752c0h5 => omega); (case q919752c0h6 => omega)); walk_at "tl5ff37f"; (try k_sweep)) | fail "no")
  k_with "call ref" => (first | (k_here; (with_reducible show wpAny _ _ (call (Value.ref 168) [Value.ref _] _) _ _ _); k_dflt (refine' elems_c ?q91fe9cf6B ?q91fe9cf6F ?q91fe9cf6X ?q91fe9cf6T ?q91fe9cf6hk ?q91fe9cf6N ?q91fe9cf6hdp ?q91fe9cf6hP ?q91fe9cf6h1 ?q91fe9cf6h2 ?q91fe9cf6h3 ?q91fe9cf6h4 ?q91fe9cf6h5 ?q91fe9cf6h6 ?_; (case q91fe9cf6hk => first | exact rfl | assumption); (case q91fe9cf6B => k_asm); (case q91fe9cf6F => k_asm); (case q91fe9cf6X => k_asm); (case q91fe9cf6T => k_asm); (case q91fe9cf6N => k_asm); (case q91fe9cf6hdp => ((simp only [depth_under_make, depth_under_kw, depth_in1, depth_deeper, depth_caller]); first | decide | ((try dsimp only [ktrTop]); omega))); (case q91fe9cf6hP => first | assumption | exact PlaceAt.mono (by assumption) (by intro p hp; repeat (first | exact hp | refine List.mem_cons_of_mem _ ?_))); (case q91fe9cf6h1 => omega); (case q91fe9cf6h2 => omega); (case q91fe9cf6h3 => omega); (case q91fe9cf6h4 => omega); (case q91fe9cf6h5 => omega); (case q91fe9cf6h6 => omega)); intro _ _ _ _ _ _ _ _ _ _ _; (try k_sweep)) | fail "no")
  k_with "k_get" => (first | (assumption) | fail "no")
  k_with "call ref" => (first | (k_here; (with_reducible show wpAny _ _ (call (Value.ref 128) [Value.ref _, Value.int _ _, Value.int _ _] _) _ _ _); k_dflt (refine' need_ok ?q93f2525B ?q93f2525F ?q93f2525X ?q93f2525T ?q93f2525hk ?q93f2525N ?q93f2525hdp ?q93f2525hl ?q93f2525hz ?q93f2525h1 ?q93f2525h2 ?q93f2525h3 ?_; (case q93f2525hk => first | exact rfl | assumption); (case q93f2525B => k_asm); (case q93f2525F => k_asm); (case q93f2525X => k_asm); (case q93f2525T => k_asm); (case q93f2525N => k_asm); (case q93f2525hl => k_mem); (case q93f2525hdp => ((simp only [depth_under_make, depth_under_kw, depth_in1, depth_deeper, depth_caller]); first | decide | ((try dsimp only [ktrTop]); omega))); (case q93f2525hz => (simp only [List.size_toArray]; omega)); (case q93f2525h1 => omega); (case q93f2525h2 => (simp only [List.size_toArray]; omega)); (case q93f2525h3 => omega)); intro _ _ _ _; (try k_sweep)) | fail "no")
  k_with "call ref" => (first | (k_here; (with_reducible show wpAny _ _ (call (Value.ref 128) [Value.ref _, Value.int _ _, Value.int _ _] _) _ _ _); k_dflt (refine' need_bad ?q92850ee1B ?q92850ee1F ?q92850ee1X ?q92850ee1T ?q92850ee1hk ?q92850ee1N ?q92850ee1hdp ?q92850ee1hl ?q92850ee1hz ?q92850ee1h1 ?q92850ee1h2 ?q92850ee1h3 ?q92850ee1h4 ?q92850ee1h5 ?_; (case q92850ee1hk => first | exact rfl | assumption); (case q92850ee1B => k_asm); (case q92850ee1F => k_asm); (case q92850ee1X => k_asm); (case q92850ee1T => k_asm); (case q92850ee1N => k_asm); (case q92850ee1hdp => ((simp only [depth_under_make, depth_under_kw, depth_in1, depth_deeper, depth_caller]); first | decide | ((try dsimp only [ktrTop]); omega))); (case q92850ee1hl => k_mem); (case q92850ee1hz => (simp only [List.size_toArray]; omega)); (case q92850ee1h1 => omega); (case q92850ee1h2 => (simp only [List.size_toArray]; omega)); (case q92850ee1h3 => omega); (case q92850ee1h4 => omega); (case q92850ee1h5 => omega)); walk_at "tl314f0fd") | fail "no")
  trivial
theorem held_bad {w : World} {dp un : Nat} {gd : Option (List Code)} {cn : Str} {cs : Scope} {a : Addr} {ccd : Value} {cl : List (Str × Addr)} {outer : List Env} {A₀ : Around} {base h₀ : Heap} {L : Addr} {m : Str → Option Value} {s : Shared} {Q E : Value → Shared → Prop} {mean : ExcName → Option Value} {mg mb : Str → Option Value} {news : List (Addr × Obj)} {mem ch pr : Addr} {vs : List Value} {ad n c : Int}
    (B : Below A₀ base outer h₀) (F : Fr h₀ L s.heap m) (X : (seat.heap_1 w.params).In h₀) (T : Top topProg ((looseW seat.view_1 [Str.ofString "counted_elements_iops", Str.ofString "counted_elements_plainio"]) ++ List.map (fun x => x.name) (recsOf seat.view_1) ++ List.map (fun x => x.fst) (litsOf seat.view_1) ++ List.map (fun x => x.name) (clssOf seat.view_1 (looseW seat.view_1 [Str.ofString "counted_elements_iops", Str.ofString "counted_elements_plainio"]))) mean mg mb h₀) (hkf : cs.kind = .function) (N : News h₀ L s.heap news) (hdp : dp + 40 < recursionLimit) (hM : MemAt news mem ch vs) (hz : vs.length ≤ 1000)
    (hP : PlaceAt news pr ad n c) (h1 : 1 ≤ c) (h2 : c ≤ 3) (h3 : 1 ≤ n) (h4 : n ≤ 100) (h5 : 0 ≤ ad) (h6 : ad ≤ 1000) (hfit : ¬ ad + c * n ≤ vs.length) (hsm : c * n ≤ 500)
    (exc : ∀ e g₂ h' tk', Fr h₀ L g₂ m → RaisedSN base g₂ (envX cn cs L a ccd cl :: outer) e (.ref 51) news h' → g₂.UpToSlots h' → E (.ref e) { s with heap := h', toks := tk' }) :
    wpAny (model PySem.Challenge.rw_rh0120_01.row.prog w) (ktrTop dp un gd cn cs L a ccd cl outer) (call (.ref 175) [.ref mem, .ref pr]) Q E s := by
  (revert X; k_fill; intro X)
  obtain ⟨md, es, nn, c9, hm1, hm2, hg, hch⟩ := hM
  have hP9 := hP
  obtain ⟨t0, t1, t2, dm, hm, hD⟩ := hP
  have hb0 : 0 ≤ c * n := Int.mul_nonneg (by omega) (by omega)
  (refine wpAny_call ?_; k_dflt ktr_enter)
  k_steps
  all_goals exact exc _ _ _ _ (by assumption) (raisedSub (by assumption) (by intro p hp; repeat (first | exact hp | refine List.mem_cons_of_mem _ ?_))) (by assumption)
end
end
local macro_rules | `(tactic| walk_at "tl16a1d4f") => `(tactic| (intro _ _ _ _ _ _ _ N' Y' _ _ _ l1; (try k_lt l1); k_cells Y'; (try simp only [List.cons_append, List.nil_append] at N')))
section
/-- the two names of the frame -/
structure FrAt (w : World) (news : List (Addr × Obj)) (run : Addr) (size many : Int) (pF pG dF d1 dG : Addr) (es : List DictEntry) (rd fr ex : Addr) (nn : Nat) (ofr oex : Obj) (t1 t2 t3 t4 t5 t6 t7 t8 : Tok) : Prop where
  h_run : (run, instObj 308 rd) ∈ news
  h_rd : (rd, dictOf es nn) ∈ news
  h_frame : getL (Str.ofString "frame") es = some (some (.ref fr))
  h_expr : getL (Str.ofString "expressions") es = some (some (.ref ex))
  h_fr : (fr, ofr) ∈ news
  h_frd : ofr.IsDictOf (strKind PySem.Challenge.rw_rh0120_01.row.prog w) [(Str.ofString "F", .ref pF), (Str.ofString "G", .ref pG)]
  h_ex : (ex, oex) ∈ news
  h_exd : oex.IsDictOf (strKind PySem.Challenge.rw_rh0120_01.row.prog w) [(Str.ofString "const", .ref 359)]
  h_lo1 : (fr == sysModules) = false
  h_lo2 : (ex == sysModules) = false
  h_pF : (pF, tupO [.int 5 t1, .int 0 t2, .int size t3, .ref dF]) ∈ news
  h_dF : (dF, tupO [.ref d1]) ∈ news
  h_d1 : (d1, tupO [.int 1 t4, .int many t5]) ∈ news
  h_pG : (pG, tupO [.int 5 t6, .int 0 t7, .int 3 t8, .ref dG]) ∈ news
  h_dG : (dG, tupO []) ∈ news
section
theorem reg_Place_1 : True := by
  w_top off
  k_with_none
  k_with "pj" => (first | exact Mine.c0 h9 | exact Mine.c1 h9 | exact Mine.e1 h9 | exact Mine.c2 h9 | exact Mine.e2 h9 | exact Mine.c3 h9 | exact Mine.e3 h9 | exact Mine.c4 h9 | exact Mine.e4 h9 | exact Mine.c5 h9 | exact Mine.e5 h9 | exact Mine.c6 h9 | exact Mine.e6 h9 | exact Mine.c7 h9 | exact Mine.e7 h9 | exact Mine.c8 h9 | exact Mine.e8 h9 | exact Mine.c9 h9 | exact Mine.e9 h9 | exact Mine.c10 h9 | exact Mine.e10 h9 | exact Mine.c11 h9 | exact Mine.e11 h9 | exact Mine.c12 h9 | exact Mine.e12 h9 | exact Mine.c13 h9 | exact Mine.e13 h9 | exact Mine.c14 h9 | exact Mine.e14 h9 | exact Mine.c15 h9 | exact Mine.e15 h9 | exact Mine.c16 h9 | exact Mine.e16 h9 | exact Mine.c17 h9 | exact Mine.e17 h9 | exact Mine.c18 h9 | exact Mine.e18 h9 | exact Mine.c19 h9 | exact Mine.e19 h9 | exact Mine.c20 h9 | exact Mine.e20 h9 | fail "pj")
  k_with "pj1" => (first | exact Mine.c0 (Mine.c0 h9) | exact Mine.c0 (Mine.c1 h9) | exact Mine.c0 (Mine.c2 h9) | exact Mine.c0 (Mine.c3 h9) | exact Mine.c0 (Mine.c4 h9) | exact Mine.c0 (Mine.c5 h9) | exact Mine.c0 (Mine.c6 h9) | exact Mine.c0 (Mine.c7 h9) | exact Mine.c0 (Mine.c8 h9) | exact Mine.c0 (Mine.c9 h9) | exact Mine.c0 (Mine.c10 h9) | exact Mine.c0 (Mine.c11 h9) | exact Mine.c0 (Mine.c12 h9) | exact Mine.c0 (Mine.c13 h9) | exact Mine.c0 (Mine.c14 h9) | exact Mine.c0 (Mine.c15 h9) | exact Mine.c0 (Mine.c16 h9) | exact Mine.c0 (Mine.c17 h9) | exact Mine.c0 (Mine.c18 h9) | exact Mine.c0 (Mine.c19 h9) | exact Mine.c0 (Mine.c20 h9) | fail "pj1")
  k_with "pj2" => (first | exact Mine.c1 (Mine.c0 h9) | exact Mine.c1 (Mine.c1 h9) | exact Mine.c1 (Mine.c2 h9) | exact Mine.c1 (Mine.c3 h9) | exact Mine.c1 (Mine.c4 h9) | exact Mine.c1 (Mine.c5 h9) | exact Mine.c1 (Mine.c6 h9) | exact Mine.c1 (Mine.c7 h9) | exact Mine.c1 (Mine.c8 h9) | exact Mine.c1 (Mine.c9 h9) | exact Mine.c1 (Mine.c10 h9) | exact Mine.c1 (Mine.c11 h9) | exact Mine.c1 (Mine.c12 h9) | exact Mine.c1 (Mine.c13 h9) | exact Mine.c1 (Mine.c14 h9) | exact Mine.c1 (Mine.c15 h9) | exact Mine.c1 (Mine.c16 h9) | exact Mine.c1 (Mine.c17 h9) | exact Mine.c1 (Mine.c18 h9) | exact Mine.c1 (Mine.c19 h9) | exact Mine.c1 (Mine.c20 h9) | fail "pj2")
  k_with "pj3" => (first | exact Mine.e2 (Mine.c0 h9) | exact Mine.e2 (Mine.c1 h9) | exact Mine.e2 (Mine.c2 h9) | exact Mine.e2 (Mine.c3 h9) | exact Mine.e2 (Mine.c4 h9) | exact Mine.e2 (Mine.c5 h9) | exact Mine.e2 (Mine.c6 h9) | exact Mine.e2 (Mine.c7 h9) | exact Mine.e2 (Mine.c8 h9) | exact Mine.e2 (Mine.c9 h9) | exact Mine.e2 (Mine.c10 h9) | exact Mine.e2 (Mine.c11 h9) | exact Mine.e2 (Mine.c12 h9) | exact Mine.e2 (Mine.c13 h9) | exact Mine.e2 (Mine.c14 h9) | exact Mine.e2 (Mine.c15 h9) | exact Mine.e2 (Mine.c16 h9) | exact Mine.e2 (Mine.c17 h9) | exact Mine.e2 (Mine.c18 h9) | exact Mine.e2 (Mine.c19 h9) | exact Mine.e2 (Mine.c20 h9) | fail "pj3")
  k_with "omega" => (first | exact Nat.le_refl _ | decide | with_reducible (first | exact Mine.lim0 (by assumption) | exact Mine.lim1 (by assumption) (by with_unfolding_all rfl) | exact Mine.lim2 (by assumption) (by with_unfolding_all rfl) | exact Mine.lim3 (by assumption) (by with_unfolding_all rfl) | exact Mine.lim8 (by assumption) (by assumption) (by with_unfolding_all rfl) | exact Mine.lim9 (by assumption) (by assumption) (by with_unfolding_all rfl) | exact Mine.lim10 (by assumption) (by assumption) (by with_unfolding_all rfl) | exact Mine.i1 (by assumption) | exact Mine.i2 (by assumption) | exact Mine.i3 (by assumption) | exact Mine.i4 (by assumption) (by with_unfolding_all rfl) | exact Mine.i5 (by assumption) | exact Mine.i6 (by assumption) (by assumption) | exact Mine.i7 (by assumption) (by assumption) | exact Mine.i8 (by assumption) (by assumption) | exact List.length_take_le _ _ | fail "l") | (refine Mine.toNe ?_; with_reducible (first | exact Nat.ne_of_lt (by ((repeat (first | assumption | exact Mine.ltp0 | refine Mine.ltp ?_)); (first | done | fail "c"))) | exact Nat.ne_of_gt (by ((repeat (first | assumption | exact Mine.ltp0 | refine Mine.ltp ?_)); (first | done | fail "c"))) | (refine Nat.ne_of_lt (Mine.viaL (by assumption) ?_); intro h9; k_extra "pj") | (refine Nat.ne_of_gt (Mine.viaL (by assumption) ?_); intro h9; k_extra "pj") | (refine Nat.ne_of_lt (Mine.viaM (by assumption) ?_); intro h9; k_extra "pj") | (refine Nat.ne_of_gt (Mine.viaM (by assumption) ?_); intro h9; k_extra "pj") | assumption | exact Ne.symm (by assumption) | (refine Mine.viaN (by assumption) ?_; intro h9; k_extra "pj") | (refine Ne.symm (Mine.viaN (by assumption) ?_); intro h9; k_extra "pj") | (refine Mine.viaN1 (by assumption) ?_; intro h9; k_extra "pj1") | (refine Ne.symm (Mine.viaN1 (by assumption) ?_); intro h9; k_extra "pj1") | (refine Mine.viaN2 (by assumption) ?_; intro h9; k_extra "pj2") | (refine Ne.symm (Mine.viaN2 (by assumption) ?_); intro h9; k_extra "pj2") | (refine Mine.viaN3 (by assumption) ?_; intro h9; k_extra "pj3") | (refine Ne.symm (Mine.viaN3 (by assumption) ?_); intro h9; k_extra "pj3") | fail "n")) | fail "o")
  k_with "k_all" => (first | (assumption) | fail "no")
  k_with "k_mem" => (first | (assumption) | fail "no")
  k_with "news_mem" => (first | (k_mem) | fail "no")
  k_with "k_all" => (first | (refine fun p9 hp9 => Nat.ne_of_lt (Nat.lt_of_lt_of_le ((by assumption : ∀ p ∈ _, p.1 < _) p9 hp9) ?_); omega) | fail "no")
  k_with "call ref" => (first | (k_here; (refine wpAny_call ?_; k_dflt (refine' code_defC ?q926738a0k1 ?q926738a0k2 ?q926738a0k3 ?q926738a0k4 ?q926738a0k5 ?q926738a0kA ?q926738a0kF ?q926738a0kK ?q926738a0k6 ?q926738a0k7 ?q926738a0k8 ?q926738a0k9 ?q926738a0kB ?q926738a0kD ?_ ?q926738a0c2 ?q926738a0c3 ?q926738a0c4; (case q926738a0kA => exact rfl); (case q926738a0kF => exact rfl); (case q926738a0kK => first | exact rfl | assumption); (case q926738a0k1 => k_asm); (case q926738a0k2 => k_asm); (case q926738a0k3 => k_asm); (case q926738a0k4 => k_asm); (case q926738a0k5 => k_asm); (case q926738a0k6 => k_is); (case q926738a0k7 => k_is); (case q926738a0k8 => ((simp only [depth_under_make, depth_under_kw, depth_in1, depth_deeper, depth_caller]); first | decide | ((try dsimp only [ktrTop]); omega))); (case q926738a0k9 => exact BindsTo.of_eq rfl); (case q926738a0kB => exact rfl); (case q926738a0kD => decide +kernel); (case q926738a0c2 => exact rfl); (case q926738a0c3 => exact rfl); (case q926738a0c4 => exact rfl); k_whole; walk_at "tl16a1d4f"; (try dsimp only); (try k_fold)))) | fail "no")
  k_with "call ref" => (first | (k_here; (refine wpAny_call ?_); k_dflt (refine' code_def ?q92f5ae95k1 ?q92f5ae95k2 ?q92f5ae95k3 ?q92f5ae95k4 ?q92f5ae95k5 ?q92f5ae95kA ?q92f5ae95kF ?q92f5ae95kK ?q92f5ae95k6 ?q92f5ae95k7 ?q92f5ae95k8 ?q92f5ae95k9 ?q92f5ae95kB ?_ ?q92f5ae95c2 ?q92f5ae95c3 ?q92f5ae95c4 ?q92f5ae95c5; (case q92f5ae95kA => exact rfl); (case q92f5ae95kF => exact rfl); (case q92f5ae95kK => first | exact rfl | assumption); (case q92f5ae95k1 => k_asm); (case q92f5ae95k2 => k_asm); (case q92f5ae95k3 => k_asm); (case q92f5ae95k4 => k_asm); (case q92f5ae95k5 => k_asm); (case q92f5ae95k6 => k_is); (case q92f5ae95k7 => k_is); (case q92f5ae95k8 => ((simp only [depth_under_make, depth_under_kw, depth_in1, depth_deeper, depth_caller]); first | decide | ((try dsimp only [ktrTop]); omega))); (case q92f5ae95k9 => exact BindsTo.of_eq rfl); (case q92f5ae95c5 => decide); (case q92f5ae95kB => exact locs rfl); (case q92f5ae95c2 => exact rfl); (case q92f5ae95c3 => exact rfl); (case q92f5ae95c4 => exact rfl); k_whole; intro _ _ _ _ _ _ _ _ _; (try dsimp only); (try k_fold))) | fail "no")
  k_with "exec Raise some none" => (first | (k_here; refine raise_open rfl ?_) | fail "no")
  k_with "call ref" => (first | (k_here; (with_reducible show wpAny _ _ (call (Value.ref 51) [Value.str _ _] _) _ _ _); k_dflt (refine' fault_mk ?q96b9c5B ?q96b9c5F ?q96b9c5X ?q96b9c5T ?q96b9c5hk ?q96b9c5hA ?q96b9c5hr ?q96b9c5N ?_; (case q96b9c5hA => exact rfl); (case q96b9c5hk => first | exact rfl | assumption); (case q96b9c5B => k_asm); (case q96b9c5F => k_asm); (case q96b9c5X => k_asm); (case q96b9c5T => k_asm); (case q96b9c5hr => ((simp only [depth_under_make, depth_under_kw, depth_in1, depth_deeper, depth_caller]); first | decide | ((try dsimp only [ktrTop]); omega))); (case q96b9c5N => k_asm)); intro _ _ _ _ _ _ _ _; (try k_sweep)) | fail "no")
  k_with "RaisedVal" => (first | (refine ⟨_, _, _, rfl, Frag.In.keeps (by assumption) (Fr.keep (by assumption)), ((by assumption : News _ _ _ (_ :: _)) _ List.mem_cons_self).1, ?_⟩) | fail "no")
  k_with "leaving ref" => (first | (k_here; first | (refine' leave_fault ?q91bf5e95K ?q91bf5e95F ?q91bf5e95N ?q91bf5e95n ?_ ?q91bf5e95hf ?q91bf5e95hk; (case q91bf5e95hf => exact rfl); (case q91bf5e95hk => first | exact rfl | assumption); (case q91bf5e95F => assumption); (case q91bf5e95K => assumption); (case q91bf5e95N => assumption); (case q91bf5e95n => assumption); k_whole; walk_at "tl3225b9b") | (refine' leave_past ?q91bf5e95K ?q91bf5e95F ?q91bf5e95R ?q91bf5e95U ?_ ?q91bf5e95hf; (case q91bf5e95hf => exact rfl); (case q91bf5e95R => assumption); (case q91bf5e95U => assumption); (case q91bf5e95K => assumption); (case q91bf5e95F => assumption); k_whole; walk_at "tl3225b9b")) | fail "no")
  k_with "getMethod ref" => (first | (k_here; (with_reducible show wpAny _ _ (getMethod (Value.ref _) (Str.ofString "get") _) _ _ _); k_dflt (refine kdg_method (knd := PySem.strKind _ _) (by k_asm) (by k_mem) (by k_asm) ?_)) | fail "no")
  k_with "call builtin:dict.get" => (first | (k_here; k_dflt (first | refine kdg_get1 (knd := PySem.strKind _ _) (by k_asm) (by k_mem) (by k_asm) (by k_asm) (strKind_is _ _ _ _) (some _) (by rfl) ?_ | refine kdg_get1 (knd := PySem.strKind _ _) (by k_asm) (by k_mem) (by k_asm) (by k_asm) (strKind_is _ _ _ _) none (by rfl) ?_); (try dsimp only [Option.getD])) | fail "no")
  k_with "subscriptTail" => (first | (k_here; (with_reducible show wpAny _ _ (subscriptTail _ _ (Value.ref _) (Value.str _ _)) _ _ _); k_dflt (refine kda_item (knd := PySem.strKind _ _) (by k_asm) (by k_mem) (by k_asm) (strKind_is _ _ _ _) (by rfl) ?_)) | fail "no")
  k_with "compareOp NotIn str ref" => (first | (k_here; k_dflt (refine kdg_notin (knd := PySem.strKind _ _) (by k_asm) (by k_mem) (by k_asm) (by k_asm) (strKind_is _ _ _ _) _ (by rfl) ?_)) | fail "no")
  k_with "k_get" => (first | (assumption) | fail "no")
  trivial
theorem place_var {w : World} {dp un : Nat} {gd : Option (List Code)} {cn : Str} {cs : Scope} {a : Addr} {ccd : Value} {cl : List (Str × Addr)} {outer : List Env} {A₀ : Around} {base h₀ : Heap} {L : Addr} {m : Str → Option Value} {s : Shared} {Q E : Value → Shared → Prop} {mean : ExcName → Option Value} {mg mb : Str → Option Value} {news : List (Addr × Obj)} {run tr : Addr} {size many : Int} {pF pG dF d1 dG : Addr} {es : List DictEntry} {rd fr ex : Addr} {nn : Nat} {ofr oex : Obj} {t1 t2 t3 t4 t5 t6 t7 t8 u1 u2 u3 : Tok}
    (B : Below A₀ base outer h₀) (F : Fr h₀ L s.heap m) (X : (seat.heap_1 w.params).In h₀) (T : Top topProg ((looseW seat.view_1 [Str.ofString "counted_elements_iops", Str.ofString "counted_elements_plainio"]) ++ List.map (fun x => x.name) (recsOf seat.view_1) ++ List.map (fun x => x.fst) (litsOf seat.view_1) ++ List.map (fun x => x.name) (clssOf seat.view_1 (looseW seat.view_1 [Str.ofString "counted_elements_iops", Str.ofString "counted_elements_plainio"]))) mean mg mb h₀) (hkf : cs.kind = .function) (N : News h₀ L s.heap news) (hdp : dp + 40 < recursionLimit) (hR : FrAt w news run size many pF pG dF d1 dG es rd fr ex nn ofr oex t1 t2 t3 t4 t5 t6 t7 t8)
    (ht : (tr, tupO [.str (Str.ofString "var") u1, .int 5 u2, .str (Str.ofString "G") u3]) ∈ news)
    (ret : ∀ h' tk', Fr h₀ L h' m → News h₀ L h' news → Q (.ref pG) { s with heap := h', toks := tk' }) :
    wpAny (model PySem.Challenge.rw_rh0120_01.row.prog w) (ktrTop dp un gd cn cs L a ccd cl outer) (call (.ref 345) [.ref run, .ref tr]) Q E s := by
  (revert X; k_fill; intro X)
  obtain ⟨r1, r2, r3, r4, r5, r6, r7, r8, r9, r10, r11, r12, r13, r14, r15⟩ := hR
  (refine wpAny_call ?_; k_dflt (refine' code_defC ?q9k1 ?q9k2 ?q9k3 ?q9k4 ?q9k5 ?q9kA ?q9kF ?q9kK ?q9k6 ?q9k7 ?q9k8 ?q9k9 ?q9kB ?q9kD ?_ ?q9c2 ?q9c3 ?q9c4; (case q9kA => exact rfl); (case q9kF => exact rfl); (case q9kK => first | exact rfl | assumption); (case q9k1 => k_asm); (case q9k2 => k_asm); (case q9k3 => k_asm); (case q9k4 => k_asm); (case q9k5 => k_asm); (case q9k6 => k_is); (case q9k7 => k_is); (case q9k8 => ((simp only [depth_under_make, depth_under_kw, depth_in1, depth_deeper, depth_caller]); first | decide | ((try dsimp only [ktrTop]); omega))); (case q9k9 => exact BindsTo.of_eq rfl); (case q9kB => exact rfl); (case q9kD => decide +kernel); (case q9c2 => exact rfl); (case q9c3 => exact rfl); (case q9c4 => exact rfl); k_whole; intro g' L' h' tk' cells' FG' F' N' Y' B' X' T' l1; (try k_lt l1); k_cells Y'; (try simp only [List.cons_append, List.nil_append] at N'); (try dsimp only); (try k_fold)))
  k_steps
  all_goals exact ret _ _ (by assumption) (newsSub (by assumption) (by intro p hp; repeat (first | exact hp | refine List.mem_cons_of_mem _ ?_)))
theorem place_arr {w : World} {dp un : Nat} {gd : Option (List Code)} {cn : Str} {cs : Scope} {a : Addr} {ccd : Value} {cl : List (Str × Addr)} {outer : List Env} {A₀ : Around} {base h₀ : Heap} {L : Addr} {m : Str → Option Value} {s : Shared} {Q E : Value → Shared → Prop} {mean : ExcName → Option Value} {mg mb : Str → Option Value} {news : List (Addr × Obj)} {run tr : Addr} {size many : Int} {pF pG dF d1 dG : Addr} {es : List DictEntry} {rd fr ex : Addr} {nn : Nat} {ofr oex : Obj} {t1 t2 t3 t4 t5 t6 t7 t8 u1 u2 u3 : Tok}
    (B : Below A₀ base outer h₀) (F : Fr h₀ L s.heap m) (X : (seat.heap_1 w.params).In h₀) (T : Top topProg ((looseW seat.view_1 [Str.ofString "counted_elements_iops", Str.ofString "counted_elements_plainio"]) ++ List.map (fun x => x.name) (recsOf seat.view_1) ++ List.map (fun x => x.fst) (litsOf seat.view_1) ++ List.map (fun x => x.name) (clssOf seat.view_1 (looseW seat.view_1 [Str.ofString "counted_elements_iops", Str.ofString "counted_elements_plainio"]))) mean mg mb h₀) (hkf : cs.kind = .function) (N : News h₀ L s.heap news) (hdp : dp + 40 < recursionLimit) (hR : FrAt w news run size many pF pG dF d1 dG es rd fr ex nn ofr oex t1 t2 t3 t4 t5 t6 t7 t8)
    (ht : (tr, tupO [.str (Str.ofString "array") u1, .int 5 u2, .str (Str.ofString "F") u3]) ∈ news)
    (ret : ∀ h' tk', Fr h₀ L h' m → News h₀ L h' news → Q (.ref pF) { s with heap := h', toks := tk' }) :
    wpAny (model PySem.Challenge.rw_rh0120_01.row.prog w) (ktrTop dp un gd cn cs L a ccd cl outer) (call (.ref 345) [.ref run, .ref tr]) Q E s := by
  (revert X; k_fill; intro X)
  obtain ⟨r1, r2, r3, r4, r5, r6, r7, r8, r9, r10, r11, r12, r13, r14, r15⟩ := hR
  (refine wpAny_call ?_; k_dflt (refine' code_defC ?q9k1 ?q9k2 ?q9k3 ?q9k4 ?q9k5 ?q9kA ?q9kF ?q9kK ?q9k6 ?q9k7 ?q9k8 ?q9k9 ?q9kB ?q9kD ?_ ?q9c2 ?q9c3 ?q9c4; (case q9kA => exact rfl); (case q9kF => exact rfl); (case q9kK => first | exact rfl | assumption); (case q9k1 => k_asm); (case q9k2 => k_asm); (case q9k3 => k_asm); (case q9k4 => k_asm); (case q9k5 => k_asm); (case q9k6 => k_is); (case q9k7 => k_is); (case q9k8 => ((simp only [depth_under_make, depth_under_kw, depth_in1, depth_deeper, depth_caller]); first | decide | ((try dsimp only [ktrTop]); omega))); (case q9k9 => exact BindsTo.of_eq rfl); (case q9kB => exact rfl); (case q9kD => decide +kernel); (case q9c2 => exact rfl); (case q9c3 => exact rfl); (case q9c4 => exact rfl); k_whole; intro g' L' h' tk' cells' FG' F' N' Y' B' X' T' l1; (try k_lt l1); k_cells Y'; (try simp only [List.cons_append, List.nil_append] at N'); (try dsimp only); (try k_fold)))
  k_steps
  all_goals exact ret _ _ (by assumption) (newsSub (by assumption) (by intro p hp; repeat (first | exact hp | refine List.mem_cons_of_mem _ ?_)))
end
end
section
section
theorem reg_Elem_1 : True := by
  w_top off
  k_with_none
  k_with "pj" => (first | exact Mine.c0 h9 | exact Mine.c1 h9 | exact Mine.e1 h9 | exact Mine.c2 h9 | exact Mine.e2 h9 | exact Mine.c3 h9 | exact Mine.e3 h9 | exact Mine.c4 h9 | exact Mine.e4 h9 | exact Mine.c5 h9 | exact Mine.e5 h9 | exact Mine.c6 h9 | exact Mine.e6 h9 | exact Mine.c7 h9 | exact Mine.e7 h9 | exact Mine.c8 h9 | exact Mine.e8 h9 | exact Mine.c9 h9 | exact Mine.e9 h9 | exact Mine.c10 h9 | exact Mine.e10 h9 | exact Mine.c11 h9 | exact Mine.e11 h9 | exact Mine.c12 h9 | exact Mine.e12 h9 | exact Mine.c13 h9 | exact Mine.e13 h9 | exact Mine.c14 h9 | exact Mine.e14 h9 | exact Mine.c15 h9 | exact Mine.e15 h9 | exact Mine.c16 h9 | exact Mine.e16 h9 | exact Mine.c17 h9 | exact Mine.e17 h9 | exact Mine.c18 h9 | exact Mine.e18 h9 | exact Mine.c19 h9 | exact Mine.e19 h9 | exact Mine.c20 h9 | exact Mine.e20 h9 | fail "pj")
  k_with "pj1" => (first | exact Mine.c0 (Mine.c0 h9) | exact Mine.c0 (Mine.c1 h9) | exact Mine.c0 (Mine.c2 h9) | exact Mine.c0 (Mine.c3 h9) | exact Mine.c0 (Mine.c4 h9) | exact Mine.c0 (Mine.c5 h9) | exact Mine.c0 (Mine.c6 h9) | exact Mine.c0 (Mine.c7 h9) | exact Mine.c0 (Mine.c8 h9) | exact Mine.c0 (Mine.c9 h9) | exact Mine.c0 (Mine.c10 h9) | exact Mine.c0 (Mine.c11 h9) | exact Mine.c0 (Mine.c12 h9) | exact Mine.c0 (Mine.c13 h9) | exact Mine.c0 (Mine.c14 h9) | exact Mine.c0 (Mine.c15 h9) | exact Mine.c0 (Mine.c16 h9) | exact Mine.c0 (Mine.c17 h9) | exact Mine.c0 (Mine.c18 h9) | exact Mine.c0 (Mine.c19 h9) | exact Mine.c0 (Mine.c20 h9) | fail "pj1")
  k_with "pj2" => (first | exact Mine.c1 (Mine.c0 h9) | exact Mine.c1 (Mine.c1 h9) | exact Mine.c1 (Mine.c2 h9) | exact Mine.c1 (Mine.c3 h9) | exact Mine.c1 (Mine.c4 h9) | exact Mine.c1 (Mine.c5 h9) | exact Mine.c1 (Mine.c6 h9) | exact Mine.c1 (Mine.c7 h9) | exact Mine.c1 (Mine.c8 h9) | exact Mine.c1 (Mine.c9 h9) | exact Mine.c1 (Mine.c10 h9) | exact Mine.c1 (Mine.c11 h9) | exact Mine.c1 (Mine.c12 h9) | exact Mine.c1 (Mine.c13 h9) | exact Mine.c1 (Mine.c14 h9) | exact Mine.c1 (Mine.c15 h9) | exact Mine.c1 (Mine.c16 h9) | exact Mine.c1 (Mine.c17 h9) | exact Mine.c1 (Mine.c18 h9) | exact Mine.c1 (Mine.c19 h9) | exact Mine.c1 (Mine.c20 h9) | fail "pj2")
  k_with "pj3" => (first | exact Mine.e2 (Mine.c0 h9) | exact Mine.e2 (Mine.c1 h9) | exact Mine.e2 (Mine.c2 h9) | exact Mine.e2 (Mine.c3 h9) | exact Mine.e2 (Mine.c4 h9) | exact Mine.e2 (Mine.c5 h9) | exact Mine.e2 (Mine.c6 h9) | exact Mine.e2 (Mine.c7 h9) | exact Mine.e2 (Mine.c8 h9) | exact Mine.e2 (Mine.c9 h9) | exact Mine.e2 (Mine.c10 h9) | exact Mine.e2 (Mine.c11 h9) | exact Mine.e2 (Mine.c12 h9) | exact Mine.e2 (Mine.c13 h9) | exact Mine.e2 (Mine.c14 h9) | exact Mine.e2 (Mine.c15 h9) | exact Mine.e2 (Mine.c16 h9) | exact Mine.e2 (Mine.c17 h9) | exact Mine.e2 (Mine.c18 h9) | exact Mine.e2 (Mine.c19 h9) | exact Mine.e2 (Mine.c20 h9) | fail "pj3")
  k_with "omega" => (first | exact Nat.le_refl _ | decide | with_reducible (first | exact Mine.lim0 (by assumption) | exact Mine.lim1 (by assumption) (by with_unfolding_all rfl) | exact Mine.lim2 (by assumption) (by with_unfolding_all rfl) | exact Mine.lim3 (by assumption) (by with_unfolding_all rfl) | exact Mine.lim8 (by assumption) (by assumption) (by with_unfolding_all rfl) | exact Mine.lim9 (by assumption) (by assumption) (by with_unfolding_all rfl) | exact Mine.lim10 (by assumption) (by assumption) (by with_unfolding_all rfl) | exact Mine.i1 (by assumption) | exact Mine.i2 (by assumption) | exact Mine.i3 (by assumption) | exact Mine.i4 (by assumption) (by with_unfolding_all rfl) | exact Mine.i5 (by assumption) | exact Mine.i6 (by assumption) (by assumption) | exact Mine.i7 (by assumption) (by assumption) | exact Mine.i8 (by assumption) (by assumption) | exact List.length_take_le _ _ | fail "l") | (refine Mine.toNe ?_; with_reducible (first | exact Nat.ne_of_lt (by ((repeat (first | assumption | exact Mine.ltp0 | refine Mine.ltp ?_)); (first | done | fail "c"))) | exact Nat.ne_of_gt (by ((repeat (first | assumption | exact Mine.ltp0 | refine Mine.ltp ?_)); (first | done | fail "c"))) | (refine Nat.ne_of_lt (Mine.viaL (by assumption) ?_); intro h9; k_extra "pj") | (refine Nat.ne_of_gt (Mine.viaL (by assumption) ?_); intro h9; k_extra "pj") | (refine Nat.ne_of_lt (Mine.viaM (by assumption) ?_); intro h9; k_extra "pj") | (refine Nat.ne_of_gt (Mine.viaM (by assumption) ?_); intro h9; k_extra "pj") | assumption | exact Ne.symm (by assumption) | (refine Mine.viaN (by assumption) ?_; intro h9; k_extra "pj") | (refine Ne.symm (Mine.viaN (by assumption) ?_); intro h9; k_extra "pj") | (refine Mine.viaN1 (by assumption) ?_; intro h9; k_extra "pj1") | (refine Ne.symm (Mine.viaN1 (by assumption) ?_); intro h9; k_extra "pj1") | (refine Mine.viaN2 (by assumption) ?_; intro h9; k_extra "pj2") | (refine Ne.symm (Mine.viaN2 (by assumption) ?_); intro h9; k_extra "pj2") | (refine Mine.viaN3 (by assumption) ?_; intro h9; k_extra "pj3") | (refine Ne.symm (Mine.viaN3 (by assumption) ?_); intro h9; k_extra "pj3") | fail "n")) | fail "o")
  k_with "k_all" => (first | (assumption) | fail "no")
  k_with "k_mem" => (first | (assumption) | fail "no")
  k_with "news_mem" => (first | (k_mem) | fail "no")
  k_with "k_all" => (first | (refine fun p9 hp9 => Nat.ne_of_lt (Nat.lt_of_lt_of_le ((by assumption : ∀ p ∈ _, p.1 < _) p9 hp9) ?_); omega) | fail "no")
  k_with "call ref" => (first | (k_here; (refine wpAny_call ?_; k_dflt (refine' code_defC ?q926738a0k1 ?q926738a0k2 ?q926738a0k3 ?q926738a0k4 ?q926738a0k5 ?q926738a0kA ?q926738a0kF ?q926738a0kK ?q926738a0k6 ?q926738a0k7 ?q926738a0k8 ?q926738a0k9 ?q926738a0kB ?q926738a0kD ?_ ?q926738a0c2 ?q926738a0c3 ?q926738a0c4; (case q926738a0kA => exact rfl); (case q926738a0kF => exact rfl); (case q926738a0kK => first | exact rfl | assumption); (case q926738a0k1 => k_asm); (case q926738a0k2 => k_asm); (case q926738a0k3 => k_asm); (case q926738a0k4 => k_asm); (case q926738a0k5 => k_asm); (case q926738a0k6 => k_is); (case q926738a0k7 => k_is); (case q926738a0k8 => ((simp only [depth_under_make, depth_under_kw, depth_in1, depth_deeper, depth_caller]); first | decide | ((try dsimp only [ktrTop]); omega))); (case q926738a0k9 => exact BindsTo.of_eq rfl); (case q926738a0kB => exact rfl); (case q926738a0kD => decide +kernel); (case q926738a0c2 => exact rfl); (case q926738a0c3 => exact rfl); (case q926738a0c4 => exact rfl); k_whole; walk_at "tl16a1d4f"; (try dsimp only); (try k_fold)))) | fail "no")
  k_with "call ref" => (first | (k_here; (refine wpAny_call ?_); k_dflt (refine' code_def ?q92f5ae95k1 ?q92f5ae95k2 ?q92f5ae95k3 ?q92f5ae95k4 ?q92f5ae95k5 ?q92f5ae95kA ?q92f5ae95kF ?q92f5ae95kK ?q92f5ae95k6 ?q92f5ae95k7 ?q92f5ae95k8 ?q92f5ae95k9 ?q92f5ae95kB ?_ ?q92f5ae95c2 ?q92f5ae95c3 ?q92f5ae95c4 ?q92f5ae95c5; (case q92f5ae95kA => exact rfl); (case q92f5ae95kF => exact rfl); (case q92f5ae95kK => first | exact rfl | assumption); (case q92f5ae95k1 => k_asm); (case q92f5ae95k2 => k_asm); (case q92f5ae95k3 => k_asm); (case q92f5ae95k4 => k_asm); (case q92f5ae95k5 => k_asm); (case q92f5ae95k6 => k_is); (case q92f5ae95k7 => k_is); (case q92f5ae95k8 => ((simp only [depth_under_make, depth_under_kw, depth_in1, depth_deeper, depth_caller]); first | decide | ((try dsimp only [ktrTop]); omega))); (case q92f5ae95k9 => exact BindsTo.of_eq rfl); (case q92f5ae95c5 => decide); (case q92f5ae95kB => exact locs rfl); (case q92f5ae95c2 => exact rfl); (case q92f5ae95c3 => exact rfl); (case q92f5ae95c4 => exact rfl); k_whole; intro _ _ _ _ _ _ _ _ _; (try dsimp only); (try k_fold))) | fail "no")
  k_with "exec Raise some none" => (first | (k_here; refine raise_open rfl ?_) | fail "no")
  k_with "call ref" => (first | (k_here; (with_reducible show wpAny _ _ (call (Value.ref 51) [Value.str _ _] _) _ _ _); k_dflt (refine' fault_mk ?q96b9c5B ?q96b9c5F ?q96b9c5X ?q96b9c5T ?q96b9c5hk ?q96b9c5hA ?q96b9c5hr ?q96b9c5N ?_; (case q96b9c5hA => exact rfl); (case q96b9c5hk => first | exact rfl | assumption); (case q96b9c5B => k_asm); (case q96b9c5F => k_asm); (case q96b9c5X => k_asm); (case q96b9c5T => k_asm); (case q96b9c5hr => ((simp only [depth_under_make, depth_under_kw, depth_in1, depth_deeper, depth_caller]); first | decide | ((try dsimp only [ktrTop]); omega))); (case q96b9c5N => k_asm)); intro _ _ _ _ _ _ _ _; (try k_sweep)) | fail "no")
  k_with "RaisedVal" => (first | (refine ⟨_, _, _, rfl, Frag.In.keeps (by assumption) (Fr.keep (by assumption)), ((by assumption : News _ _ _ (_ :: _)) _ List.mem_cons_self).1, ?_⟩) | fail "no")
  k_with "leaving ref" => (first | (k_here; first | (refine' leave_fault ?q91bf5e95K ?q91bf5e95F ?q91bf5e95N ?q91bf5e95n ?_ ?q91bf5e95hf ?q91bf5e95hk; (case q91bf5e95hf => exact rfl); (case q91bf5e95hk => first | exact rfl | assumption); (case q91bf5e95F => assumption); (case q91bf5e95K => assumption); (case q91bf5e95N => assumption); (case q91bf5e95n => assumption); k_whole; walk_at "tl3225b9b") | (refine' leave_past ?q91bf5e95K ?q91bf5e95F ?q91bf5e95R ?q91bf5e95U ?_ ?q91bf5e95hf; (case q91bf5e95hf => exact rfl); (case q91bf5e95R => assumption); (case q91bf5e95U => assumption); (case q91bf5e95K => assumption); (case q91bf5e95F => assumption); k_whole; walk_at "tl3225b9b")) | fail "no")
  k_with "getMethod ref" => (first | (k_here; (with_reducible show wpAny _ _ (getMethod (Value.ref _) (Str.ofString "get") _) _ _ _); k_dflt (refine kdg_method (knd := PySem.strKind _ _) (by k_asm) (by k_mem) (by k_asm) ?_)) | fail "no")
  k_with "call builtin:dict.get" => (first | (k_here; k_dflt (first | refine kdg_get1 (knd := PySem.strKind _ _) (by k_asm) (by k_mem) (by k_asm) (by k_asm) (strKind_is _ _ _ _) (some _) (by rfl) ?_ | refine kdg_get1 (knd := PySem.strKind _ _) (by k_asm) (by k_mem) (by k_asm) (by k_asm) (strKind_is _ _ _ _) none (by rfl) ?_); (try dsimp only [Option.getD])) | fail "no")
  k_with "subscriptTail" => (first | (k_here; (with_reducible show wpAny _ _ (subscriptTail _ _ (Value.ref _) (Value.str _ _)) _ _ _); k_dflt (refine kda_item (knd := PySem.strKind _ _) (by k_asm) (by k_mem) (by k_asm) (strKind_is _ _ _ _) (by rfl) ?_)) | fail "no")
  k_with "compareOp NotIn str ref" => (first | (k_here; k_dflt (refine kdg_notin (knd := PySem.strKind _ _) (by k_asm) (by k_mem) (by k_asm) (by k_asm) (strKind_is _ _ _ _) _ (by rfl) ?_)) | fail "no")
  k_with "k_get" => (first | (assumption) | fail "no")
  k_with "eval ListComp" => (first | (refine halt ?_) | fail "no")
  k_with "CompSrc" => (first | (refine halt ?_) | fail "no")
  k_with "CompEnd" => (first | (refine halt ?_) | fail "no")
  k_with "UnrEnd" => (first | (refine halt ?_) | fail "no")
  trivial
theorem offI_lt {d : Addr} {o : Obj} : ∀ {l : List (Addr × Obj)}, AllLt d l → OffI d o l
  | [], _ => trivial
  | a :: r, ⟨h1, h2⟩ => ⟨.inl (Nat.ne_of_lt h1), offI_lt h2⟩
theorem subL_of : ∀ {l all : List (Addr × Obj)}, (∀ p ∈ l, p ∈ all) → SubL l all
  | [], _, _ => trivial
  | a :: r, all, h => ⟨h a List.mem_cons_self, subL_of fun p hp => h p (List.mem_cons_of_mem _ hp)⟩
theorem place_elem {w : World} {dp un : Nat} {gd : Option (List Code)} {cn : Str} {cs : Scope} {a : Addr} {ccd : Value} {cl : List (Str × Addr)} {outer : List Env} {A₀ : Around} {base h₀ : Heap} {L : Addr} {m : Str → Option Value} {s : Shared} {Q E : Value → Shared → Prop} {mean : ExcName → Option Value} {mg mb : Str → Option Value} {news : List (Addr × Obj)} {run tr : Addr} {size many : Int} {pF pG dF d1 dG : Addr} {es : List DictEntry} {rd fr ex : Addr} {nn : Nat} {ofr oex : Obj} {t1 t2 t3 t4 t5 t6 t7 t8 u1 u2 u3 u4 u5 u6 : Tok} {ll c1 : Addr} {nl : Nat} {k : Int}
    (B : Below A₀ base outer h₀) (F : Fr h₀ L s.heap m) (X : (seat.heap_1 w.params).In h₀) (T : Top topProg ((looseW seat.view_1 [Str.ofString "counted_elements_iops", Str.ofString "counted_elements_plainio"]) ++ List.map (fun x => x.name) (recsOf seat.view_1) ++ List.map (fun x => x.fst) (litsOf seat.view_1) ++ List.map (fun x => x.name) (clssOf seat.view_1 (looseW seat.view_1 [Str.ofString "counted_elements_iops", Str.ofString "counted_elements_plainio"]))) mean mg mb h₀) (hkf : cs.kind = .function) (N : News h₀ L s.heap news) (hdp : dp + 40 < recursionLimit) (hR : FrAt w news run size many pF pG dF d1 dG es rd fr ex nn ofr oex t1 t2 t3 t4 t5 t6 t7 t8)
    (ht : (tr, tupO [.str (Str.ofString "elem") u1, .int 5 u2, .str (Str.ofString "F") u3, .ref ll]) ∈ news) (hl : (ll, W.listOf [.ref c1].toArray nl) ∈ news) (hc : (c1, tupO [.str (Str.ofString "const") u4, .int 0 u5, .int k u6]) ∈ news)
    (h3 : many ≤ 3) (h4 : 1 ≤ size) (h5 : size ≤ 4)
    (ret : 1 ≤ k → k ≤ many → ∀ r em a1 a2 a3 h' tk', Fr h₀ L h' m → News h₀ L h' ((r, tupO [.int 5 a1, .int ((k - 1) * size) a2, .int size a3, .ref em]) :: (em, tupO []) :: news) → (∀ q ∈ news, q.1 < em) → em < r → Q (.ref r) { s with heap := h', toks := tk' })
    (exc : ¬ (1 ≤ k ∧ k ≤ many) → ∀ e g₂ h' tk', Fr h₀ L g₂ m → RaisedSN base g₂ (envX cn cs L a ccd cl :: outer) e (.ref 51) news h' → g₂.UpToSlots h' → E (.ref e) { s with heap := h', toks := tk' }) :
    wpAny (model PySem.Challenge.rw_rh0120_01.row.prog w) (ktrTop dp un gd cn cs L a ccd cl outer) (call (.ref 345) [.ref run, .ref tr]) Q E s := by
  (revert X; k_fill; intro X)
  obtain ⟨r1, r2, r3, r4, r5, r6, r7, r8, r9, r10, r11, r12, r13, r14, r15⟩ := hR
  (refine wpAny_call ?_; k_dflt (refine' code_defC ?q9k1 ?q9k2 ?q9k3 ?q9k4 ?q9k5 ?q9kA ?q9kF ?q9kK ?q9k6 ?q9k7 ?q9k8 ?q9k9 ?q9kB ?q9kD ?_ ?q9c2 ?q9c3 ?q9c4; (case q9kA => exact rfl); (case q9kF => exact rfl); (case q9kK => first | exact rfl | assumption); (case q9k1 => k_asm); (case q9k2 => k_asm); (case q9k3 => k_asm); (case q9k4 => k_asm); (case q9k5 => k_asm); (case q9k6 => k_is); (case q9k7 => k_is); (case q9k8 => ((simp only [depth_under_make, depth_under_kw, depth_in1, depth_deeper, depth_caller]); first | decide | ((try dsimp only [ktrTop]); omega))); (case q9k9 => exact BindsTo.of_eq rfl); (case q9kB => exact rfl); (case q9kD => decide +kernel); (case q9c2 => exact rfl); (case q9c3 => exact rfl); (case q9c4 => exact rfl); k_whole; intro g' L' h' tk' cells' FG' F' N' Y' B' X' T' l1; (try k_lt l1); k_cells Y'; (try simp only [List.cons_append, List.nil_append] at N'); (try dsimp only); (try k_fold)))
  k_steps
  refine unhalt ?_
  k_dflt (refine LCg.ListComp_U (F₀ := by k_asm) (by with_unfolding_all rfl) (by decide) (by rfl) (by decide) (by rfl) ?_)
  k_steps
  refine unhalt ?_
  k_dflt (refine LCg.CompSrc.ledger (by rfl) (by k_asm) (by k_asm) (List.mem_cons_of_mem _ hl) (by exact Nat.le_of_ble_eq_true rfl) ?_)
  intro gg
  refine LCg.CompRest.succ ?_
  intro v' I' oI' C' oC' D' m' h' tk' E' hv' hC' hx' F' N' off' ne'
  obtain rfl : (.ref c1) = v' := Option.some.inj hv'
  simp only [LCg.Off3] at off'
  k_steps
  rename News _ _ _ (_ :: _) => N12
  rename Fr _ _ _ _ => F12
  refine unhalt (LCg.CompEnd.intro F12 N12 (_ :: news) (fun p hp => hp) off' (.inr ⟨_, List.mem_cons_of_mem _ hl, rfl, _, rfl⟩) ?_)
  refine LCg.CompRest.zero ?_
  k_steps
  · rename ([k].getD _ _ < 1) => hh
    simp at hh
    exact exc (by omega) _ _ _ _ (by assumption) (raisedSub (by assumption) (by intro p hp; repeat (first | exact hp | refine List.mem_cons_of_mem _ ?_))) (by assumption)
  · rename (many < [k].getD _ _) => hh
    simp at hh
    exact exc (by omega) _ _ _ _ (by assumption) (raisedSub (by assumption) (by intro p hp; repeat (first | exact hp | refine List.mem_cons_of_mem _ ?_))) (by assumption)
  · rename News _ _ _ _ => N14
    rename Fr _ _ _ _ => F14
    rename (_ < _ ∧ _ < _ ∧ AllLt _ news) => l14
    refine unhalt (UnrEnd.intro3 F14 N14 news List.mem_cons_self (subL_of (fun p hp => List.mem_cons_of_mem _ (List.mem_cons_of_mem _ (List.mem_cons_of_mem _ hp)))) (offI_lt l14.2.2) ?_)
    rename (¬ [k].getD _ _ < 1) => hh1
    rename (¬ many < [k].getD _ _) => hh2
    simp at hh1 hh2
    k_steps
    rename (∀ p ∈ news, p.1 < _) => l15
    rename (_ < _ ∧ AllLt _ news) => l16
    rename News h₀ L _ _ => N15
    obtain ⟨v, a2, hv, N16⟩ : ∃ v a2, v = (k - 1) * size ∧ News h₀ L _ ((_, tupO [.int 5 t1, .int v a2, .int size t3, .ref _]) :: (_, tupO []) :: news) := ⟨_, _, by simp, N15⟩
    subst hv
    exact ret (by omega) (by omega) _ _ _ _ _ _ _ (by assumption) N16 l15 l16.1
end
end
section
theorem reg_Sub_1 : True := by
  w_top off
  k_with_none
  k_with "pj" => (first | exact Mine.c0 h9 | exact Mine.c1 h9 | exact Mine.e1 h9 | exact Mine.c2 h9 | exact Mine.e2 h9 | exact Mine.c3 h9 | exact Mine.e3 h9 | exact Mine.c4 h9 | exact Mine.e4 h9 | exact Mine.c5 h9 | exact Mine.e5 h9 | exact Mine.c6 h9 | exact Mine.e6 h9 | exact Mine.c7 h9 | exact Mine.e7 h9 | exact Mine.c8 h9 | exact Mine.e8 h9 | exact Mine.c9 h9 | exact Mine.e9 h9 | exact Mine.c10 h9 | exact Mine.e10 h9 | exact Mine.c11 h9 | exact Mine.e11 h9 | exact Mine.c12 h9 | exact Mine.e12 h9 | exact Mine.c13 h9 | exact Mine.e13 h9 | exact Mine.c14 h9 | exact Mine.e14 h9 | exact Mine.c15 h9 | exact Mine.e15 h9 | exact Mine.c16 h9 | exact Mine.e16 h9 | exact Mine.c17 h9 | exact Mine.e17 h9 | exact Mine.c18 h9 | exact Mine.e18 h9 | exact Mine.c19 h9 | exact Mine.e19 h9 | exact Mine.c20 h9 | exact Mine.e20 h9 | fail "pj")
  k_with "pj1" => (first | exact Mine.c0 (Mine.c0 h9) | exact Mine.c0 (Mine.c1 h9) | exact Mine.c0 (Mine.c2 h9) | exact Mine.c0 (Mine.c3 h9) | exact Mine.c0 (Mine.c4 h9) | exact Mine.c0 (Mine.c5 h9) | exact Mine.c0 (Mine.c6 h9) | exact Mine.c0 (Mine.c7 h9) | exact Mine.c0 (Mine.c8 h9) | exact Mine.c0 (Mine.c9 h9) | exact Mine.c0 (Mine.c10 h9) | exact Mine.c0 (Mine.c11 h9) | exact Mine.c0 (Mine.c12 h9) | exact Mine.c0 (Mine.c13 h9) | exact Mine.c0 (Mine.c14 h9) | exact Mine.c0 (Mine.c15 h9) | exact Mine.c0 (Mine.c16 h9) | exact Mine.c0 (Mine.c17 h9) | exact Mine.c0 (Mine.c18 h9) | exact Mine.c0 (Mine.c19 h9) | exact Mine.c0 (Mine.c20 h9) | fail "pj1")
  k_with "pj2" => (first | exact Mine.c1 (Mine.c0 h9) | exact Mine.c1 (Mine.c1 h9) | exact Mine.c1 (Mine.c2 h9) | exact Mine.c1 (Mine.c3 h9) | exact Mine.c1 (Mine.c4 h9) | exact Mine.c1 (Mine.c5 h9) | exact Mine.c1 (Mine.c6 h9) | exact Mine.c1 (Mine.c7 h9) | exact Mine.c1 (Mine.c8 h9) | exact Mine.c1 (Mine.c9 h9) | exact Mine.c1 (Mine.c10 h9) | exact Mine.c1 (Mine.c11 h9) | exact Mine.c1 (Mine.c12 h9) | exact Mine.c1 (Mine.c13 h9) | exact Mine.c1 (Mine.c14 h9) | exact Mine.c1 (Mine.c15 h9) | exact Mine.c1 (Mine.c16 h9) | exact Mine.c1 (Mine.c17 h9) | exact Mine.c1 (Mine.c18 h9) | exact Mine.c1 (Mine.c19 h9) | exact Mine.c1 (Mine.c20 h9) | fail "pj2")
  k_with "pj3" => (first | exact Mine.e2 (Mine.c0 h9) | exact Mine.e2 (Mine.c1 h9) | exact Mine.e2 (Mine.c2 h9) | exact Mine.e2 (Mine.c3 h9) | exact Mine.e2 (Mine.c4 h9) | exact Mine.e2 (Mine.c5 h9) | exact Mine.e2 (Mine.c6 h9) | exact Mine.e2 (Mine.c7 h9) | exact Mine.e2 (Mine.c8 h9) | exact Mine.e2 (Mine.c9 h9) | exact Mine.e2 (Mine.c10 h9) | exact Mine.e2 (Mine.c11 h9) | exact Mine.e2 (Mine.c12 h9) | exact Mine.e2 (Mine.c13 h9) | exact Mine.e2 (Mine.c14 h9) | exact Mine.e2 (Mine.c15 h9) | exact Mine.e2 (Mine.c16 h9) | exact Mine.e2 (Mine.c17 h9) | exact Mine.e2 (Mine.c18 h9) | exact Mine.e2 (Mine.c19 h9) | exact Mine.e2 (Mine.c20 h9) | fail "pj3")
  k_with "omega" => (first | exact Nat.le_refl _ | decide | with_reducible (first | exact Mine.lim0 (by assumption) | exact Mine.lim1 (by assumption) (by with_unfolding_all rfl) | exact Mine.lim2 (by assumption) (by with_unfolding_all rfl) | exact Mine.lim3 (by assumption) (by with_unfolding_all rfl) | exact Mine.lim8 (by assumption) (by assumption) (by with_unfolding_all rfl) | exact Mine.lim9 (by assumption) (by assumption) (by with_unfolding_all rfl) | exact Mine.lim10 (by assumption) (by assumption) (by with_unfolding_all rfl) | exact Mine.i1 (by assumption) | exact Mine.i2 (by assumption) | exact Mine.i3 (by assumption) | exact Mine.i4 (by assumption) (by with_unfolding_all rfl) | exact Mine.i5 (by assumption) | exact Mine.i6 (by assumption) (by assumption) | exact Mine.i7 (by assumption) (by assumption) | exact Mine.i8 (by assumption) (by assumption) | exact List.length_take_le _ _ | fail "l") | (refine Mine.toNe ?_; with_reducible (first | exact Nat.ne_of_lt (by ((repeat (first | assumption | exact Mine.ltp0 | refine Mine.ltp ?_)); (first | done | fail "c"))) | exact Nat.ne_of_gt (by ((repeat (first | assumption | exact Mine.ltp0 | refine Mine.ltp ?_)); (first | done | fail "c"))) | (refine Nat.ne_of_lt (Mine.viaL (by assumption) ?_); intro h9; k_extra "pj") | (refine Nat.ne_of_gt (Mine.viaL (by assumption) ?_); intro h9; k_extra "pj") | (refine Nat.ne_of_lt (Mine.viaM (by assumption) ?_); intro h9; k_extra "pj") | (refine Nat.ne_of_gt (Mine.viaM (by assumption) ?_); intro h9; k_extra "pj") | assumption | exact Ne.symm (by assumption) | (refine Mine.viaN (by assumption) ?_; intro h9; k_extra "pj") | (refine Ne.symm (Mine.viaN (by assumption) ?_); intro h9; k_extra "pj") | (refine Mine.viaN1 (by assumption) ?_; intro h9; k_extra "pj1") | (refine Ne.symm (Mine.viaN1 (by assumption) ?_); intro h9; k_extra "pj1") | (refine Mine.viaN2 (by assumption) ?_; intro h9; k_extra "pj2") | (refine Ne.symm (Mine.viaN2 (by assumption) ?_); intro h9; k_extra "pj2") | (refine Mine.viaN3 (by assumption) ?_; intro h9; k_extra "pj3") | (refine Ne.symm (Mine.viaN3 (by assumption) ?_); intro h9; k_extra "pj3") | fail "n")) | fail "o")
  trivial
theorem newsMid2 {h₀ h : Heap} {L : Addr} {a b c d : Addr × Obj} {news : List (Addr × Obj)} (N : News h₀ L h (a :: b :: c :: d :: news)) : News h₀ L h (a :: b :: news) :=
  newsSub N fun p hp => by
    simp only [List.mem_cons] at hp ⊢
    rcases hp with h | h | h
    · exact .inl h
    · exact .inr (.inl h)
    · exact .inr (.inr (.inr (.inr h)))
section
theorem reg_Sub_2 : True := by
  w_top off
  k_with_none
  k_with "pj" => (first | exact Mine.c0 h9 | exact Mine.c1 h9 | exact Mine.e1 h9 | exact Mine.c2 h9 | exact Mine.e2 h9 | exact Mine.c3 h9 | exact Mine.e3 h9 | exact Mine.c4 h9 | exact Mine.e4 h9 | exact Mine.c5 h9 | exact Mine.e5 h9 | exact Mine.c6 h9 | exact Mine.e6 h9 | exact Mine.c7 h9 | exact Mine.e7 h9 | exact Mine.c8 h9 | exact Mine.e8 h9 | exact Mine.c9 h9 | exact Mine.e9 h9 | exact Mine.c10 h9 | exact Mine.e10 h9 | exact Mine.c11 h9 | exact Mine.e11 h9 | exact Mine.c12 h9 | exact Mine.e12 h9 | exact Mine.c13 h9 | exact Mine.e13 h9 | exact Mine.c14 h9 | exact Mine.e14 h9 | exact Mine.c15 h9 | exact Mine.e15 h9 | exact Mine.c16 h9 | exact Mine.e16 h9 | exact Mine.c17 h9 | exact Mine.e17 h9 | exact Mine.c18 h9 | exact Mine.e18 h9 | exact Mine.c19 h9 | exact Mine.e19 h9 | exact Mine.c20 h9 | exact Mine.e20 h9 | fail "pj")
  k_with "pj1" => (first | exact Mine.c0 (Mine.c0 h9) | exact Mine.c0 (Mine.c1 h9) | exact Mine.c0 (Mine.c2 h9) | exact Mine.c0 (Mine.c3 h9) | exact Mine.c0 (Mine.c4 h9) | exact Mine.c0 (Mine.c5 h9) | exact Mine.c0 (Mine.c6 h9) | exact Mine.c0 (Mine.c7 h9) | exact Mine.c0 (Mine.c8 h9) | exact Mine.c0 (Mine.c9 h9) | exact Mine.c0 (Mine.c10 h9) | exact Mine.c0 (Mine.c11 h9) | exact Mine.c0 (Mine.c12 h9) | exact Mine.c0 (Mine.c13 h9) | exact Mine.c0 (Mine.c14 h9) | exact Mine.c0 (Mine.c15 h9) | exact Mine.c0 (Mine.c16 h9) | exact Mine.c0 (Mine.c17 h9) | exact Mine.c0 (Mine.c18 h9) | exact Mine.c0 (Mine.c19 h9) | exact Mine.c0 (Mine.c20 h9) | fail "pj1")
  k_with "pj2" => (first | exact Mine.c1 (Mine.c0 h9) | exact Mine.c1 (Mine.c1 h9) | exact Mine.c1 (Mine.c2 h9) | exact Mine.c1 (Mine.c3 h9) | exact Mine.c1 (Mine.c4 h9) | exact Mine.c1 (Mine.c5 h9) | exact Mine.c1 (Mine.c6 h9) | exact Mine.c1 (Mine.c7 h9) | exact Mine.c1 (Mine.c8 h9) | exact Mine.c1 (Mine.c9 h9) | exact Mine.c1 (Mine.c10 h9) | exact Mine.c1 (Mine.c11 h9) | exact Mine.c1 (Mine.c12 h9) | exact Mine.c1 (Mine.c13 h9) | exact Mine.c1 (Mine.c14 h9) | exact Mine.c1 (Mine.c15 h9) | exact Mine.c1 (Mine.c16 h9) | exact Mine.c1 (Mine.c17 h9) | exact Mine.c1 (Mine.c18 h9) | exact Mine.c1 (Mine.c19 h9) | exact Mine.c1 (Mine.c20 h9) | fail "pj2")
  k_with "pj3" => (first | exact Mine.e2 (Mine.c0 h9) | exact Mine.e2 (Mine.c1 h9) | exact Mine.e2 (Mine.c2 h9) | exact Mine.e2 (Mine.c3 h9) | exact Mine.e2 (Mine.c4 h9) | exact Mine.e2 (Mine.c5 h9) | exact Mine.e2 (Mine.c6 h9) | exact Mine.e2 (Mine.c7 h9) | exact Mine.e2 (Mine.c8 h9) | exact Mine.e2 (Mine.c9 h9) | exact Mine.e2 (Mine.c10 h9) | exact Mine.e2 (Mine.c11 h9) | exact Mine.e2 (Mine.c12 h9) | exact Mine.e2 (Mine.c13 h9) | exact Mine.e2 (Mine.c14 h9) | exact Mine.e2 (Mine.c15 h9) | exact Mine.e2 (Mine.c16 h9) | exact Mine.e2 (Mine.c17 h9) | exact Mine.e2 (Mine.c18 h9) | exact Mine.e2 (Mine.c19 h9) | exact Mine.e2 (Mine.c20 h9) | fail "pj3")
  k_with "omega" => (first | exact Nat.le_refl _ | decide | with_reducible (first | exact Mine.lim0 (by assumption) | exact Mine.lim1 (by assumption) (by with_unfolding_all rfl) | exact Mine.lim2 (by assumption) (by with_unfolding_all rfl) | exact Mine.lim3 (by assumption) (by with_unfolding_all rfl) | exact Mine.lim8 (by assumption) (by assumption) (by with_unfolding_all rfl) | exact Mine.lim9 (by assumption) (by assumption) (by with_unfolding_all rfl) | exact Mine.lim10 (by assumption) (by assumption) (by with_unfolding_all rfl) | exact Mine.i1 (by assumption) | exact Mine.i2 (by assumption) | exact Mine.i3 (by assumption) | exact Mine.i4 (by assumption) (by with_unfolding_all rfl) | exact Mine.i5 (by assumption) | exact Mine.i6 (by assumption) (by assumption) | exact Mine.i7 (by assumption) (by assumption) | exact Mine.i8 (by assumption) (by assumption) | exact List.length_take_le _ _ | fail "l") | (refine Mine.toNe ?_; with_reducible (first | exact Nat.ne_of_lt (by ((repeat (first | assumption | exact Mine.ltp0 | refine Mine.ltp ?_)); (first | done | fail "c"))) | exact Nat.ne_of_gt (by ((repeat (first | assumption | exact Mine.ltp0 | refine Mine.ltp ?_)); (first | done | fail "c"))) | (refine Nat.ne_of_lt (Mine.viaL (by assumption) ?_); intro h9; k_extra "pj") | (refine Nat.ne_of_gt (Mine.viaL (by assumption) ?_); intro h9; k_extra "pj") | (refine Nat.ne_of_lt (Mine.viaM (by assumption) ?_); intro h9; k_extra "pj") | (refine Nat.ne_of_gt (Mine.viaM (by assumption) ?_); intro h9; k_extra "pj") | assumption | exact Ne.symm (by assumption) | (refine Mine.viaN (by assumption) ?_; intro h9; k_extra "pj") | (refine Ne.symm (Mine.viaN (by assumption) ?_); intro h9; k_extra "pj") | (refine Mine.viaN1 (by assumption) ?_; intro h9; k_extra "pj1") | (refine Ne.symm (Mine.viaN1 (by assumption) ?_); intro h9; k_extra "pj1") | (refine Mine.viaN2 (by assumption) ?_; intro h9; k_extra "pj2") | (refine Ne.symm (Mine.viaN2 (by assumption) ?_); intro h9; k_extra "pj2") | (refine Mine.viaN3 (by assumption) ?_; intro h9; k_extra "pj3") | (refine Ne.symm (Mine.viaN3 (by assumption) ?_); intro h9; k_extra "pj3") | fail "n")) | fail "o")
  k_with "k_all" => (first | (assumption) | fail "no")
  k_with "k_mem" => (first | (assumption) | fail "no")
  k_with "news_mem" => (first | (k_mem) | fail "no")
  k_with "k_all" => (first | (refine fun p9 hp9 => Nat.ne_of_lt (Nat.lt_of_lt_of_le ((by assumption : ∀ p ∈ _, p.1 < _) p9 hp9) ?_); omega) | fail "no")
  k_with "call ref" => (first | (k_here; (refine wpAny_call ?_; k_dflt (refine' code_defC ?q926738a0k1 ?q926738a0k2 ?q926738a0k3 ?q926738a0k4 ?q926738a0k5 ?q926738a0kA ?q926738a0kF ?q926738a0kK ?q926738a0k6 ?q926738a0k7 ?q926738a0k8 ?q926738a0k9 ?q926738a0kB ?q926738a0kD ?_ ?q926738a0c2 ?q926738a0c3 ?q926738a0c4; (case q926738a0kA => exact rfl); (case q926738a0kF => exact rfl); (case q926738a0kK => first | exact rfl | assumption); (case q926738a0k1 => k_asm); (case q926738a0k2 => k_asm); (case q926738a0k3 => k_asm); (case q926738a0k4 => k_asm); (case q926738a0k5 => k_asm); (case q926738a0k6 => k_is); (case q926738a0k7 => k_is); (case q926738a0k8 => ((simp only [depth_under_make, depth_under_kw, depth_in1, depth_deeper, depth_caller]); first | decide | ((try dsimp only [ktrTop]); omega))); (case q926738a0k9 => exact BindsTo.of_eq rfl); (case q926738a0kB => exact rfl); (case q926738a0kD => decide +kernel); (case q926738a0c2 => exact rfl); (case q926738a0c3 => exact rfl); (case q926738a0c4 => exact rfl); k_whole; walk_at "tl16a1d4f"; (try dsimp only); (try k_fold)))) | fail "no")
  k_with "call ref" => (first | (k_here; (refine wpAny_call ?_); k_dflt (refine' code_def ?q92f5ae95k1 ?q92f5ae95k2 ?q92f5ae95k3 ?q92f5ae95k4 ?q92f5ae95k5 ?q92f5ae95kA ?q92f5ae95kF ?q92f5ae95kK ?q92f5ae95k6 ?q92f5ae95k7 ?q92f5ae95k8 ?q92f5ae95k9 ?q92f5ae95kB ?_ ?q92f5ae95c2 ?q92f5ae95c3 ?q92f5ae95c4 ?q92f5ae95c5; (case q92f5ae95kA => exact rfl); (case q92f5ae95kF => exact rfl); (case q92f5ae95kK => first | exact rfl | assumption); (case q92f5ae95k1 => k_asm); (case q92f5ae95k2 => k_asm); (case q92f5ae95k3 => k_asm); (case q92f5ae95k4 => k_asm); (case q92f5ae95k5 => k_asm); (case q92f5ae95k6 => k_is); (case q92f5ae95k7 => k_is); (case q92f5ae95k8 => ((simp only [depth_under_make, depth_under_kw, depth_in1, depth_deeper, depth_caller]); first | decide | ((try dsimp only [ktrTop]); omega))); (case q92f5ae95k9 => exact BindsTo.of_eq rfl); (case q92f5ae95c5 => decide); (case q92f5ae95kB => exact locs rfl); (case q92f5ae95c2 => exact rfl); (case q92f5ae95c3 => exact rfl); (case q92f5ae95c4 => exact rfl); k_whole; intro _ _ _ _ _ _ _ _ _; (try dsimp only); (try k_fold))) | fail "no")
  k_with "exec Raise some none" => (first | (k_here; refine raise_open rfl ?_) | fail "no")
  k_with "call ref" => (first | (k_here; (with_reducible show wpAny _ _ (call (Value.ref 51) [Value.str _ _] _) _ _ _); k_dflt (refine' fault_mk ?q96b9c5B ?q96b9c5F ?q96b9c5X ?q96b9c5T ?q96b9c5hk ?q96b9c5hA ?q96b9c5hr ?q96b9c5N ?_; (case q96b9c5hA => exact rfl); (case q96b9c5hk => first | exact rfl | assumption); (case q96b9c5B => k_asm); (case q96b9c5F => k_asm); (case q96b9c5X => k_asm); (case q96b9c5T => k_asm); (case q96b9c5hr => ((simp only [depth_under_make, depth_under_kw, depth_in1, depth_deeper, depth_caller]); first | decide | ((try dsimp only [ktrTop]); omega))); (case q96b9c5N => k_asm)); intro _ _ _ _ _ _ _ _; (try k_sweep)) | fail "no")
  k_with "RaisedVal" => (first | (refine ⟨_, _, _, rfl, Frag.In.keeps (by assumption) (Fr.keep (by assumption)), ((by assumption : News _ _ _ (_ :: _)) _ List.mem_cons_self).1, ?_⟩) | fail "no")
  k_with "leaving ref" => (first | (k_here; first | (refine' leave_fault ?q91bf5e95K ?q91bf5e95F ?q91bf5e95N ?q91bf5e95n ?_ ?q91bf5e95hf ?q91bf5e95hk; (case q91bf5e95hf => exact rfl); (case q91bf5e95hk => first | exact rfl | assumption); (case q91bf5e95F => assumption); (case q91bf5e95K => assumption); (case q91bf5e95N => assumption); (case q91bf5e95n => assumption); k_whole; walk_at "tl3225b9b") | (refine' leave_past ?q91bf5e95K ?q91bf5e95F ?q91bf5e95R ?q91bf5e95U ?_ ?q91bf5e95hf; (case q91bf5e95hf => exact rfl); (case q91bf5e95R => assumption); (case q91bf5e95U => assumption); (case q91bf5e95K => assumption); (case q91bf5e95F => assumption); k_whole; walk_at "tl3225b9b")) | fail "no")
  k_with "getMethod ref" => (first | (k_here; (with_reducible show wpAny _ _ (getMethod (Value.ref _) (Str.ofString "get") _) _ _ _); k_dflt (refine kdg_method (knd := PySem.strKind _ _) (by k_asm) (by k_mem) (by k_asm) ?_)) | fail "no")
  k_with "call builtin:dict.get" => (first | (k_here; k_dflt (first | refine kdg_get1 (knd := PySem.strKind _ _) (by k_asm) (by k_mem) (by k_asm) (by k_asm) (strKind_is _ _ _ _) (some _) (by rfl) ?_ | refine kdg_get1 (knd := PySem.strKind _ _) (by k_asm) (by k_mem) (by k_asm) (by k_asm) (strKind_is _ _ _ _) none (by rfl) ?_); (try dsimp only [Option.getD])) | fail "no")
  k_with "subscriptTail" => (first | (k_here; (with_reducible show wpAny _ _ (subscriptTail _ _ (Value.ref _) (Value.str _ _)) _ _ _); k_dflt (refine kda_item (knd := PySem.strKind _ _) (by k_asm) (by k_mem) (by k_asm) (strKind_is _ _ _ _) (by rfl) ?_)) | fail "no")
  k_with "compareOp NotIn str ref" => (first | (k_here; k_dflt (refine kdg_notin (knd := PySem.strKind _ _) (by k_asm) (by k_mem) (by k_asm) (by k_asm) (strKind_is _ _ _ _) _ (by rfl) ?_)) | fail "no")
  k_with "k_get" => (first | (assumption) | fail "no")
  trivial
theorem place_sub {w : World} {dp un : Nat} {gd : Option (List Code)} {cn : Str} {cs : Scope} {a : Addr} {ccd : Value} {cl : List (Str × Addr)} {outer : List Env} {A₀ : Around} {base h₀ : Heap} {L : Addr} {m : Str → Option Value} {s : Shared} {Q E : Value → Shared → Prop} {mean : ExcName → Option Value} {mg mb : Str → Option Value} {news : List (Addr × Obj)} {run tr : Addr} {size many : Int} {pF pG dF d1 dG : Addr} {es : List DictEntry} {rd fr ex : Addr} {nn : Nat} {ofr oex : Obj} {t1 t2 t3 t4 t5 t6 t7 t8 u1 u2 u3 u4 u5 u6 u7 u8 u9 v1 v2 : Tok} {va b0 b1 : Addr} {lo hi : Int}
    (B : Below A₀ base outer h₀) (F : Fr h₀ L s.heap m) (X : (seat.heap_1 w.params).In h₀) (T : Top topProg ((looseW seat.view_1 [Str.ofString "counted_elements_iops", Str.ofString "counted_elements_plainio"]) ++ List.map (fun x => x.name) (recsOf seat.view_1) ++ List.map (fun x => x.fst) (litsOf seat.view_1) ++ List.map (fun x => x.name) (clssOf seat.view_1 (looseW seat.view_1 [Str.ofString "counted_elements_iops", Str.ofString "counted_elements_plainio"]))) mean mg mb h₀) (hkf : cs.kind = .function) (N : News h₀ L s.heap news) (hdp : dp + 60 < recursionLimit) (hR : FrAt w news run size many pF pG dF d1 dG es rd fr ex nn ofr oex t1 t2 t3 t4 t5 t6 t7 t8)
    (ht : (tr, tupO [.str (Str.ofString "substr") u1, .int 5 u2, .ref va, .ref b0, .ref b1]) ∈ news) (hv : (va, tupO [.str (Str.ofString "var") u3, .int 5 u4, .str (Str.ofString "G") u5]) ∈ news)
    (hb0 : (b0, tupO [.str (Str.ofString "const") u6, .int 0 u7, .int lo u8]) ∈ news) (hb1 : (b1, tupO [.str (Str.ofString "const") u9, .int 0 v1, .int hi v2]) ∈ news)
    (ret : 1 ≤ lo → lo ≤ hi → hi ≤ 3 → ∀ r em a1 a2 a3 h' tk', Fr h₀ L h' m → News h₀ L h' ((r, tupO [.int 5 a1, .int (lo - 1) a2, .int (hi - lo + 1) a3, .ref em]) :: (em, tupO []) :: news) → (∀ q ∈ news, q.1 < em) → em < r → Q (.ref r) { s with heap := h', toks := tk' })
    (exc : ¬ (1 ≤ lo ∧ lo ≤ hi ∧ hi ≤ 3) → ∀ e g₂ h' tk', Fr h₀ L g₂ m → RaisedSN base g₂ (envX cn cs L a ccd cl :: outer) e (.ref 51) news h' → g₂.UpToSlots h' → E (.ref e) { s with heap := h', toks := tk' }) :
    wpAny (model PySem.Challenge.rw_rh0120_01.row.prog w) (ktrTop dp un gd cn cs L a ccd cl outer) (call (.ref 345) [.ref run, .ref tr]) Q E s := by
  (revert X; k_fill; intro X)
  obtain ⟨r1, r2, r3, r4, r5, r6, r7, r8, r9, r10, r11, r12, r13, r14, r15⟩ := hR
  (refine wpAny_call ?_; k_dflt (refine' code_defC ?q9k1 ?q9k2 ?q9k3 ?q9k4 ?q9k5 ?q9kA ?q9kF ?q9kK ?q9k6 ?q9k7 ?q9k8 ?q9k9 ?q9kB ?q9kD ?_ ?q9c2 ?q9c3 ?q9c4; (case q9kA => exact rfl); (case q9kF => exact rfl); (case q9kK => first | exact rfl | assumption); (case q9k1 => k_asm); (case q9k2 => k_asm); (case q9k3 => k_asm); (case q9k4 => k_asm); (case q9k5 => k_asm); (case q9k6 => k_is); (case q9k7 => k_is); (case q9k8 => ((simp only [depth_under_make, depth_under_kw, depth_in1, depth_deeper, depth_caller]); first | decide | ((try dsimp only [ktrTop]); omega))); (case q9k9 => exact BindsTo.of_eq rfl); (case q9kB => exact rfl); (case q9kD => decide +kernel); (case q9c2 => exact rfl); (case q9c3 => exact rfl); (case q9c4 => exact rfl); k_whole; intro g' L' h' tk' cells' FG' F' N' Y' B' X' T' l1; (try k_lt l1); k_cells Y'; (try simp only [List.cons_append, List.nil_append] at N'); (try dsimp only); (try k_fold)))
  k_steps
  iterate 3 (exact exc (by omega) _ _ _ _ (by assumption) (raisedSub (by assumption) (by intro p hp; repeat (first | exact hp | refine List.mem_cons_of_mem _ ?_))) (by assumption))
  rename (_ < _ ∧ _ < _ ∧ AllLt _ news) => l15
  rename (_ < _ ∧ _ < _ ∧ _ < _ ∧ AllLt _ news) => l16
  rename News h₀ L _ _ => N15
  have l17 := allLt_mem l15.2.2
  obtain ⟨v, v', a1, a2, a3, hv, hv', N16⟩ : ∃ v v' a1 a2 a3, v = lo - 1 ∧ v' = hi - lo + 1 ∧ News h₀ L _ ((_, tupO [.int 5 a1, .int v a2, .int v' a3, .ref _]) :: (_, tupO []) :: news) := by refine ⟨_, _, _, _, _, ?_, ?_, newsMid2 N15⟩ <;> omega
  subst hv
  subst hv'
  exact ret (by omega) (by omega) (by omega) _ _ _ _ _ _ _ (by assumption) N16 l17 l16.1
end
end
section
/-- what the law's tree may be -/
inductive Kd
  | arr
  | elem (k : Int)
  | var
  | sub (lo hi : Int)
  | cst (t : Str)
def TreeAt (news : List (Addr × Obj)) (tr : Addr) : Kd → Prop
  | .arr => ∃ u1 u2 u3, (tr, tupO [.str (Str.ofString "array") u1, .int 5 u2, .str (Str.ofString "F") u3]) ∈ news
  | .elem k => ∃ u1 u2 u3 u4 u5 u6 ll c1 nl, (tr, tupO [.str (Str.ofString "elem") u1, .int 5 u2, .str (Str.ofString "F") u3, .ref ll]) ∈ news ∧ (ll, W.listOf [.ref c1].toArray nl) ∈ news ∧ (c1, tupO [.str (Str.ofString "const") u4, .int 0 u5, .int k u6]) ∈ news
  | .var => ∃ u1 u2 u3, (tr, tupO [.str (Str.ofString "var") u1, .int 5 u2, .str (Str.ofString "G") u3]) ∈ news
  | .sub lo hi => ∃ u1 u2 u3 u4 u5 u6 u7 u8 u9 v1 v2 va b0 b1, (tr, tupO [.str (Str.ofString "substr") u1, .int 5 u2, .ref va, .ref b0, .ref b1]) ∈ news ∧ (va, tupO [.str (Str.ofString "var") u3, .int 5 u4, .str (Str.ofString "G") u5]) ∈ news ∧
      (b0, tupO [.str (Str.ofString "const") u6, .int 0 u7, .int lo u8]) ∈ news ∧ (b1, tupO [.str (Str.ofString "const") u9, .int 0 v1, .int hi v2]) ∈ news
  | .cst t => ∃ u1 u2 u3, (tr, tupO [.str (Str.ofString "const") u1, .int 5 u2, .str t u3]) ∈ news
theorem reg_Kind_1 : True := by
  w_top off
  k_with_none
  k_with "pj" => (first | exact Mine.c0 h9 | exact Mine.c1 h9 | exact Mine.e1 h9 | exact Mine.c2 h9 | exact Mine.e2 h9 | exact Mine.c3 h9 | exact Mine.e3 h9 | exact Mine.c4 h9 | exact Mine.e4 h9 | exact Mine.c5 h9 | exact Mine.e5 h9 | exact Mine.c6 h9 | exact Mine.e6 h9 | exact Mine.c7 h9 | exact Mine.e7 h9 | exact Mine.c8 h9 | exact Mine.e8 h9 | exact Mine.c9 h9 | exact Mine.e9 h9 | exact Mine.c10 h9 | exact Mine.e10 h9 | exact Mine.c11 h9 | exact Mine.e11 h9 | exact Mine.c12 h9 | exact Mine.e12 h9 | exact Mine.c13 h9 | exact Mine.e13 h9 | exact Mine.c14 h9 | exact Mine.e14 h9 | exact Mine.c15 h9 | exact Mine.e15 h9 | exact Mine.c16 h9 | exact Mine.e16 h9 | exact Mine.c17 h9 | exact Mine.e17 h9 | exact Mine.c18 h9 | exact Mine.e18 h9 | exact Mine.c19 h9 | exact Mine.e19 h9 | exact Mine.c20 h9 | exact Mine.e20 h9 | fail "pj")
  k_with "pj1" => (first | exact Mine.c0 (Mine.c0 h9) | exact Mine.c0 (Mine.c1 h9) | exact Mine.c0 (Mine.c2 h9) | exact Mine.c0 (Mine.c3 h9) | exact Mine.c0 (Mine.c4 h9) | exact Mine.c0 (Mine.c5 h9) | exact Mine.c0 (Mine.c6 h9) | exact Mine.c0 (Mine.c7 h9) | exact Mine.c0 (Mine.c8 h9) | exact Mine.c0 (Mine.c9 h9) | exact Mine.c0 (Mine.c10 h9) | exact Mine.c0 (Mine.c11 h9) | exact Mine.c0 (Mine.c12 h9) | exact Mine.c0 (Mine.c13 h9) | exact Mine.c0 (Mine.c14 h9) | exact Mine.c0 (Mine.c15 h9) | exact Mine.c0 (Mine.c16 h9) | exact Mine.c0 (Mine.c17 h9) | exact Mine.c0 (Mine.c18 h9) | exact Mine.c0 (Mine.c19 h9) | exact Mine.c0 (Mine.c20 h9) | fail "pj1")
  k_with "pj2" => (first | exact Mine.c1 (Mine.c0 h9) | exact Mine.c1 (Mine.c1 h9) | exact Mine.c1 (Mine.c2 h9) | exact Mine.c1 (Mine.c3 h9) | exact Mine.c1 (Mine.c4 h9) | exact Mine.c1 (Mine.c5 h9) | exact Mine.c1 (Mine.c6 h9) | exact Mine.c1 (Mine.c7 h9) | exact Mine.c1 (Mine.c8 h9) | exact Mine.c1 (Mine.c9 h9) | exact Mine.c1 (Mine.c10 h9) | exact Mine.c1 (Mine.c11 h9) | exact Mine.c1 (Mine.c12 h9) | exact Mine.c1 (Mine.c13 h9) | exact Mine.c1 (Mine.c14 h9) | exact Mine.c1 (Mine.c15 h9) | exact Mine.c1 (Mine.c16 h9) | exact Mine.c1 (Mine.c17 h9) | exact Mine.c1 (Mine.c18 h9) | exact Mine.c1 (Mine.c19 h9) | exact Mine.c1 (Mine.c20 h9) | fail "pj2")
  k_with "pj3" => (first | exact Mine.e2 (Mine.c0 h9) | exact Mine.e2 (Mine.c1 h9) | exact Mine.e2 (Mine.c2 h9) | exact Mine.e2 (Mine.c3 h9) | exact Mine.e2 (Mine.c4 h9) | exact Mine.e2 (Mine.c5 h9) | exact Mine.e2 (Mine.c6 h9) | exact Mine.e2 (Mine.c7 h9) | exact Mine.e2 (Mine.c8 h9) | exact Mine.e2 (Mine.c9 h9) | exact Mine.e2 (Mine.c10 h9) | exact Mine.e2 (Mine.c11 h9) | exact Mine.e2 (Mine.c12 h9) | exact Mine.e2 (Mine.c13 h9) | exact Mine.e2 (Mine.c14 h9) | exact Mine.e2 (Mine.c15 h9) | exact Mine.e2 (Mine.c16 h9) | exact Mine.e2 (Mine.c17 h9) | exact Mine.e2 (Mine.c18 h9) | exact Mine.e2 (Mine.c19 h9) | exact Mine.e2 (Mine.c20 h9) | fail "pj3")
  k_with "omega" => (first | exact Nat.le_refl _ | decide | with_reducible (first | exact Mine.lim0 (by assumption) | exact Mine.lim1 (by assumption) (by with_unfolding_all rfl) | exact Mine.lim2 (by assumption) (by with_unfolding_all rfl) | exact Mine.lim3 (by assumption) (by with_unfolding_all rfl) | exact Mine.lim8 (by assumption) (by assumption) (by with_unfolding_all rfl) | exact Mine.lim9 (by assumption) (by assumption) (by with_unfolding_all rfl) | exact Mine.lim10 (by assumption) (by assumption) (by with_unfolding_all rfl) | exact Mine.i1 (by assumption) | exact Mine.i2 (by assumption) | exact Mine.i3 (by assumption) | exact Mine.i4 (by assumption) (by with_unfolding_all rfl) | exact Mine.i5 (by assumption) | exact Mine.i6 (by assumption) (by assumption) | exact Mine.i7 (by assumption) (by assumption) | exact Mine.i8 (by assumption) (by assumption) | exact List.length_take_le _ _ | fail "l") | (refine Mine.toNe ?_; with_reducible (first | exact Nat.ne_of_lt (by ((repeat (first | assumption | exact Mine.ltp0 | refine Mine.ltp ?_)); (first | done | fail "c"))) | exact Nat.ne_of_gt (by ((repeat (first | assumption | exact Mine.ltp0 | refine Mine.ltp ?_)); (first | done | fail "c"))) | (refine Nat.ne_of_lt (Mine.viaL (by assumption) ?_); intro h9; k_extra "pj") | (refine Nat.ne_of_gt (Mine.viaL (by assumption) ?_); intro h9; k_extra "pj") | (refine Nat.ne_of_lt (Mine.viaM (by assumption) ?_); intro h9; k_extra "pj") | (refine Nat.ne_of_gt (Mine.viaM (by assumption) ?_); intro h9; k_extra "pj") | assumption | exact Ne.symm (by assumption) | (refine Mine.viaN (by assumption) ?_; intro h9; k_extra "pj") | (refine Ne.symm (Mine.viaN (by assumption) ?_); intro h9; k_extra "pj") | (refine Mine.viaN1 (by assumption) ?_; intro h9; k_extra "pj1") | (refine Ne.symm (Mine.viaN1 (by assumption) ?_); intro h9; k_extra "pj1") | (refine Mine.viaN2 (by assumption) ?_; intro h9; k_extra "pj2") | (refine Ne.symm (Mine.viaN2 (by assumption) ?_); intro h9; k_extra "pj2") | (refine Mine.viaN3 (by assumption) ?_; intro h9; k_extra "pj3") | (refine Ne.symm (Mine.viaN3 (by assumption) ?_); intro h9; k_extra "pj3") | fail "n")) | fail "o")
  trivial
theorem TreeAt.mono {news news' : List (Addr × Obj)} {tr : Addr} {kd : Kd} (h : TreeAt news tr kd) (hs : ∀ p ∈ news, p ∈ news') : TreeAt news' tr kd := by
  cases kd with
  | arr => obtain ⟨a, b, c, h⟩ := h; exact ⟨a, b, c, hs _ h⟩
  | var => obtain ⟨a, b, c, h⟩ := h; exact ⟨a, b, c, hs _ h⟩
  | cst t => obtain ⟨a, b, c, h⟩ := h; exact ⟨a, b, c, hs _ h⟩
  | elem k => obtain ⟨a1, a2, a3, a4, a5, a6, a7, a8, a9, h1, h2, h3⟩ := h; exact ⟨a1, a2, a3, a4, a5, a6, a7, a8, a9, hs _ h1, hs _ h2, hs _ h3⟩
  | sub lo hi => obtain ⟨a1, a2, a3, a4, a5, a6, a7, a8, a9, b1, b2, b3, b4, b5, h1, h2, h3, h4⟩ := h; exact ⟨a1, a2, a3, a4, a5, a6, a7, a8, a9, b1, b2, b3, b4, b5, hs _ h1, hs _ h2, hs _ h3, hs _ h4⟩
def KdOk (many : Int) : Kd → Prop
  | .elem k => 0 ≤ k ∧ k ≤ many + 1
  | .sub lo hi => 0 ≤ lo ∧ lo ≤ 3 ∧ 0 ≤ hi ∧ hi ≤ 4
  | .cst t => t = Str.ofString "*" ∨ t = Str.ofString "(I3)" ∨ t = Str.ofString "**" ∨ t = Str.ofString " "
  | _ => True
def spanOf (many size : Int) : Kd → Int × Int
  | .arr => (0, many * size)
  | .elem k => if 1 ≤ k ∧ k ≤ many then (size * (k - 1), size * k) else (0, 0)
  | .var => (0, 3)
  | .sub lo hi => if 1 ≤ lo ∧ lo ≤ hi ∧ hi ≤ 3 then (lo - 1, hi) else (0, 0)
  | .cst _ => (0, 0)
theorem newsMid1 {h₀ h : Heap} {L : Addr} {a b : Addr × Obj} {news : List (Addr × Obj)} (N : News h₀ L h (a :: b :: news)) : News h₀ L h (a :: news) :=
  newsSub N fun p hp => by
    simp only [List.mem_cons] at hp ⊢
    rcases hp with h | h
    · exact .inl h
    · exact .inr (.inr h)
section
theorem reg_Kind_2 : True := by
  w_top off
  k_with_none
  k_with "pj" => (first | exact Mine.c0 h9 | exact Mine.c1 h9 | exact Mine.e1 h9 | exact Mine.c2 h9 | exact Mine.e2 h9 | exact Mine.c3 h9 | exact Mine.e3 h9 | exact Mine.c4 h9 | exact Mine.e4 h9 | exact Mine.c5 h9 | exact Mine.e5 h9 | exact Mine.c6 h9 | exact Mine.e6 h9 | exact Mine.c7 h9 | exact Mine.e7 h9 | exact Mine.c8 h9 | exact Mine.e8 h9 | exact Mine.c9 h9 | exact Mine.e9 h9 | exact Mine.c10 h9 | exact Mine.e10 h9 | exact Mine.c11 h9 | exact Mine.e11 h9 | exact Mine.c12 h9 | exact Mine.e12 h9 | exact Mine.c13 h9 | exact Mine.e13 h9 | exact Mine.c14 h9 | exact Mine.e14 h9 | exact Mine.c15 h9 | exact Mine.e15 h9 | exact Mine.c16 h9 | exact Mine.e16 h9 | exact Mine.c17 h9 | exact Mine.e17 h9 | exact Mine.c18 h9 | exact Mine.e18 h9 | exact Mine.c19 h9 | exact Mine.e19 h9 | exact Mine.c20 h9 | exact Mine.e20 h9 | fail "pj")
  k_with "pj1" => (first | exact Mine.c0 (Mine.c0 h9) | exact Mine.c0 (Mine.c1 h9) | exact Mine.c0 (Mine.c2 h9) | exact Mine.c0 (Mine.c3 h9) | exact Mine.c0 (Mine.c4 h9) | exact Mine.c0 (Mine.c5 h9) | exact Mine.c0 (Mine.c6 h9) | exact Mine.c0 (Mine.c7 h9) | exact Mine.c0 (Mine.c8 h9) | exact Mine.c0 (Mine.c9 h9) | exact Mine.c0 (Mine.c10 h9) | exact Mine.c0 (Mine.c11 h9) | exact Mine.c0 (Mine.c12 h9) | exact Mine.c0 (Mine.c13 h9) | exact Mine.c0 (Mine.c14 h9) | exact Mine.c0 (Mine.c15 h9) | exact Mine.c0 (Mine.c16 h9) | exact Mine.c0 (Mine.c17 h9) | exact Mine.c0 (Mine.c18 h9) | exact Mine.c0 (Mine.c19 h9) | exact Mine.c0 (Mine.c20 h9) | fail "pj1")
  k_with "pj2" => (first | exact Mine.c1 (Mine.c0 h9) | exact Mine.c1 (Mine.c1 h9) | exact Mine.c1 (Mine.c2 h9) | exact Mine.c1 (Mine.c3 h9) | exact Mine.c1 (Mine.c4 h9) | exact Mine.c1 (Mine.c5 h9) | exact Mine.c1 (Mine.c6 h9) | exact Mine.c1 (Mine.c7 h9) | exact Mine.c1 (Mine.c8 h9) | exact Mine.c1 (Mine.c9 h9) | exact Mine.c1 (Mine.c10 h9) | exact Mine.c1 (Mine.c11 h9) | exact Mine.c1 (Mine.c12 h9) | exact Mine.c1 (Mine.c13 h9) | exact Mine.c1 (Mine.c14 h9) | exact Mine.c1 (Mine.c15 h9) | exact Mine.c1 (Mine.c16 h9) | exact Mine.c1 (Mine.c17 h9) | exact Mine.c1 (Mine.c18 h9) | exact Mine.c1 (Mine.c19 h9) | exact Mine.c1 (Mine.c20 h9) | fail "pj2")
  k_with "pj3" => (first | exact Mine.e2 (Mine.c0 h9) | exact Mine.e2 (Mine.c1 h9) | exact Mine.e2 (Mine.c2 h9) | exact Mine.e2 (Mine.c3 h9) | exact Mine.e2 (Mine.c4 h9) | exact Mine.e2 (Mine.c5 h9) | exact Mine.e2 (Mine.c6 h9) | exact Mine.e2 (Mine.c7 h9) | exact Mine.e2 (Mine.c8 h9) | exact Mine.e2 (Mine.c9 h9) | exact Mine.e2 (Mine.c10 h9) | exact Mine.e2 (Mine.c11 h9) | exact Mine.e2 (Mine.c12 h9) | exact Mine.e2 (Mine.c13 h9) | exact Mine.e2 (Mine.c14 h9) | exact Mine.e2 (Mine.c15 h9) | exact Mine.e2 (Mine.c16 h9) | exact Mine.e2 (Mine.c17 h9) | exact Mine.e2 (Mine.c18 h9) | exact Mine.e2 (Mine.c19 h9) | exact Mine.e2 (Mine.c20 h9) | fail "pj3")
  k_with "omega" => (first | exact Nat.le_refl _ | decide | with_reducible (first | exact Mine.lim0 (by assumption) | exact Mine.lim1 (by assumption) (by with_unfolding_all rfl) | exact Mine.lim2 (by assumption) (by with_unfolding_all rfl) | exact Mine.lim3 (by assumption) (by with_unfolding_all rfl) | exact Mine.lim8 (by assumption) (by assumption) (by with_unfolding_all rfl) | exact Mine.lim9 (by assumption) (by assumption) (by with_unfolding_all rfl) | exact Mine.lim10 (by assumption) (by assumption) (by with_unfolding_all rfl) | exact Mine.i1 (by assumption) | exact Mine.i2 (by assumption) | exact Mine.i3 (by assumption) | exact Mine.i4 (by assumption) (by with_unfolding_all rfl) | exact Mine.i5 (by assumption) | exact Mine.i6 (by assumption) (by assumption) | exact Mine.i7 (by assumption) (by assumption) | exact Mine.i8 (by assumption) (by assumption) | exact List.length_take_le _ _ | fail "l") | (refine Mine.toNe ?_; with_reducible (first | exact Nat.ne_of_lt (by ((repeat (first | assumption | exact Mine.ltp0 | refine Mine.ltp ?_)); (first | done | fail "c"))) | exact Nat.ne_of_gt (by ((repeat (first | assumption | exact Mine.ltp0 | refine Mine.ltp ?_)); (first | done | fail "c"))) | (refine Nat.ne_of_lt (Mine.viaL (by assumption) ?_); intro h9; k_extra "pj") | (refine Nat.ne_of_gt (Mine.viaL (by assumption) ?_); intro h9; k_extra "pj") | (refine Nat.ne_of_lt (Mine.viaM (by assumption) ?_); intro h9; k_extra "pj") | (refine Nat.ne_of_gt (Mine.viaM (by assumption) ?_); intro h9; k_extra "pj") | assumption | exact Ne.symm (by assumption) | (refine Mine.viaN (by assumption) ?_; intro h9; k_extra "pj") | (refine Ne.symm (Mine.viaN (by assumption) ?_); intro h9; k_extra "pj") | (refine Mine.viaN1 (by assumption) ?_; intro h9; k_extra "pj1") | (refine Ne.symm (Mine.viaN1 (by assumption) ?_); intro h9; k_extra "pj1") | (refine Mine.viaN2 (by assumption) ?_; intro h9; k_extra "pj2") | (refine Ne.symm (Mine.viaN2 (by assumption) ?_); intro h9; k_extra "pj2") | (refine Mine.viaN3 (by assumption) ?_; intro h9; k_extra "pj3") | (refine Ne.symm (Mine.viaN3 (by assumption) ?_); intro h9; k_extra "pj3") | fail "n")) | fail "o")
  k_with "k_all" => (first | (assumption) | fail "no")
  k_with "k_mem" => (first | (assumption) | fail "no")
  k_with "news_mem" => (first | (k_mem) | fail "no")
  k_with "k_all" => (first | (refine fun p9 hp9 => Nat.ne_of_lt (Nat.lt_of_lt_of_le ((by assumption : ∀ p ∈ _, p.1 < _) p9 hp9) ?_); omega) | fail "no")
  k_with "testChain" => (first | (first | with_reducible refine test_link ?_ | refine test_last ?_ | with_unfolding_all refine test_link ?_) | fail "no")
  trivial
theorem span_law {w : World} {dp un : Nat} {gd : Option (List Code)} {cn : Str} {cs : Scope} {a : Addr} {ccd : Value} {cl : List (Str × Addr)} {outer : List Env} {A₀ : Around} {base h₀ : Heap} {L : Addr} {m : Str → Option Value} {s : Shared} {Q E : Value → Shared → Prop} {mean : ExcName → Option Value} {mg mb : Str → Option Value} {news : List (Addr × Obj)} {tr : Addr} {size many : Int} {kd : Kd} {tm ts : Tok}
    (B : Below A₀ base outer h₀) (F : Fr h₀ L s.heap m) (X : (seat.heap_1 w.params).In h₀) (T : Top topProg ((looseW seat.view_1 [Str.ofString "counted_elements_iops", Str.ofString "counted_elements_plainio"]) ++ List.map (fun x => x.name) (recsOf seat.view_1) ++ List.map (fun x => x.fst) (litsOf seat.view_1) ++ List.map (fun x => x.name) (clssOf seat.view_1 (looseW seat.view_1 [Str.ofString "counted_elements_iops", Str.ofString "counted_elements_plainio"]))) mean mg mb h₀) (hkf : cs.kind = .function) (N : News h₀ L s.heap news) (hdp : dp + 20 < recursionLimit) (hT : TreeAt news tr kd) (hk : KdOk many kd) (hc : ∀ t, kd ≠ .cst t) (h1 : 1 ≤ many) (h2 : many ≤ 3) (h3 : 1 ≤ size) (h4 : size ≤ 4)
    (ret : ∀ D lo hi a b h' tk', (lo, hi) = spanOf many size kd → Fr h₀ L h' m → News h₀ L h' ((D, tupO [.int lo a, .int hi b]) :: news) → (∀ p ∈ news, p.1 < D) → Q (.ref D) { s with heap := h', toks := tk' }) :
    wpAny (model PySem.Challenge.rw_rh0120_01.row.prog w) (ktrTop dp un gd cn cs L a ccd cl outer) (call (.ref 422) [.ref tr, .int many tm, .int size ts]) Q E s := by
  (revert X; k_fill; intro X)
  cases kd with
  | cst t => exact absurd rfl (hc t)
  | arr =>
    obtain ⟨u1, u2, u3, ht⟩ := hT
    (refine wpAny_call ?_; k_dflt ktr_enter)
    k_steps
    all_goals exact ret _ _ _ _ _ _ _ rfl (by assumption) (by assumption) (by assumption)
  | var =>
    obtain ⟨u1, u2, u3, ht⟩ := hT
    (refine wpAny_call ?_; k_dflt ktr_enter)
    k_steps
    all_goals exact ret _ _ _ _ _ _ _ rfl (by assumption) (by assumption) (by assumption)
  | elem k =>
    obtain ⟨u1, u2, u3, u4, u5, u6, ll, c1, nl, ht, hl, hc1⟩ := hT
    obtain ⟨g1, g2⟩ := hk
    (refine wpAny_call ?_; k_dflt ktr_enter)
    k_steps
    all_goals (refine ret _ _ _ _ _ _ _ ?_ (by assumption) (by first | assumption | exact newsMid1 (by assumption)) (by first | assumption | exact allLt_mem ((by assumption : _ < _ ∧ AllLt _ _).2)); (simp only [spanOf]); (first | rw [if_pos (by omega)] | rw [if_neg (by omega)]))
  | sub lo hi =>
    obtain ⟨u1, u2, u3, u4, u5, u6, u7, u8, u9, v1, v2, va, b0, b1, ht, hv, hb0, hb1⟩ := hT
    obtain ⟨g1, g2, g3, g4⟩ := hk
    (refine wpAny_call ?_; k_dflt ktr_enter)
    k_steps
    all_goals (refine ret _ _ _ _ _ _ _ ?_ (by assumption) (by first | assumption | exact newsMid1 (by assumption)) (by first | assumption | exact allLt_mem ((by assumption : _ < _ ∧ AllLt _ _).2)); (simp only [spanOf]); (first | rw [if_pos (by omega)] | rw [if_neg (by omega)]))
end
end
local macro_rules | `(tactic| walk_at "tl33a1e9b") => `(tactic| (intro _ _ _ _ _ _ _ _ _ _ l1; (try k_lt l1)))
section
def segOf (os : List (Option Str)) (lo hi : Int) : List (Option Str) := (os.drop lo.toNat).take (hi - lo).toNat
def dueOf (many size : Int) (os : List (Option Str)) (kd : Kd) : Option Str :=
  if (spanOf many size kd).2 > os.length then none else
    if (upTo (segOf os (spanOf many size kd).1 (spanOf many size kd).2)).isEmpty then none else some (lead (segOf os (spanOf many size kd).1 (spanOf many size kd).2))
def optV : Option Str → Tok → Value
  | none, _ => .none
  | some t, k => .str t k
theorem reg_Due_1 : True := by
  w_top off
  k_with_none
  k_with "pj" => (first | exact Mine.c0 h9 | exact Mine.c1 h9 | exact Mine.e1 h9 | exact Mine.c2 h9 | exact Mine.e2 h9 | exact Mine.c3 h9 | exact Mine.e3 h9 | exact Mine.c4 h9 | exact Mine.e4 h9 | exact Mine.c5 h9 | exact Mine.e5 h9 | exact Mine.c6 h9 | exact Mine.e6 h9 | exact Mine.c7 h9 | exact Mine.e7 h9 | exact Mine.c8 h9 | exact Mine.e8 h9 | exact Mine.c9 h9 | exact Mine.e9 h9 | exact Mine.c10 h9 | exact Mine.e10 h9 | exact Mine.c11 h9 | exact Mine.e11 h9 | exact Mine.c12 h9 | exact Mine.e12 h9 | exact Mine.c13 h9 | exact Mine.e13 h9 | exact Mine.c14 h9 | exact Mine.e14 h9 | exact Mine.c15 h9 | exact Mine.e15 h9 | exact Mine.c16 h9 | exact Mine.e16 h9 | exact Mine.c17 h9 | exact Mine.e17 h9 | exact Mine.c18 h9 | exact Mine.e18 h9 | exact Mine.c19 h9 | exact Mine.e19 h9 | exact Mine.c20 h9 | exact Mine.e20 h9 | fail "pj")
  k_with "pj1" => (first | exact Mine.c0 (Mine.c0 h9) | exact Mine.c0 (Mine.c1 h9) | exact Mine.c0 (Mine.c2 h9) | exact Mine.c0 (Mine.c3 h9) | exact Mine.c0 (Mine.c4 h9) | exact Mine.c0 (Mine.c5 h9) | exact Mine.c0 (Mine.c6 h9) | exact Mine.c0 (Mine.c7 h9) | exact Mine.c0 (Mine.c8 h9) | exact Mine.c0 (Mine.c9 h9) | exact Mine.c0 (Mine.c10 h9) | exact Mine.c0 (Mine.c11 h9) | exact Mine.c0 (Mine.c12 h9) | exact Mine.c0 (Mine.c13 h9) | exact Mine.c0 (Mine.c14 h9) | exact Mine.c0 (Mine.c15 h9) | exact Mine.c0 (Mine.c16 h9) | exact Mine.c0 (Mine.c17 h9) | exact Mine.c0 (Mine.c18 h9) | exact Mine.c0 (Mine.c19 h9) | exact Mine.c0 (Mine.c20 h9) | fail "pj1")
  k_with "pj2" => (first | exact Mine.c1 (Mine.c0 h9) | exact Mine.c1 (Mine.c1 h9) | exact Mine.c1 (Mine.c2 h9) | exact Mine.c1 (Mine.c3 h9) | exact Mine.c1 (Mine.c4 h9) | exact Mine.c1 (Mine.c5 h9) | exact Mine.c1 (Mine.c6 h9) | exact Mine.c1 (Mine.c7 h9) | exact Mine.c1 (Mine.c8 h9) | exact Mine.c1 (Mine.c9 h9) | exact Mine.c1 (Mine.c10 h9) | exact Mine.c1 (Mine.c11 h9) | exact Mine.c1 (Mine.c12 h9) | exact Mine.c1 (Mine.c13 h9) | exact Mine.c1 (Mine.c14 h9) | exact Mine.c1 (Mine.c15 h9) | exact Mine.c1 (Mine.c16 h9) | exact Mine.c1 (Mine.c17 h9) | exact Mine.c1 (Mine.c18 h9) | exact Mine.c1 (Mine.c19 h9) | exact Mine.c1 (Mine.c20 h9) | fail "pj2")
  k_with "pj3" => (first | exact Mine.e2 (Mine.c0 h9) | exact Mine.e2 (Mine.c1 h9) | exact Mine.e2 (Mine.c2 h9) | exact Mine.e2 (Mine.c3 h9) | exact Mine.e2 (Mine.c4 h9) | exact Mine.e2 (Mine.c5 h9) | exact Mine.e2 (Mine.c6 h9) | exact Mine.e2 (Mine.c7 h9) | exact Mine.e2 (Mine.c8 h9) | exact Mine.e2 (Mine.c9 h9) | exact Mine.e2 (Mine.c10 h9) | exact Mine.e2 (Mine.c11 h9) | exact Mine.e2 (Mine.c12 h9) | exact Mine.e2 (Mine.c13 h9) | exact Mine.e2 (Mine.c14 h9) | exact Mine.e2 (Mine.c15 h9) | exact Mine.e2 (Mine.c16 h9) | exact Mine.e2 (Mine.c17 h9) | exact Mine.e2 (Mine.c18 h9) | exact Mine.e2 (Mine.c19 h9) | exact Mine.e2 (Mine.c20 h9) | fail "pj3")
  k_with "omega" => (first | exact Nat.le_refl _ | decide | with_reducible (first | exact Mine.lim0 (by assumption) | exact Mine.lim1 (by assumption) (by with_unfolding_all rfl) | exact Mine.lim2 (by assumption) (by with_unfolding_all rfl) | exact Mine.lim3 (by assumption) (by with_unfolding_all rfl) | exact Mine.lim8 (by assumption) (by assumption) (by with_unfolding_all rfl) | exact Mine.lim9 (by assumption) (by assumption) (by with_unfolding_all rfl) | exact Mine.lim10 (by assumption) (by assumption) (by with_unfolding_all rfl) | exact Mine.i1 (by assumption) | exact Mine.i2 (by assumption) | exact Mine.i3 (by assumption) | exact Mine.i4 (by assumption) (by with_unfolding_all rfl) | exact Mine.i5 (by assumption) | exact Mine.i6 (by assumption) (by assumption) | exact Mine.i7 (by assumption) (by assumption) | exact Mine.i8 (by assumption) (by assumption) | exact List.length_take_le _ _ | fail "l") | (refine Mine.toNe ?_; with_reducible (first | exact Nat.ne_of_lt (by ((repeat (first | assumption | exact Mine.ltp0 | refine Mine.ltp ?_)); (first | done | fail "c"))) | exact Nat.ne_of_gt (by ((repeat (first | assumption | exact Mine.ltp0 | refine Mine.ltp ?_)); (first | done | fail "c"))) | (refine Nat.ne_of_lt (Mine.viaL (by assumption) ?_); intro h9; k_extra "pj") | (refine Nat.ne_of_gt (Mine.viaL (by assumption) ?_); intro h9; k_extra "pj") | (refine Nat.ne_of_lt (Mine.viaM (by assumption) ?_); intro h9; k_extra "pj") | (refine Nat.ne_of_gt (Mine.viaM (by assumption) ?_); intro h9; k_extra "pj") | assumption | exact Ne.symm (by assumption) | (refine Mine.viaN (by assumption) ?_; intro h9; k_extra "pj") | (refine Ne.symm (Mine.viaN (by assumption) ?_); intro h9; k_extra "pj") | (refine Mine.viaN1 (by assumption) ?_; intro h9; k_extra "pj1") | (refine Ne.symm (Mine.viaN1 (by assumption) ?_); intro h9; k_extra "pj1") | (refine Mine.viaN2 (by assumption) ?_; intro h9; k_extra "pj2") | (refine Ne.symm (Mine.viaN2 (by assumption) ?_); intro h9; k_extra "pj2") | (refine Mine.viaN3 (by assumption) ?_; intro h9; k_extra "pj3") | (refine Ne.symm (Mine.viaN3 (by assumption) ?_); intro h9; k_extra "pj3") | fail "n")) | fail "o")
  trivial
theorem TreeAt.head {news : List (Addr × Obj)} {tr : Addr} {kd : Kd} (h : TreeAt news tr kd) (hc : ∀ t, kd ≠ .cst t) : ∃ nm u rest, nm ≠ Str.ofString "const" ∧ (tr, tupO (.str nm u :: rest)) ∈ news := by
  cases kd with
  | cst t => exact absurd rfl (hc t)
  | arr => obtain ⟨a, b, c, h⟩ := h; exact ⟨_, a, _, by decide, h⟩
  | var => obtain ⟨a, b, c, h⟩ := h; exact ⟨_, a, _, by decide, h⟩
  | elem k => obtain ⟨a1, a2, a3, a4, a5, a6, a7, a8, a9, h1, h2, h3⟩ := h; exact ⟨_, a1, _, by decide, h1⟩
  | sub lo hi => obtain ⟨a1, a2, a3, a4, a5, a6, a7, a8, a9, b1, b2, b3, b4, b5, h1, h2, h3, h4⟩ := h; exact ⟨_, a1, _, by decide, h1⟩
theorem first_item {prog : Program} {w : World} {A : Around} {E : Value → Shared → Prop} {s : Shared} {h₀ : Heap} {L tr : Addr} {news : List (Addr × Obj)} {value slice : PySem.Expr} {x : Value} {rest : List Value} {u : Tok} {Q : Value → Shared → Prop}
    (N : News h₀ L s.heap news) (ht : (tr, tupO (x :: rest)) ∈ news) (h : Q x s)
    (hs : subscripted slice false (.ref tr) (.int 0 u) = operate [.ref tr, .int 0 u] (getItem (.ref tr) (.int 0 u))) : wpAny (model prog w) A (subscriptTail value slice (.ref tr) (.int 0 u)) Q E s := by
  refine item_tupleT (l := x :: rest) (j := 0) (x := x) (News.isTup N ht) (by decide) (by decide) ?_ rfl h hs
  have e : ((x :: rest).length : Int) = rest.length + 1 := by simp
  unfold seqIndex?
  simp
theorem span_bnd {many size : Int} {kd : Kd} (hk : KdOk many kd) (h1 : 1 ≤ many) (h2 : many ≤ 3) (h3 : 1 ≤ size) (h4 : size ≤ 4) : 0 ≤ (spanOf many size kd).1 ∧ (spanOf many size kd).1 ≤ (spanOf many size kd).2 ∧ (spanOf many size kd).2 ≤ 12 := by
  cases kd with
  | cst t => simp [spanOf]
  | arr => obtain rfl | rfl | rfl | rfl : size = 1 ∨ size = 2 ∨ size = 3 ∨ size = 4 := by omega
           all_goals (simp only [spanOf]; omega)
  | var => simp [spanOf]
  | sub lo hi => simp only [spanOf]; split <;> simp only <;> omega
  | elem k =>
    obtain rfl | rfl | rfl | rfl : size = 1 ∨ size = 2 ∨ size = 3 ∨ size = 4 := by omega
    all_goals (simp only [spanOf]; split <;> simp only <;> omega)
theorem upTo_next : ∀ (os : List (Option Str)) (i : Nat) (c : Str), (∀ j, j < i → ∃ c, os[j]? = some (some c)) → os[i]? = some (some c) → upTo (os.take (i + 1)) = upTo (os.take i) ++ [c]
  | [], i, c, _, h => by simp at h
  | o :: r, 0, c, _, h => by
    simp at h
    subst h
    simp [upTo]
  | o :: r, i + 1, c, hj, h => by
    obtain ⟨d, hd⟩ := hj 0 (Nat.zero_lt_succ i)
    simp at hd
    subst hd
    have ih := upTo_next r i c (fun j h1 => by simpa using hj (j + 1) (Nat.succ_lt_succ h1)) (by simpa using h)
    simp only [List.take_succ_cons, upTo, List.cons_append]
    rw [ih]
theorem upTo_stop : ∀ (os : List (Option Str)) (i : Nat), (∀ j, j < i → ∃ c, os[j]? = some (some c)) → os[i]? = some none → upTo os = upTo (os.take i)
  | [], i, _, h => by simp at h
  | o :: r, 0, _, h => by
    simp at h
    subst h
    simp [upTo]
  | o :: r, i + 1, hj, h => by
    obtain ⟨d, hd⟩ := hj 0 (Nat.zero_lt_succ i)
    simp at hd
    subst hd
    have ih := upTo_stop r i (fun j h1 => by simpa using hj (j + 1) (Nat.succ_lt_succ h1)) (by simpa using h)
    simp only [List.take_succ_cons, upTo]
    rw [ih]
theorem lead_next {os : List (Option Str)} {i : Nat} {c : Str} (h1 : ∀ j, j < i → ∃ c, os[j]? = some (some c)) (h2 : os[i]? = some (some c)) : lead (os.take (i + 1)) = lead (os.take i) ++ c := by
  unfold lead
  rw [upTo_next os i c h1 h2, List.foldl_append]
  rfl
theorem fold_len : ∀ (l : List Str) (e : Str), (∀ c ∈ l, c.length = 1) → (l.foldl (· ++ ·) e).length = e.length + l.length
  | [], e, _ => rfl
  | a :: r, e, h => by
    rw [List.foldl_cons, fold_len r (e ++ a) fun c hc => h c (List.mem_cons_of_mem _ hc), PySem.Str.length_append, h a List.mem_cons_self, List.length_cons]
    omega
theorem lead_len {vs : List Value} {os : List (Option Str)} (h : Sgs vs os) : (lead os).length = (upTo os).length := by
  unfold lead
  rw [fold_len _ _ (upTo_len h).1]
  show 0 + _ = _
  omega
theorem lead_nil {vs : List Value} {os : List (Option Str)} (h : Sgs vs os) : (lead os == Str.ofString "") = (upTo os).isEmpty := by
  have h2 := lead_len h
  cases hu : upTo os with
  | nil =>
    have : lead os = Str.empty := by unfold lead; rw [hu]; rfl
    rw [this]; rfl
  | cons a r =>
    rw [hu] at h2
    rw [beq_eq_false_iff_ne.mpr]
    · rfl
    · intro e
      rw [e] at h2
      exact absurd h2 (by show ¬ (0 = _); simp)
theorem due_at {many size lo hi : Int} {kd : Kd} {os : List (Option Str)} (h : spanOf many size kd = (lo, hi)) (hq : ¬ hi > os.length) :
    dueOf many size os kd = if (upTo (segOf os lo hi)).isEmpty then none else some (lead (segOf os lo hi)) := by
  unfold dueOf
  rw [h]
  exact if_neg hq
theorem Sgs.get {vs : List Value} {os : List (Option Str)} (h : Sgs vs os) : ∀ {i : Nat} {v : Value}, vs[i]? = some v → ∃ o, os[i]? = some o ∧ Sg v o := by
  induction h with
  | nil => intro i v hv; simp at hv
  | cons a b ih =>
    intro i v hv
    cases i with
    | zero => simp at hv; subst hv; exact ⟨_, rfl, a⟩
    | succ i => simpa using ih (by simpa using hv)
section
theorem reg_Due_2 : True := by
  w_top off
  k_with_none
  k_with "pj" => (first | exact Mine.c0 h9 | exact Mine.c1 h9 | exact Mine.e1 h9 | exact Mine.c2 h9 | exact Mine.e2 h9 | exact Mine.c3 h9 | exact Mine.e3 h9 | exact Mine.c4 h9 | exact Mine.e4 h9 | exact Mine.c5 h9 | exact Mine.e5 h9 | exact Mine.c6 h9 | exact Mine.e6 h9 | exact Mine.c7 h9 | exact Mine.e7 h9 | exact Mine.c8 h9 | exact Mine.e8 h9 | exact Mine.c9 h9 | exact Mine.e9 h9 | exact Mine.c10 h9 | exact Mine.e10 h9 | exact Mine.c11 h9 | exact Mine.e11 h9 | exact Mine.c12 h9 | exact Mine.e12 h9 | exact Mine.c13 h9 | exact Mine.e13 h9 | exact Mine.c14 h9 | exact Mine.e14 h9 | exact Mine.c15 h9 | exact Mine.e15 h9 | exact Mine.c16 h9 | exact Mine.e16 h9 | exact Mine.c17 h9 | exact Mine.e17 h9 | exact Mine.c18 h9 | exact Mine.e18 h9 | exact Mine.c19 h9 | exact Mine.e19 h9 | exact Mine.c20 h9 | exact Mine.e20 h9 | fail "pj")
  k_with "pj1" => (first | exact Mine.c0 (Mine.c0 h9) | exact Mine.c0 (Mine.c1 h9) | exact Mine.c0 (Mine.c2 h9) | exact Mine.c0 (Mine.c3 h9) | exact Mine.c0 (Mine.c4 h9) | exact Mine.c0 (Mine.c5 h9) | exact Mine.c0 (Mine.c6 h9) | exact Mine.c0 (Mine.c7 h9) | exact Mine.c0 (Mine.c8 h9) | exact Mine.c0 (Mine.c9 h9) | exact Mine.c0 (Mine.c10 h9) | exact Mine.c0 (Mine.c11 h9) | exact Mine.c0 (Mine.c12 h9) | exact Mine.c0 (Mine.c13 h9) | exact Mine.c0 (Mine.c14 h9) | exact Mine.c0 (Mine.c15 h9) | exact Mine.c0 (Mine.c16 h9) | exact Mine.c0 (Mine.c17 h9) | exact Mine.c0 (Mine.c18 h9) | exact Mine.c0 (Mine.c19 h9) | exact Mine.c0 (Mine.c20 h9) | fail "pj1")
  k_with "pj2" => (first | exact Mine.c1 (Mine.c0 h9) | exact Mine.c1 (Mine.c1 h9) | exact Mine.c1 (Mine.c2 h9) | exact Mine.c1 (Mine.c3 h9) | exact Mine.c1 (Mine.c4 h9) | exact Mine.c1 (Mine.c5 h9) | exact Mine.c1 (Mine.c6 h9) | exact Mine.c1 (Mine.c7 h9) | exact Mine.c1 (Mine.c8 h9) | exact Mine.c1 (Mine.c9 h9) | exact Mine.c1 (Mine.c10 h9) | exact Mine.c1 (Mine.c11 h9) | exact Mine.c1 (Mine.c12 h9) | exact Mine.c1 (Mine.c13 h9) | exact Mine.c1 (Mine.c14 h9) | exact Mine.c1 (Mine.c15 h9) | exact Mine.c1 (Mine.c16 h9) | exact Mine.c1 (Mine.c17 h9) | exact Mine.c1 (Mine.c18 h9) | exact Mine.c1 (Mine.c19 h9) | exact Mine.c1 (Mine.c20 h9) | fail "pj2")
  k_with "pj3" => (first | exact Mine.e2 (Mine.c0 h9) | exact Mine.e2 (Mine.c1 h9) | exact Mine.e2 (Mine.c2 h9) | exact Mine.e2 (Mine.c3 h9) | exact Mine.e2 (Mine.c4 h9) | exact Mine.e2 (Mine.c5 h9) | exact Mine.e2 (Mine.c6 h9) | exact Mine.e2 (Mine.c7 h9) | exact Mine.e2 (Mine.c8 h9) | exact Mine.e2 (Mine.c9 h9) | exact Mine.e2 (Mine.c10 h9) | exact Mine.e2 (Mine.c11 h9) | exact Mine.e2 (Mine.c12 h9) | exact Mine.e2 (Mine.c13 h9) | exact Mine.e2 (Mine.c14 h9) | exact Mine.e2 (Mine.c15 h9) | exact Mine.e2 (Mine.c16 h9) | exact Mine.e2 (Mine.c17 h9) | exact Mine.e2 (Mine.c18 h9) | exact Mine.e2 (Mine.c19 h9) | exact Mine.e2 (Mine.c20 h9) | fail "pj3")
  k_with "omega" => (first | exact Nat.le_refl _ | decide | with_reducible (first | exact Mine.lim0 (by assumption) | exact Mine.lim1 (by assumption) (by with_unfolding_all rfl) | exact Mine.lim2 (by assumption) (by with_unfolding_all rfl) | exact Mine.lim3 (by assumption) (by with_unfolding_all rfl) | exact Mine.lim8 (by assumption) (by assumption) (by with_unfolding_all rfl) | exact Mine.lim9 (by assumption) (by assumption) (by with_unfolding_all rfl) | exact Mine.lim10 (by assumption) (by assumption) (by with_unfolding_all rfl) | exact Mine.i1 (by assumption) | exact Mine.i2 (by assumption) | exact Mine.i3 (by assumption) | exact Mine.i4 (by assumption) (by with_unfolding_all rfl) | exact Mine.i5 (by assumption) | exact Mine.i6 (by assumption) (by assumption) | exact Mine.i7 (by assumption) (by assumption) | exact Mine.i8 (by assumption) (by assumption) | exact List.length_take_le _ _ | fail "l") | (refine Mine.toNe ?_; with_reducible (first | exact Nat.ne_of_lt (by ((repeat (first | assumption | exact Mine.ltp0 | refine Mine.ltp ?_)); (first | done | fail "c"))) | exact Nat.ne_of_gt (by ((repeat (first | assumption | exact Mine.ltp0 | refine Mine.ltp ?_)); (first | done | fail "c"))) | (refine Nat.ne_of_lt (Mine.viaL (by assumption) ?_); intro h9; k_extra "pj") | (refine Nat.ne_of_gt (Mine.viaL (by assumption) ?_); intro h9; k_extra "pj") | (refine Nat.ne_of_lt (Mine.viaM (by assumption) ?_); intro h9; k_extra "pj") | (refine Nat.ne_of_gt (Mine.viaM (by assumption) ?_); intro h9; k_extra "pj") | assumption | exact Ne.symm (by assumption) | (refine Mine.viaN (by assumption) ?_; intro h9; k_extra "pj") | (refine Ne.symm (Mine.viaN (by assumption) ?_); intro h9; k_extra "pj") | (refine Mine.viaN1 (by assumption) ?_; intro h9; k_extra "pj1") | (refine Ne.symm (Mine.viaN1 (by assumption) ?_); intro h9; k_extra "pj1") | (refine Mine.viaN2 (by assumption) ?_; intro h9; k_extra "pj2") | (refine Ne.symm (Mine.viaN2 (by assumption) ?_); intro h9; k_extra "pj2") | (refine Mine.viaN3 (by assumption) ?_; intro h9; k_extra "pj3") | (refine Ne.symm (Mine.viaN3 (by assumption) ?_); intro h9; k_extra "pj3") | fail "n")) | fail "o")
  k_with "k_all" => (first | (assumption) | fail "no")
  k_with "k_mem" => (first | (assumption) | fail "no")
  k_with "news_mem" => (first | (k_mem) | fail "no")
  k_with "subscriptTail" => (first | (k_here; (with_reducible show wpAny _ _ (subscriptTail _ _ (Value.ref _) (Value.int 0 _)) _ _ _); k_dflt (refine' first_item ?q91543b2dN ?q91543b2dt ?_ ?q91543b2ds; (case q91543b2dN => k_asm); (case q91543b2dt => first | assumption | k_mem); (case q91543b2ds => with_unfolding_all rfl))) | fail "no")
  k_with "k_all" => (first | (refine fun p9 hp9 => Nat.ne_of_lt (Nat.lt_of_lt_of_le ((by assumption : ∀ p ∈ _, p.1 < _) p9 hp9) ?_); omega) | fail "no")
  k_with "subscriptTail" => (first | (k_here; (with_reducible show wpAny _ _ (subscriptTail _ (Expr.Slice (some _) (some _) none _) (Value.ref _) (Value.ref _)) _ _ _); k_dflt (refine' cut_mid ?q9273b488F ?q9273b488N ?q9273b488l ?q9273b488a ?q9273b488b ?q9273b488c ?_ ?q9273b488s ?q9273b488t ?q9273b488z; (case q9273b488F => k_asm); (case q9273b488N => k_asm); (case q9273b488l => k_mem); (case q9273b488a => omega); (case q9273b488b => omega); (case q9273b488c => omega); (case q9273b488s => with_unfolding_all rfl); (case q9273b488t => kmk_pure); (case q9273b488z => (rw [sizeLine_eq]; omega))); walk_at "tl2332102"; (try k_sweep)) | fail "no")
  k_with "subscriptTail Name Slice ref ref" => (first | (k_here; (with_reducible show wpAny _ _ (subscriptTail _ (Expr.Slice (some _) (some _) none _) (Value.ref _) (Value.ref _)) _ _ _); k_dflt (refine' cut_mid ?q9273b488F ?q9273b488N ?q9273b488l ?q9273b488a ?q9273b488b ?q9273b488c ?_ ?q9273b488s ?q9273b488t ?q9273b488z; (case q9273b488F => k_asm); (case q9273b488N => k_asm); (case q9273b488l => k_mem); (case q9273b488a => omega); (case q9273b488b => omega); (case q9273b488c => omega); (case q9273b488s => with_unfolding_all rfl); (case q9273b488t => kmk_pure); (case q9273b488z => (rw [sizeLine_eq]; omega))); walk_at "tl2332102"; (try k_sweep)) | fail "no")
  k_with "subscriptTail" => (first | (k_here; (with_reducible show wpAny _ _ (subscriptTail _ (Expr.Slice none (some _) none _) (Value.ref _) (Value.ref _)) _ _ _); k_dflt (refine' cut_to ?q919a111F ?q919a111N ?q919a111l ?q919a111a ?q919a111b ?_ ?q919a111s ?q919a111t ?q919a111z; (case q919a111F => k_asm); (case q919a111N => k_asm); (case q919a111l => k_mem); (case q919a111a => omega); (case q919a111b => omega); (case q919a111s => with_unfolding_all rfl); (case q919a111t => kmk_pure); (case q919a111z => (rw [sizeLine_eq]; omega))); walk_at "tl2332102"; (try k_sweep)) | fail "no")
  k_with "subscriptTail Name Slice ref ref" => (first | (k_here; (with_reducible show wpAny _ _ (subscriptTail _ (Expr.Slice none (some _) none _) (Value.ref _) (Value.ref _)) _ _ _); k_dflt (refine' cut_to ?q919a111F ?q919a111N ?q919a111l ?q919a111a ?q919a111b ?_ ?q919a111s ?q919a111t ?q919a111z; (case q919a111F => k_asm); (case q919a111N => k_asm); (case q919a111l => k_mem); (case q919a111a => omega); (case q919a111b => omega); (case q919a111s => with_unfolding_all rfl); (case q919a111t => kmk_pure); (case q919a111z => (rw [sizeLine_eq]; omega))); walk_at "tl2332102"; (try k_sweep)) | fail "no")
  k_with "call builtin:list.extend" => (first | (k_here; (with_reducible show wpAny _ _ (call (Value.builtin _) [Value.ref _, Value.ref _]) _ _ _); k_dflt (refine' ext_any ?q932ba17fF ?q932ba17fN ?q932ba17fU ?q932ba17fb ?q932ba17fz ?_; (case q932ba17fF => k_asm); (case q932ba17fN => k_asm); (case q932ba17fb => k_mem); (case q932ba17fU => k_updF); (case q932ba17fz => (rw [sizeLine_eq]; (simp only [List.length_take, List.length_drop] at *); omega))); walk_at "tl262cc1d"; (try k_sweep)) | fail "no")
  k_with "compareOp In none ref" => (first | (k_here; k_dflt (refine' in_none ?q92d397aN ?q92d397al ?q92d397ah ?q92d397ab ?_; (case q92d397aN => k_asm); (case q92d397al => k_mem); (case q92d397ah => assumption); (case q92d397ab => assumption))) | fail "no")
  k_with "call builtin:list.index" => (first | (k_here; k_dflt (refine' index_none ?q990548cN ?q990548cl ?q990548cS _ ?q990548cz ?q990548ci ?q990548cn ?_; (case q990548cN => k_asm); (case q990548cl => k_mem); (case q990548cS => assumption); (case q990548ci => assumption); (case q990548cz => omega); (case q990548cn => assumption))) | fail "no")
  k_with "compareOp Eq ref ref" => (first | (k_here; k_dflt (refine' eq_nil ?q935e72a2N ?q935e72a2l ?q935e72a2e ?q935e72a2u ?q935e72a2b ?_; (case q935e72a2N => k_asm); (case q935e72a2e => k_mem); (case q935e72a2l => k_mem); (case q935e72a2b => assumption); (case q935e72a2u => ((simp only [units_in1, units_deeper, Around.mark_units, units_caller]); first | decide | ((try dsimp only [ktrTop]); omega))))) | fail "no")
  k_with "call builtin:str.join" => (first | (k_here; k_dflt (refine' join_any ?q9f662fdN ?q9f662fdl ?q9f662fdi ?q9f662fdo ?q9f662fdz ?_; (case q9f662fdN => k_asm); (case q9f662fdl => k_mem); (case q9f662fdi => assumption); (case q9f662fdo => assumption); (case q9f662fdz => omega)); intro _ _) | fail "no")
  k_with "call ref" => (first | (k_here; (with_reducible show wpAny _ _ (call (Value.ref 422) [Value.ref _, Value.int _ _, Value.int _ _] _) _ _ _); k_dflt (refine' span_law ?q92cee6b0B ?q92cee6b0F ?q92cee6b0X ?q92cee6b0T ?q92cee6b0hk ?q92cee6b0N ?q92cee6b0hdp ?q92cee6b0hT ?q92cee6b0h1 ?q92cee6b0h2 ?q92cee6b0h3 ?q92cee6b0h4 ?q92cee6b0h5 ?q92cee6b0h6 ?_; (case q92cee6b0hk => first | exact rfl | assumption); (case q92cee6b0B => k_asm); (case q92cee6b0F => k_asm); (case q92cee6b0X => k_asm); (case q92cee6b0T => k_asm); (case q92cee6b0N => k_asm); (case q92cee6b0hdp => ((simp only [depth_under_make, depth_under_kw, depth_in1, depth_deeper, depth_caller]); first | decide | ((try dsimp only [ktrTop]); omega))); (case q92cee6b0hT => first | assumption | exact TreeAt.mono (by assumption) (by intro p hp; repeat (first | exact hp | refine List.mem_cons_of_mem _ ?_))); (case q92cee6b0h1 => assumption); (case q92cee6b0h2 => assumption); (case q92cee6b0h3 => omega); (case q92cee6b0h4 => omega); (case q92cee6b0h5 => omega); (case q92cee6b0h6 => omega)); walk_at "tl33a1e9b"; (try k_sweep)) | fail "no")
  k_with "pyIter" => (first | (refine halt ?_) | fail "no")
  k_with "exec For" => (first | (refine halt ?_) | fail "no")
  k_with "call builtin:len" => (first | (k_here; k_dflt (refine call_len_list (by is_list) (by rw [List.size_toArray]; omega) ?_)) | fail "no")
  trivial
theorem due_cst {w : World} {dp un : Nat} {gd : Option (List Code)} {cn : Str} {cs : Scope} {a : Addr} {ccd : Value} {cl : List (Str × Addr)} {outer : List Env} {A₀ : Around} {base h₀ : Heap} {L : Addr} {m : Str → Option Value} {s : Shared} {Q E : Value → Shared → Prop} {mean : ExcName → Option Value} {mg mb : Str → Option Value} {news : List (Addr × Obj)} {tr sg : Addr} {size many : Int} {t : Str} {tm ts u1 u2 u3 : Tok}
    (B : Below A₀ base outer h₀) (F : Fr h₀ L s.heap m) (X : (seat.heap_1 w.params).In h₀) (T : Top topProg ((looseW seat.view_1 [Str.ofString "counted_elements_iops", Str.ofString "counted_elements_plainio"]) ++ List.map (fun x => x.name) (recsOf seat.view_1) ++ List.map (fun x => x.fst) (litsOf seat.view_1) ++ List.map (fun x => x.name) (clssOf seat.view_1 (looseW seat.view_1 [Str.ofString "counted_elements_iops", Str.ofString "counted_elements_plainio"]))) mean mg mb h₀) (hkf : cs.kind = .function) (N : News h₀ L s.heap news) (hdp : dp + 40 < recursionLimit) (ht : (tr, tupO [.str (Str.ofString "const") u1, .int 5 u2, .str t u3]) ∈ news)
    (ret : ∀ h' tk', Fr h₀ L h' m → News h₀ L h' news → Q (.str t u3) { s with heap := h', toks := tk' }) :
    wpAny (model PySem.Challenge.rw_rh0120_01.row.prog w) (ktrTop dp un gd cn cs L a ccd cl outer) (call (.ref 429) [.ref tr, .int many tm, .int size ts, .ref sg]) Q E s := by
  (revert X; k_fill; intro X)
  (refine wpAny_call ?_; k_dflt ktr_enter)
  k_steps
  all_goals exact ret _ _ (by assumption) (by assumption)
theorem due_c {w : World} {dp un : Nat} {gd : Option (List Code)} {cn : Str} {cs : Scope} {a : Addr} {ccd : Value} {cl : List (Str × Addr)} {outer : List Env} {A₀ : Around} {base h₀ : Heap} {L : Addr} {m : Str → Option Value} {s : Shared} {Q E : Value → Shared → Prop} {mean : ExcName → Option Value} {mg mb : Str → Option Value} {news : List (Addr × Obj)} {tr sg : Addr} {size many : Int} {kd : Kd} {tm ts : Tok} {vs : List Value} {os : List (Option Str)} {c : Nat}
    (B : Below A₀ base outer h₀) (F : Fr h₀ L s.heap m) (X : (seat.heap_1 w.params).In h₀) (T : Top topProg ((looseW seat.view_1 [Str.ofString "counted_elements_iops", Str.ofString "counted_elements_plainio"]) ++ List.map (fun x => x.name) (recsOf seat.view_1) ++ List.map (fun x => x.fst) (litsOf seat.view_1) ++ List.map (fun x => x.name) (clssOf seat.view_1 (looseW seat.view_1 [Str.ofString "counted_elements_iops", Str.ofString "counted_elements_plainio"]))) mean mg mb h₀) (hkf : cs.kind = .function) (N : News h₀ L s.heap news) (hdp : dp + 40 < recursionLimit) (hun : un + 400 < cLine) (hT : TreeAt news tr kd) (hk : KdOk many kd) (hc : ∀ t, kd ≠ .cst t) (h1 : 1 ≤ many) (h2 : many ≤ 3) (h3 : 1 ≤ size) (h4 : size ≤ 4)
    (hsg : (sg, W.listOf vs.toArray c) ∈ news) (hS : Sgs vs os) (hz : vs.length ≤ 100)
    (ret : ∀ t h' tk', Fr h₀ L h' m → News h₀ L h' news → Q (optV (dueOf many size os kd) t) { s with heap := h', toks := tk' }) :
    wpAny (model PySem.Challenge.rw_rh0120_01.row.prog w) (ktrTop dp un gd cn cs L a ccd cl outer) (call (.ref 429) [.ref tr, .int many tm, .int size ts, .ref sg]) Q E s := by
  (revert X; k_fill; intro X)
  obtain ⟨nm, u, rest, hnm, hh⟩ := hT.head hc
  (refine wpAny_call ?_; k_dflt ktr_enter)
  k_steps
  · exact absurd (by simpa using (by assumption : (nm == Str.ofString "const") = true)) hnm
  · rename (_, _) = spanOf many size kd => hsp
    refine ret 0 _ _ (by assumption) (newsSub (by assumption) (by intro p hp; repeat (first | exact hp | refine List.mem_cons_of_mem _ ?_))) |> fun q => by
      have e : dueOf many size os kd = none := by
        have hb : vs.toArray.size = vs.length := List.size_toArray
        have hq : (spanOf many size kd).2 > os.length := by
          rw [← hsp, ← hS.length]
          simp only
          omega
        exact if_pos hq
      rw [e] at q
      exact q
  · rename (_, _) = spanOf many size kd => hsp
    cases hsp2 : spanOf many size kd with | mk lo hi =>
    rw [hsp2] at hsp
    obtain ⟨e1, e2⟩ := Prod.mk.inj hsp.symm
    subst e1
    subst e2
    clear hsp
    rename Fr _ _ _ _ => F9
    rename News _ _ _ _ => N9
    have hb := span_bnd hk h1 h2 h3 h4
    rw [hsp2] at hb
    simp only at hb
    have hb2 : vs.toArray.size = vs.length := List.size_toArray
    refine unhalt ?_
    refine For_invVF F9 rfl rfl ?_
    k_steps
    rename Fr _ _ _ _ => F8
    rename News _ _ _ _ => N8
    rename (_ < _ ∧ AllLt _ news) => l8
    rename_i E2 hE2
    have hSg : Sgs ((vs.drop lo.toNat).take (hi - lo).toNat) (segOf os lo hi) := (hS.drop _).take _
    have hle : ((vs.drop lo.toNat).take (hi - lo).toNat).length ≤ 100 := by simp only [List.length_take, List.length_drop]; omega
    have hres := due_at hsp2 (os := os) (by rw [← hS.length]; omega)
    generalize (vs.drop lo.toNat).take (hi - lo).toNat = ws at N8 hSg hle
    generalize segOf os lo hi = ps at hSg hres
    have hpl := hSg.length
    obtain ⟨mm, t0, F7⟩ : ∃ (mm : Str → Option Value) (t0 : Tok), Fr _ _ _ (fun y => if y = Str.ofString "text" then some (.str (Str.ofString "") t0) else mm y) := ⟨_, _, F8⟩
    obtain ⟨D, oT, N7, l7⟩ : ∃ D oT, News _ _ _ ((E2, W.listOf ws.toArray 0) :: (D, oT) :: news) ∧ D < E2 := ⟨_, _, N8, l8.1⟩
    have fin : ∀ (tx : Str) (tt tk : Tok) (hv : Heap), tx = lead ps → Fr h₀ L hv m → News h₀ L hv news → ((tx == Str.ofString "") = true → Q .none { s with heap := hv, toks := tk }) ∧ ((tx == Str.ofString "") = false → Q (.str tx tt) { s with heap := hv, toks := tk }) := by
      rintro tx tt tk hv rfl Fv Nv
      rw [lead_nil hSg]
      constructor
      · intro hq
        have q := ret tt hv tk Fv Nv
        rw [hres, if_pos hq] at q
        exact q
      · intro hq
        have q := ret tt hv tk Fv Nv
        rw [hres, if_neg (by simp [hq])] at q
        exact q
    refine unhalt ?_
    refine iter_any (fun i m₁ nx => ∃ tt pv, nx = (E2, W.listOf ws.toArray 0) :: (D, oT) :: news ∧ (∀ j, j < i → ∃ c, ps[j]? = some (some c)) ∧ m₁ = (fun y => if y = Str.ofString "sign" then pv else if y = Str.ofString "text" then some (.str (lead (ps.take i)) tt) else mm y)) rfl List.mem_cons_self F7 N7 ?_ ?_ ?_
    · refine ⟨t0, mm (Str.ofString "sign"), rfl, fun j hj => absurd hj (Nat.not_lt_zero j), ?_⟩
      funext y
      by_cases hy : y = Str.ofString "sign"
      · subst hy; rfl
      · simp only [hy, if_false]; rfl
    · rintro i v m₁ nx h10 tk10 own hv hadr hoff hl₁ ⟨tt, pv, rfl, hcl, rfl⟩ F10 N10
      obtain ⟨o, ho, hso⟩ := hSg.get hv
      have hsh : (lead (ps.take i)).length ≤ 100 := by
        rw [lead_len (hSg.take i)]
        have := (upTo_len (hSg.take i)).2
        simp only [List.length_take] at this
        omega
      simp only [List.cons_append] at N10
      have hnw : ∀ p ∈ news, p ∈ news ++ own := fun p hp => List.mem_append_left _ hp
      have how : ∀ p ∈ own, p ∈ news ++ own := fun p hp => List.mem_append_right _ hp
      cases hso with
      | none =>
        have hup := upTo_stop ps i hcl ho
        have hld : lead (ps.take i) = lead ps := by unfold lead; rw [hup]
        generalize hnx : news ++ own = nw at N10 hnw how
        k_steps
        · exact (fin _ tt _ _ hld (by assumption) (newsSub (by assumption) (fun p hp => List.mem_cons_of_mem _ (List.mem_cons_of_mem _ (hnw p hp))))).1 (by assumption)
        · exact (fin _ tt _ _ hld (by assumption) (newsSub (by assumption) (fun p hp => List.mem_cons_of_mem _ (List.mem_cons_of_mem _ (hnw p hp))))).2 (by assumption)
      | some c t h1 =>
        have hld := lead_next hcl ho
        generalize hnx : news ++ own = nw at N10 hnw how
        k_steps
        rename Fr _ _ _ _ => F11
        rename News _ _ _ _ => N11
        obtain ⟨tt2, F12⟩ : ∃ tt2, Fr _ _ _ (fun y => if y = Str.ofString "text" then some (.str (lead (ps.take i) ++ c) tt2) else if y = Str.ofString "sign" then some (.str c t) else if y = Str.ofString "sign" then pv else if y = Str.ofString "text" then some (.str (lead (ps.take i)) tt) else mm y) := ⟨_, F11⟩
        refine ⟨_, _, _, _, (E2, W.listOf ws.toArray 0) :: (D, oT) :: news, rfl, F12, N11, fun p hp => ?_, fun p hp => List.mem_cons_of_mem _ (List.mem_cons_of_mem _ (how p hp)), rfl, List.mem_cons_self, tt2, some (.str c t), rfl, ?_, ?_⟩
        · rcases List.mem_cons.mp hp with rfl | hp
          · exact List.mem_cons_self
          · rcases List.mem_cons.mp hp with rfl | hp
            · exact List.mem_cons_of_mem _ List.mem_cons_self
            · exact List.mem_cons_of_mem _ (List.mem_cons_of_mem _ (hnw p hp))
        · intro j hj
          by_cases hji : j < i
          · exact hcl j hji
          · obtain rfl : j = i := by omega
            exact ⟨c, ho⟩
        · rw [hld]
          funext y
          by_cases hy : y = Str.ofString "sign"
          · subst hy; rfl
          · by_cases hz : y = Str.ofString "text"
            · subst hz; rfl
            · simp [hy, hz]
    · rintro m₁ nx h10 tk10 hadr hl₁ ⟨tt, pv, rfl, hcl, rfl⟩ F10 N10
      have hld : ps.take ws.length = ps := by rw [hpl, List.take_length]
      rw [hld] at F10
      k_steps
      · exact (fin _ tt _ _ rfl (by assumption) (newsSub (by assumption) (fun p hp => List.mem_cons_of_mem _ (List.mem_cons_of_mem _ hp)))).1 (by assumption)
      · exact (fin _ tt _ _ rfl (by assumption) (newsSub (by assumption) (fun p hp => List.mem_cons_of_mem _ (List.mem_cons_of_mem _ hp)))).2 (by assumption)
end
end
section
theorem reg_Due2_1 : True := by
  w_top off
  k_with_none
  k_with "pj" => (first | exact Mine.c0 h9 | exact Mine.c1 h9 | exact Mine.e1 h9 | exact Mine.c2 h9 | exact Mine.e2 h9 | exact Mine.c3 h9 | exact Mine.e3 h9 | exact Mine.c4 h9 | exact Mine.e4 h9 | exact Mine.c5 h9 | exact Mine.e5 h9 | exact Mine.c6 h9 | exact Mine.e6 h9 | exact Mine.c7 h9 | exact Mine.e7 h9 | exact Mine.c8 h9 | exact Mine.e8 h9 | exact Mine.c9 h9 | exact Mine.e9 h9 | exact Mine.c10 h9 | exact Mine.e10 h9 | exact Mine.c11 h9 | exact Mine.e11 h9 | exact Mine.c12 h9 | exact Mine.e12 h9 | exact Mine.c13 h9 | exact Mine.e13 h9 | exact Mine.c14 h9 | exact Mine.e14 h9 | exact Mine.c15 h9 | exact Mine.e15 h9 | exact Mine.c16 h9 | exact Mine.e16 h9 | exact Mine.c17 h9 | exact Mine.e17 h9 | exact Mine.c18 h9 | exact Mine.e18 h9 | exact Mine.c19 h9 | exact Mine.e19 h9 | exact Mine.c20 h9 | exact Mine.e20 h9 | fail "pj")
  k_with "pj1" => (first | exact Mine.c0 (Mine.c0 h9) | exact Mine.c0 (Mine.c1 h9) | exact Mine.c0 (Mine.c2 h9) | exact Mine.c0 (Mine.c3 h9) | exact Mine.c0 (Mine.c4 h9) | exact Mine.c0 (Mine.c5 h9) | exact Mine.c0 (Mine.c6 h9) | exact Mine.c0 (Mine.c7 h9) | exact Mine.c0 (Mine.c8 h9) | exact Mine.c0 (Mine.c9 h9) | exact Mine.c0 (Mine.c10 h9) | exact Mine.c0 (Mine.c11 h9) | exact Mine.c0 (Mine.c12 h9) | exact Mine.c0 (Mine.c13 h9) | exact Mine.c0 (Mine.c14 h9) | exact Mine.c0 (Mine.c15 h9) | exact Mine.c0 (Mine.c16 h9) | exact Mine.c0 (Mine.c17 h9) | exact Mine.c0 (Mine.c18 h9) | exact Mine.c0 (Mine.c19 h9) | exact Mine.c0 (Mine.c20 h9) | fail "pj1")
  k_with "pj2" => (first | exact Mine.c1 (Mine.c0 h9) | exact Mine.c1 (Mine.c1 h9) | exact Mine.c1 (Mine.c2 h9) | exact Mine.c1 (Mine.c3 h9) | exact Mine.c1 (Mine.c4 h9) | exact Mine.c1 (Mine.c5 h9) | exact Mine.c1 (Mine.c6 h9) | exact Mine.c1 (Mine.c7 h9) | exact Mine.c1 (Mine.c8 h9) | exact Mine.c1 (Mine.c9 h9) | exact Mine.c1 (Mine.c10 h9) | exact Mine.c1 (Mine.c11 h9) | exact Mine.c1 (Mine.c12 h9) | exact Mine.c1 (Mine.c13 h9) | exact Mine.c1 (Mine.c14 h9) | exact Mine.c1 (Mine.c15 h9) | exact Mine.c1 (Mine.c16 h9) | exact Mine.c1 (Mine.c17 h9) | exact Mine.c1 (Mine.c18 h9) | exact Mine.c1 (Mine.c19 h9) | exact Mine.c1 (Mine.c20 h9) | fail "pj2")
  k_with "pj3" => (first | exact Mine.e2 (Mine.c0 h9) | exact Mine.e2 (Mine.c1 h9) | exact Mine.e2 (Mine.c2 h9) | exact Mine.e2 (Mine.c3 h9) | exact Mine.e2 (Mine.c4 h9) | exact Mine.e2 (Mine.c5 h9) | exact Mine.e2 (Mine.c6 h9) | exact Mine.e2 (Mine.c7 h9) | exact Mine.e2 (Mine.c8 h9) | exact Mine.e2 (Mine.c9 h9) | exact Mine.e2 (Mine.c10 h9) | exact Mine.e2 (Mine.c11 h9) | exact Mine.e2 (Mine.c12 h9) | exact Mine.e2 (Mine.c13 h9) | exact Mine.e2 (Mine.c14 h9) | exact Mine.e2 (Mine.c15 h9) | exact Mine.e2 (Mine.c16 h9) | exact Mine.e2 (Mine.c17 h9) | exact Mine.e2 (Mine.c18 h9) | exact Mine.e2 (Mine.c19 h9) | exact Mine.e2 (Mine.c20 h9) | fail "pj3")
  k_with "omega" => (first | exact Nat.le_refl _ | decide | with_reducible (first | exact Mine.lim0 (by assumption) | exact Mine.lim1 (by assumption) (by with_unfolding_all rfl) | exact Mine.lim2 (by assumption) (by with_unfolding_all rfl) | exact Mine.lim3 (by assumption) (by with_unfolding_all rfl) | exact Mine.lim8 (by assumption) (by assumption) (by with_unfolding_all rfl) | exact Mine.lim9 (by assumption) (by assumption) (by with_unfolding_all rfl) | exact Mine.lim10 (by assumption) (by assumption) (by with_unfolding_all rfl) | exact Mine.i1 (by assumption) | exact Mine.i2 (by assumption) | exact Mine.i3 (by assumption) | exact Mine.i4 (by assumption) (by with_unfolding_all rfl) | exact Mine.i5 (by assumption) | exact Mine.i6 (by assumption) (by assumption) | exact Mine.i7 (by assumption) (by assumption) | exact Mine.i8 (by assumption) (by assumption) | exact List.length_take_le _ _ | fail "l") | (refine Mine.toNe ?_; with_reducible (first | exact Nat.ne_of_lt (by ((repeat (first | assumption | exact Mine.ltp0 | refine Mine.ltp ?_)); (first | done | fail "c"))) | exact Nat.ne_of_gt (by ((repeat (first | assumption | exact Mine.ltp0 | refine Mine.ltp ?_)); (first | done | fail "c"))) | (refine Nat.ne_of_lt (Mine.viaL (by assumption) ?_); intro h9; k_extra "pj") | (refine Nat.ne_of_gt (Mine.viaL (by assumption) ?_); intro h9; k_extra "pj") | (refine Nat.ne_of_lt (Mine.viaM (by assumption) ?_); intro h9; k_extra "pj") | (refine Nat.ne_of_gt (Mine.viaM (by assumption) ?_); intro h9; k_extra "pj") | assumption | exact Ne.symm (by assumption) | (refine Mine.viaN (by assumption) ?_; intro h9; k_extra "pj") | (refine Ne.symm (Mine.viaN (by assumption) ?_); intro h9; k_extra "pj") | (refine Mine.viaN1 (by assumption) ?_; intro h9; k_extra "pj1") | (refine Ne.symm (Mine.viaN1 (by assumption) ?_); intro h9; k_extra "pj1") | (refine Mine.viaN2 (by assumption) ?_; intro h9; k_extra "pj2") | (refine Ne.symm (Mine.viaN2 (by assumption) ?_); intro h9; k_extra "pj2") | (refine Mine.viaN3 (by assumption) ?_; intro h9; k_extra "pj3") | (refine Ne.symm (Mine.viaN3 (by assumption) ?_); intro h9; k_extra "pj3") | fail "n")) | fail "o")
  trivial
theorem kd_cases (kd : Kd) : (∃ t, kd = .cst t) ∨ ∀ t, kd ≠ .cst t := by
  cases kd with
  | cst t => exact .inl ⟨t, rfl⟩
  | _ => exact .inr fun t h => nomatch h
/-- what the law calls due -/
def dueAll (many size : Int) (os : List (Option Str)) : Kd → Option Str
  | .cst t => some t
  | kd => dueOf many size os kd
theorem dueAll_of {many size : Int} {os : List (Option Str)} {kd : Kd} (h : ∀ t, kd ≠ .cst t) : dueAll many size os kd = dueOf many size os kd := by
  cases kd with
  | cst t => exact absurd rfl (h t)
  | _ => rfl
theorem due_all {w : World} {dp un : Nat} {gd : Option (List Code)} {cn : Str} {cs : Scope} {a : Addr} {ccd : Value} {cl : List (Str × Addr)} {outer : List Env} {A₀ : Around} {base h₀ : Heap} {L : Addr} {m : Str → Option Value} {s : Shared} {Q E : Value → Shared → Prop} {mean : ExcName → Option Value} {mg mb : Str → Option Value} {news : List (Addr × Obj)} {tr sg : Addr} {size many : Int} {kd : Kd} {tm ts : Tok} {vs : List Value} {os : List (Option Str)} {c : Nat}
    (B : Below A₀ base outer h₀) (F : Fr h₀ L s.heap m) (X : (seat.heap_1 w.params).In h₀) (T : Top topProg ((looseW seat.view_1 [Str.ofString "counted_elements_iops", Str.ofString "counted_elements_plainio"]) ++ List.map (fun x => x.name) (recsOf seat.view_1) ++ List.map (fun x => x.fst) (litsOf seat.view_1) ++ List.map (fun x => x.name) (clssOf seat.view_1 (looseW seat.view_1 [Str.ofString "counted_elements_iops", Str.ofString "counted_elements_plainio"]))) mean mg mb h₀) (hkf : cs.kind = .function) (N : News h₀ L s.heap news) (hdp : dp + 40 < recursionLimit) (hun : un + 400 < cLine) (hT : TreeAt news tr kd) (hk : KdOk many kd) (h1 : 1 ≤ many) (h2 : many ≤ 3) (h3 : 1 ≤ size) (h4 : size ≤ 4)
    (hsg : (sg, W.listOf vs.toArray c) ∈ news) (hS : Sgs vs os) (hz : vs.length ≤ 100)
    (ret : ∀ t h' tk', Fr h₀ L h' m → News h₀ L h' news → Q (optV (dueAll many size os kd) t) { s with heap := h', toks := tk' }) :
    wpAny (model PySem.Challenge.rw_rh0120_01.row.prog w) (ktrTop dp un gd cn cs L a ccd cl outer) (call (.ref 429) [.ref tr, .int many tm, .int size ts, .ref sg]) Q E s := by
  rcases kd_cases kd with ⟨t, rfl⟩ | hc
  · obtain ⟨u1, u2, u3, ht⟩ := hT
    exact due_cst B F X T hkf N hdp ht (fun h' tk' F' N' => ret u3 h' tk' F' N')
  · refine due_c B F X T hkf N hdp hun hT hk hc h1 h2 h3 h4 hsg hS hz (fun t h' tk' F' N' => ?_)
    have := ret t h' tk' F' N'
    rw [dueAll_of hc] at this
    exact this
end
local macro_rules | `(tactic| walk_at "tl6c326b") => `(tactic| (intro _ _ _ _ _ _ _ _ _ _ N'; (try dsimp only at N')))
section
theorem reg_Tree_1 : True := by
  w_top off
  k_with_none
  k_with "pj" => (first | exact Mine.c0 h9 | exact Mine.c1 h9 | exact Mine.e1 h9 | exact Mine.c2 h9 | exact Mine.e2 h9 | exact Mine.c3 h9 | exact Mine.e3 h9 | exact Mine.c4 h9 | exact Mine.e4 h9 | exact Mine.c5 h9 | exact Mine.e5 h9 | exact Mine.c6 h9 | exact Mine.e6 h9 | exact Mine.c7 h9 | exact Mine.e7 h9 | exact Mine.c8 h9 | exact Mine.e8 h9 | exact Mine.c9 h9 | exact Mine.e9 h9 | exact Mine.c10 h9 | exact Mine.e10 h9 | exact Mine.c11 h9 | exact Mine.e11 h9 | exact Mine.c12 h9 | exact Mine.e12 h9 | exact Mine.c13 h9 | exact Mine.e13 h9 | exact Mine.c14 h9 | exact Mine.e14 h9 | exact Mine.c15 h9 | exact Mine.e15 h9 | exact Mine.c16 h9 | exact Mine.e16 h9 | exact Mine.c17 h9 | exact Mine.e17 h9 | exact Mine.c18 h9 | exact Mine.e18 h9 | exact Mine.c19 h9 | exact Mine.e19 h9 | exact Mine.c20 h9 | exact Mine.e20 h9 | fail "pj")
  k_with "pj1" => (first | exact Mine.c0 (Mine.c0 h9) | exact Mine.c0 (Mine.c1 h9) | exact Mine.c0 (Mine.c2 h9) | exact Mine.c0 (Mine.c3 h9) | exact Mine.c0 (Mine.c4 h9) | exact Mine.c0 (Mine.c5 h9) | exact Mine.c0 (Mine.c6 h9) | exact Mine.c0 (Mine.c7 h9) | exact Mine.c0 (Mine.c8 h9) | exact Mine.c0 (Mine.c9 h9) | exact Mine.c0 (Mine.c10 h9) | exact Mine.c0 (Mine.c11 h9) | exact Mine.c0 (Mine.c12 h9) | exact Mine.c0 (Mine.c13 h9) | exact Mine.c0 (Mine.c14 h9) | exact Mine.c0 (Mine.c15 h9) | exact Mine.c0 (Mine.c16 h9) | exact Mine.c0 (Mine.c17 h9) | exact Mine.c0 (Mine.c18 h9) | exact Mine.c0 (Mine.c19 h9) | exact Mine.c0 (Mine.c20 h9) | fail "pj1")
  k_with "pj2" => (first | exact Mine.c1 (Mine.c0 h9) | exact Mine.c1 (Mine.c1 h9) | exact Mine.c1 (Mine.c2 h9) | exact Mine.c1 (Mine.c3 h9) | exact Mine.c1 (Mine.c4 h9) | exact Mine.c1 (Mine.c5 h9) | exact Mine.c1 (Mine.c6 h9) | exact Mine.c1 (Mine.c7 h9) | exact Mine.c1 (Mine.c8 h9) | exact Mine.c1 (Mine.c9 h9) | exact Mine.c1 (Mine.c10 h9) | exact Mine.c1 (Mine.c11 h9) | exact Mine.c1 (Mine.c12 h9) | exact Mine.c1 (Mine.c13 h9) | exact Mine.c1 (Mine.c14 h9) | exact Mine.c1 (Mine.c15 h9) | exact Mine.c1 (Mine.c16 h9) | exact Mine.c1 (Mine.c17 h9) | exact Mine.c1 (Mine.c18 h9) | exact Mine.c1 (Mine.c19 h9) | exact Mine.c1 (Mine.c20 h9) | fail "pj2")
  k_with "pj3" => (first | exact Mine.e2 (Mine.c0 h9) | exact Mine.e2 (Mine.c1 h9) | exact Mine.e2 (Mine.c2 h9) | exact Mine.e2 (Mine.c3 h9) | exact Mine.e2 (Mine.c4 h9) | exact Mine.e2 (Mine.c5 h9) | exact Mine.e2 (Mine.c6 h9) | exact Mine.e2 (Mine.c7 h9) | exact Mine.e2 (Mine.c8 h9) | exact Mine.e2 (Mine.c9 h9) | exact Mine.e2 (Mine.c10 h9) | exact Mine.e2 (Mine.c11 h9) | exact Mine.e2 (Mine.c12 h9) | exact Mine.e2 (Mine.c13 h9) | exact Mine.e2 (Mine.c14 h9) | exact Mine.e2 (Mine.c15 h9) | exact Mine.e2 (Mine.c16 h9) | exact Mine.e2 (Mine.c17 h9) | exact Mine.e2 (Mine.c18 h9) | exact Mine.e2 (Mine.c19 h9) | exact Mine.e2 (Mine.c20 h9) | fail "pj3")
  k_with "omega" => (first | exact Nat.le_refl _ | decide | with_reducible (first | exact Mine.lim0 (by assumption) | exact Mine.lim1 (by assumption) (by with_unfolding_all rfl) | exact Mine.lim2 (by assumption) (by with_unfolding_all rfl) | exact Mine.lim3 (by assumption) (by with_unfolding_all rfl) | exact Mine.lim8 (by assumption) (by assumption) (by with_unfolding_all rfl) | exact Mine.lim9 (by assumption) (by assumption) (by with_unfolding_all rfl) | exact Mine.lim10 (by assumption) (by assumption) (by with_unfolding_all rfl) | exact Mine.i1 (by assumption) | exact Mine.i2 (by assumption) | exact Mine.i3 (by assumption) | exact Mine.i4 (by assumption) (by with_unfolding_all rfl) | exact Mine.i5 (by assumption) | exact Mine.i6 (by assumption) (by assumption) | exact Mine.i7 (by assumption) (by assumption) | exact Mine.i8 (by assumption) (by assumption) | exact List.length_take_le _ _ | fail "l") | (refine Mine.toNe ?_; with_reducible (first | exact Nat.ne_of_lt (by ((repeat (first | assumption | exact Mine.ltp0 | refine Mine.ltp ?_)); (first | done | fail "c"))) | exact Nat.ne_of_gt (by ((repeat (first | assumption | exact Mine.ltp0 | refine Mine.ltp ?_)); (first | done | fail "c"))) | (refine Nat.ne_of_lt (Mine.viaL (by assumption) ?_); intro h9; k_extra "pj") | (refine Nat.ne_of_gt (Mine.viaL (by assumption) ?_); intro h9; k_extra "pj") | (refine Nat.ne_of_lt (Mine.viaM (by assumption) ?_); intro h9; k_extra "pj") | (refine Nat.ne_of_gt (Mine.viaM (by assumption) ?_); intro h9; k_extra "pj") | assumption | exact Ne.symm (by assumption) | (refine Mine.viaN (by assumption) ?_; intro h9; k_extra "pj") | (refine Ne.symm (Mine.viaN (by assumption) ?_); intro h9; k_extra "pj") | (refine Mine.viaN1 (by assumption) ?_; intro h9; k_extra "pj1") | (refine Ne.symm (Mine.viaN1 (by assumption) ?_); intro h9; k_extra "pj1") | (refine Mine.viaN2 (by assumption) ?_; intro h9; k_extra "pj2") | (refine Ne.symm (Mine.viaN2 (by assumption) ?_); intro h9; k_extra "pj2") | (refine Mine.viaN3 (by assumption) ?_; intro h9; k_extra "pj3") | (refine Ne.symm (Mine.viaN3 (by assumption) ?_); intro h9; k_extra "pj3") | fail "n")) | fail "o")
  k_with "treelt" => ((with_reducible first | assumption | exact (by assumption : _ ∧ AllLt _ _).2 | exact (by assumption : _ ∧ _ ∧ AllLt _ _).2.2 | exact (by assumption : _ ∧ _ ∧ _ ∧ AllLt _ _).2.2.2 | exact (by assumption : _ ∧ _ ∧ _ ∧ _ ∧ AllLt _ _).2.2.2.2 | exact (by assumption : _ ∧ _ ∧ _ ∧ _ ∧ _ ∧ AllLt _ _).2.2.2.2.2 | exact (by assumption : _ ∧ _ ∧ _ ∧ _ ∧ _ ∧ _ ∧ AllLt _ _).2.2.2.2.2.2 | exact (by assumption : _ ∧ _ ∧ _ ∧ _ ∧ _ ∧ _ ∧ _ ∧ AllLt _ _).2.2.2.2.2.2.2 | exact (by assumption : _ ∧ _ ∧ _ ∧ _ ∧ _ ∧ _ ∧ _ ∧ _ ∧ AllLt _ _).2.2.2.2.2.2.2.2 | exact (by assumption : _ ∧ _ ∧ _ ∧ _ ∧ _ ∧ _ ∧ _ ∧ _ ∧ _ ∧ AllLt _ _).2.2.2.2.2.2.2.2.2 | exact (by assumption : _ ∧ _ ∧ _ ∧ _ ∧ _ ∧ _ ∧ _ ∧ _ ∧ _ ∧ _ ∧ AllLt _ _).2.2.2.2.2.2.2.2.2.2 | exact (by assumption : _ ∧ _ ∧ _ ∧ _ ∧ _ ∧ _ ∧ _ ∧ _ ∧ _ ∧ _ ∧ _ ∧ AllLt _ _).2.2.2.2.2.2.2.2.2.2.2 | exact (by assumption : _ ∧ _ ∧ _ ∧ _ ∧ _ ∧ _ ∧ _ ∧ _ ∧ _ ∧ _ ∧ _ ∧ _ ∧ AllLt _ _).2.2.2.2.2.2.2.2.2.2.2.2 | exact (by assumption : _ ∧ _ ∧ _ ∧ _ ∧ _ ∧ _ ∧ _ ∧ _ ∧ _ ∧ _ ∧ _ ∧ _ ∧ _ ∧ AllLt _ _).2.2.2.2.2.2.2.2.2.2.2.2.2 | exact (by assumption : _ ∧ _ ∧ _ ∧ _ ∧ _ ∧ _ ∧ _ ∧ _ ∧ _ ∧ _ ∧ _ ∧ _ ∧ _ ∧ _ ∧ AllLt _ _).2.2.2.2.2.2.2.2.2.2.2.2.2.2 | exact (by assumption : _ ∧ _ ∧ _ ∧ _ ∧ _ ∧ _ ∧ _ ∧ _ ∧ _ ∧ _ ∧ _ ∧ _ ∧ _ ∧ _ ∧ _ ∧ AllLt _ _).2.2.2.2.2.2.2.2.2.2.2.2.2.2.2 | exact (by assumption : _ ∧ _ ∧ _ ∧ _ ∧ _ ∧ _ ∧ _ ∧ _ ∧ _ ∧ _ ∧ _ ∧ _ ∧ _ ∧ _ ∧ _ ∧ _ ∧ AllLt _ _).2.2.2.2.2.2.2.2.2.2.2.2.2.2.2.2 | exact (by assumption : _ ∧ _ ∧ _ ∧ _ ∧ _ ∧ _ ∧ _ ∧ _ ∧ _ ∧ _ ∧ _ ∧ _ ∧ _ ∧ _ ∧ _ ∧ _ ∧ _ ∧ AllLt _ _).2.2.2.2.2.2.2.2.2.2.2.2.2.2.2.2.2 | exact (by assumption : _ ∧ _ ∧ _ ∧ _ ∧ _ ∧ _ ∧ _ ∧ _ ∧ _ ∧ _ ∧ _ ∧ _ ∧ _ ∧ _ ∧ _ ∧ _ ∧ _ ∧ _ ∧ AllLt _ _).2.2.2.2.2.2.2.2.2.2.2.2.2.2.2.2.2.2 | exact (by assumption : _ ∧ _ ∧ _ ∧ _ ∧ _ ∧ _ ∧ _ ∧ _ ∧ _ ∧ _ ∧ _ ∧ _ ∧ _ ∧ _ ∧ _ ∧ _ ∧ _ ∧ _ ∧ _ ∧ AllLt _ _).2.2.2.2.2.2.2.2.2.2.2.2.2.2.2.2.2.2.2 | exact (by assumption : _ ∧ _ ∧ _ ∧ _ ∧ _ ∧ _ ∧ _ ∧ _ ∧ _ ∧ _ ∧ _ ∧ _ ∧ _ ∧ _ ∧ _ ∧ _ ∧ _ ∧ _ ∧ _ ∧ _ ∧ AllLt _ _).2.2.2.2.2.2.2.2.2.2.2.2.2.2.2.2.2.2.2.2 | exact (by assumption : _ ∧ _ ∧ _ ∧ _ ∧ _ ∧ _ ∧ _ ∧ _ ∧ _ ∧ _ ∧ _ ∧ _ ∧ _ ∧ _ ∧ _ ∧ _ ∧ _ ∧ _ ∧ _ ∧ _ ∧ _ ∧ AllLt _ _).2.2.2.2.2.2.2.2.2.2.2.2.2.2.2.2.2.2.2.2.2 | exact (by assumption : _ ∧ _ ∧ _ ∧ _ ∧ _ ∧ _ ∧ _ ∧ _ ∧ _ ∧ _ ∧ _ ∧ _ ∧ _ ∧ _ ∧ _ ∧ _ ∧ _ ∧ _ ∧ _ ∧ _ ∧ _ ∧ _ ∧ AllLt _ _).2.2.2.2.2.2.2.2.2.2.2.2.2.2.2.2.2.2.2.2.2.2 | exact (by assumption : _ ∧ _ ∧ _ ∧ _ ∧ _ ∧ _ ∧ _ ∧ _ ∧ _ ∧ _ ∧ _ ∧ _ ∧ _ ∧ _ ∧ _ ∧ _ ∧ _ ∧ _ ∧ _ ∧ _ ∧ _ ∧ _ ∧ _ ∧ AllLt _ _).2.2.2.2.2.2.2.2.2.2.2.2.2.2.2.2.2.2.2.2.2.2.2 | exact (by assumption : _ ∧ _ ∧ _ ∧ _ ∧ _ ∧ _ ∧ _ ∧ _ ∧ _ ∧ _ ∧ _ ∧ _ ∧ _ ∧ _ ∧ _ ∧ _ ∧ _ ∧ _ ∧ _ ∧ _ ∧ _ ∧ _ ∧ _ ∧ _ ∧ AllLt _ _).2.2.2.2.2.2.2.2.2.2.2.2.2.2.2.2.2.2.2.2.2.2.2.2 | exact (by assumption : _ ∧ _ ∧ _ ∧ _ ∧ _ ∧ _ ∧ _ ∧ _ ∧ _ ∧ _ ∧ _ ∧ _ ∧ _ ∧ _ ∧ _ ∧ _ ∧ _ ∧ _ ∧ _ ∧ _ ∧ _ ∧ _ ∧ _ ∧ _ ∧ _ ∧ AllLt _ _).2.2.2.2.2.2.2.2.2.2.2.2.2.2.2.2.2.2.2.2.2.2.2.2.2 | fail "treelt"))
  trivial
/-- an item of a written list, by a number within it -/
theorem pick_list {prog : Program} {w : World} {A : Around} {E : Value → Shared → Prop} {s : Shared} {h₀ : Heap} {L l : Addr} {news : List (Addr × Obj)} {value slice : PySem.Expr} {vs : List Value} {c : Nat} {v : Int} {u : Tok} {Q : Value → Shared → Prop}
    (N : News h₀ L s.heap news) (hl : (l, W.listOf vs.toArray c) ∈ news) (h0 : 0 ≤ v) (h1 : v < vs.length) (hz : vs.length ≤ 1000) (h : ∀ x, x ∈ vs → Q x s)
    (hs : subscripted slice false (.ref l) (.int v u) = operate [.ref l, .int v u] (getItem (.ref l) (.int v u))) : wpAny (model prog w) A (subscriptTail value slice (.ref l) (.int v u)) Q E s := by
  have hL : s.heap.IsList l vs.toArray := ⟨_, (N _ hl).1, rfl, c, rfl⟩
  have hlt : v.toNat < vs.length := by omega
  exact tail_any hL.typeIs slot_list_getitem.lookup (wpAny_getItem_list hL h0 (by omega) (x := vs[v.toNat]) (by simp) (h _ (List.getElem_mem hlt))) hs
section

theorem reg_Tree_2 : True := by
  w_top off
  k_with_none
  k_with "pj" => (first | exact Mine.c0 h9 | exact Mine.c1 h9 | exact Mine.e1 h9 | exact Mine.c2 h9 | exact Mine.e2 h9 | exact Mine.c3 h9 | exact Mine.e3 h9 | exact Mine.c4 h9 | exact Mine.e4 h9 | exact Mine.c5 h9 | exact Mine.e5 h9 | exact Mine.c6 h9 | exact Mine.e6 h9 | exact Mine.c7 h9 | exact Mine.e7 h9 | exact Mine.c8 h9 | exact Mine.e8 h9 | exact Mine.c9 h9 | exact Mine.e9 h9 | exact Mine.c10 h9 | exact Mine.e10 h9 | exact Mine.c11 h9 | exact Mine.e11 h9 | exact Mine.c12 h9 | exact Mine.e12 h9 | exact Mine.c13 h9 | exact Mine.e13 h9 | exact Mine.c14 h9 | exact Mine.e14 h9 | exact Mine.c15 h9 | exact Mine.e15 h9 | exact Mine.c16 h9 | exact Mine.e16 h9 | exact Mine.c17 h9 | exact Mine.e17 h9 | exact Mine.c18 h9 | exact Mine.e18 h9 | exact Mine.c19 h9 | exact Mine.e19 h9 | exact Mine.c20 h9 | exact Mine.e20 h9 | fail "pj")
  k_with "pj1" => (first | exact Mine.c0 (Mine.c0 h9) | exact Mine.c0 (Mine.c1 h9) | exact Mine.c0 (Mine.c2 h9) | exact Mine.c0 (Mine.c3 h9) | exact Mine.c0 (Mine.c4 h9) | exact Mine.c0 (Mine.c5 h9) | exact Mine.c0 (Mine.c6 h9) | exact Mine.c0 (Mine.c7 h9) | exact Mine.c0 (Mine.c8 h9) | exact Mine.c0 (Mine.c9 h9) | exact Mine.c0 (Mine.c10 h9) | exact Mine.c0 (Mine.c11 h9) | exact Mine.c0 (Mine.c12 h9) | exact Mine.c0 (Mine.c13 h9) | exact Mine.c0 (Mine.c14 h9) | exact Mine.c0 (Mine.c15 h9) | exact Mine.c0 (Mine.c16 h9) | exact Mine.c0 (Mine.c17 h9) | exact Mine.c0 (Mine.c18 h9) | exact Mine.c0 (Mine.c19 h9) | exact Mine.c0 (Mine.c20 h9) | fail "pj1")
  k_with "pj2" => (first | exact Mine.c1 (Mine.c0 h9) | exact Mine.c1 (Mine.c1 h9) | exact Mine.c1 (Mine.c2 h9) | exact Mine.c1 (Mine.c3 h9) | exact Mine.c1 (Mine.c4 h9) | exact Mine.c1 (Mine.c5 h9) | exact Mine.c1 (Mine.c6 h9) | exact Mine.c1 (Mine.c7 h9) | exact Mine.c1 (Mine.c8 h9) | exact Mine.c1 (Mine.c9 h9) | exact Mine.c1 (Mine.c10 h9) | exact Mine.c1 (Mine.c11 h9) | exact Mine.c1 (Mine.c12 h9) | exact Mine.c1 (Mine.c13 h9) | exact Mine.c1 (Mine.c14 h9) | exact Mine.c1 (Mine.c15 h9) | exact Mine.c1 (Mine.c16 h9) | exact Mine.c1 (Mine.c17 h9) | exact Mine.c1 (Mine.c18 h9) | exact Mine.c1 (Mine.c19 h9) | exact Mine.c1 (Mine.c20 h9) | fail "pj2")
  k_with "pj3" => (first | exact Mine.e2 (Mine.c0 h9) | exact Mine.e2 (Mine.c1 h9) | exact Mine.e2 (Mine.c2 h9) | exact Mine.e2 (Mine.c3 h9) | exact Mine.e2 (Mine.c4 h9) | exact Mine.e2 (Mine.c5 h9) | exact Mine.e2 (Mine.c6 h9) | exact Mine.e2 (Mine.c7 h9) | exact Mine.e2 (Mine.c8 h9) | exact Mine.e2 (Mine.c9 h9) | exact Mine.e2 (Mine.c10 h9) | exact Mine.e2 (Mine.c11 h9) | exact Mine.e2 (Mine.c12 h9) | exact Mine.e2 (Mine.c13 h9) | exact Mine.e2 (Mine.c14 h9) | exact Mine.e2 (Mine.c15 h9) | exact Mine.e2 (Mine.c16 h9) | exact Mine.e2 (Mine.c17 h9) | exact Mine.e2 (Mine.c18 h9) | exact Mine.e2 (Mine.c19 h9) | exact Mine.e2 (Mine.c20 h9) | fail "pj3")
  k_with "omega" => (first | exact Nat.le_refl _ | decide | with_reducible (first | exact Mine.lim0 (by assumption) | exact Mine.lim1 (by assumption) (by with_unfolding_all rfl) | exact Mine.lim2 (by assumption) (by with_unfolding_all rfl) | exact Mine.lim3 (by assumption) (by with_unfolding_all rfl) | exact Mine.lim8 (by assumption) (by assumption) (by with_unfolding_all rfl) | exact Mine.lim9 (by assumption) (by assumption) (by with_unfolding_all rfl) | exact Mine.lim10 (by assumption) (by assumption) (by with_unfolding_all rfl) | exact Mine.i1 (by assumption) | exact Mine.i2 (by assumption) | exact Mine.i3 (by assumption) | exact Mine.i4 (by assumption) (by with_unfolding_all rfl) | exact Mine.i5 (by assumption) | exact Mine.i6 (by assumption) (by assumption) | exact Mine.i7 (by assumption) (by assumption) | exact Mine.i8 (by assumption) (by assumption) | exact List.length_take_le _ _ | fail "l") | (refine Mine.toNe ?_; with_reducible (first | exact Nat.ne_of_lt (by ((repeat (first | assumption | exact Mine.ltp0 | refine Mine.ltp ?_)); (first | done | fail "c"))) | exact Nat.ne_of_gt (by ((repeat (first | assumption | exact Mine.ltp0 | refine Mine.ltp ?_)); (first | done | fail "c"))) | (refine Nat.ne_of_lt (Mine.viaL (by assumption) ?_); intro h9; k_extra "pj") | (refine Nat.ne_of_gt (Mine.viaL (by assumption) ?_); intro h9; k_extra "pj") | (refine Nat.ne_of_lt (Mine.viaM (by assumption) ?_); intro h9; k_extra "pj") | (refine Nat.ne_of_gt (Mine.viaM (by assumption) ?_); intro h9; k_extra "pj") | assumption | exact Ne.symm (by assumption) | (refine Mine.viaN (by assumption) ?_; intro h9; k_extra "pj") | (refine Ne.symm (Mine.viaN (by assumption) ?_); intro h9; k_extra "pj") | (refine Mine.viaN1 (by assumption) ?_; intro h9; k_extra "pj1") | (refine Ne.symm (Mine.viaN1 (by assumption) ?_); intro h9; k_extra "pj1") | (refine Mine.viaN2 (by assumption) ?_; intro h9; k_extra "pj2") | (refine Ne.symm (Mine.viaN2 (by assumption) ?_); intro h9; k_extra "pj2") | (refine Mine.viaN3 (by assumption) ?_; intro h9; k_extra "pj3") | (refine Ne.symm (Mine.viaN3 (by assumption) ?_); intro h9; k_extra "pj3") | fail "n")) | fail "o")
  k_with "treelt" => ((with_reducible first | assumption | exact (by assumption : _ ∧ AllLt _ _).2 | exact (by assumption : _ ∧ _ ∧ AllLt _ _).2.2 | exact (by assumption : _ ∧ _ ∧ _ ∧ AllLt _ _).2.2.2 | exact (by assumption : _ ∧ _ ∧ _ ∧ _ ∧ AllLt _ _).2.2.2.2 | exact (by assumption : _ ∧ _ ∧ _ ∧ _ ∧ _ ∧ AllLt _ _).2.2.2.2.2 | exact (by assumption : _ ∧ _ ∧ _ ∧ _ ∧ _ ∧ _ ∧ AllLt _ _).2.2.2.2.2.2 | exact (by assumption : _ ∧ _ ∧ _ ∧ _ ∧ _ ∧ _ ∧ _ ∧ AllLt _ _).2.2.2.2.2.2.2 | exact (by assumption : _ ∧ _ ∧ _ ∧ _ ∧ _ ∧ _ ∧ _ ∧ _ ∧ AllLt _ _).2.2.2.2.2.2.2.2 | exact (by assumption : _ ∧ _ ∧ _ ∧ _ ∧ _ ∧ _ ∧ _ ∧ _ ∧ _ ∧ AllLt _ _).2.2.2.2.2.2.2.2.2 | exact (by assumption : _ ∧ _ ∧ _ ∧ _ ∧ _ ∧ _ ∧ _ ∧ _ ∧ _ ∧ _ ∧ AllLt _ _).2.2.2.2.2.2.2.2.2.2 | exact (by assumption : _ ∧ _ ∧ _ ∧ _ ∧ _ ∧ _ ∧ _ ∧ _ ∧ _ ∧ _ ∧ _ ∧ AllLt _ _).2.2.2.2.2.2.2.2.2.2.2 | exact (by assumption : _ ∧ _ ∧ _ ∧ _ ∧ _ ∧ _ ∧ _ ∧ _ ∧ _ ∧ _ ∧ _ ∧ _ ∧ AllLt _ _).2.2.2.2.2.2.2.2.2.2.2.2 | exact (by assumption : _ ∧ _ ∧ _ ∧ _ ∧ _ ∧ _ ∧ _ ∧ _ ∧ _ ∧ _ ∧ _ ∧ _ ∧ _ ∧ AllLt _ _).2.2.2.2.2.2.2.2.2.2.2.2.2 | exact (by assumption : _ ∧ _ ∧ _ ∧ _ ∧ _ ∧ _ ∧ _ ∧ _ ∧ _ ∧ _ ∧ _ ∧ _ ∧ _ ∧ _ ∧ AllLt _ _).2.2.2.2.2.2.2.2.2.2.2.2.2.2 | exact (by assumption : _ ∧ _ ∧ _ ∧ _ ∧ _ ∧ _ ∧ _ ∧ _ ∧ _ ∧ _ ∧ _ ∧ _ ∧ _ ∧ _ ∧ _ ∧ AllLt _ _).2.2.2.2.2.2.2.2.2.2.2.2.2.2.2 | exact (by assumption : _ ∧ _ ∧ _ ∧ _ ∧ _ ∧ _ ∧ _ ∧ _ ∧ _ ∧ _ ∧ _ ∧ _ ∧ _ ∧ _ ∧ _ ∧ _ ∧ AllLt _ _).2.2.2.2.2.2.2.2.2.2.2.2.2.2.2.2 | exact (by assumption : _ ∧ _ ∧ _ ∧ _ ∧ _ ∧ _ ∧ _ ∧ _ ∧ _ ∧ _ ∧ _ ∧ _ ∧ _ ∧ _ ∧ _ ∧ _ ∧ _ ∧ AllLt _ _).2.2.2.2.2.2.2.2.2.2.2.2.2.2.2.2.2 | exact (by assumption : _ ∧ _ ∧ _ ∧ _ ∧ _ ∧ _ ∧ _ ∧ _ ∧ _ ∧ _ ∧ _ ∧ _ ∧ _ ∧ _ ∧ _ ∧ _ ∧ _ ∧ _ ∧ AllLt _ _).2.2.2.2.2.2.2.2.2.2.2.2.2.2.2.2.2.2 | exact (by assumption : _ ∧ _ ∧ _ ∧ _ ∧ _ ∧ _ ∧ _ ∧ _ ∧ _ ∧ _ ∧ _ ∧ _ ∧ _ ∧ _ ∧ _ ∧ _ ∧ _ ∧ _ ∧ _ ∧ AllLt _ _).2.2.2.2.2.2.2.2.2.2.2.2.2.2.2.2.2.2.2 | exact (by assumption : _ ∧ _ ∧ _ ∧ _ ∧ _ ∧ _ ∧ _ ∧ _ ∧ _ ∧ _ ∧ _ ∧ _ ∧ _ ∧ _ ∧ _ ∧ _ ∧ _ ∧ _ ∧ _ ∧ _ ∧ AllLt _ _).2.2.2.2.2.2.2.2.2.2.2.2.2.2.2.2.2.2.2.2 | exact (by assumption : _ ∧ _ ∧ _ ∧ _ ∧ _ ∧ _ ∧ _ ∧ _ ∧ _ ∧ _ ∧ _ ∧ _ ∧ _ ∧ _ ∧ _ ∧ _ ∧ _ ∧ _ ∧ _ ∧ _ ∧ _ ∧ AllLt _ _).2.2.2.2.2.2.2.2.2.2.2.2.2.2.2.2.2.2.2.2.2 | exact (by assumption : _ ∧ _ ∧ _ ∧ _ ∧ _ ∧ _ ∧ _ ∧ _ ∧ _ ∧ _ ∧ _ ∧ _ ∧ _ ∧ _ ∧ _ ∧ _ ∧ _ ∧ _ ∧ _ ∧ _ ∧ _ ∧ _ ∧ AllLt _ _).2.2.2.2.2.2.2.2.2.2.2.2.2.2.2.2.2.2.2.2.2.2 | exact (by assumption : _ ∧ _ ∧ _ ∧ _ ∧ _ ∧ _ ∧ _ ∧ _ ∧ _ ∧ _ ∧ _ ∧ _ ∧ _ ∧ _ ∧ _ ∧ _ ∧ _ ∧ _ ∧ _ ∧ _ ∧ _ ∧ _ ∧ _ ∧ AllLt _ _).2.2.2.2.2.2.2.2.2.2.2.2.2.2.2.2.2.2.2.2.2.2.2 | exact (by assumption : _ ∧ _ ∧ _ ∧ _ ∧ _ ∧ _ ∧ _ ∧ _ ∧ _ ∧ _ ∧ _ ∧ _ ∧ _ ∧ _ ∧ _ ∧ _ ∧ _ ∧ _ ∧ _ ∧ _ ∧ _ ∧ _ ∧ _ ∧ _ ∧ AllLt _ _).2.2.2.2.2.2.2.2.2.2.2.2.2.2.2.2.2.2.2.2.2.2.2.2 | exact (by assumption : _ ∧ _ ∧ _ ∧ _ ∧ _ ∧ _ ∧ _ ∧ _ ∧ _ ∧ _ ∧ _ ∧ _ ∧ _ ∧ _ ∧ _ ∧ _ ∧ _ ∧ _ ∧ _ ∧ _ ∧ _ ∧ _ ∧ _ ∧ _ ∧ _ ∧ AllLt _ _).2.2.2.2.2.2.2.2.2.2.2.2.2.2.2.2.2.2.2.2.2.2.2.2.2 | fail "treelt"))
  k_with "k_all" => (first | (assumption) | fail "no")
  k_with "k_mem" => (first | (assumption) | fail "no")
  k_with "news_mem" => (first | (k_mem) | fail "no")
  k_with "subscriptTail" => (first | (k_here; (with_reducible show wpAny _ _ (subscriptTail _ (PySem.Expr.Call _ _ _ _) (Value.ref _) (Value.int _ _)) _ _ _); k_dflt (refine' pick_list ?q927db6b8N ?q927db6b8l ?q927db6b8a ?q927db6b8b ?q927db6b8z ?_ ?q927db6b8s; (case q927db6b8N => k_asm); (case q927db6b8l => k_mem); (case q927db6b8a => omega); (case q927db6b8b => (simp only [List.length_cons, List.length_nil]; omega)); (case q927db6b8z => (simp only [List.length_cons, List.length_nil]; omega)); (case q927db6b8s => with_unfolding_all rfl)); intro _ _; (try k_sweep)) | fail "no")
  k_with "k_all" => (first | (refine fun p9 hp9 => Nat.ne_of_lt (Nat.lt_of_lt_of_le ((by assumption : ∀ p ∈ _, p.1 < _) p9 hp9) ?_); omega) | fail "no")
  k_with "k_all" => (first | (assumption) | fail "no")
  k_with "call ref" => (first | (k_here; (with_reducible show wpAny _ _ (call (Value.ref 408) [Value.ref _, Value.int _ _] _) _ _ _); k_dflt (refine' draught ?q9e182cdB ?q9e182cdF ?q9e182cdX ?q9e182cdT ?q9e182cdhk ?q9e182cdN ?q9e182cdhdp ?q9e182cdhun ?q9e182cdhU ?q9e182cdhD ?q9e182cdhDm ?q9e182cdhI ?q9e182cdhlen ?q9e182cdhka ?q9e182cdhkb ?q9e182cdhkc ?q9e182cdhkd ?q9e182cdhke ?_; (case q9e182cdhk => first | exact rfl | assumption); (case q9e182cdB => k_asm); (case q9e182cdF => k_asm); (case q9e182cdX => k_asm); (case q9e182cdT => k_asm); (case q9e182cdN => k_asm); (case q9e182cdhdp => ((simp only [depth_under_make, depth_under_kw, depth_in1, depth_deeper, depth_caller]); first | decide | ((try dsimp only [ktrTop]); omega))); (case q9e182cdhun => ((simp only [units_in1, units_deeper, Around.mark_units, units_caller]); first | decide | ((try dsimp only [ktrTop]); omega))); (case q9e182cdhU => k_updF); (case q9e182cdhke => k_asm); (case q9e182cdhD => k_mem); (case q9e182cdhDm => first | assumption | k_ne); (case q9e182cdhI => assumption); (case q9e182cdhlen => first | assumption | omega); (case q9e182cdhka => omega); (case q9e182cdhkb => omega); (case q9e182cdhkc => omega); (case q9e182cdhkd => omega)); walk_at "tl6c326b"; (try k_sweep)) | fail "no")
  trivial
theorem tree0 {w : World} {dp un : Nat} {gd : Option (List Code)} {cn : Str} {cs : Scope} {a : Addr} {ccd : Value} {cl : List (Str × Addr)} {outer : List Env} {A₀ : Around} {base h₀ : Heap} {L : Addr} {m : Str → Option Value} {s : Shared} {Q E : Value → Shared → Prop} {mean : ExcName → Option Value} {mg mb : Str → Option Value} {rest : List (Addr × Obj)} {mug D : Addr} {om : Obj} {ws : List Value} {ns : List Int} {k many : Int} {tn tk : Tok}
    (B : Below A₀ base outer h₀) (F : Fr h₀ L s.heap m) (X : (seat.heap_1 w.params).In h₀) (T : Top topProg ((looseW seat.view_1 [Str.ofString "counted_elements_iops", Str.ofString "counted_elements_plainio"]) ++ List.map (fun x => x.name) (recsOf seat.view_1) ++ List.map (fun x => x.fst) (litsOf seat.view_1) ++ List.map (fun x => x.name) (clssOf seat.view_1 (looseW seat.view_1 [Str.ofString "counted_elements_iops", Str.ofString "counted_elements_plainio"]))) mean mg mb h₀) (hkf : cs.kind = .function) (N : News h₀ L s.heap ((mug, om) :: rest)) (hdp : dp + 120 < recursionLimit) (hun : un + 1200 < cLine)
    (hD : (D, W.listOf ws.toArray 0) ∈ rest) (hne : ∀ p ∈ rest, p.1 ≠ mug) (hDm : D ≠ mug) (hI : IntsAre ws ns) (hlen : ns.length ≤ 40) (hk : 0 ≤ k) (hk' : k < 90) (hn : 1 ≤ many) (hn' : many ≤ 3)
    (hd' : om.IsDictOf (strKind PySem.Challenge.rw_rh0120_01.row.prog w) [(Str.ofString "cells", .ref D), (Str.ofString "at", .int k tk)])
    (ret : ∀ kd tr ex k' t' om' h' tk', KdOk many kd → k ≤ k' → k' ≤ k + 3 → om'.IsDictOf (strKind PySem.Challenge.rw_rh0120_01.row.prog w) [(Str.ofString "cells", .ref D), (Str.ofString "at", .int k' t')] → Fr h₀ L h' m → News h₀ L h' (ex ++ (mug, om') :: rest) → (∀ p ∈ ex, mug < p.1 ∧ ∀ q ∈ rest, q.1 < p.1) → TreeAt ex tr kd → Q (.ref tr) { s with heap := h', toks := tk' }) :
    wpAny (model PySem.Challenge.rw_rh0120_01.row.prog w) (ktrTop dp un gd cn cs L a ccd cl outer) (call (.ref 415) [.ref mug, .int many tn]) Q E s := by
  (revert X; k_fill; intro X)
  (refine wpAny_call ?_; k_dflt ktr_enter)
  k_steps
  · rename News h₀ _ _ _ => kN
    exact ret (.elem _) _ [_, _, _] (k + 1 + 1) _ _ _ _ ⟨by omega, by omega⟩ (by omega) (by omega) (by assumption) (by assumption) kN (by intro p hp; simp only [List.mem_cons, List.not_mem_nil, or_false] at hp; rcases hp with rfl | rfl | rfl <;> (refine ⟨?_, ?_⟩; (dsimp only; (with_reducible first | exact (by assumption : _ < _ ∧ AllLt _ _).1 | exact (by assumption : _ ∧ _ < _ ∧ AllLt _ _).2.1 | exact (by assumption : _ ∧ _ ∧ _ < _ ∧ AllLt _ _).2.2.1 | exact (by assumption : _ ∧ _ ∧ _ ∧ _ < _ ∧ AllLt _ _).2.2.2.1 | exact (by assumption : _ ∧ _ ∧ _ ∧ _ ∧ _ < _ ∧ AllLt _ _).2.2.2.2.1 | exact (by assumption : _ ∧ _ ∧ _ ∧ _ ∧ _ ∧ _ < _ ∧ AllLt _ _).2.2.2.2.2.1)); (apply allLt_mem; (k_extra "treelt")))) ⟨_, _, _, _, _, _, _, _, _, List.mem_cons_self, List.mem_cons_of_mem _ List.mem_cons_self, List.mem_cons_of_mem _ (List.mem_cons_of_mem _ List.mem_cons_self)⟩
  · rename News h₀ _ _ _ => kN
    exact ret .var _ [_] (k + 1) _ _ _ _ trivial (by omega) (by omega) (by assumption) (by assumption) kN (by intro p hp; simp only [List.mem_cons, List.not_mem_nil, or_false] at hp; rcases hp with rfl <;> (refine ⟨?_, ?_⟩; (dsimp only; (with_reducible first | exact (by assumption : _ < _ ∧ AllLt _ _).1 | exact (by assumption : _ ∧ _ < _ ∧ AllLt _ _).2.1 | exact (by assumption : _ ∧ _ ∧ _ < _ ∧ AllLt _ _).2.2.1 | exact (by assumption : _ ∧ _ ∧ _ ∧ _ < _ ∧ AllLt _ _).2.2.2.1 | exact (by assumption : _ ∧ _ ∧ _ ∧ _ ∧ _ < _ ∧ AllLt _ _).2.2.2.2.1 | exact (by assumption : _ ∧ _ ∧ _ ∧ _ ∧ _ ∧ _ < _ ∧ AllLt _ _).2.2.2.2.2.1)); (apply allLt_mem; (k_extra "treelt")))) ⟨_, _, _, List.mem_cons_self⟩
  · rename News h₀ _ _ _ => kN
    exact ret (.sub _ _) _ [_, _, _, _, _] (k + 1 + 1 + 1) _ _ _ _ ⟨by omega, by omega, by omega, by omega⟩ (by omega) (by omega) (by assumption) (by assumption) kN (by intro p hp; simp only [List.mem_cons, List.not_mem_nil, or_false] at hp; rcases hp with rfl | rfl | rfl | rfl | rfl <;> (refine ⟨?_, ?_⟩; (dsimp only; (with_reducible first | exact (by assumption : _ < _ ∧ AllLt _ _).1 | exact (by assumption : _ ∧ _ < _ ∧ AllLt _ _).2.1 | exact (by assumption : _ ∧ _ ∧ _ < _ ∧ AllLt _ _).2.2.1 | exact (by assumption : _ ∧ _ ∧ _ ∧ _ < _ ∧ AllLt _ _).2.2.2.1 | exact (by assumption : _ ∧ _ ∧ _ ∧ _ ∧ _ < _ ∧ AllLt _ _).2.2.2.2.1 | exact (by assumption : _ ∧ _ ∧ _ ∧ _ ∧ _ ∧ _ < _ ∧ AllLt _ _).2.2.2.2.2.1)); (apply allLt_mem; (k_extra "treelt")))) ⟨_, _, _, _, _, _, _, _, _, _, _, _, _, _, List.mem_cons_self, List.mem_cons_of_mem _ List.mem_cons_self, List.mem_cons_of_mem _ (List.mem_cons_of_mem _ (List.mem_cons_of_mem _ (List.mem_cons_of_mem _ List.mem_cons_self))), List.mem_cons_of_mem _ (List.mem_cons_of_mem _ (List.mem_cons_of_mem _ List.mem_cons_self))⟩
  · rename News h₀ _ _ _ => kN
    rename (_ ∈ [Value.str _ _, _, _, _]) => hx
    simp only [List.mem_cons, List.not_mem_nil, or_false] at hx
    rcases hx with rfl | rfl | rfl | rfl
    · exact ret (.cst _) _ [_, _] (k + 1 + 1) _ _ _ _ (.inl rfl) (by omega) (by omega) (by assumption) (by assumption) kN (by intro p hp; simp only [List.mem_cons, List.not_mem_nil, or_false] at hp; rcases hp with rfl | rfl <;> (refine ⟨?_, ?_⟩; (dsimp only; (with_reducible first | exact (by assumption : _ < _ ∧ AllLt _ _).1 | exact (by assumption : _ ∧ _ < _ ∧ AllLt _ _).2.1 | exact (by assumption : _ ∧ _ ∧ _ < _ ∧ AllLt _ _).2.2.1 | exact (by assumption : _ ∧ _ ∧ _ ∧ _ < _ ∧ AllLt _ _).2.2.2.1 | exact (by assumption : _ ∧ _ ∧ _ ∧ _ ∧ _ < _ ∧ AllLt _ _).2.2.2.2.1 | exact (by assumption : _ ∧ _ ∧ _ ∧ _ ∧ _ ∧ _ < _ ∧ AllLt _ _).2.2.2.2.2.1)); (apply allLt_mem; (k_extra "treelt")))) ⟨_, _, _, List.mem_cons_self⟩
    · exact ret (.cst _) _ [_, _] (k + 1 + 1) _ _ _ _ (.inr (.inl rfl)) (by omega) (by omega) (by assumption) (by assumption) kN (by intro p hp; simp only [List.mem_cons, List.not_mem_nil, or_false] at hp; rcases hp with rfl | rfl <;> (refine ⟨?_, ?_⟩; (dsimp only; (with_reducible first | exact (by assumption : _ < _ ∧ AllLt _ _).1 | exact (by assumption : _ ∧ _ < _ ∧ AllLt _ _).2.1 | exact (by assumption : _ ∧ _ ∧ _ < _ ∧ AllLt _ _).2.2.1 | exact (by assumption : _ ∧ _ ∧ _ ∧ _ < _ ∧ AllLt _ _).2.2.2.1 | exact (by assumption : _ ∧ _ ∧ _ ∧ _ ∧ _ < _ ∧ AllLt _ _).2.2.2.2.1 | exact (by assumption : _ ∧ _ ∧ _ ∧ _ ∧ _ ∧ _ < _ ∧ AllLt _ _).2.2.2.2.2.1)); (apply allLt_mem; (k_extra "treelt")))) ⟨_, _, _, List.mem_cons_self⟩
    · exact ret (.cst _) _ [_, _] (k + 1 + 1) _ _ _ _ (.inr (.inr (.inl rfl))) (by omega) (by omega) (by assumption) (by assumption) kN (by intro p hp; simp only [List.mem_cons, List.not_mem_nil, or_false] at hp; rcases hp with rfl | rfl <;> (refine ⟨?_, ?_⟩; (dsimp only; (with_reducible first | exact (by assumption : _ < _ ∧ AllLt _ _).1 | exact (by assumption : _ ∧ _ < _ ∧ AllLt _ _).2.1 | exact (by assumption : _ ∧ _ ∧ _ < _ ∧ AllLt _ _).2.2.1 | exact (by assumption : _ ∧ _ ∧ _ ∧ _ < _ ∧ AllLt _ _).2.2.2.1 | exact (by assumption : _ ∧ _ ∧ _ ∧ _ ∧ _ < _ ∧ AllLt _ _).2.2.2.2.1 | exact (by assumption : _ ∧ _ ∧ _ ∧ _ ∧ _ ∧ _ < _ ∧ AllLt _ _).2.2.2.2.2.1)); (apply allLt_mem; (k_extra "treelt")))) ⟨_, _, _, List.mem_cons_self⟩
    · exact ret (.cst _) _ [_, _] (k + 1 + 1) _ _ _ _ (.inr (.inr (.inr rfl))) (by omega) (by omega) (by assumption) (by assumption) kN (by intro p hp; simp only [List.mem_cons, List.not_mem_nil, or_false] at hp; rcases hp with rfl | rfl <;> (refine ⟨?_, ?_⟩; (dsimp only; (with_reducible first | exact (by assumption : _ < _ ∧ AllLt _ _).1 | exact (by assumption : _ ∧ _ < _ ∧ AllLt _ _).2.1 | exact (by assumption : _ ∧ _ ∧ _ < _ ∧ AllLt _ _).2.2.1 | exact (by assumption : _ ∧ _ ∧ _ ∧ _ < _ ∧ AllLt _ _).2.2.2.1 | exact (by assumption : _ ∧ _ ∧ _ ∧ _ ∧ _ < _ ∧ AllLt _ _).2.2.2.2.1 | exact (by assumption : _ ∧ _ ∧ _ ∧ _ ∧ _ ∧ _ < _ ∧ AllLt _ _).2.2.2.2.2.1)); (apply allLt_mem; (k_extra "treelt")))) ⟨_, _, _, List.mem_cons_self⟩
  · rename News h₀ _ _ _ => kN
    exact ret .arr _ [_] (k + 1) _ _ _ _ trivial (by omega) (by omega) (by assumption) (by assumption) kN (by intro p hp; simp only [List.mem_cons, List.not_mem_nil, or_false] at hp; rcases hp with rfl <;> (refine ⟨?_, ?_⟩; (dsimp only; (with_reducible first | exact (by assumption : _ < _ ∧ AllLt _ _).1 | exact (by assumption : _ ∧ _ < _ ∧ AllLt _ _).2.1 | exact (by assumption : _ ∧ _ ∧ _ < _ ∧ AllLt _ _).2.2.1 | exact (by assumption : _ ∧ _ ∧ _ ∧ _ < _ ∧ AllLt _ _).2.2.2.1 | exact (by assumption : _ ∧ _ ∧ _ ∧ _ ∧ _ < _ ∧ AllLt _ _).2.2.2.2.1 | exact (by assumption : _ ∧ _ ∧ _ ∧ _ ∧ _ ∧ _ < _ ∧ AllLt _ _).2.2.2.2.2.1)); (apply allLt_mem; (k_extra "treelt")))) ⟨_, _, _, List.mem_cons_self⟩
end
theorem reg_Tree_3 : True := by
  w_top off
  k_with_none
  k_with "pj" => (first | exact Mine.c0 h9 | exact Mine.c1 h9 | exact Mine.e1 h9 | exact Mine.c2 h9 | exact Mine.e2 h9 | exact Mine.c3 h9 | exact Mine.e3 h9 | exact Mine.c4 h9 | exact Mine.e4 h9 | exact Mine.c5 h9 | exact Mine.e5 h9 | exact Mine.c6 h9 | exact Mine.e6 h9 | exact Mine.c7 h9 | exact Mine.e7 h9 | exact Mine.c8 h9 | exact Mine.e8 h9 | exact Mine.c9 h9 | exact Mine.e9 h9 | exact Mine.c10 h9 | exact Mine.e10 h9 | exact Mine.c11 h9 | exact Mine.e11 h9 | exact Mine.c12 h9 | exact Mine.e12 h9 | exact Mine.c13 h9 | exact Mine.e13 h9 | exact Mine.c14 h9 | exact Mine.e14 h9 | exact Mine.c15 h9 | exact Mine.e15 h9 | exact Mine.c16 h9 | exact Mine.e16 h9 | exact Mine.c17 h9 | exact Mine.e17 h9 | exact Mine.c18 h9 | exact Mine.e18 h9 | exact Mine.c19 h9 | exact Mine.e19 h9 | exact Mine.c20 h9 | exact Mine.e20 h9 | fail "pj")
  k_with "pj1" => (first | exact Mine.c0 (Mine.c0 h9) | exact Mine.c0 (Mine.c1 h9) | exact Mine.c0 (Mine.c2 h9) | exact Mine.c0 (Mine.c3 h9) | exact Mine.c0 (Mine.c4 h9) | exact Mine.c0 (Mine.c5 h9) | exact Mine.c0 (Mine.c6 h9) | exact Mine.c0 (Mine.c7 h9) | exact Mine.c0 (Mine.c8 h9) | exact Mine.c0 (Mine.c9 h9) | exact Mine.c0 (Mine.c10 h9) | exact Mine.c0 (Mine.c11 h9) | exact Mine.c0 (Mine.c12 h9) | exact Mine.c0 (Mine.c13 h9) | exact Mine.c0 (Mine.c14 h9) | exact Mine.c0 (Mine.c15 h9) | exact Mine.c0 (Mine.c16 h9) | exact Mine.c0 (Mine.c17 h9) | exact Mine.c0 (Mine.c18 h9) | exact Mine.c0 (Mine.c19 h9) | exact Mine.c0 (Mine.c20 h9) | fail "pj1")
  k_with "pj2" => (first | exact Mine.c1 (Mine.c0 h9) | exact Mine.c1 (Mine.c1 h9) | exact Mine.c1 (Mine.c2 h9) | exact Mine.c1 (Mine.c3 h9) | exact Mine.c1 (Mine.c4 h9) | exact Mine.c1 (Mine.c5 h9) | exact Mine.c1 (Mine.c6 h9) | exact Mine.c1 (Mine.c7 h9) | exact Mine.c1 (Mine.c8 h9) | exact Mine.c1 (Mine.c9 h9) | exact Mine.c1 (Mine.c10 h9) | exact Mine.c1 (Mine.c11 h9) | exact Mine.c1 (Mine.c12 h9) | exact Mine.c1 (Mine.c13 h9) | exact Mine.c1 (Mine.c14 h9) | exact Mine.c1 (Mine.c15 h9) | exact Mine.c1 (Mine.c16 h9) | exact Mine.c1 (Mine.c17 h9) | exact Mine.c1 (Mine.c18 h9) | exact Mine.c1 (Mine.c19 h9) | exact Mine.c1 (Mine.c20 h9) | fail "pj2")
  k_with "pj3" => (first | exact Mine.e2 (Mine.c0 h9) | exact Mine.e2 (Mine.c1 h9) | exact Mine.e2 (Mine.c2 h9) | exact Mine.e2 (Mine.c3 h9) | exact Mine.e2 (Mine.c4 h9) | exact Mine.e2 (Mine.c5 h9) | exact Mine.e2 (Mine.c6 h9) | exact Mine.e2 (Mine.c7 h9) | exact Mine.e2 (Mine.c8 h9) | exact Mine.e2 (Mine.c9 h9) | exact Mine.e2 (Mine.c10 h9) | exact Mine.e2 (Mine.c11 h9) | exact Mine.e2 (Mine.c12 h9) | exact Mine.e2 (Mine.c13 h9) | exact Mine.e2 (Mine.c14 h9) | exact Mine.e2 (Mine.c15 h9) | exact Mine.e2 (Mine.c16 h9) | exact Mine.e2 (Mine.c17 h9) | exact Mine.e2 (Mine.c18 h9) | exact Mine.e2 (Mine.c19 h9) | exact Mine.e2 (Mine.c20 h9) | fail "pj3")
  k_with "omega" => (first | exact Nat.le_refl _ | decide | with_reducible (first | exact Mine.lim0 (by assumption) | exact Mine.lim1 (by assumption) (by with_unfolding_all rfl) | exact Mine.lim2 (by assumption) (by with_unfolding_all rfl) | exact Mine.lim3 (by assumption) (by with_unfolding_all rfl) | exact Mine.lim8 (by assumption) (by assumption) (by with_unfolding_all rfl) | exact Mine.lim9 (by assumption) (by assumption) (by with_unfolding_all rfl) | exact Mine.lim10 (by assumption) (by assumption) (by with_unfolding_all rfl) | exact Mine.i1 (by assumption) | exact Mine.i2 (by assumption) | exact Mine.i3 (by assumption) | exact Mine.i4 (by assumption) (by with_unfolding_all rfl) | exact Mine.i5 (by assumption) | exact Mine.i6 (by assumption) (by assumption) | exact Mine.i7 (by assumption) (by assumption) | exact Mine.i8 (by assumption) (by assumption) | exact List.length_take_le _ _ | fail "l") | (refine Mine.toNe ?_; with_reducible (first | exact Nat.ne_of_lt (by ((repeat (first | assumption | exact Mine.ltp0 | refine Mine.ltp ?_)); (first | done | fail "c"))) | exact Nat.ne_of_gt (by ((repeat (first | assumption | exact Mine.ltp0 | refine Mine.ltp ?_)); (first | done | fail "c"))) | (refine Nat.ne_of_lt (Mine.viaL (by assumption) ?_); intro h9; k_extra "pj") | (refine Nat.ne_of_gt (Mine.viaL (by assumption) ?_); intro h9; k_extra "pj") | (refine Nat.ne_of_lt (Mine.viaM (by assumption) ?_); intro h9; k_extra "pj") | (refine Nat.ne_of_gt (Mine.viaM (by assumption) ?_); intro h9; k_extra "pj") | assumption | exact Ne.symm (by assumption) | (refine Mine.viaN (by assumption) ?_; intro h9; k_extra "pj") | (refine Ne.symm (Mine.viaN (by assumption) ?_); intro h9; k_extra "pj") | (refine Mine.viaN1 (by assumption) ?_; intro h9; k_extra "pj1") | (refine Ne.symm (Mine.viaN1 (by assumption) ?_); intro h9; k_extra "pj1") | (refine Mine.viaN2 (by assumption) ?_; intro h9; k_extra "pj2") | (refine Ne.symm (Mine.viaN2 (by assumption) ?_); intro h9; k_extra "pj2") | (refine Mine.viaN3 (by assumption) ?_; intro h9; k_extra "pj3") | (refine Ne.symm (Mine.viaN3 (by assumption) ?_); intro h9; k_extra "pj3") | fail "n")) | fail "o")
  k_with "treelt" => ((with_reducible first | assumption | exact (by assumption : _ ∧ AllLt _ _).2 | exact (by assumption : _ ∧ _ ∧ AllLt _ _).2.2 | exact (by assumption : _ ∧ _ ∧ _ ∧ AllLt _ _).2.2.2 | exact (by assumption : _ ∧ _ ∧ _ ∧ _ ∧ AllLt _ _).2.2.2.2 | exact (by assumption : _ ∧ _ ∧ _ ∧ _ ∧ _ ∧ AllLt _ _).2.2.2.2.2 | exact (by assumption : _ ∧ _ ∧ _ ∧ _ ∧ _ ∧ _ ∧ AllLt _ _).2.2.2.2.2.2 | exact (by assumption : _ ∧ _ ∧ _ ∧ _ ∧ _ ∧ _ ∧ _ ∧ AllLt _ _).2.2.2.2.2.2.2 | exact (by assumption : _ ∧ _ ∧ _ ∧ _ ∧ _ ∧ _ ∧ _ ∧ _ ∧ AllLt _ _).2.2.2.2.2.2.2.2 | exact (by assumption : _ ∧ _ ∧ _ ∧ _ ∧ _ ∧ _ ∧ _ ∧ _ ∧ _ ∧ AllLt _ _).2.2.2.2.2.2.2.2.2 | exact (by assumption : _ ∧ _ ∧ _ ∧ _ ∧ _ ∧ _ ∧ _ ∧ _ ∧ _ ∧ _ ∧ AllLt _ _).2.2.2.2.2.2.2.2.2.2 | exact (by assumption : _ ∧ _ ∧ _ ∧ _ ∧ _ ∧ _ ∧ _ ∧ _ ∧ _ ∧ _ ∧ _ ∧ AllLt _ _).2.2.2.2.2.2.2.2.2.2.2 | exact (by assumption : _ ∧ _ ∧ _ ∧ _ ∧ _ ∧ _ ∧ _ ∧ _ ∧ _ ∧ _ ∧ _ ∧ _ ∧ AllLt _ _).2.2.2.2.2.2.2.2.2.2.2.2 | exact (by assumption : _ ∧ _ ∧ _ ∧ _ ∧ _ ∧ _ ∧ _ ∧ _ ∧ _ ∧ _ ∧ _ ∧ _ ∧ _ ∧ AllLt _ _).2.2.2.2.2.2.2.2.2.2.2.2.2 | exact (by assumption : _ ∧ _ ∧ _ ∧ _ ∧ _ ∧ _ ∧ _ ∧ _ ∧ _ ∧ _ ∧ _ ∧ _ ∧ _ ∧ _ ∧ AllLt _ _).2.2.2.2.2.2.2.2.2.2.2.2.2.2 | exact (by assumption : _ ∧ _ ∧ _ ∧ _ ∧ _ ∧ _ ∧ _ ∧ _ ∧ _ ∧ _ ∧ _ ∧ _ ∧ _ ∧ _ ∧ _ ∧ AllLt _ _).2.2.2.2.2.2.2.2.2.2.2.2.2.2.2 | exact (by assumption : _ ∧ _ ∧ _ ∧ _ ∧ _ ∧ _ ∧ _ ∧ _ ∧ _ ∧ _ ∧ _ ∧ _ ∧ _ ∧ _ ∧ _ ∧ _ ∧ AllLt _ _).2.2.2.2.2.2.2.2.2.2.2.2.2.2.2.2 | exact (by assumption : _ ∧ _ ∧ _ ∧ _ ∧ _ ∧ _ ∧ _ ∧ _ ∧ _ ∧ _ ∧ _ ∧ _ ∧ _ ∧ _ ∧ _ ∧ _ ∧ _ ∧ AllLt _ _).2.2.2.2.2.2.2.2.2.2.2.2.2.2.2.2.2 | exact (by assumption : _ ∧ _ ∧ _ ∧ _ ∧ _ ∧ _ ∧ _ ∧ _ ∧ _ ∧ _ ∧ _ ∧ _ ∧ _ ∧ _ ∧ _ ∧ _ ∧ _ ∧ _ ∧ AllLt _ _).2.2.2.2.2.2.2.2.2.2.2.2.2.2.2.2.2.2 | exact (by assumption : _ ∧ _ ∧ _ ∧ _ ∧ _ ∧ _ ∧ _ ∧ _ ∧ _ ∧ _ ∧ _ ∧ _ ∧ _ ∧ _ ∧ _ ∧ _ ∧ _ ∧ _ ∧ _ ∧ AllLt _ _).2.2.2.2.2.2.2.2.2.2.2.2.2.2.2.2.2.2.2 | exact (by assumption : _ ∧ _ ∧ _ ∧ _ ∧ _ ∧ _ ∧ _ ∧ _ ∧ _ ∧ _ ∧ _ ∧ _ ∧ _ ∧ _ ∧ _ ∧ _ ∧ _ ∧ _ ∧ _ ∧ _ ∧ AllLt _ _).2.2.2.2.2.2.2.2.2.2.2.2.2.2.2.2.2.2.2.2 | exact (by assumption : _ ∧ _ ∧ _ ∧ _ ∧ _ ∧ _ ∧ _ ∧ _ ∧ _ ∧ _ ∧ _ ∧ _ ∧ _ ∧ _ ∧ _ ∧ _ ∧ _ ∧ _ ∧ _ ∧ _ ∧ _ ∧ AllLt _ _).2.2.2.2.2.2.2.2.2.2.2.2.2.2.2.2.2.2.2.2.2 | exact (by assumption : _ ∧ _ ∧ _ ∧ _ ∧ _ ∧ _ ∧ _ ∧ _ ∧ _ ∧ _ ∧ _ ∧ _ ∧ _ ∧ _ ∧ _ ∧ _ ∧ _ ∧ _ ∧ _ ∧ _ ∧ _ ∧ _ ∧ AllLt _ _).2.2.2.2.2.2.2.2.2.2.2.2.2.2.2.2.2.2.2.2.2.2 | exact (by assumption : _ ∧ _ ∧ _ ∧ _ ∧ _ ∧ _ ∧ _ ∧ _ ∧ _ ∧ _ ∧ _ ∧ _ ∧ _ ∧ _ ∧ _ ∧ _ ∧ _ ∧ _ ∧ _ ∧ _ ∧ _ ∧ _ ∧ _ ∧ AllLt _ _).2.2.2.2.2.2.2.2.2.2.2.2.2.2.2.2.2.2.2.2.2.2.2 | exact (by assumption : _ ∧ _ ∧ _ ∧ _ ∧ _ ∧ _ ∧ _ ∧ _ ∧ _ ∧ _ ∧ _ ∧ _ ∧ _ ∧ _ ∧ _ ∧ _ ∧ _ ∧ _ ∧ _ ∧ _ ∧ _ ∧ _ ∧ _ ∧ _ ∧ AllLt _ _).2.2.2.2.2.2.2.2.2.2.2.2.2.2.2.2.2.2.2.2.2.2.2.2 | exact (by assumption : _ ∧ _ ∧ _ ∧ _ ∧ _ ∧ _ ∧ _ ∧ _ ∧ _ ∧ _ ∧ _ ∧ _ ∧ _ ∧ _ ∧ _ ∧ _ ∧ _ ∧ _ ∧ _ ∧ _ ∧ _ ∧ _ ∧ _ ∧ _ ∧ _ ∧ AllLt _ _).2.2.2.2.2.2.2.2.2.2.2.2.2.2.2.2.2.2.2.2.2.2.2.2.2 | fail "treelt"))
  trivial
theorem ne_tail {ex nw : List (Addr × Obj)} {a : Addr} (h : ∀ p ∈ ex, ∀ q ∈ nw, q.1 < p.1) (ha : a ∈ nw.map (·.1)) : ∀ p ∈ ex, p.1 ≠ a := fun p hp => by
  obtain ⟨q, hq, rfl⟩ := List.mem_map.mp ha
  exact Nat.ne_of_gt (h p hp q hq)
theorem tree_c {w : World} {dp un : Nat} {gd : Option (List Code)} {cn : Str} {cs : Scope} {a : Addr} {ccd : Value} {cl : List (Str × Addr)} {outer : List Env} {A₀ : Around} {base h₀ : Heap} {L : Addr} {m : Str → Option Value} {s : Shared} {Q E : Value → Shared → Prop} {mean : ExcName → Option Value} {mg mb : Str → Option Value} {news : List (Addr × Obj)} {g : Obj → List (Addr × Obj)} {mug D : Addr} {om : Obj} {ws : List Value} {ns : List Int} {k many : Int} {tn tk : Tok}
    (B : Below A₀ base outer h₀) (F : Fr h₀ L s.heap m) (X : (seat.heap_1 w.params).In h₀) (T : Top topProg ((looseW seat.view_1 [Str.ofString "counted_elements_iops", Str.ofString "counted_elements_plainio"]) ++ List.map (fun x => x.name) (recsOf seat.view_1) ++ List.map (fun x => x.fst) (litsOf seat.view_1) ++ List.map (fun x => x.name) (clssOf seat.view_1 (looseW seat.view_1 [Str.ofString "counted_elements_iops", Str.ofString "counted_elements_plainio"]))) mean mg mb h₀) (hkf : cs.kind = .function) (N : News h₀ L s.heap news) (hdp : dp + 120 < recursionLimit) (hun : un + 1200 < cLine)
    (U : UpdF mug om news g) (hD : (D, W.listOf ws.toArray 0) ∈ news) (hDm : D ≠ mug) (hI : IntsAre ws ns) (hlen : ns.length ≤ 40) (hk : 0 ≤ k) (hk' : k < 90) (hn : 1 ≤ many) (hn' : many ≤ 3)
    (hd' : om.IsDictOf (strKind PySem.Challenge.rw_rh0120_01.row.prog w) [(Str.ofString "cells", .ref D), (Str.ofString "at", .int k tk)])
    (ret : ∀ kd tr ex k' t' om' h' tk', KdOk many kd → k ≤ k' → k' ≤ k + 3 → om'.IsDictOf (strKind PySem.Challenge.rw_rh0120_01.row.prog w) [(Str.ofString "cells", .ref D), (Str.ofString "at", .int k' t')] → Fr h₀ L h' m → News h₀ L h' (g om' ++ ex) → (∀ p ∈ ex, ∀ q ∈ news, q.1 < p.1) → TreeAt ex tr kd → Q (.ref tr) { s with heap := h', toks := tk' }) :
    wpAny (model PySem.Challenge.rw_rh0120_01.row.prog w) (ktrTop dp un gd cn cs L a ccd cl outer) (call (.ref 415) [.ref mug, .int many tn]) Q E s := by
  obtain ⟨pre, post, rfl, hg, h1, h2⟩ := U.split
  have hD' : (D, W.listOf ws.toArray 0) ∈ pre ++ post := by
    rcases List.mem_append.mp hD with q | q
    · exact List.mem_append_left _ q
    · rcases List.mem_cons.mp q with q | q
      · exact absurd (Prod.mk.inj q).1 hDm
      · exact List.mem_append_right _ q
  refine tree0 (rest := pre ++ post) B F X T hkf (fun p hp => N p ?_) hdp hun hD' (fun p hp => (List.mem_append.mp hp).elim (h1 p) (h2 p)) hDm hI hlen hk hk' hn hn' hd' (fun kd tr ex k' t' om' h' tk' a b c d F' N' hlt hT => ret kd tr ex k' t' om' h' tk' a b c d F' (fun p hp => N' p ?_) (fun p hp q hq => ?_) hT)
  · rcases List.mem_cons.mp hp with rfl | hp
    · exact List.mem_append_right _ List.mem_cons_self
    · exact (List.mem_append.mp hp).elim (List.mem_append_left _) fun q => List.mem_append_right _ (List.mem_cons_of_mem _ q)
  · rw [hg] at hp
    rcases List.mem_append.mp hp with q | q
    · rcases List.mem_append.mp q with q | q
      · exact List.mem_append_right _ (List.mem_cons_of_mem _ (List.mem_append_left _ q))
      · rcases List.mem_cons.mp q with rfl | q
        · exact List.mem_append_right _ List.mem_cons_self
        · exact List.mem_append_right _ (List.mem_cons_of_mem _ (List.mem_append_right _ q))
    · exact List.mem_append_left _ q
  · rcases List.mem_append.mp hq with q1 | q1
    · exact (hlt p hp).2 q (List.mem_append_left _ q1)
    · rcases List.mem_cons.mp q1 with rfl | q1
      · exact (hlt p hp).1
      · exact (hlt p hp).2 q (List.mem_append_right _ q1)
end
section
section
variable {prog : Program} {w : World} {A : Around} {E : Value → Shared → Prop} {s : Shared} {h₀ : Heap} {L D : Addr} {m : Str → Option Value} {news news' : List (Addr × Obj)} {n : Nat}
theorem reg_Pop_1 : True := by
  w_top off
  k_with_none
  k_with "pj" => (first | exact Mine.c0 h9 | exact Mine.c1 h9 | exact Mine.e1 h9 | exact Mine.c2 h9 | exact Mine.e2 h9 | exact Mine.c3 h9 | exact Mine.e3 h9 | exact Mine.c4 h9 | exact Mine.e4 h9 | exact Mine.c5 h9 | exact Mine.e5 h9 | exact Mine.c6 h9 | exact Mine.e6 h9 | exact Mine.c7 h9 | exact Mine.e7 h9 | exact Mine.c8 h9 | exact Mine.e8 h9 | exact Mine.c9 h9 | exact Mine.e9 h9 | exact Mine.c10 h9 | exact Mine.e10 h9 | exact Mine.c11 h9 | exact Mine.e11 h9 | exact Mine.c12 h9 | exact Mine.e12 h9 | exact Mine.c13 h9 | exact Mine.e13 h9 | exact Mine.c14 h9 | exact Mine.e14 h9 | exact Mine.c15 h9 | exact Mine.e15 h9 | exact Mine.c16 h9 | exact Mine.e16 h9 | exact Mine.c17 h9 | exact Mine.e17 h9 | exact Mine.c18 h9 | exact Mine.e18 h9 | exact Mine.c19 h9 | exact Mine.e19 h9 | exact Mine.c20 h9 | exact Mine.e20 h9 | fail "pj")
  k_with "pj1" => (first | exact Mine.c0 (Mine.c0 h9) | exact Mine.c0 (Mine.c1 h9) | exact Mine.c0 (Mine.c2 h9) | exact Mine.c0 (Mine.c3 h9) | exact Mine.c0 (Mine.c4 h9) | exact Mine.c0 (Mine.c5 h9) | exact Mine.c0 (Mine.c6 h9) | exact Mine.c0 (Mine.c7 h9) | exact Mine.c0 (Mine.c8 h9) | exact Mine.c0 (Mine.c9 h9) | exact Mine.c0 (Mine.c10 h9) | exact Mine.c0 (Mine.c11 h9) | exact Mine.c0 (Mine.c12 h9) | exact Mine.c0 (Mine.c13 h9) | exact Mine.c0 (Mine.c14 h9) | exact Mine.c0 (Mine.c15 h9) | exact Mine.c0 (Mine.c16 h9) | exact Mine.c0 (Mine.c17 h9) | exact Mine.c0 (Mine.c18 h9) | exact Mine.c0 (Mine.c19 h9) | exact Mine.c0 (Mine.c20 h9) | fail "pj1")
  k_with "pj2" => (first | exact Mine.c1 (Mine.c0 h9) | exact Mine.c1 (Mine.c1 h9) | exact Mine.c1 (Mine.c2 h9) | exact Mine.c1 (Mine.c3 h9) | exact Mine.c1 (Mine.c4 h9) | exact Mine.c1 (Mine.c5 h9) | exact Mine.c1 (Mine.c6 h9) | exact Mine.c1 (Mine.c7 h9) | exact Mine.c1 (Mine.c8 h9) | exact Mine.c1 (Mine.c9 h9) | exact Mine.c1 (Mine.c10 h9) | exact Mine.c1 (Mine.c11 h9) | exact Mine.c1 (Mine.c12 h9) | exact Mine.c1 (Mine.c13 h9) | exact Mine.c1 (Mine.c14 h9) | exact Mine.c1 (Mine.c15 h9) | exact Mine.c1 (Mine.c16 h9) | exact Mine.c1 (Mine.c17 h9) | exact Mine.c1 (Mine.c18 h9) | exact Mine.c1 (Mine.c19 h9) | exact Mine.c1 (Mine.c20 h9) | fail "pj2")
  k_with "pj3" => (first | exact Mine.e2 (Mine.c0 h9) | exact Mine.e2 (Mine.c1 h9) | exact Mine.e2 (Mine.c2 h9) | exact Mine.e2 (Mine.c3 h9) | exact Mine.e2 (Mine.c4 h9) | exact Mine.e2 (Mine.c5 h9) | exact Mine.e2 (Mine.c6 h9) | exact Mine.e2 (Mine.c7 h9) | exact Mine.e2 (Mine.c8 h9) | exact Mine.e2 (Mine.c9 h9) | exact Mine.e2 (Mine.c10 h9) | exact Mine.e2 (Mine.c11 h9) | exact Mine.e2 (Mine.c12 h9) | exact Mine.e2 (Mine.c13 h9) | exact Mine.e2 (Mine.c14 h9) | exact Mine.e2 (Mine.c15 h9) | exact Mine.e2 (Mine.c16 h9) | exact Mine.e2 (Mine.c17 h9) | exact Mine.e2 (Mine.c18 h9) | exact Mine.e2 (Mine.c19 h9) | exact Mine.e2 (Mine.c20 h9) | fail "pj3")
  k_with "omega" => (first | exact Nat.le_refl _ | decide | with_reducible (first | exact Mine.lim0 (by assumption) | exact Mine.lim1 (by assumption) (by with_unfolding_all rfl) | exact Mine.lim2 (by assumption) (by with_unfolding_all rfl) | exact Mine.lim3 (by assumption) (by with_unfolding_all rfl) | exact Mine.lim8 (by assumption) (by assumption) (by with_unfolding_all rfl) | exact Mine.lim9 (by assumption) (by assumption) (by with_unfolding_all rfl) | exact Mine.lim10 (by assumption) (by assumption) (by with_unfolding_all rfl) | exact Mine.i1 (by assumption) | exact Mine.i2 (by assumption) | exact Mine.i3 (by assumption) | exact Mine.i4 (by assumption) (by with_unfolding_all rfl) | exact Mine.i5 (by assumption) | exact Mine.i6 (by assumption) (by assumption) | exact Mine.i7 (by assumption) (by assumption) | exact Mine.i8 (by assumption) (by assumption) | exact List.length_take_le _ _ | fail "l") | (refine Mine.toNe ?_; with_reducible (first | exact Nat.ne_of_lt (by ((repeat (first | assumption | exact Mine.ltp0 | refine Mine.ltp ?_)); (first | done | fail "c"))) | exact Nat.ne_of_gt (by ((repeat (first | assumption | exact Mine.ltp0 | refine Mine.ltp ?_)); (first | done | fail "c"))) | (refine Nat.ne_of_lt (Mine.viaL (by assumption) ?_); intro h9; k_extra "pj") | (refine Nat.ne_of_gt (Mine.viaL (by assumption) ?_); intro h9; k_extra "pj") | (refine Nat.ne_of_lt (Mine.viaM (by assumption) ?_); intro h9; k_extra "pj") | (refine Nat.ne_of_gt (Mine.viaM (by assumption) ?_); intro h9; k_extra "pj") | assumption | exact Ne.symm (by assumption) | (refine Mine.viaN (by assumption) ?_; intro h9; k_extra "pj") | (refine Ne.symm (Mine.viaN (by assumption) ?_); intro h9; k_extra "pj") | (refine Mine.viaN1 (by assumption) ?_; intro h9; k_extra "pj1") | (refine Ne.symm (Mine.viaN1 (by assumption) ?_); intro h9; k_extra "pj1") | (refine Mine.viaN2 (by assumption) ?_; intro h9; k_extra "pj2") | (refine Ne.symm (Mine.viaN2 (by assumption) ?_); intro h9; k_extra "pj2") | (refine Mine.viaN3 (by assumption) ?_; intro h9; k_extra "pj3") | (refine Ne.symm (Mine.viaN3 (by assumption) ?_); intro h9; k_extra "pj3") | fail "n")) | fail "o")
  trivial
theorem pop_any {us : List Value} {Q : Value → Shared → Prop} (F : Fr h₀ L s.heap m) (N : News h₀ L s.heap news) (U : Upd D (W.listOf us.toArray n) (W.listOf us.dropLast.toArray (n + 1)) news news') (hne : 0 < us.length)
    (hz : us.length ≤ sizeLine) (h : ∀ h' y, Fr h₀ L h' m → News h₀ L h' news' → Q y { s with heap := h' }) : wpAny (model prog w) A (call (.builtin "list.pop") [.ref D]) Q E s := by
  have hn : us ≠ [] := by intro e; rw [e] at hne; exact absurd hne (Nat.lt_irrefl 0)
  refine kl_pop F N (p := us.dropLast) (y := us.getLast hn) ?_ U (by simpa using hz) fun h' F' N' => h h' _ F' N'
  have e := kpa_last (us.getLast hn) us.dropLast
  rw [List.dropLast_concat_getLast hn] at e
  simpa using e
theorem Sgs.dropLast {vs : List Value} {os : List (Option Str)} (h : Sgs vs os) : Sgs vs.dropLast os.dropLast := by
  rw [List.dropLast_eq_take, List.dropLast_eq_take, h.length]
  exact h.take _
/-- a statement that may shorten the signs and draws, told by what is left -/
def PopJ (w : World) (base : Heap) (L : Addr) (m : Str → Option Value) (s : Shared) (D DT : Addr) (oT : Obj) (DA : Addr) (oA : Obj) (mug : Addr) (rl : List (Addr × Obj)) (fl : Flow) (s' : Shared) : Prop :=
  fl = .next ∧ ∃ h' tk om' vs' os' c', s' = { s with heap := h', toks := tk } ∧ Fr base L h' m ∧ News base L h' ((D, W.listOf vs'.toArray c') :: (DT, oT) :: (DA, oA) :: (mug, om') :: rl) ∧ Sgs vs' os' ∧ vs'.length ≤ 12
theorem pop_start {base : Heap} {D DT DA mug : Addr} {oT oA om : Obj} {ys : List Value} {c : Nat} {rl : List (Addr × Obj)} {x : Sem Flow} {Q : Flow → Shared → Prop} (F : Fr base L s.heap m) (N : News base L s.heap ((D, W.listOf ys.toArray c) :: (DT, oT) :: (DA, oA) :: (mug, om) :: rl))
    (h : wpAny (model prog w) A x (PopJ w base L m s D DT oT DA oA mug rl) E s)
    (hq : ∀ h' tk om' vs' os' c', Fr base L h' m → News base L h' ((D, W.listOf vs'.toArray c') :: (DT, oT) :: (DA, oA) :: (mug, om') :: rl) → Sgs vs' os' → vs'.length ≤ 12 → Q .next { s with heap := h', toks := tk }) :
    wpAny (model prog w) A x Q E s :=
  wpAny_mono h (fun f s' p => by
    obtain ⟨rfl, h', tk, om', vs', os', c', rfl, F', N', hs, hl⟩ := p
    exact hq h' tk om' vs' os' c' F' N' hs hl) fun _ _ e => e
end
end
section
theorem reg_Store_1 : True := by
  w_top off
  k_with_none
  k_with "pj" => (first | exact Mine.c0 h9 | exact Mine.c1 h9 | exact Mine.e1 h9 | exact Mine.c2 h9 | exact Mine.e2 h9 | exact Mine.c3 h9 | exact Mine.e3 h9 | exact Mine.c4 h9 | exact Mine.e4 h9 | exact Mine.c5 h9 | exact Mine.e5 h9 | exact Mine.c6 h9 | exact Mine.e6 h9 | exact Mine.c7 h9 | exact Mine.e7 h9 | exact Mine.c8 h9 | exact Mine.e8 h9 | exact Mine.c9 h9 | exact Mine.e9 h9 | exact Mine.c10 h9 | exact Mine.e10 h9 | exact Mine.c11 h9 | exact Mine.e11 h9 | exact Mine.c12 h9 | exact Mine.e12 h9 | exact Mine.c13 h9 | exact Mine.e13 h9 | exact Mine.c14 h9 | exact Mine.e14 h9 | exact Mine.c15 h9 | exact Mine.e15 h9 | exact Mine.c16 h9 | exact Mine.e16 h9 | exact Mine.c17 h9 | exact Mine.e17 h9 | exact Mine.c18 h9 | exact Mine.e18 h9 | exact Mine.c19 h9 | exact Mine.e19 h9 | exact Mine.c20 h9 | exact Mine.e20 h9 | fail "pj")
  k_with "pj1" => (first | exact Mine.c0 (Mine.c0 h9) | exact Mine.c0 (Mine.c1 h9) | exact Mine.c0 (Mine.c2 h9) | exact Mine.c0 (Mine.c3 h9) | exact Mine.c0 (Mine.c4 h9) | exact Mine.c0 (Mine.c5 h9) | exact Mine.c0 (Mine.c6 h9) | exact Mine.c0 (Mine.c7 h9) | exact Mine.c0 (Mine.c8 h9) | exact Mine.c0 (Mine.c9 h9) | exact Mine.c0 (Mine.c10 h9) | exact Mine.c0 (Mine.c11 h9) | exact Mine.c0 (Mine.c12 h9) | exact Mine.c0 (Mine.c13 h9) | exact Mine.c0 (Mine.c14 h9) | exact Mine.c0 (Mine.c15 h9) | exact Mine.c0 (Mine.c16 h9) | exact Mine.c0 (Mine.c17 h9) | exact Mine.c0 (Mine.c18 h9) | exact Mine.c0 (Mine.c19 h9) | exact Mine.c0 (Mine.c20 h9) | fail "pj1")
  k_with "pj2" => (first | exact Mine.c1 (Mine.c0 h9) | exact Mine.c1 (Mine.c1 h9) | exact Mine.c1 (Mine.c2 h9) | exact Mine.c1 (Mine.c3 h9) | exact Mine.c1 (Mine.c4 h9) | exact Mine.c1 (Mine.c5 h9) | exact Mine.c1 (Mine.c6 h9) | exact Mine.c1 (Mine.c7 h9) | exact Mine.c1 (Mine.c8 h9) | exact Mine.c1 (Mine.c9 h9) | exact Mine.c1 (Mine.c10 h9) | exact Mine.c1 (Mine.c11 h9) | exact Mine.c1 (Mine.c12 h9) | exact Mine.c1 (Mine.c13 h9) | exact Mine.c1 (Mine.c14 h9) | exact Mine.c1 (Mine.c15 h9) | exact Mine.c1 (Mine.c16 h9) | exact Mine.c1 (Mine.c17 h9) | exact Mine.c1 (Mine.c18 h9) | exact Mine.c1 (Mine.c19 h9) | exact Mine.c1 (Mine.c20 h9) | fail "pj2")
  k_with "pj3" => (first | exact Mine.e2 (Mine.c0 h9) | exact Mine.e2 (Mine.c1 h9) | exact Mine.e2 (Mine.c2 h9) | exact Mine.e2 (Mine.c3 h9) | exact Mine.e2 (Mine.c4 h9) | exact Mine.e2 (Mine.c5 h9) | exact Mine.e2 (Mine.c6 h9) | exact Mine.e2 (Mine.c7 h9) | exact Mine.e2 (Mine.c8 h9) | exact Mine.e2 (Mine.c9 h9) | exact Mine.e2 (Mine.c10 h9) | exact Mine.e2 (Mine.c11 h9) | exact Mine.e2 (Mine.c12 h9) | exact Mine.e2 (Mine.c13 h9) | exact Mine.e2 (Mine.c14 h9) | exact Mine.e2 (Mine.c15 h9) | exact Mine.e2 (Mine.c16 h9) | exact Mine.e2 (Mine.c17 h9) | exact Mine.e2 (Mine.c18 h9) | exact Mine.e2 (Mine.c19 h9) | exact Mine.e2 (Mine.c20 h9) | fail "pj3")
  k_with "omega" => (first | exact Nat.le_refl _ | decide | with_reducible (first | exact Mine.lim0 (by assumption) | exact Mine.lim1 (by assumption) (by with_unfolding_all rfl) | exact Mine.lim2 (by assumption) (by with_unfolding_all rfl) | exact Mine.lim3 (by assumption) (by with_unfolding_all rfl) | exact Mine.lim8 (by assumption) (by assumption) (by with_unfolding_all rfl) | exact Mine.lim9 (by assumption) (by assumption) (by with_unfolding_all rfl) | exact Mine.lim10 (by assumption) (by assumption) (by with_unfolding_all rfl) | exact Mine.i1 (by assumption) | exact Mine.i2 (by assumption) | exact Mine.i3 (by assumption) | exact Mine.i4 (by assumption) (by with_unfolding_all rfl) | exact Mine.i5 (by assumption) | exact Mine.i6 (by assumption) (by assumption) | exact Mine.i7 (by assumption) (by assumption) | exact Mine.i8 (by assumption) (by assumption) | exact List.length_take_le _ _ | fail "l") | (refine Mine.toNe ?_; with_reducible (first | exact Nat.ne_of_lt (by ((repeat (first | assumption | exact Mine.ltp0 | refine Mine.ltp ?_)); (first | done | fail "c"))) | exact Nat.ne_of_gt (by ((repeat (first | assumption | exact Mine.ltp0 | refine Mine.ltp ?_)); (first | done | fail "c"))) | (refine Nat.ne_of_lt (Mine.viaL (by assumption) ?_); intro h9; k_extra "pj") | (refine Nat.ne_of_gt (Mine.viaL (by assumption) ?_); intro h9; k_extra "pj") | (refine Nat.ne_of_lt (Mine.viaM (by assumption) ?_); intro h9; k_extra "pj") | (refine Nat.ne_of_gt (Mine.viaM (by assumption) ?_); intro h9; k_extra "pj") | assumption | exact Ne.symm (by assumption) | (refine Mine.viaN (by assumption) ?_; intro h9; k_extra "pj") | (refine Ne.symm (Mine.viaN (by assumption) ?_); intro h9; k_extra "pj") | (refine Mine.viaN1 (by assumption) ?_; intro h9; k_extra "pj1") | (refine Ne.symm (Mine.viaN1 (by assumption) ?_); intro h9; k_extra "pj1") | (refine Mine.viaN2 (by assumption) ?_; intro h9; k_extra "pj2") | (refine Ne.symm (Mine.viaN2 (by assumption) ?_); intro h9; k_extra "pj2") | (refine Mine.viaN3 (by assumption) ?_; intro h9; k_extra "pj3") | (refine Ne.symm (Mine.viaN3 (by assumption) ?_); intro h9; k_extra "pj3") | fail "n")) | fail "o")
  trivial
theorem nones_len : ∀ n : Nat, (List.replicate n [Value.none]).flatten.length = n
  | 0 => rfl
  | n + 1 => by
    rw [List.replicate_succ, List.flatten_cons, List.length_append, nones_len n]
    simp only [List.length_cons, List.length_nil]
    omega
theorem whole_eq (xs ys : Array Value) : xs.extract 0 (0 : Int).toNat ++ ys ++ xs.extract (max 0 (xs.size : Int)).toNat xs.size = ys := by
  have e : (max 0 (xs.size : Int)).toNat = xs.size := by omega
  rw [e]
  simp
section
variable {prog : Program} {w : World} {A : Around} {E : Value → Shared → Prop} {s : Shared} {h₀ : Heap} {L : Addr} {m : Str → Option Value} {news : List (Addr × Obj)}
/-- l[:] = b, both lists -/
theorem setItem_whole {l sl b : Addr} {xs ys : Array Value} {n n2 : Nat} {Q : Unit → Shared → Prop} (ho : s.heap.get? l = some (W.listOf xs n)) (hs : s.heap.IsSliceOf sl .none .none .none) (hb : s.heap.get? b = some (W.listOf ys n2)) (hlb : l ≠ b)
    (hz : xs.size + ys.size ≤ sizeLine)
    (hQ : Q () { s with heap := s.heap.update l (Obj.mapSeq fun z => z.extract 0 (0 : Int).toNat ++ ys ++ z.extract (max 0 (xs.size : Int)).toNat z.size) }) : wpAny (model prog w) A (setItem (.ref l) (.ref sl) (.ref b)) Q E s := by
  have hl : s.heap.IsList l xs := ⟨_, ho, rfl, n, rfl⟩
  obtain ⟨os, hos, hcs, hds⟩ := id hs
  have hTs : s.TypeIs (.ref sl) "slice" := ⟨os, hos, hcs⟩
  have hTb : s.TypeIs (.ref b) "list" := ⟨_, hb, rfl⟩
  unfold setItem
  try with_reducible refine wpAny_holding ?_
  first | refine wpAny_bind (wpAny_pure ?_) | skip
  refine wpAny_bind (wpAny_sequenceKey hl.typeIs (by decide) ?_)
  refine wpAny_bind (wpAny_callSpecial?_slot (name := Str.ofString "__setitem__") hl.typeIs PySem.F.slot_list_setitem
    (wpAny_call_entry PySem.F.slot_list_setitem hl.typeIs PySem.F.entry_list_setitem ?_ (args_list_setitem _ _ _)))
  show wpAny _ _ (Builtin.List.listSubscript? (.ref sl) >>= _) _ _ s
  refine wpAny_bind ?_
  unfold Builtin.List.listSubscript?
  refine wpAny_bind (wpAny_specialOf hTs slice_no_index ?_)
  simp only [Option.isNone_none, if_true]
  refine wpAny_pure ?_
  show wpAny _ _ (typeOf (.ref sl) >>= _) _ _ s
  refine wpAny_bind (wpAny_typeOf hTs ?_)
  rw [if_neg (by decide)]
  rw [listSliceParts_eq]
  refine wpAny_bind (wpAny_bind (wpAny_field hos hds (x := .none) rfl (wpAny_bind (wpAny_listPart .none ?_))))
  rw [if_neg (show ¬ ((rawPart none == rawInt 0) = true) from Bool.false_ne_true)]
  refine wpAny_bind (wpAny_field hos hds (x := .none) rfl (wpAny_bind (wpAny_listPart .none ?_)))
  refine wpAny_bind (wpAny_field hos hds (x := .none) rfl (wpAny_bind (wpAny_listPart .none (wpAny_pure ?_))))
  rw [if_neg (show ¬ (Builtin.List.listSameRef (.ref l) (.ref b) = true) from fun h => hlb (by simpa [Builtin.List.listSameRef] using h))]
  refine wpAny_bind (m := Builtin.List.listAllItems (.ref b) "must assign iterable to extended slice") ?_
  unfold Builtin.List.listAllItems
  refine wpAny_bind (wpAny_typeOf hTb ?_)
  rw [if_pos (by decide)]
  show wpAny _ _ (seqItems? (.ref b) >>= _) _ _ _
  refine wpAny_bind (wpAny_seqItems hb rfl (wpAny_pure ?_))
  refine wpAny_bind (m := Builtin.List.listItems (.ref l)) ?_
  show wpAny _ _ (seqItems? (.ref l) >>= _) _ _ _
  refine wpAny_bind (wpAny_seqItems ho rfl (wpAny_pure ?_))
  refine wpAny_bind (wpAny_of_eq (sliceIndices_raw none none none xs.size (by simp)) ?_)
  have hlong : Builtin.List.listTooLong (xs.size + ys.size) = false := by
    unfold Builtin.List.listTooLong
    simp only [decide_eq_false_iff_not]
    omega
  have hbd : sliceBounds none none none xs.size = (0, (xs.size : Int), 1) := rfl
  rw [hbd]
  rw [if_pos (show (((0, (xs.size : Int), 1) : Int × Int × Int).2.2 == 1) = true from rfl)]
  refine wpAny_bind (wpAny_rule ?_)
  simp only [hlong, Bool.false_eq_true, if_false]
  refine wpAny_bind (m := updateSeq l _) (wpAny_updateSeq ho rfl ?_ ?_ ?_)
  · refine wpAny_bind (wpAny_letGo ?_)
    first
      | exact wpAny_bind (wpAny_pure (wpAny_pure ⟨.none, rfl, wpAny_pure hQ⟩))
      | exact wpAny_pure ⟨.none, rfl, wpAny_pure hQ⟩
  · omega
  · show (xs.extract 0 (0 : Int).toNat ++ ys ++ xs.extract (max 0 (xs.size : Int)).toNat xs.size).size ≤ _
    rw [whole_eq]
    omega
theorem store_whole {l b : Addr} {xs ys : List Value} {n n2 : Nat} {g : Obj → List (Addr × Obj)} {Q : Unit → Shared → Prop} (F : Fr h₀ L s.heap m) (N : News h₀ L s.heap news) (U : UpdF l (W.listOf xs.toArray n) news g) (hb : (b, W.listOf ys.toArray n2) ∈ news) (hlb : l ≠ b)
    (hz : xs.length + ys.length ≤ sizeLine) (h : ∀ h' n', Fr h₀ L h' m → News h₀ L h' (g (W.listOf ys.toArray n')) → Q () { s with heap := h' }) :
    wpAny (model prog w) A (setItem (.ref l) (.ref s.heap.objs.size) (.ref b)) Q E { s with heap := s.heap.push { cls := .type "slice", data := .fields #[.none, .none, .none] } } := by
  obtain ⟨pre, post, rfl, hg, h1, h2⟩ := U.split
  have z := N (l, W.listOf xs.toArray n) (List.mem_append.mpr (.inr (.head _)))
  refine setItem_whole (xs := xs.toArray) (ys := ys.toArray) (n := n) (n2 := n2) (Heap.get?_push_of_some _ z.1) (Heap.IsSliceOf.new ..) (Heap.get?_push_of_some _ (N _ hb).1) hlb (by simpa using hz) (h _ (if ys.toArray.size == xs.toArray.size then n else n + 1) ((F.push _).change (Heap.SameBut.update ..) z.2.1 z.2.2) ?_)
  rw [hg]
  refine news_set (fun p hp => ⟨Heap.get?_push_of_some _ (N p hp).1, (N p hp).2⟩) h1 h2 (Heap.SameBut.update ..) ?_
  have q0 := Heap.get?_push_of_some { cls := .type "slice", data := .fields #[.none, .none, .none] } z.1
  have q := PySem.IsL.update q0 (fun z => z.extract 0 (0 : Int).toNat ++ ys.toArray ++ z.extract (max 0 (xs.toArray.size : Int)).toNat z.size)
  rw [whole_eq] at q
  exact q
end
end
local macro_rules | `(tactic| walk_at "tl109487c") => `(tactic| (intro _ _ _ _ _ l1 l2; (try k_lt l1); (try k_lt2 l2)))
section
theorem reg_New_1 : True := by
  w_top off
  k_with_none
  k_with "pj" => (first | exact Mine.c0 h9 | exact Mine.c1 h9 | exact Mine.e1 h9 | exact Mine.c2 h9 | exact Mine.e2 h9 | exact Mine.c3 h9 | exact Mine.e3 h9 | exact Mine.c4 h9 | exact Mine.e4 h9 | exact Mine.c5 h9 | exact Mine.e5 h9 | exact Mine.c6 h9 | exact Mine.e6 h9 | exact Mine.c7 h9 | exact Mine.e7 h9 | exact Mine.c8 h9 | exact Mine.e8 h9 | exact Mine.c9 h9 | exact Mine.e9 h9 | exact Mine.c10 h9 | exact Mine.e10 h9 | exact Mine.c11 h9 | exact Mine.e11 h9 | exact Mine.c12 h9 | exact Mine.e12 h9 | exact Mine.c13 h9 | exact Mine.e13 h9 | exact Mine.c14 h9 | exact Mine.e14 h9 | exact Mine.c15 h9 | exact Mine.e15 h9 | exact Mine.c16 h9 | exact Mine.e16 h9 | exact Mine.c17 h9 | exact Mine.e17 h9 | exact Mine.c18 h9 | exact Mine.e18 h9 | exact Mine.c19 h9 | exact Mine.e19 h9 | exact Mine.c20 h9 | exact Mine.e20 h9 | fail "pj")
  k_with "pj1" => (first | exact Mine.c0 (Mine.c0 h9) | exact Mine.c0 (Mine.c1 h9) | exact Mine.c0 (Mine.c2 h9) | exact Mine.c0 (Mine.c3 h9) | exact Mine.c0 (Mine.c4 h9) | exact Mine.c0 (Mine.c5 h9) | exact Mine.c0 (Mine.c6 h9) | exact Mine.c0 (Mine.c7 h9) | exact Mine.c0 (Mine.c8 h9) | exact Mine.c0 (Mine.c9 h9) | exact Mine.c0 (Mine.c10 h9) | exact Mine.c0 (Mine.c11 h9) | exact Mine.c0 (Mine.c12 h9) | exact Mine.c0 (Mine.c13 h9) | exact Mine.c0 (Mine.c14 h9) | exact Mine.c0 (Mine.c15 h9) | exact Mine.c0 (Mine.c16 h9) | exact Mine.c0 (Mine.c17 h9) | exact Mine.c0 (Mine.c18 h9) | exact Mine.c0 (Mine.c19 h9) | exact Mine.c0 (Mine.c20 h9) | fail "pj1")
  k_with "pj2" => (first | exact Mine.c1 (Mine.c0 h9) | exact Mine.c1 (Mine.c1 h9) | exact Mine.c1 (Mine.c2 h9) | exact Mine.c1 (Mine.c3 h9) | exact Mine.c1 (Mine.c4 h9) | exact Mine.c1 (Mine.c5 h9) | exact Mine.c1 (Mine.c6 h9) | exact Mine.c1 (Mine.c7 h9) | exact Mine.c1 (Mine.c8 h9) | exact Mine.c1 (Mine.c9 h9) | exact Mine.c1 (Mine.c10 h9) | exact Mine.c1 (Mine.c11 h9) | exact Mine.c1 (Mine.c12 h9) | exact Mine.c1 (Mine.c13 h9) | exact Mine.c1 (Mine.c14 h9) | exact Mine.c1 (Mine.c15 h9) | exact Mine.c1 (Mine.c16 h9) | exact Mine.c1 (Mine.c17 h9) | exact Mine.c1 (Mine.c18 h9) | exact Mine.c1 (Mine.c19 h9) | exact Mine.c1 (Mine.c20 h9) | fail "pj2")
  k_with "pj3" => (first | exact Mine.e2 (Mine.c0 h9) | exact Mine.e2 (Mine.c1 h9) | exact Mine.e2 (Mine.c2 h9) | exact Mine.e2 (Mine.c3 h9) | exact Mine.e2 (Mine.c4 h9) | exact Mine.e2 (Mine.c5 h9) | exact Mine.e2 (Mine.c6 h9) | exact Mine.e2 (Mine.c7 h9) | exact Mine.e2 (Mine.c8 h9) | exact Mine.e2 (Mine.c9 h9) | exact Mine.e2 (Mine.c10 h9) | exact Mine.e2 (Mine.c11 h9) | exact Mine.e2 (Mine.c12 h9) | exact Mine.e2 (Mine.c13 h9) | exact Mine.e2 (Mine.c14 h9) | exact Mine.e2 (Mine.c15 h9) | exact Mine.e2 (Mine.c16 h9) | exact Mine.e2 (Mine.c17 h9) | exact Mine.e2 (Mine.c18 h9) | exact Mine.e2 (Mine.c19 h9) | exact Mine.e2 (Mine.c20 h9) | fail "pj3")
  k_with "omega" => (first | exact Nat.le_refl _ | decide | with_reducible (first | exact Mine.lim0 (by assumption) | exact Mine.lim1 (by assumption) (by with_unfolding_all rfl) | exact Mine.lim2 (by assumption) (by with_unfolding_all rfl) | exact Mine.lim3 (by assumption) (by with_unfolding_all rfl) | exact Mine.lim8 (by assumption) (by assumption) (by with_unfolding_all rfl) | exact Mine.lim9 (by assumption) (by assumption) (by with_unfolding_all rfl) | exact Mine.lim10 (by assumption) (by assumption) (by with_unfolding_all rfl) | exact Mine.i1 (by assumption) | exact Mine.i2 (by assumption) | exact Mine.i3 (by assumption) | exact Mine.i4 (by assumption) (by with_unfolding_all rfl) | exact Mine.i5 (by assumption) | exact Mine.i6 (by assumption) (by assumption) | exact Mine.i7 (by assumption) (by assumption) | exact Mine.i8 (by assumption) (by assumption) | exact List.length_take_le _ _ | fail "l") | (refine Mine.toNe ?_; with_reducible (first | exact Nat.ne_of_lt (by ((repeat (first | assumption | exact Mine.ltp0 | refine Mine.ltp ?_)); (first | done | fail "c"))) | exact Nat.ne_of_gt (by ((repeat (first | assumption | exact Mine.ltp0 | refine Mine.ltp ?_)); (first | done | fail "c"))) | (refine Nat.ne_of_lt (Mine.viaL (by assumption) ?_); intro h9; k_extra "pj") | (refine Nat.ne_of_gt (Mine.viaL (by assumption) ?_); intro h9; k_extra "pj") | (refine Nat.ne_of_lt (Mine.viaM (by assumption) ?_); intro h9; k_extra "pj") | (refine Nat.ne_of_gt (Mine.viaM (by assumption) ?_); intro h9; k_extra "pj") | assumption | exact Ne.symm (by assumption) | (refine Mine.viaN (by assumption) ?_; intro h9; k_extra "pj") | (refine Ne.symm (Mine.viaN (by assumption) ?_); intro h9; k_extra "pj") | (refine Mine.viaN1 (by assumption) ?_; intro h9; k_extra "pj1") | (refine Ne.symm (Mine.viaN1 (by assumption) ?_); intro h9; k_extra "pj1") | (refine Mine.viaN2 (by assumption) ?_; intro h9; k_extra "pj2") | (refine Ne.symm (Mine.viaN2 (by assumption) ?_); intro h9; k_extra "pj2") | (refine Mine.viaN3 (by assumption) ?_; intro h9; k_extra "pj3") | (refine Ne.symm (Mine.viaN3 (by assumption) ?_); intro h9; k_extra "pj3") | fail "n")) | fail "o")
  k_with "treelt" => ((with_reducible first | assumption | exact (by assumption : _ ∧ AllLt _ _).2 | exact (by assumption : _ ∧ _ ∧ AllLt _ _).2.2 | exact (by assumption : _ ∧ _ ∧ _ ∧ AllLt _ _).2.2.2 | exact (by assumption : _ ∧ _ ∧ _ ∧ _ ∧ AllLt _ _).2.2.2.2 | exact (by assumption : _ ∧ _ ∧ _ ∧ _ ∧ _ ∧ AllLt _ _).2.2.2.2.2 | exact (by assumption : _ ∧ _ ∧ _ ∧ _ ∧ _ ∧ _ ∧ AllLt _ _).2.2.2.2.2.2 | exact (by assumption : _ ∧ _ ∧ _ ∧ _ ∧ _ ∧ _ ∧ _ ∧ AllLt _ _).2.2.2.2.2.2.2 | exact (by assumption : _ ∧ _ ∧ _ ∧ _ ∧ _ ∧ _ ∧ _ ∧ _ ∧ AllLt _ _).2.2.2.2.2.2.2.2 | exact (by assumption : _ ∧ _ ∧ _ ∧ _ ∧ _ ∧ _ ∧ _ ∧ _ ∧ _ ∧ AllLt _ _).2.2.2.2.2.2.2.2.2 | exact (by assumption : _ ∧ _ ∧ _ ∧ _ ∧ _ ∧ _ ∧ _ ∧ _ ∧ _ ∧ _ ∧ AllLt _ _).2.2.2.2.2.2.2.2.2.2 | exact (by assumption : _ ∧ _ ∧ _ ∧ _ ∧ _ ∧ _ ∧ _ ∧ _ ∧ _ ∧ _ ∧ _ ∧ AllLt _ _).2.2.2.2.2.2.2.2.2.2.2 | exact (by assumption : _ ∧ _ ∧ _ ∧ _ ∧ _ ∧ _ ∧ _ ∧ _ ∧ _ ∧ _ ∧ _ ∧ _ ∧ AllLt _ _).2.2.2.2.2.2.2.2.2.2.2.2 | exact (by assumption : _ ∧ _ ∧ _ ∧ _ ∧ _ ∧ _ ∧ _ ∧ _ ∧ _ ∧ _ ∧ _ ∧ _ ∧ _ ∧ AllLt _ _).2.2.2.2.2.2.2.2.2.2.2.2.2 | exact (by assumption : _ ∧ _ ∧ _ ∧ _ ∧ _ ∧ _ ∧ _ ∧ _ ∧ _ ∧ _ ∧ _ ∧ _ ∧ _ ∧ _ ∧ AllLt _ _).2.2.2.2.2.2.2.2.2.2.2.2.2.2 | exact (by assumption : _ ∧ _ ∧ _ ∧ _ ∧ _ ∧ _ ∧ _ ∧ _ ∧ _ ∧ _ ∧ _ ∧ _ ∧ _ ∧ _ ∧ _ ∧ AllLt _ _).2.2.2.2.2.2.2.2.2.2.2.2.2.2.2 | exact (by assumption : _ ∧ _ ∧ _ ∧ _ ∧ _ ∧ _ ∧ _ ∧ _ ∧ _ ∧ _ ∧ _ ∧ _ ∧ _ ∧ _ ∧ _ ∧ _ ∧ AllLt _ _).2.2.2.2.2.2.2.2.2.2.2.2.2.2.2.2 | exact (by assumption : _ ∧ _ ∧ _ ∧ _ ∧ _ ∧ _ ∧ _ ∧ _ ∧ _ ∧ _ ∧ _ ∧ _ ∧ _ ∧ _ ∧ _ ∧ _ ∧ _ ∧ AllLt _ _).2.2.2.2.2.2.2.2.2.2.2.2.2.2.2.2.2 | exact (by assumption : _ ∧ _ ∧ _ ∧ _ ∧ _ ∧ _ ∧ _ ∧ _ ∧ _ ∧ _ ∧ _ ∧ _ ∧ _ ∧ _ ∧ _ ∧ _ ∧ _ ∧ _ ∧ AllLt _ _).2.2.2.2.2.2.2.2.2.2.2.2.2.2.2.2.2.2 | exact (by assumption : _ ∧ _ ∧ _ ∧ _ ∧ _ ∧ _ ∧ _ ∧ _ ∧ _ ∧ _ ∧ _ ∧ _ ∧ _ ∧ _ ∧ _ ∧ _ ∧ _ ∧ _ ∧ _ ∧ AllLt _ _).2.2.2.2.2.2.2.2.2.2.2.2.2.2.2.2.2.2.2 | exact (by assumption : _ ∧ _ ∧ _ ∧ _ ∧ _ ∧ _ ∧ _ ∧ _ ∧ _ ∧ _ ∧ _ ∧ _ ∧ _ ∧ _ ∧ _ ∧ _ ∧ _ ∧ _ ∧ _ ∧ _ ∧ AllLt _ _).2.2.2.2.2.2.2.2.2.2.2.2.2.2.2.2.2.2.2.2 | exact (by assumption : _ ∧ _ ∧ _ ∧ _ ∧ _ ∧ _ ∧ _ ∧ _ ∧ _ ∧ _ ∧ _ ∧ _ ∧ _ ∧ _ ∧ _ ∧ _ ∧ _ ∧ _ ∧ _ ∧ _ ∧ _ ∧ AllLt _ _).2.2.2.2.2.2.2.2.2.2.2.2.2.2.2.2.2.2.2.2.2 | exact (by assumption : _ ∧ _ ∧ _ ∧ _ ∧ _ ∧ _ ∧ _ ∧ _ ∧ _ ∧ _ ∧ _ ∧ _ ∧ _ ∧ _ ∧ _ ∧ _ ∧ _ ∧ _ ∧ _ ∧ _ ∧ _ ∧ _ ∧ AllLt _ _).2.2.2.2.2.2.2.2.2.2.2.2.2.2.2.2.2.2.2.2.2.2 | exact (by assumption : _ ∧ _ ∧ _ ∧ _ ∧ _ ∧ _ ∧ _ ∧ _ ∧ _ ∧ _ ∧ _ ∧ _ ∧ _ ∧ _ ∧ _ ∧ _ ∧ _ ∧ _ ∧ _ ∧ _ ∧ _ ∧ _ ∧ _ ∧ AllLt _ _).2.2.2.2.2.2.2.2.2.2.2.2.2.2.2.2.2.2.2.2.2.2.2 | exact (by assumption : _ ∧ _ ∧ _ ∧ _ ∧ _ ∧ _ ∧ _ ∧ _ ∧ _ ∧ _ ∧ _ ∧ _ ∧ _ ∧ _ ∧ _ ∧ _ ∧ _ ∧ _ ∧ _ ∧ _ ∧ _ ∧ _ ∧ _ ∧ _ ∧ AllLt _ _).2.2.2.2.2.2.2.2.2.2.2.2.2.2.2.2.2.2.2.2.2.2.2.2 | exact (by assumption : _ ∧ _ ∧ _ ∧ _ ∧ _ ∧ _ ∧ _ ∧ _ ∧ _ ∧ _ ∧ _ ∧ _ ∧ _ ∧ _ ∧ _ ∧ _ ∧ _ ∧ _ ∧ _ ∧ _ ∧ _ ∧ _ ∧ _ ∧ _ ∧ _ ∧ AllLt _ _).2.2.2.2.2.2.2.2.2.2.2.2.2.2.2.2.2.2.2.2.2.2.2.2.2 | fail "treelt"))
  trivial
theorem newsKeep {h₀ h : Heap} {L : Addr} {a b c d e f : Addr × Obj} {news : List (Addr × Obj)} (N : News h₀ L h (a :: b :: c :: d :: e :: f :: news)) : News h₀ L h (a :: e :: f :: news) :=
  newsSub N fun p hp => by
    simp only [List.mem_cons] at hp ⊢
    rcases hp with h | h | h | h
    · exact .inl h
    · exact .inr (.inr (.inr (.inr (.inl h))))
    · exact .inr (.inr (.inr (.inr (.inr (.inl h)))))
    · exact .inr (.inr (.inr (.inr (.inr (.inr h)))))
theorem newsTail {h₀ h : Heap} {L : Addr} {a : Addr × Obj} {news : List (Addr × Obj)} (N : News h₀ L h (a :: news)) : News h₀ L h news := newsSub N fun p hp => List.mem_cons_of_mem _ hp
abbrev ent (w : World) (nm : String) (t : Tok) (v : Value) : DictEntry := { hash := PyData.keyHash w.params (Str.ofString nm), key := .str (Str.ofString nm) t, val := v }
section
theorem reg_New_2 : True := by
  w_top off
  k_with_none
  k_with "pj" => (first | exact Mine.c0 h9 | exact Mine.c1 h9 | exact Mine.e1 h9 | exact Mine.c2 h9 | exact Mine.e2 h9 | exact Mine.c3 h9 | exact Mine.e3 h9 | exact Mine.c4 h9 | exact Mine.e4 h9 | exact Mine.c5 h9 | exact Mine.e5 h9 | exact Mine.c6 h9 | exact Mine.e6 h9 | exact Mine.c7 h9 | exact Mine.e7 h9 | exact Mine.c8 h9 | exact Mine.e8 h9 | exact Mine.c9 h9 | exact Mine.e9 h9 | exact Mine.c10 h9 | exact Mine.e10 h9 | exact Mine.c11 h9 | exact Mine.e11 h9 | exact Mine.c12 h9 | exact Mine.e12 h9 | exact Mine.c13 h9 | exact Mine.e13 h9 | exact Mine.c14 h9 | exact Mine.e14 h9 | exact Mine.c15 h9 | exact Mine.e15 h9 | exact Mine.c16 h9 | exact Mine.e16 h9 | exact Mine.c17 h9 | exact Mine.e17 h9 | exact Mine.c18 h9 | exact Mine.e18 h9 | exact Mine.c19 h9 | exact Mine.e19 h9 | exact Mine.c20 h9 | exact Mine.e20 h9 | fail "pj")
  k_with "pj1" => (first | exact Mine.c0 (Mine.c0 h9) | exact Mine.c0 (Mine.c1 h9) | exact Mine.c0 (Mine.c2 h9) | exact Mine.c0 (Mine.c3 h9) | exact Mine.c0 (Mine.c4 h9) | exact Mine.c0 (Mine.c5 h9) | exact Mine.c0 (Mine.c6 h9) | exact Mine.c0 (Mine.c7 h9) | exact Mine.c0 (Mine.c8 h9) | exact Mine.c0 (Mine.c9 h9) | exact Mine.c0 (Mine.c10 h9) | exact Mine.c0 (Mine.c11 h9) | exact Mine.c0 (Mine.c12 h9) | exact Mine.c0 (Mine.c13 h9) | exact Mine.c0 (Mine.c14 h9) | exact Mine.c0 (Mine.c15 h9) | exact Mine.c0 (Mine.c16 h9) | exact Mine.c0 (Mine.c17 h9) | exact Mine.c0 (Mine.c18 h9) | exact Mine.c0 (Mine.c19 h9) | exact Mine.c0 (Mine.c20 h9) | fail "pj1")
  k_with "pj2" => (first | exact Mine.c1 (Mine.c0 h9) | exact Mine.c1 (Mine.c1 h9) | exact Mine.c1 (Mine.c2 h9) | exact Mine.c1 (Mine.c3 h9) | exact Mine.c1 (Mine.c4 h9) | exact Mine.c1 (Mine.c5 h9) | exact Mine.c1 (Mine.c6 h9) | exact Mine.c1 (Mine.c7 h9) | exact Mine.c1 (Mine.c8 h9) | exact Mine.c1 (Mine.c9 h9) | exact Mine.c1 (Mine.c10 h9) | exact Mine.c1 (Mine.c11 h9) | exact Mine.c1 (Mine.c12 h9) | exact Mine.c1 (Mine.c13 h9) | exact Mine.c1 (Mine.c14 h9) | exact Mine.c1 (Mine.c15 h9) | exact Mine.c1 (Mine.c16 h9) | exact Mine.c1 (Mine.c17 h9) | exact Mine.c1 (Mine.c18 h9) | exact Mine.c1 (Mine.c19 h9) | exact Mine.c1 (Mine.c20 h9) | fail "pj2")
  k_with "pj3" => (first | exact Mine.e2 (Mine.c0 h9) | exact Mine.e2 (Mine.c1 h9) | exact Mine.e2 (Mine.c2 h9) | exact Mine.e2 (Mine.c3 h9) | exact Mine.e2 (Mine.c4 h9) | exact Mine.e2 (Mine.c5 h9) | exact Mine.e2 (Mine.c6 h9) | exact Mine.e2 (Mine.c7 h9) | exact Mine.e2 (Mine.c8 h9) | exact Mine.e2 (Mine.c9 h9) | exact Mine.e2 (Mine.c10 h9) | exact Mine.e2 (Mine.c11 h9) | exact Mine.e2 (Mine.c12 h9) | exact Mine.e2 (Mine.c13 h9) | exact Mine.e2 (Mine.c14 h9) | exact Mine.e2 (Mine.c15 h9) | exact Mine.e2 (Mine.c16 h9) | exact Mine.e2 (Mine.c17 h9) | exact Mine.e2 (Mine.c18 h9) | exact Mine.e2 (Mine.c19 h9) | exact Mine.e2 (Mine.c20 h9) | fail "pj3")
  k_with "omega" => (first | exact Nat.le_refl _ | decide | with_reducible (first | exact Mine.lim0 (by assumption) | exact Mine.lim1 (by assumption) (by with_unfolding_all rfl) | exact Mine.lim2 (by assumption) (by with_unfolding_all rfl) | exact Mine.lim3 (by assumption) (by with_unfolding_all rfl) | exact Mine.lim8 (by assumption) (by assumption) (by with_unfolding_all rfl) | exact Mine.lim9 (by assumption) (by assumption) (by with_unfolding_all rfl) | exact Mine.lim10 (by assumption) (by assumption) (by with_unfolding_all rfl) | exact Mine.i1 (by assumption) | exact Mine.i2 (by assumption) | exact Mine.i3 (by assumption) | exact Mine.i4 (by assumption) (by with_unfolding_all rfl) | exact Mine.i5 (by assumption) | exact Mine.i6 (by assumption) (by assumption) | exact Mine.i7 (by assumption) (by assumption) | exact Mine.i8 (by assumption) (by assumption) | exact List.length_take_le _ _ | fail "l") | (refine Mine.toNe ?_; with_reducible (first | exact Nat.ne_of_lt (by ((repeat (first | assumption | exact Mine.ltp0 | refine Mine.ltp ?_)); (first | done | fail "c"))) | exact Nat.ne_of_gt (by ((repeat (first | assumption | exact Mine.ltp0 | refine Mine.ltp ?_)); (first | done | fail "c"))) | (refine Nat.ne_of_lt (Mine.viaL (by assumption) ?_); intro h9; k_extra "pj") | (refine Nat.ne_of_gt (Mine.viaL (by assumption) ?_); intro h9; k_extra "pj") | (refine Nat.ne_of_lt (Mine.viaM (by assumption) ?_); intro h9; k_extra "pj") | (refine Nat.ne_of_gt (Mine.viaM (by assumption) ?_); intro h9; k_extra "pj") | assumption | exact Ne.symm (by assumption) | (refine Mine.viaN (by assumption) ?_; intro h9; k_extra "pj") | (refine Ne.symm (Mine.viaN (by assumption) ?_); intro h9; k_extra "pj") | (refine Mine.viaN1 (by assumption) ?_; intro h9; k_extra "pj1") | (refine Ne.symm (Mine.viaN1 (by assumption) ?_); intro h9; k_extra "pj1") | (refine Mine.viaN2 (by assumption) ?_; intro h9; k_extra "pj2") | (refine Ne.symm (Mine.viaN2 (by assumption) ?_); intro h9; k_extra "pj2") | (refine Mine.viaN3 (by assumption) ?_; intro h9; k_extra "pj3") | (refine Ne.symm (Mine.viaN3 (by assumption) ?_); intro h9; k_extra "pj3") | fail "n")) | fail "o")
  k_with "treelt" => ((with_reducible first | assumption | exact (by assumption : _ ∧ AllLt _ _).2 | exact (by assumption : _ ∧ _ ∧ AllLt _ _).2.2 | exact (by assumption : _ ∧ _ ∧ _ ∧ AllLt _ _).2.2.2 | exact (by assumption : _ ∧ _ ∧ _ ∧ _ ∧ AllLt _ _).2.2.2.2 | exact (by assumption : _ ∧ _ ∧ _ ∧ _ ∧ _ ∧ AllLt _ _).2.2.2.2.2 | exact (by assumption : _ ∧ _ ∧ _ ∧ _ ∧ _ ∧ _ ∧ AllLt _ _).2.2.2.2.2.2 | exact (by assumption : _ ∧ _ ∧ _ ∧ _ ∧ _ ∧ _ ∧ _ ∧ AllLt _ _).2.2.2.2.2.2.2 | exact (by assumption : _ ∧ _ ∧ _ ∧ _ ∧ _ ∧ _ ∧ _ ∧ _ ∧ AllLt _ _).2.2.2.2.2.2.2.2 | exact (by assumption : _ ∧ _ ∧ _ ∧ _ ∧ _ ∧ _ ∧ _ ∧ _ ∧ _ ∧ AllLt _ _).2.2.2.2.2.2.2.2.2 | exact (by assumption : _ ∧ _ ∧ _ ∧ _ ∧ _ ∧ _ ∧ _ ∧ _ ∧ _ ∧ _ ∧ AllLt _ _).2.2.2.2.2.2.2.2.2.2 | exact (by assumption : _ ∧ _ ∧ _ ∧ _ ∧ _ ∧ _ ∧ _ ∧ _ ∧ _ ∧ _ ∧ _ ∧ AllLt _ _).2.2.2.2.2.2.2.2.2.2.2 | exact (by assumption : _ ∧ _ ∧ _ ∧ _ ∧ _ ∧ _ ∧ _ ∧ _ ∧ _ ∧ _ ∧ _ ∧ _ ∧ AllLt _ _).2.2.2.2.2.2.2.2.2.2.2.2 | exact (by assumption : _ ∧ _ ∧ _ ∧ _ ∧ _ ∧ _ ∧ _ ∧ _ ∧ _ ∧ _ ∧ _ ∧ _ ∧ _ ∧ AllLt _ _).2.2.2.2.2.2.2.2.2.2.2.2.2 | exact (by assumption : _ ∧ _ ∧ _ ∧ _ ∧ _ ∧ _ ∧ _ ∧ _ ∧ _ ∧ _ ∧ _ ∧ _ ∧ _ ∧ _ ∧ AllLt _ _).2.2.2.2.2.2.2.2.2.2.2.2.2.2 | exact (by assumption : _ ∧ _ ∧ _ ∧ _ ∧ _ ∧ _ ∧ _ ∧ _ ∧ _ ∧ _ ∧ _ ∧ _ ∧ _ ∧ _ ∧ _ ∧ AllLt _ _).2.2.2.2.2.2.2.2.2.2.2.2.2.2.2 | exact (by assumption : _ ∧ _ ∧ _ ∧ _ ∧ _ ∧ _ ∧ _ ∧ _ ∧ _ ∧ _ ∧ _ ∧ _ ∧ _ ∧ _ ∧ _ ∧ _ ∧ AllLt _ _).2.2.2.2.2.2.2.2.2.2.2.2.2.2.2.2 | exact (by assumption : _ ∧ _ ∧ _ ∧ _ ∧ _ ∧ _ ∧ _ ∧ _ ∧ _ ∧ _ ∧ _ ∧ _ ∧ _ ∧ _ ∧ _ ∧ _ ∧ _ ∧ AllLt _ _).2.2.2.2.2.2.2.2.2.2.2.2.2.2.2.2.2 | exact (by assumption : _ ∧ _ ∧ _ ∧ _ ∧ _ ∧ _ ∧ _ ∧ _ ∧ _ ∧ _ ∧ _ ∧ _ ∧ _ ∧ _ ∧ _ ∧ _ ∧ _ ∧ _ ∧ AllLt _ _).2.2.2.2.2.2.2.2.2.2.2.2.2.2.2.2.2.2 | exact (by assumption : _ ∧ _ ∧ _ ∧ _ ∧ _ ∧ _ ∧ _ ∧ _ ∧ _ ∧ _ ∧ _ ∧ _ ∧ _ ∧ _ ∧ _ ∧ _ ∧ _ ∧ _ ∧ _ ∧ AllLt _ _).2.2.2.2.2.2.2.2.2.2.2.2.2.2.2.2.2.2.2 | exact (by assumption : _ ∧ _ ∧ _ ∧ _ ∧ _ ∧ _ ∧ _ ∧ _ ∧ _ ∧ _ ∧ _ ∧ _ ∧ _ ∧ _ ∧ _ ∧ _ ∧ _ ∧ _ ∧ _ ∧ _ ∧ AllLt _ _).2.2.2.2.2.2.2.2.2.2.2.2.2.2.2.2.2.2.2.2 | exact (by assumption : _ ∧ _ ∧ _ ∧ _ ∧ _ ∧ _ ∧ _ ∧ _ ∧ _ ∧ _ ∧ _ ∧ _ ∧ _ ∧ _ ∧ _ ∧ _ ∧ _ ∧ _ ∧ _ ∧ _ ∧ _ ∧ AllLt _ _).2.2.2.2.2.2.2.2.2.2.2.2.2.2.2.2.2.2.2.2.2 | exact (by assumption : _ ∧ _ ∧ _ ∧ _ ∧ _ ∧ _ ∧ _ ∧ _ ∧ _ ∧ _ ∧ _ ∧ _ ∧ _ ∧ _ ∧ _ ∧ _ ∧ _ ∧ _ ∧ _ ∧ _ ∧ _ ∧ _ ∧ AllLt _ _).2.2.2.2.2.2.2.2.2.2.2.2.2.2.2.2.2.2.2.2.2.2 | exact (by assumption : _ ∧ _ ∧ _ ∧ _ ∧ _ ∧ _ ∧ _ ∧ _ ∧ _ ∧ _ ∧ _ ∧ _ ∧ _ ∧ _ ∧ _ ∧ _ ∧ _ ∧ _ ∧ _ ∧ _ ∧ _ ∧ _ ∧ _ ∧ AllLt _ _).2.2.2.2.2.2.2.2.2.2.2.2.2.2.2.2.2.2.2.2.2.2.2 | exact (by assumption : _ ∧ _ ∧ _ ∧ _ ∧ _ ∧ _ ∧ _ ∧ _ ∧ _ ∧ _ ∧ _ ∧ _ ∧ _ ∧ _ ∧ _ ∧ _ ∧ _ ∧ _ ∧ _ ∧ _ ∧ _ ∧ _ ∧ _ ∧ _ ∧ AllLt _ _).2.2.2.2.2.2.2.2.2.2.2.2.2.2.2.2.2.2.2.2.2.2.2.2 | exact (by assumption : _ ∧ _ ∧ _ ∧ _ ∧ _ ∧ _ ∧ _ ∧ _ ∧ _ ∧ _ ∧ _ ∧ _ ∧ _ ∧ _ ∧ _ ∧ _ ∧ _ ∧ _ ∧ _ ∧ _ ∧ _ ∧ _ ∧ _ ∧ _ ∧ _ ∧ AllLt _ _).2.2.2.2.2.2.2.2.2.2.2.2.2.2.2.2.2.2.2.2.2.2.2.2.2 | fail "treelt"))
  k_with "k_all" => (first | (assumption) | fail "no")
  k_with "k_mem" => (first | (assumption) | fail "no")
  k_with "news_mem" => (first | (k_mem) | fail "no")
  k_with "k_all" => (first | (refine fun p9 hp9 => Nat.ne_of_lt (Nat.lt_of_lt_of_le ((by assumption : ∀ p ∈ _, p.1 < _) p9 hp9) ?_); omega) | fail "no")
  k_with "k_all" => (first | (refine fun p9 hp9 => Nat.ne_of_lt (allLt_mem ?_ p9 hp9); (k_extra "treelt")) | fail "no")
  k_with "binaryOp Mult ref int" => (first | (k_here; k_dflt (refine' KMa.mul ?q9394edcfF ?q9394edcfN ?q9394edcfl ?q9394edcflo ?q9394edcfhi ?q9394edcfz rfl ?_; (case q9394edcfF => k_asm); (case q9394edcfN => k_asm); (case q9394edcfl => is_list); (case q9394edcflo => first | decide | omega | (simp only [List.size_toArray]; omega)); (case q9394edcfhi => first | decide | omega | (simp only [List.size_toArray]; omega)); (case q9394edcfz => first | decide | (simp only [List.length_cons, List.length_nil, List.size_toArray, Int.toNat_natCast]; omega))); walk_at "tl2332102"; (try k_sweep)) | fail "no")
  k_with "call ref" => (first | (k_here; k_dflt (refine' call_cls ?q91c9c3bck1 ?q91c9c3bck2 ?q91c9c3bck3 ?q91c9c3bck4 ?q91c9c3bck5 ?q91c9c3bck6 ?_; (case q91c9c3bck1 => k_asm); (case q91c9c3bck2 => k_asm); (case q91c9c3bck3 => k_asm); (case q91c9c3bck4 => k_is); (case q91c9c3bck5 => k_is); (case q91c9c3bck6 => k_is); k_whole; walk_at "tl109487c"; (try k_sweep)); k_dflt (refine' code_def ?q91c9c3bck1 ?q91c9c3bck2 ?q91c9c3bck3 ?q91c9c3bck4 ?q91c9c3bck5 ?q91c9c3bckA ?q91c9c3bckF ?q91c9c3bckK ?q91c9c3bck6 ?q91c9c3bck7 ?q91c9c3bck8 ?q91c9c3bck9 ?q91c9c3bckB ?_ ?q91c9c3bcc2 ?q91c9c3bcc3 ?q91c9c3bcc4 ?q91c9c3bcc5; (case q91c9c3bckA => exact rfl); (case q91c9c3bckF => exact rfl); (case q91c9c3bckK => first | exact rfl | assumption); (case q91c9c3bck1 => k_asm); (case q91c9c3bck2 => k_asm); (case q91c9c3bck3 => k_asm); (case q91c9c3bck4 => k_asm); (case q91c9c3bck5 => k_asm); (case q91c9c3bck6 => k_is); (case q91c9c3bck7 => k_is); (case q91c9c3bck8 => ((simp only [depth_under_make, depth_under_kw, depth_in1, depth_deeper, depth_caller]); first | decide | ((try dsimp only [ktrTop]); omega))); (case q91c9c3bck9 => first | exact BindsTo.of_eq rfl | exact binds_K (by k_in) rfl (by k_is) rfl rfl rfl); (case q91c9c3bcc5 => decide); (case q91c9c3bckB => exact locs rfl); (case q91c9c3bcc2 => exact rfl); (case q91c9c3bcc3 => exact rfl); (case q91c9c3bcc4 => exact rfl); k_whole; intro _ _ _ _ _ _ _ _ _; (try dsimp only); (try k_fold))) | fail "no")
  k_with "k_room" => (first | ((simp only [depth_under_make, depth_under_kw, depth_in1, depth_deeper, depth_caller]); first | decide | ((try dsimp only [ktrTop]); omega)) | fail "no")
  trivial
theorem new_mem {w : World} {dp un : Nat} {gd : Option (List Code)} {cn : Str} {cs : Scope} {a : Addr} {ccd : Value} {cl : List (Str × Addr)} {outer : List Env} {A₀ : Around} {base h₀ : Heap} {L : Addr} {m : Str → Option Value} {s : Shared} {Q E : Value → Shared → Prop} {mean : ExcName → Option Value} {mg mb : Str → Option Value} {news : List (Addr × Obj)} {n : Nat} {t1 t2 : Tok}
    (B : Below A₀ base outer h₀) (F : Fr h₀ L s.heap m) (X : (seat.heap_1 w.params).In h₀) (T : Top topProg ((looseW seat.view_1 [Str.ofString "counted_elements_iops", Str.ofString "counted_elements_plainio"]) ++ List.map (fun x => x.name) (recsOf seat.view_1) ++ List.map (fun x => x.fst) (litsOf seat.view_1) ++ List.map (fun x => x.name) (clssOf seat.view_1 (looseW seat.view_1 [Str.ofString "counted_elements_iops", Str.ofString "counted_elements_plainio"]))) mean mg mb h₀) (hkf : cs.kind = .function) (N : News h₀ L s.heap news) (hdp : dp + 40 < recursionLimit) (hn : n ≤ 100)
    (ret : ∀ mem md ch es c h' tk', Fr h₀ L h' m → News h₀ L h' ((ch, W.listOf (List.replicate n [Value.none]).flatten.toArray 0) :: (mem, instObj 117 md) :: (md, dictOf es c) :: news) → getL (Str.ofString "characters") es = some (some (.ref ch)) → (∀ p ∈ news, p.1 < md) → md < mem → mem < ch → Q (.ref mem) { s with heap := h', toks := tk' }) :
    wpAny (model PySem.Challenge.rw_rh0120_01.row.prog w) (ktrTop dp un gd cn cs L a ccd cl outer) (call (.ref 117) [.int 0 t1, .int n t2]) Q E s := by
  (revert X; k_fill; intro X)
  k_steps
  rename News h₀ _ _ _ => kN
  exact ret _ _ _ _ _ _ _ (by assumption) (newsKeep kN) rfl (by assumption) (by assumption) (by assumption : _ < _ ∧ _ < _ ∧ _ < _ ∧ _ < _ ∧ _ < _ ∧ AllLt _ news).2.2.2.1
theorem new_lim {w : World} {dp un : Nat} {gd : Option (List Code)} {cn : Str} {cs : Scope} {a : Addr} {ccd : Value} {cl : List (Str × Addr)} {outer : List Env} {A₀ : Around} {base h₀ : Heap} {L : Addr} {m : Str → Option Value} {s : Shared} {Q E : Value → Shared → Prop} {mean : ExcName → Option Value} {mg mb : Str → Option Value} {news : List (Addr × Obj)}
    (B : Below A₀ base outer h₀) (F : Fr h₀ L s.heap m) (X : (seat.heap_1 w.params).In h₀) (T : Top topProg ((looseW seat.view_1 [Str.ofString "counted_elements_iops", Str.ofString "counted_elements_plainio"]) ++ List.map (fun x => x.name) (recsOf seat.view_1) ++ List.map (fun x => x.fst) (litsOf seat.view_1) ++ List.map (fun x => x.name) (clssOf seat.view_1 (looseW seat.view_1 [Str.ofString "counted_elements_iops", Str.ofString "counted_elements_plainio"]))) mean mg mb h₀) (hkf : cs.kind = .function) (N : News h₀ L s.heap news) (hdp : dp + 40 < recursionLimit)
    (ret : ∀ lim ld es c t h' tk', Fr h₀ L h' m → News h₀ L h' ((lim, instObj 261 ld) :: (ld, dictOf es c) :: news) → getL (Str.ofString "steps") es = some (some (.int 1000000 t)) → (∀ p ∈ news, p.1 < ld) → ld < lim → Q (.ref lim) { s with heap := h', toks := tk' }) :
    wpAny (model PySem.Challenge.rw_rh0120_01.row.prog w) (ktrTop dp un gd cn cs L a ccd cl outer) (call (.ref 261) []) Q E s := by
  (revert X; k_fill; intro X)
  k_steps
  exact ret _ _ _ _ _ _ _ (by assumption) (by assumption) rfl (by assumption) (by assumption)
theorem new_run {w : World} {dp un : Nat} {gd : Option (List Code)} {cn : Str} {cs : Scope} {a : Addr} {ccd : Value} {cl : List (Str × Addr)} {outer : List Env} {A₀ : Around} {base h₀ : Heap} {L : Addr} {m : Str → Option Value} {s : Shared} {Q E : Value → Shared → Prop} {mean : ExcName → Option Value} {mg mb : Str → Option Value} {news : List (Addr × Obj)} {mem lim d1 d2 d3 : Addr}
    (B : Below A₀ base outer h₀) (F : Fr h₀ L s.heap m) (X : (seat.heap_1 w.params).In h₀) (T : Top topProg ((looseW seat.view_1 [Str.ofString "counted_elements_iops", Str.ofString "counted_elements_plainio"]) ++ List.map (fun x => x.name) (recsOf seat.view_1) ++ List.map (fun x => x.fst) (litsOf seat.view_1) ++ List.map (fun x => x.name) (clssOf seat.view_1 (looseW seat.view_1 [Str.ofString "counted_elements_iops", Str.ofString "counted_elements_plainio"]))) mean mg mb h₀) (hkf : cs.kind = .function) (N : News h₀ L s.heap news) (hdp : dp + 40 < recursionLimit)
    (ret : ∀ run rd h' tk' a1 a2 a3 a4 a5 a6 a7 (u0 u1 u2 u3 u4 u5 u6 u7 u8 u9 u10 u11 u12 u13 u14 u15 u16 u17 : Tok), Fr h₀ L h' m → News h₀ L h' ((run, instObj 308 rd) :: (rd, dictOf [ent w "memory" u0 (.ref mem), ent w "limits" u1 (.ref lim), ent w "units" u2 (.ref d1), ent w "world" u3 .none, ent w "expressions" u4 (.ref d2), ent w "statements" u5 (.ref d3), ent w "frame" u6 (.ref a1), ent w "depth" u7 (.int 0 u16), ent w "steps" u8 (.int 0 u17), ent w "places" u9 (.ref a2), ent w "flows" u10 (.ref a3), ent w "clears" u11 (.ref a4), ent w "active" u12 (.ref a5), ent w "loops" u13 (.ref a6), ent w "operations" u14 (.ref a7), ent w "library" u15 .none] 16) :: news) → (∀ p ∈ news, p.1 < rd) → rd < run → Q (.ref run) { s with heap := h', toks := tk' }) :
    wpAny (model PySem.Challenge.rw_rh0120_01.row.prog w) (ktrTop dp un gd cn cs L a ccd cl outer) (call (.ref 308) [.ref mem, .ref lim, .ref d1, .none, .ref d2, .ref d3]) Q E s := by
  (revert X; k_fill; intro X)
  k_steps
  rename News h₀ _ _ _ => kN
  exact ret _ _ _ _ _ _ _ _ _ _ _ _ _ _ _ _ _ _ _ _ _ _ _ _ _ _ _ _ _ (by assumption) (newsTail (newsTail (newsTail (newsTail (newsTail (newsTail (newsTail kN))))))) (by assumption) (by assumption)
end
end
section
section
theorem reg_New2_1 : True := by
  w_top off
  k_with_none
  k_with "pj" => (first | exact Mine.c0 h9 | exact Mine.c1 h9 | exact Mine.e1 h9 | exact Mine.c2 h9 | exact Mine.e2 h9 | exact Mine.c3 h9 | exact Mine.e3 h9 | exact Mine.c4 h9 | exact Mine.e4 h9 | exact Mine.c5 h9 | exact Mine.e5 h9 | exact Mine.c6 h9 | exact Mine.e6 h9 | exact Mine.c7 h9 | exact Mine.e7 h9 | exact Mine.c8 h9 | exact Mine.e8 h9 | exact Mine.c9 h9 | exact Mine.e9 h9 | exact Mine.c10 h9 | exact Mine.e10 h9 | exact Mine.c11 h9 | exact Mine.e11 h9 | exact Mine.c12 h9 | exact Mine.e12 h9 | exact Mine.c13 h9 | exact Mine.e13 h9 | exact Mine.c14 h9 | exact Mine.e14 h9 | exact Mine.c15 h9 | exact Mine.e15 h9 | exact Mine.c16 h9 | exact Mine.e16 h9 | exact Mine.c17 h9 | exact Mine.e17 h9 | exact Mine.c18 h9 | exact Mine.e18 h9 | exact Mine.c19 h9 | exact Mine.e19 h9 | exact Mine.c20 h9 | exact Mine.e20 h9 | fail "pj")
  k_with "pj1" => (first | exact Mine.c0 (Mine.c0 h9) | exact Mine.c0 (Mine.c1 h9) | exact Mine.c0 (Mine.c2 h9) | exact Mine.c0 (Mine.c3 h9) | exact Mine.c0 (Mine.c4 h9) | exact Mine.c0 (Mine.c5 h9) | exact Mine.c0 (Mine.c6 h9) | exact Mine.c0 (Mine.c7 h9) | exact Mine.c0 (Mine.c8 h9) | exact Mine.c0 (Mine.c9 h9) | exact Mine.c0 (Mine.c10 h9) | exact Mine.c0 (Mine.c11 h9) | exact Mine.c0 (Mine.c12 h9) | exact Mine.c0 (Mine.c13 h9) | exact Mine.c0 (Mine.c14 h9) | exact Mine.c0 (Mine.c15 h9) | exact Mine.c0 (Mine.c16 h9) | exact Mine.c0 (Mine.c17 h9) | exact Mine.c0 (Mine.c18 h9) | exact Mine.c0 (Mine.c19 h9) | exact Mine.c0 (Mine.c20 h9) | fail "pj1")
  k_with "pj2" => (first | exact Mine.c1 (Mine.c0 h9) | exact Mine.c1 (Mine.c1 h9) | exact Mine.c1 (Mine.c2 h9) | exact Mine.c1 (Mine.c3 h9) | exact Mine.c1 (Mine.c4 h9) | exact Mine.c1 (Mine.c5 h9) | exact Mine.c1 (Mine.c6 h9) | exact Mine.c1 (Mine.c7 h9) | exact Mine.c1 (Mine.c8 h9) | exact Mine.c1 (Mine.c9 h9) | exact Mine.c1 (Mine.c10 h9) | exact Mine.c1 (Mine.c11 h9) | exact Mine.c1 (Mine.c12 h9) | exact Mine.c1 (Mine.c13 h9) | exact Mine.c1 (Mine.c14 h9) | exact Mine.c1 (Mine.c15 h9) | exact Mine.c1 (Mine.c16 h9) | exact Mine.c1 (Mine.c17 h9) | exact Mine.c1 (Mine.c18 h9) | exact Mine.c1 (Mine.c19 h9) | exact Mine.c1 (Mine.c20 h9) | fail "pj2")
  k_with "pj3" => (first | exact Mine.e2 (Mine.c0 h9) | exact Mine.e2 (Mine.c1 h9) | exact Mine.e2 (Mine.c2 h9) | exact Mine.e2 (Mine.c3 h9) | exact Mine.e2 (Mine.c4 h9) | exact Mine.e2 (Mine.c5 h9) | exact Mine.e2 (Mine.c6 h9) | exact Mine.e2 (Mine.c7 h9) | exact Mine.e2 (Mine.c8 h9) | exact Mine.e2 (Mine.c9 h9) | exact Mine.e2 (Mine.c10 h9) | exact Mine.e2 (Mine.c11 h9) | exact Mine.e2 (Mine.c12 h9) | exact Mine.e2 (Mine.c13 h9) | exact Mine.e2 (Mine.c14 h9) | exact Mine.e2 (Mine.c15 h9) | exact Mine.e2 (Mine.c16 h9) | exact Mine.e2 (Mine.c17 h9) | exact Mine.e2 (Mine.c18 h9) | exact Mine.e2 (Mine.c19 h9) | exact Mine.e2 (Mine.c20 h9) | fail "pj3")
  k_with "omega" => (first | exact Nat.le_refl _ | decide | with_reducible (first | exact Mine.lim0 (by assumption) | exact Mine.lim1 (by assumption) (by with_unfolding_all rfl) | exact Mine.lim2 (by assumption) (by with_unfolding_all rfl) | exact Mine.lim3 (by assumption) (by with_unfolding_all rfl) | exact Mine.lim8 (by assumption) (by assumption) (by with_unfolding_all rfl) | exact Mine.lim9 (by assumption) (by assumption) (by with_unfolding_all rfl) | exact Mine.lim10 (by assumption) (by assumption) (by with_unfolding_all rfl) | exact Mine.i1 (by assumption) | exact Mine.i2 (by assumption) | exact Mine.i3 (by assumption) | exact Mine.i4 (by assumption) (by with_unfolding_all rfl) | exact Mine.i5 (by assumption) | exact Mine.i6 (by assumption) (by assumption) | exact Mine.i7 (by assumption) (by assumption) | exact Mine.i8 (by assumption) (by assumption) | exact List.length_take_le _ _ | fail "l") | (refine Mine.toNe ?_; with_reducible (first | exact Nat.ne_of_lt (by ((repeat (first | assumption | exact Mine.ltp0 | refine Mine.ltp ?_)); (first | done | fail "c"))) | exact Nat.ne_of_gt (by ((repeat (first | assumption | exact Mine.ltp0 | refine Mine.ltp ?_)); (first | done | fail "c"))) | (refine Nat.ne_of_lt (Mine.viaL (by assumption) ?_); intro h9; k_extra "pj") | (refine Nat.ne_of_gt (Mine.viaL (by assumption) ?_); intro h9; k_extra "pj") | (refine Nat.ne_of_lt (Mine.viaM (by assumption) ?_); intro h9; k_extra "pj") | (refine Nat.ne_of_gt (Mine.viaM (by assumption) ?_); intro h9; k_extra "pj") | assumption | exact Ne.symm (by assumption) | (refine Mine.viaN (by assumption) ?_; intro h9; k_extra "pj") | (refine Ne.symm (Mine.viaN (by assumption) ?_); intro h9; k_extra "pj") | (refine Mine.viaN1 (by assumption) ?_; intro h9; k_extra "pj1") | (refine Ne.symm (Mine.viaN1 (by assumption) ?_); intro h9; k_extra "pj1") | (refine Mine.viaN2 (by assumption) ?_; intro h9; k_extra "pj2") | (refine Ne.symm (Mine.viaN2 (by assumption) ?_); intro h9; k_extra "pj2") | (refine Mine.viaN3 (by assumption) ?_; intro h9; k_extra "pj3") | (refine Ne.symm (Mine.viaN3 (by assumption) ?_); intro h9; k_extra "pj3") | fail "n")) | fail "o")
  k_with "treelt" => ((with_reducible first | assumption | exact (by assumption : _ ∧ AllLt _ _).2 | exact (by assumption : _ ∧ _ ∧ AllLt _ _).2.2 | exact (by assumption : _ ∧ _ ∧ _ ∧ AllLt _ _).2.2.2 | exact (by assumption : _ ∧ _ ∧ _ ∧ _ ∧ AllLt _ _).2.2.2.2 | exact (by assumption : _ ∧ _ ∧ _ ∧ _ ∧ _ ∧ AllLt _ _).2.2.2.2.2 | exact (by assumption : _ ∧ _ ∧ _ ∧ _ ∧ _ ∧ _ ∧ AllLt _ _).2.2.2.2.2.2 | exact (by assumption : _ ∧ _ ∧ _ ∧ _ ∧ _ ∧ _ ∧ _ ∧ AllLt _ _).2.2.2.2.2.2.2 | exact (by assumption : _ ∧ _ ∧ _ ∧ _ ∧ _ ∧ _ ∧ _ ∧ _ ∧ AllLt _ _).2.2.2.2.2.2.2.2 | exact (by assumption : _ ∧ _ ∧ _ ∧ _ ∧ _ ∧ _ ∧ _ ∧ _ ∧ _ ∧ AllLt _ _).2.2.2.2.2.2.2.2.2 | exact (by assumption : _ ∧ _ ∧ _ ∧ _ ∧ _ ∧ _ ∧ _ ∧ _ ∧ _ ∧ _ ∧ AllLt _ _).2.2.2.2.2.2.2.2.2.2 | exact (by assumption : _ ∧ _ ∧ _ ∧ _ ∧ _ ∧ _ ∧ _ ∧ _ ∧ _ ∧ _ ∧ _ ∧ AllLt _ _).2.2.2.2.2.2.2.2.2.2.2 | exact (by assumption : _ ∧ _ ∧ _ ∧ _ ∧ _ ∧ _ ∧ _ ∧ _ ∧ _ ∧ _ ∧ _ ∧ _ ∧ AllLt _ _).2.2.2.2.2.2.2.2.2.2.2.2 | exact (by assumption : _ ∧ _ ∧ _ ∧ _ ∧ _ ∧ _ ∧ _ ∧ _ ∧ _ ∧ _ ∧ _ ∧ _ ∧ _ ∧ AllLt _ _).2.2.2.2.2.2.2.2.2.2.2.2.2 | exact (by assumption : _ ∧ _ ∧ _ ∧ _ ∧ _ ∧ _ ∧ _ ∧ _ ∧ _ ∧ _ ∧ _ ∧ _ ∧ _ ∧ _ ∧ AllLt _ _).2.2.2.2.2.2.2.2.2.2.2.2.2.2 | exact (by assumption : _ ∧ _ ∧ _ ∧ _ ∧ _ ∧ _ ∧ _ ∧ _ ∧ _ ∧ _ ∧ _ ∧ _ ∧ _ ∧ _ ∧ _ ∧ AllLt _ _).2.2.2.2.2.2.2.2.2.2.2.2.2.2.2 | exact (by assumption : _ ∧ _ ∧ _ ∧ _ ∧ _ ∧ _ ∧ _ ∧ _ ∧ _ ∧ _ ∧ _ ∧ _ ∧ _ ∧ _ ∧ _ ∧ _ ∧ AllLt _ _).2.2.2.2.2.2.2.2.2.2.2.2.2.2.2.2 | exact (by assumption : _ ∧ _ ∧ _ ∧ _ ∧ _ ∧ _ ∧ _ ∧ _ ∧ _ ∧ _ ∧ _ ∧ _ ∧ _ ∧ _ ∧ _ ∧ _ ∧ _ ∧ AllLt _ _).2.2.2.2.2.2.2.2.2.2.2.2.2.2.2.2.2 | exact (by assumption : _ ∧ _ ∧ _ ∧ _ ∧ _ ∧ _ ∧ _ ∧ _ ∧ _ ∧ _ ∧ _ ∧ _ ∧ _ ∧ _ ∧ _ ∧ _ ∧ _ ∧ _ ∧ AllLt _ _).2.2.2.2.2.2.2.2.2.2.2.2.2.2.2.2.2.2 | exact (by assumption : _ ∧ _ ∧ _ ∧ _ ∧ _ ∧ _ ∧ _ ∧ _ ∧ _ ∧ _ ∧ _ ∧ _ ∧ _ ∧ _ ∧ _ ∧ _ ∧ _ ∧ _ ∧ _ ∧ AllLt _ _).2.2.2.2.2.2.2.2.2.2.2.2.2.2.2.2.2.2.2 | exact (by assumption : _ ∧ _ ∧ _ ∧ _ ∧ _ ∧ _ ∧ _ ∧ _ ∧ _ ∧ _ ∧ _ ∧ _ ∧ _ ∧ _ ∧ _ ∧ _ ∧ _ ∧ _ ∧ _ ∧ _ ∧ AllLt _ _).2.2.2.2.2.2.2.2.2.2.2.2.2.2.2.2.2.2.2.2 | exact (by assumption : _ ∧ _ ∧ _ ∧ _ ∧ _ ∧ _ ∧ _ ∧ _ ∧ _ ∧ _ ∧ _ ∧ _ ∧ _ ∧ _ ∧ _ ∧ _ ∧ _ ∧ _ ∧ _ ∧ _ ∧ _ ∧ AllLt _ _).2.2.2.2.2.2.2.2.2.2.2.2.2.2.2.2.2.2.2.2.2 | exact (by assumption : _ ∧ _ ∧ _ ∧ _ ∧ _ ∧ _ ∧ _ ∧ _ ∧ _ ∧ _ ∧ _ ∧ _ ∧ _ ∧ _ ∧ _ ∧ _ ∧ _ ∧ _ ∧ _ ∧ _ ∧ _ ∧ _ ∧ AllLt _ _).2.2.2.2.2.2.2.2.2.2.2.2.2.2.2.2.2.2.2.2.2.2 | exact (by assumption : _ ∧ _ ∧ _ ∧ _ ∧ _ ∧ _ ∧ _ ∧ _ ∧ _ ∧ _ ∧ _ ∧ _ ∧ _ ∧ _ ∧ _ ∧ _ ∧ _ ∧ _ ∧ _ ∧ _ ∧ _ ∧ _ ∧ _ ∧ AllLt _ _).2.2.2.2.2.2.2.2.2.2.2.2.2.2.2.2.2.2.2.2.2.2.2 | exact (by assumption : _ ∧ _ ∧ _ ∧ _ ∧ _ ∧ _ ∧ _ ∧ _ ∧ _ ∧ _ ∧ _ ∧ _ ∧ _ ∧ _ ∧ _ ∧ _ ∧ _ ∧ _ ∧ _ ∧ _ ∧ _ ∧ _ ∧ _ ∧ _ ∧ AllLt _ _).2.2.2.2.2.2.2.2.2.2.2.2.2.2.2.2.2.2.2.2.2.2.2.2 | exact (by assumption : _ ∧ _ ∧ _ ∧ _ ∧ _ ∧ _ ∧ _ ∧ _ ∧ _ ∧ _ ∧ _ ∧ _ ∧ _ ∧ _ ∧ _ ∧ _ ∧ _ ∧ _ ∧ _ ∧ _ ∧ _ ∧ _ ∧ _ ∧ _ ∧ _ ∧ AllLt _ _).2.2.2.2.2.2.2.2.2.2.2.2.2.2.2.2.2.2.2.2.2.2.2.2.2 | fail "treelt"))
  k_with "k_all" => (first | (assumption) | fail "no")
  k_with "k_mem" => (first | (assumption) | fail "no")
  k_with "news_mem" => (first | (k_mem) | fail "no")
  k_with "k_all" => (first | (refine fun p9 hp9 => Nat.ne_of_lt (Nat.lt_of_lt_of_le ((by assumption : ∀ p ∈ _, p.1 < _) p9 hp9) ?_); omega) | fail "no")
  k_with "k_all" => (first | (refine fun p9 hp9 => Nat.ne_of_lt (allLt_mem ?_ p9 hp9); (k_extra "treelt")) | fail "no")
  k_with "call ref" => (first | (k_here; k_dflt (refine' call_cls ?q91c9c3bck1 ?q91c9c3bck2 ?q91c9c3bck3 ?q91c9c3bck4 ?q91c9c3bck5 ?q91c9c3bck6 ?_; (case q91c9c3bck1 => k_asm); (case q91c9c3bck2 => k_asm); (case q91c9c3bck3 => k_asm); (case q91c9c3bck4 => k_is); (case q91c9c3bck5 => k_is); (case q91c9c3bck6 => k_is); k_whole; walk_at "tl109487c"; (try k_sweep)); k_dflt (refine' code_def ?q91c9c3bck1 ?q91c9c3bck2 ?q91c9c3bck3 ?q91c9c3bck4 ?q91c9c3bck5 ?q91c9c3bckA ?q91c9c3bckF ?q91c9c3bckK ?q91c9c3bck6 ?q91c9c3bck7 ?q91c9c3bck8 ?q91c9c3bck9 ?q91c9c3bckB ?_ ?q91c9c3bcc2 ?q91c9c3bcc3 ?q91c9c3bcc4 ?q91c9c3bcc5; (case q91c9c3bckA => exact rfl); (case q91c9c3bckF => exact rfl); (case q91c9c3bckK => first | exact rfl | assumption); (case q91c9c3bck1 => k_asm); (case q91c9c3bck2 => k_asm); (case q91c9c3bck3 => k_asm); (case q91c9c3bck4 => k_asm); (case q91c9c3bck5 => k_asm); (case q91c9c3bck6 => k_is); (case q91c9c3bck7 => k_is); (case q91c9c3bck8 => ((simp only [depth_under_make, depth_under_kw, depth_in1, depth_deeper, depth_caller]); first | decide | ((try dsimp only [ktrTop]); omega))); (case q91c9c3bck9 => first | exact BindsTo.of_eq rfl | exact binds_K (by k_in) rfl (by k_is) rfl rfl rfl); (case q91c9c3bcc5 => decide); (case q91c9c3bckB => exact locs rfl); (case q91c9c3bcc2 => exact rfl); (case q91c9c3bcc3 => exact rfl); (case q91c9c3bcc4 => exact rfl); k_whole; intro _ _ _ _ _ _ _ _ _; (try dsimp only); (try k_fold))) | fail "no")
  k_with "k_room" => (first | ((simp only [depth_under_make, depth_under_kw, depth_in1, depth_deeper, depth_caller]); first | decide | ((try dsimp only [ktrTop]); omega)) | fail "no")
  trivial
theorem new_mac {w : World} {dp un : Nat} {gd : Option (List Code)} {cn : Str} {cs : Scope} {a : Addr} {ccd : Value} {cl : List (Str × Addr)} {outer : List Env} {A₀ : Around} {base h₀ : Heap} {L : Addr} {m : Str → Option Value} {s : Shared} {Q E : Value → Shared → Prop} {mean : ExcName → Option Value} {mg mb : Str → Option Value} {news : List (Addr × Obj)} {mem lim d1 d2 : Addr}
    (B : Below A₀ base outer h₀) (F : Fr h₀ L s.heap m) (X : (seat.heap_1 w.params).In h₀) (T : Top topProg ((looseW seat.view_1 [Str.ofString "counted_elements_iops", Str.ofString "counted_elements_plainio"]) ++ List.map (fun x => x.name) (recsOf seat.view_1) ++ List.map (fun x => x.fst) (litsOf seat.view_1) ++ List.map (fun x => x.name) (clssOf seat.view_1 (looseW seat.view_1 [Str.ofString "counted_elements_iops", Str.ofString "counted_elements_plainio"]))) mean mg mb h₀) (hkf : cs.kind = .function) (N : News h₀ L s.heap news) (hdp : dp + 40 < recursionLimit)
    (ret : ∀ mac md h' tk' a1 a2 a3 a4 a5 a6 a7 a8 a9 pf (u0 u1 u2 u3 u4 u5 u6 u7 u8 u9 u10 u11 u12 u13 u14 u15 u16 u17 : Tok), Fr h₀ L h' m → News h₀ L h' ((mac, instObj 282 md) :: (md, dictOf [ent w "memory" u0 (.ref mem), ent w "limits" u1 (.ref lim), ent w "codes" u2 (.ref d1), ent w "frames" u3 (.ref d2), ent w "ops" u4 (.ref a1), ent w "operations" u5 (.ref a2), ent w "io" u6 (.ref a3), ent w "enter" u7 (pf), ent w "world" u8 (.none), ent w "library" u9 (.none), ent w "functions" u10 (.ref a4), ent w "clears" u11 (.ref a5), ent w "places" u12 (.ref a6), ent w "units" u13 (.ref a7), ent w "active" u14 (.ref a8), ent w "transfers" u15 (.ref a9), ent w "steps" u16 (.int 0 u17)] 17) :: news) → (∀ p ∈ news, p.1 < md) → md < mac → Q (.ref mac) { s with heap := h', toks := tk' }) :
    wpAny (model PySem.Challenge.rw_rh0120_01.row.prog w) (ktrTop dp un gd cn cs L a ccd cl outer) (call (.ref 282) [.ref mem, .ref lim, .ref d1, .ref d2]) Q E s := by
  (revert X; k_fill; intro X)
  k_steps
  rename News h₀ _ _ _ => kN
  exact ret _ _ _ _ _ _ _ _ _ _ _ _ _ _ _ _ _ _ _ _ _ _ _ _ _ _ _ _ _ _ _ _ (by assumption) (newsTail (newsTail (newsTail (newsTail (newsTail (newsTail (newsTail (newsTail (newsTail kN))))))))) (by assumption) (by assumption)
end
/-- the limits -/
def LimAt (news : List (Addr × Obj)) (lim : Addr) : Prop := ∃ ld es n t, (lim, instObj 261 ld) ∈ news ∧ (ld, dictOf es n) ∈ news ∧ getL (Str.ofString "steps") es = some (some (.int 1000000 t))
theorem reg_New2_2 : True := by
  w_top off
  k_with_none
  k_with "pj" => (first | exact Mine.c0 h9 | exact Mine.c1 h9 | exact Mine.e1 h9 | exact Mine.c2 h9 | exact Mine.e2 h9 | exact Mine.c3 h9 | exact Mine.e3 h9 | exact Mine.c4 h9 | exact Mine.e4 h9 | exact Mine.c5 h9 | exact Mine.e5 h9 | exact Mine.c6 h9 | exact Mine.e6 h9 | exact Mine.c7 h9 | exact Mine.e7 h9 | exact Mine.c8 h9 | exact Mine.e8 h9 | exact Mine.c9 h9 | exact Mine.e9 h9 | exact Mine.c10 h9 | exact Mine.e10 h9 | exact Mine.c11 h9 | exact Mine.e11 h9 | exact Mine.c12 h9 | exact Mine.e12 h9 | exact Mine.c13 h9 | exact Mine.e13 h9 | exact Mine.c14 h9 | exact Mine.e14 h9 | exact Mine.c15 h9 | exact Mine.e15 h9 | exact Mine.c16 h9 | exact Mine.e16 h9 | exact Mine.c17 h9 | exact Mine.e17 h9 | exact Mine.c18 h9 | exact Mine.e18 h9 | exact Mine.c19 h9 | exact Mine.e19 h9 | exact Mine.c20 h9 | exact Mine.e20 h9 | fail "pj")
  k_with "pj1" => (first | exact Mine.c0 (Mine.c0 h9) | exact Mine.c0 (Mine.c1 h9) | exact Mine.c0 (Mine.c2 h9) | exact Mine.c0 (Mine.c3 h9) | exact Mine.c0 (Mine.c4 h9) | exact Mine.c0 (Mine.c5 h9) | exact Mine.c0 (Mine.c6 h9) | exact Mine.c0 (Mine.c7 h9) | exact Mine.c0 (Mine.c8 h9) | exact Mine.c0 (Mine.c9 h9) | exact Mine.c0 (Mine.c10 h9) | exact Mine.c0 (Mine.c11 h9) | exact Mine.c0 (Mine.c12 h9) | exact Mine.c0 (Mine.c13 h9) | exact Mine.c0 (Mine.c14 h9) | exact Mine.c0 (Mine.c15 h9) | exact Mine.c0 (Mine.c16 h9) | exact Mine.c0 (Mine.c17 h9) | exact Mine.c0 (Mine.c18 h9) | exact Mine.c0 (Mine.c19 h9) | exact Mine.c0 (Mine.c20 h9) | fail "pj1")
  k_with "pj2" => (first | exact Mine.c1 (Mine.c0 h9) | exact Mine.c1 (Mine.c1 h9) | exact Mine.c1 (Mine.c2 h9) | exact Mine.c1 (Mine.c3 h9) | exact Mine.c1 (Mine.c4 h9) | exact Mine.c1 (Mine.c5 h9) | exact Mine.c1 (Mine.c6 h9) | exact Mine.c1 (Mine.c7 h9) | exact Mine.c1 (Mine.c8 h9) | exact Mine.c1 (Mine.c9 h9) | exact Mine.c1 (Mine.c10 h9) | exact Mine.c1 (Mine.c11 h9) | exact Mine.c1 (Mine.c12 h9) | exact Mine.c1 (Mine.c13 h9) | exact Mine.c1 (Mine.c14 h9) | exact Mine.c1 (Mine.c15 h9) | exact Mine.c1 (Mine.c16 h9) | exact Mine.c1 (Mine.c17 h9) | exact Mine.c1 (Mine.c18 h9) | exact Mine.c1 (Mine.c19 h9) | exact Mine.c1 (Mine.c20 h9) | fail "pj2")
  k_with "pj3" => (first | exact Mine.e2 (Mine.c0 h9) | exact Mine.e2 (Mine.c1 h9) | exact Mine.e2 (Mine.c2 h9) | exact Mine.e2 (Mine.c3 h9) | exact Mine.e2 (Mine.c4 h9) | exact Mine.e2 (Mine.c5 h9) | exact Mine.e2 (Mine.c6 h9) | exact Mine.e2 (Mine.c7 h9) | exact Mine.e2 (Mine.c8 h9) | exact Mine.e2 (Mine.c9 h9) | exact Mine.e2 (Mine.c10 h9) | exact Mine.e2 (Mine.c11 h9) | exact Mine.e2 (Mine.c12 h9) | exact Mine.e2 (Mine.c13 h9) | exact Mine.e2 (Mine.c14 h9) | exact Mine.e2 (Mine.c15 h9) | exact Mine.e2 (Mine.c16 h9) | exact Mine.e2 (Mine.c17 h9) | exact Mine.e2 (Mine.c18 h9) | exact Mine.e2 (Mine.c19 h9) | exact Mine.e2 (Mine.c20 h9) | fail "pj3")
  k_with "omega" => (first | exact Nat.le_refl _ | decide | with_reducible (first | exact Mine.lim0 (by assumption) | exact Mine.lim1 (by assumption) (by with_unfolding_all rfl) | exact Mine.lim2 (by assumption) (by with_unfolding_all rfl) | exact Mine.lim3 (by assumption) (by with_unfolding_all rfl) | exact Mine.lim8 (by assumption) (by assumption) (by with_unfolding_all rfl) | exact Mine.lim9 (by assumption) (by assumption) (by with_unfolding_all rfl) | exact Mine.lim10 (by assumption) (by assumption) (by with_unfolding_all rfl) | exact Mine.i1 (by assumption) | exact Mine.i2 (by assumption) | exact Mine.i3 (by assumption) | exact Mine.i4 (by assumption) (by with_unfolding_all rfl) | exact Mine.i5 (by assumption) | exact Mine.i6 (by assumption) (by assumption) | exact Mine.i7 (by assumption) (by assumption) | exact Mine.i8 (by assumption) (by assumption) | exact List.length_take_le _ _ | fail "l") | (refine Mine.toNe ?_; with_reducible (first | exact Nat.ne_of_lt (by ((repeat (first | assumption | exact Mine.ltp0 | refine Mine.ltp ?_)); (first | done | fail "c"))) | exact Nat.ne_of_gt (by ((repeat (first | assumption | exact Mine.ltp0 | refine Mine.ltp ?_)); (first | done | fail "c"))) | (refine Nat.ne_of_lt (Mine.viaL (by assumption) ?_); intro h9; k_extra "pj") | (refine Nat.ne_of_gt (Mine.viaL (by assumption) ?_); intro h9; k_extra "pj") | (refine Nat.ne_of_lt (Mine.viaM (by assumption) ?_); intro h9; k_extra "pj") | (refine Nat.ne_of_gt (Mine.viaM (by assumption) ?_); intro h9; k_extra "pj") | assumption | exact Ne.symm (by assumption) | (refine Mine.viaN (by assumption) ?_; intro h9; k_extra "pj") | (refine Ne.symm (Mine.viaN (by assumption) ?_); intro h9; k_extra "pj") | (refine Mine.viaN1 (by assumption) ?_; intro h9; k_extra "pj1") | (refine Ne.symm (Mine.viaN1 (by assumption) ?_); intro h9; k_extra "pj1") | (refine Mine.viaN2 (by assumption) ?_; intro h9; k_extra "pj2") | (refine Ne.symm (Mine.viaN2 (by assumption) ?_); intro h9; k_extra "pj2") | (refine Mine.viaN3 (by assumption) ?_; intro h9; k_extra "pj3") | (refine Ne.symm (Mine.viaN3 (by assumption) ?_); intro h9; k_extra "pj3") | fail "n")) | fail "o")
  k_with "treelt" => ((with_reducible first | assumption | exact (by assumption : _ ∧ AllLt _ _).2 | exact (by assumption : _ ∧ _ ∧ AllLt _ _).2.2 | exact (by assumption : _ ∧ _ ∧ _ ∧ AllLt _ _).2.2.2 | exact (by assumption : _ ∧ _ ∧ _ ∧ _ ∧ AllLt _ _).2.2.2.2 | exact (by assumption : _ ∧ _ ∧ _ ∧ _ ∧ _ ∧ AllLt _ _).2.2.2.2.2 | exact (by assumption : _ ∧ _ ∧ _ ∧ _ ∧ _ ∧ _ ∧ AllLt _ _).2.2.2.2.2.2 | exact (by assumption : _ ∧ _ ∧ _ ∧ _ ∧ _ ∧ _ ∧ _ ∧ AllLt _ _).2.2.2.2.2.2.2 | exact (by assumption : _ ∧ _ ∧ _ ∧ _ ∧ _ ∧ _ ∧ _ ∧ _ ∧ AllLt _ _).2.2.2.2.2.2.2.2 | exact (by assumption : _ ∧ _ ∧ _ ∧ _ ∧ _ ∧ _ ∧ _ ∧ _ ∧ _ ∧ AllLt _ _).2.2.2.2.2.2.2.2.2 | exact (by assumption : _ ∧ _ ∧ _ ∧ _ ∧ _ ∧ _ ∧ _ ∧ _ ∧ _ ∧ _ ∧ AllLt _ _).2.2.2.2.2.2.2.2.2.2 | exact (by assumption : _ ∧ _ ∧ _ ∧ _ ∧ _ ∧ _ ∧ _ ∧ _ ∧ _ ∧ _ ∧ _ ∧ AllLt _ _).2.2.2.2.2.2.2.2.2.2.2 | exact (by assumption : _ ∧ _ ∧ _ ∧ _ ∧ _ ∧ _ ∧ _ ∧ _ ∧ _ ∧ _ ∧ _ ∧ _ ∧ AllLt _ _).2.2.2.2.2.2.2.2.2.2.2.2 | exact (by assumption : _ ∧ _ ∧ _ ∧ _ ∧ _ ∧ _ ∧ _ ∧ _ ∧ _ ∧ _ ∧ _ ∧ _ ∧ _ ∧ AllLt _ _).2.2.2.2.2.2.2.2.2.2.2.2.2 | exact (by assumption : _ ∧ _ ∧ _ ∧ _ ∧ _ ∧ _ ∧ _ ∧ _ ∧ _ ∧ _ ∧ _ ∧ _ ∧ _ ∧ _ ∧ AllLt _ _).2.2.2.2.2.2.2.2.2.2.2.2.2.2 | exact (by assumption : _ ∧ _ ∧ _ ∧ _ ∧ _ ∧ _ ∧ _ ∧ _ ∧ _ ∧ _ ∧ _ ∧ _ ∧ _ ∧ _ ∧ _ ∧ AllLt _ _).2.2.2.2.2.2.2.2.2.2.2.2.2.2.2 | exact (by assumption : _ ∧ _ ∧ _ ∧ _ ∧ _ ∧ _ ∧ _ ∧ _ ∧ _ ∧ _ ∧ _ ∧ _ ∧ _ ∧ _ ∧ _ ∧ _ ∧ AllLt _ _).2.2.2.2.2.2.2.2.2.2.2.2.2.2.2.2 | exact (by assumption : _ ∧ _ ∧ _ ∧ _ ∧ _ ∧ _ ∧ _ ∧ _ ∧ _ ∧ _ ∧ _ ∧ _ ∧ _ ∧ _ ∧ _ ∧ _ ∧ _ ∧ AllLt _ _).2.2.2.2.2.2.2.2.2.2.2.2.2.2.2.2.2 | exact (by assumption : _ ∧ _ ∧ _ ∧ _ ∧ _ ∧ _ ∧ _ ∧ _ ∧ _ ∧ _ ∧ _ ∧ _ ∧ _ ∧ _ ∧ _ ∧ _ ∧ _ ∧ _ ∧ AllLt _ _).2.2.2.2.2.2.2.2.2.2.2.2.2.2.2.2.2.2 | exact (by assumption : _ ∧ _ ∧ _ ∧ _ ∧ _ ∧ _ ∧ _ ∧ _ ∧ _ ∧ _ ∧ _ ∧ _ ∧ _ ∧ _ ∧ _ ∧ _ ∧ _ ∧ _ ∧ _ ∧ AllLt _ _).2.2.2.2.2.2.2.2.2.2.2.2.2.2.2.2.2.2.2 | exact (by assumption : _ ∧ _ ∧ _ ∧ _ ∧ _ ∧ _ ∧ _ ∧ _ ∧ _ ∧ _ ∧ _ ∧ _ ∧ _ ∧ _ ∧ _ ∧ _ ∧ _ ∧ _ ∧ _ ∧ _ ∧ AllLt _ _).2.2.2.2.2.2.2.2.2.2.2.2.2.2.2.2.2.2.2.2 | exact (by assumption : _ ∧ _ ∧ _ ∧ _ ∧ _ ∧ _ ∧ _ ∧ _ ∧ _ ∧ _ ∧ _ ∧ _ ∧ _ ∧ _ ∧ _ ∧ _ ∧ _ ∧ _ ∧ _ ∧ _ ∧ _ ∧ AllLt _ _).2.2.2.2.2.2.2.2.2.2.2.2.2.2.2.2.2.2.2.2.2 | exact (by assumption : _ ∧ _ ∧ _ ∧ _ ∧ _ ∧ _ ∧ _ ∧ _ ∧ _ ∧ _ ∧ _ ∧ _ ∧ _ ∧ _ ∧ _ ∧ _ ∧ _ ∧ _ ∧ _ ∧ _ ∧ _ ∧ _ ∧ AllLt _ _).2.2.2.2.2.2.2.2.2.2.2.2.2.2.2.2.2.2.2.2.2.2 | exact (by assumption : _ ∧ _ ∧ _ ∧ _ ∧ _ ∧ _ ∧ _ ∧ _ ∧ _ ∧ _ ∧ _ ∧ _ ∧ _ ∧ _ ∧ _ ∧ _ ∧ _ ∧ _ ∧ _ ∧ _ ∧ _ ∧ _ ∧ _ ∧ AllLt _ _).2.2.2.2.2.2.2.2.2.2.2.2.2.2.2.2.2.2.2.2.2.2.2 | exact (by assumption : _ ∧ _ ∧ _ ∧ _ ∧ _ ∧ _ ∧ _ ∧ _ ∧ _ ∧ _ ∧ _ ∧ _ ∧ _ ∧ _ ∧ _ ∧ _ ∧ _ ∧ _ ∧ _ ∧ _ ∧ _ ∧ _ ∧ _ ∧ _ ∧ AllLt _ _).2.2.2.2.2.2.2.2.2.2.2.2.2.2.2.2.2.2.2.2.2.2.2.2 | exact (by assumption : _ ∧ _ ∧ _ ∧ _ ∧ _ ∧ _ ∧ _ ∧ _ ∧ _ ∧ _ ∧ _ ∧ _ ∧ _ ∧ _ ∧ _ ∧ _ ∧ _ ∧ _ ∧ _ ∧ _ ∧ _ ∧ _ ∧ _ ∧ _ ∧ _ ∧ AllLt _ _).2.2.2.2.2.2.2.2.2.2.2.2.2.2.2.2.2.2.2.2.2.2.2.2.2 | fail "treelt"))
  trivial
theorem LimAt.mono {news news' : List (Addr × Obj)} {lim : Addr} (h : LimAt news lim) (hs : ∀ p ∈ news, p ∈ news') : LimAt news' lim := by
  obtain ⟨ld, es, n, t, a, b, d⟩ := h
  exact ⟨ld, es, n, t, hs _ a, hs _ b, d⟩
end
section
def placeOk (many : Int) : Kd → Prop
  | .elem k => 1 ≤ k ∧ k ≤ many
  | .sub lo hi => 1 ≤ lo ∧ lo ≤ hi ∧ hi ≤ 3
  | _ => True
def plAd (size : Int) : Kd → Int
  | .elem k => (k - 1) * size
  | .sub lo _ => lo - 1
  | _ => 0
def plN (size : Int) : Kd → Int
  | .elem _ => size
  | .sub lo hi => hi - lo + 1
  | .var => 3
  | _ => size
def plC (many : Int) : Kd → Int
  | .arr => many
  | _ => 1
theorem reg_PlaceAll_1 : True := by
  w_top off
  k_with_none
  k_with "pj" => (first | exact Mine.c0 h9 | exact Mine.c1 h9 | exact Mine.e1 h9 | exact Mine.c2 h9 | exact Mine.e2 h9 | exact Mine.c3 h9 | exact Mine.e3 h9 | exact Mine.c4 h9 | exact Mine.e4 h9 | exact Mine.c5 h9 | exact Mine.e5 h9 | exact Mine.c6 h9 | exact Mine.e6 h9 | exact Mine.c7 h9 | exact Mine.e7 h9 | exact Mine.c8 h9 | exact Mine.e8 h9 | exact Mine.c9 h9 | exact Mine.e9 h9 | exact Mine.c10 h9 | exact Mine.e10 h9 | exact Mine.c11 h9 | exact Mine.e11 h9 | exact Mine.c12 h9 | exact Mine.e12 h9 | exact Mine.c13 h9 | exact Mine.e13 h9 | exact Mine.c14 h9 | exact Mine.e14 h9 | exact Mine.c15 h9 | exact Mine.e15 h9 | exact Mine.c16 h9 | exact Mine.e16 h9 | exact Mine.c17 h9 | exact Mine.e17 h9 | exact Mine.c18 h9 | exact Mine.e18 h9 | exact Mine.c19 h9 | exact Mine.e19 h9 | exact Mine.c20 h9 | exact Mine.e20 h9 | fail "pj")
  k_with "pj1" => (first | exact Mine.c0 (Mine.c0 h9) | exact Mine.c0 (Mine.c1 h9) | exact Mine.c0 (Mine.c2 h9) | exact Mine.c0 (Mine.c3 h9) | exact Mine.c0 (Mine.c4 h9) | exact Mine.c0 (Mine.c5 h9) | exact Mine.c0 (Mine.c6 h9) | exact Mine.c0 (Mine.c7 h9) | exact Mine.c0 (Mine.c8 h9) | exact Mine.c0 (Mine.c9 h9) | exact Mine.c0 (Mine.c10 h9) | exact Mine.c0 (Mine.c11 h9) | exact Mine.c0 (Mine.c12 h9) | exact Mine.c0 (Mine.c13 h9) | exact Mine.c0 (Mine.c14 h9) | exact Mine.c0 (Mine.c15 h9) | exact Mine.c0 (Mine.c16 h9) | exact Mine.c0 (Mine.c17 h9) | exact Mine.c0 (Mine.c18 h9) | exact Mine.c0 (Mine.c19 h9) | exact Mine.c0 (Mine.c20 h9) | fail "pj1")
  k_with "pj2" => (first | exact Mine.c1 (Mine.c0 h9) | exact Mine.c1 (Mine.c1 h9) | exact Mine.c1 (Mine.c2 h9) | exact Mine.c1 (Mine.c3 h9) | exact Mine.c1 (Mine.c4 h9) | exact Mine.c1 (Mine.c5 h9) | exact Mine.c1 (Mine.c6 h9) | exact Mine.c1 (Mine.c7 h9) | exact Mine.c1 (Mine.c8 h9) | exact Mine.c1 (Mine.c9 h9) | exact Mine.c1 (Mine.c10 h9) | exact Mine.c1 (Mine.c11 h9) | exact Mine.c1 (Mine.c12 h9) | exact Mine.c1 (Mine.c13 h9) | exact Mine.c1 (Mine.c14 h9) | exact Mine.c1 (Mine.c15 h9) | exact Mine.c1 (Mine.c16 h9) | exact Mine.c1 (Mine.c17 h9) | exact Mine.c1 (Mine.c18 h9) | exact Mine.c1 (Mine.c19 h9) | exact Mine.c1 (Mine.c20 h9) | fail "pj2")
  k_with "pj3" => (first | exact Mine.e2 (Mine.c0 h9) | exact Mine.e2 (Mine.c1 h9) | exact Mine.e2 (Mine.c2 h9) | exact Mine.e2 (Mine.c3 h9) | exact Mine.e2 (Mine.c4 h9) | exact Mine.e2 (Mine.c5 h9) | exact Mine.e2 (Mine.c6 h9) | exact Mine.e2 (Mine.c7 h9) | exact Mine.e2 (Mine.c8 h9) | exact Mine.e2 (Mine.c9 h9) | exact Mine.e2 (Mine.c10 h9) | exact Mine.e2 (Mine.c11 h9) | exact Mine.e2 (Mine.c12 h9) | exact Mine.e2 (Mine.c13 h9) | exact Mine.e2 (Mine.c14 h9) | exact Mine.e2 (Mine.c15 h9) | exact Mine.e2 (Mine.c16 h9) | exact Mine.e2 (Mine.c17 h9) | exact Mine.e2 (Mine.c18 h9) | exact Mine.e2 (Mine.c19 h9) | exact Mine.e2 (Mine.c20 h9) | fail "pj3")
  k_with "omega" => (first | exact Nat.le_refl _ | decide | with_reducible (first | exact Mine.lim0 (by assumption) | exact Mine.lim1 (by assumption) (by with_unfolding_all rfl) | exact Mine.lim2 (by assumption) (by with_unfolding_all rfl) | exact Mine.lim3 (by assumption) (by with_unfolding_all rfl) | exact Mine.lim8 (by assumption) (by assumption) (by with_unfolding_all rfl) | exact Mine.lim9 (by assumption) (by assumption) (by with_unfolding_all rfl) | exact Mine.lim10 (by assumption) (by assumption) (by with_unfolding_all rfl) | exact Mine.i1 (by assumption) | exact Mine.i2 (by assumption) | exact Mine.i3 (by assumption) | exact Mine.i4 (by assumption) (by with_unfolding_all rfl) | exact Mine.i5 (by assumption) | exact Mine.i6 (by assumption) (by assumption) | exact Mine.i7 (by assumption) (by assumption) | exact Mine.i8 (by assumption) (by assumption) | exact List.length_take_le _ _ | fail "l") | (refine Mine.toNe ?_; with_reducible (first | exact Nat.ne_of_lt (by ((repeat (first | assumption | exact Mine.ltp0 | refine Mine.ltp ?_)); (first | done | fail "c"))) | exact Nat.ne_of_gt (by ((repeat (first | assumption | exact Mine.ltp0 | refine Mine.ltp ?_)); (first | done | fail "c"))) | (refine Nat.ne_of_lt (Mine.viaL (by assumption) ?_); intro h9; k_extra "pj") | (refine Nat.ne_of_gt (Mine.viaL (by assumption) ?_); intro h9; k_extra "pj") | (refine Nat.ne_of_lt (Mine.viaM (by assumption) ?_); intro h9; k_extra "pj") | (refine Nat.ne_of_gt (Mine.viaM (by assumption) ?_); intro h9; k_extra "pj") | assumption | exact Ne.symm (by assumption) | (refine Mine.viaN (by assumption) ?_; intro h9; k_extra "pj") | (refine Ne.symm (Mine.viaN (by assumption) ?_); intro h9; k_extra "pj") | (refine Mine.viaN1 (by assumption) ?_; intro h9; k_extra "pj1") | (refine Ne.symm (Mine.viaN1 (by assumption) ?_); intro h9; k_extra "pj1") | (refine Mine.viaN2 (by assumption) ?_; intro h9; k_extra "pj2") | (refine Ne.symm (Mine.viaN2 (by assumption) ?_); intro h9; k_extra "pj2") | (refine Mine.viaN3 (by assumption) ?_; intro h9; k_extra "pj3") | (refine Ne.symm (Mine.viaN3 (by assumption) ?_); intro h9; k_extra "pj3") | fail "n")) | fail "o")
  trivial
theorem pl_bnd {many size : Int} {kd : Kd} (h : placeOk many kd) (h1 : 1 ≤ many) (h2 : many ≤ 3) (h3 : 1 ≤ size) (h4 : size ≤ 4) :
    1 ≤ plC many kd ∧ plC many kd ≤ 3 ∧ 1 ≤ plN size kd ∧ plN size kd ≤ 4 ∧ 0 ≤ plAd size kd ∧ plAd size kd ≤ 8 ∧ plC many kd * plN size kd ≤ 12 := by
  cases kd with
  | arr =>
    simp only [plC, plN, plAd]
    obtain rfl | rfl | rfl : many = 1 ∨ many = 2 ∨ many = 3 := by omega
    all_goals omega
  | elem k =>
    obtain ⟨g1, g2⟩ := h
    simp only [plC, plN, plAd]
    obtain rfl | rfl | rfl : k = 1 ∨ k = 2 ∨ k = 3 := by omega
    all_goals omega
  | var => simp only [plC, plN, plAd]; omega
  | sub lo hi =>
    obtain ⟨g1, g2, g3⟩ := h
    simp only [plC, plN, plAd]; omega
  | cst t => simp only [plC, plN, plAd]; omega
/-- the span is the place's, where there is one -/
theorem span_place {many size : Int} {kd : Kd} (h : placeOk many kd) (hc : ∀ t, kd ≠ .cst t) : spanOf many size kd = (plAd size kd, plAd size kd + plC many kd * plN size kd) := by
  cases kd with
  | arr => simp only [spanOf, plAd, plC, plN, Int.zero_add]
  | elem k =>
    simp only [spanOf, plAd, plC, plN]
    rw [if_pos (show 1 ≤ k ∧ k ≤ many from h), Int.sub_mul, Int.one_mul, Int.mul_sub, Int.mul_one, Int.mul_comm size k]
    congr 1
    omega
  | var => simp only [spanOf, plAd, plC, plN]; rfl
  | sub lo hi =>
    simp only [spanOf, plAd, plC, plN]
    rw [if_pos (show 1 ≤ lo ∧ lo ≤ hi ∧ hi ≤ 3 from h)]
    congr 1
    omega
  | cst t => exact absurd rfl (hc t)
theorem span_none {many size : Int} {kd : Kd} (h : ¬ placeOk many kd) : spanOf many size kd = (0, 0) := by
  cases kd with
  | arr => exact absurd trivial h
  | elem k => exact if_neg h
  | var => exact absurd trivial h
  | sub lo hi => exact if_neg h
  | cst t => rfl
theorem due_none {many size : Int} {os : List (Option Str)} {kd : Kd} (h : ¬ placeOk many kd) : dueOf many size os kd = none := by
  unfold dueOf
  rw [span_none h]
  simp [segOf, upTo]
def segAt (many size : Int) (os : List (Option Str)) (kd : Kd) : List (Option Str) := (os.drop (plAd size kd).toNat).take ((plC many kd).toNat * (plN size kd).toNat)
theorem due_place {many size : Int} {os : List (Option Str)} {kd : Kd} (h : placeOk many kd) (hc : ∀ t, kd ≠ .cst t) (h1 : 1 ≤ many) (h2 : many ≤ 3) (h3 : 1 ≤ size) (h4 : size ≤ 4) :
    dueOf many size os kd = if plAd size kd + plC many kd * plN size kd ≤ os.length then (if (upTo (segAt many size os kd)).isEmpty then none else some (lead (segAt many size os kd))) else none := by
  obtain ⟨b1, b2, b3, b4, b5, b6, b7⟩ := pl_bnd h h1 h2 h3 h4
  have e : segOf os (plAd size kd) (plAd size kd + plC many kd * plN size kd) = segAt many size os kd := by
    unfold segOf segAt
    congr 1
    have : plAd size kd + plC many kd * plN size kd - plAd size kd = plC many kd * plN size kd := by omega
    rw [this]
    obtain ⟨x, hx⟩ := Int.eq_ofNat_of_zero_le (show 0 ≤ plC many kd by omega)
    obtain ⟨y, hy⟩ := Int.eq_ofNat_of_zero_le (show 0 ≤ plN size kd by omega)
    rw [hx, hy]
    rfl
  unfold dueOf
  rw [span_place h hc]
  simp only
  rw [e]
  by_cases hq : plAd size kd + plC many kd * plN size kd > os.length
  · exact (if_pos hq).trans (Eq.symm (if_neg (show ¬ plAd size kd + plC many kd * plN size kd ≤ os.length by omega)))
  · exact (if_neg hq).trans (Eq.symm (if_pos (show plAd size kd + plC many kd * plN size kd ≤ os.length by omega)))
theorem FrAt.pF {w : World} {news : List (Addr × Obj)} {run pF pG dF d1 dG rd fr ex : Addr} {size many : Int} {es : List DictEntry} {nn : Nat} {ofr oex : Obj} {t1 t2 t3 t4 t5 t6 t7 t8 : Tok}
    (h : FrAt w news run size many pF pG dF d1 dG es rd fr ex nn ofr oex t1 t2 t3 t4 t5 t6 t7 t8) : PlaceAt news pF 0 size many := ⟨t1, t2, t3, dF, h.h_pF, .arr d1 t4 t5 many h.h_dF h.h_d1⟩
theorem FrAt.pG {w : World} {news : List (Addr × Obj)} {run pF pG dF d1 dG rd fr ex : Addr} {size many : Int} {es : List DictEntry} {nn : Nat} {ofr oex : Obj} {t1 t2 t3 t4 t5 t6 t7 t8 : Tok}
    (h : FrAt w news run size many pF pG dF d1 dG es rd fr ex nn ofr oex t1 t2 t3 t4 t5 t6 t7 t8) : PlaceAt news pG 0 3 1 := ⟨t6, t7, t8, dG, h.h_pG, .one h.h_dG⟩
theorem place_all {w : World} {dp un : Nat} {gd : Option (List Code)} {cn : Str} {cs : Scope} {a : Addr} {ccd : Value} {cl : List (Str × Addr)} {outer : List Env} {A₀ : Around} {base h₀ : Heap} {L : Addr} {m : Str → Option Value} {s : Shared} {Q E : Value → Shared → Prop} {mean : ExcName → Option Value} {mg mb : Str → Option Value} {news base0 : List (Addr × Obj)} {run tr : Addr} {size many : Int} {pF pG dF d1 dG : Addr} {es : List DictEntry} {rd fr ex : Addr} {nn : Nat} {ofr oex : Obj} {t1 t2 t3 t4 t5 t6 t7 t8 : Tok} {kd : Kd}
    (B : Below A₀ base outer h₀) (F : Fr h₀ L s.heap m) (X : (seat.heap_1 w.params).In h₀) (T : Top topProg ((looseW seat.view_1 [Str.ofString "counted_elements_iops", Str.ofString "counted_elements_plainio"]) ++ List.map (fun x => x.name) (recsOf seat.view_1) ++ List.map (fun x => x.fst) (litsOf seat.view_1) ++ List.map (fun x => x.name) (clssOf seat.view_1 (looseW seat.view_1 [Str.ofString "counted_elements_iops", Str.ofString "counted_elements_plainio"]))) mean mg mb h₀) (hkf : cs.kind = .function) (N : News h₀ L s.heap news) (hdp : dp + 60 < recursionLimit) (hR : FrAt w news run size many pF pG dF d1 dG es rd fr ex nn ofr oex t1 t2 t3 t4 t5 t6 t7 t8) (hT : TreeAt news tr kd) (hc : ∀ t, kd ≠ .cst t)
    (h3 : many ≤ 3) (h4 : 1 ≤ size) (h5 : size ≤ 4) (hPF : PlaceAt base0 pF 0 size many) (hPG : PlaceAt base0 pG 0 3 1)
    (ret : placeOk many kd → ∀ r ex h' tk', Fr h₀ L h' m → News h₀ L h' (ex ++ news) → (∀ p ∈ ex, ∀ q ∈ news, q.1 < p.1) → PlaceAt (ex ++ base0) r (plAd size kd) (plN size kd) (plC many kd) → Q (.ref r) { s with heap := h', toks := tk' })
    (exc : ¬ placeOk many kd → ∀ e g₂ h' tk', Fr h₀ L g₂ m → RaisedSN base g₂ (envX cn cs L a ccd cl :: outer) e (.ref 51) news h' → g₂.UpToSlots h' → E (.ref e) { s with heap := h', toks := tk' }) :
    wpAny (model PySem.Challenge.rw_rh0120_01.row.prog w) (ktrTop dp un gd cn cs L a ccd cl outer) (call (.ref 345) [.ref run, .ref tr]) Q E s := by
  cases kd with
  | cst t => exact absurd rfl (hc t)
  | arr =>
    obtain ⟨u1, u2, u3, ht⟩ := hT
    refine place_arr B F X T hkf N (by omega) hR ht (fun h' tk' F' N' => ret trivial pF [] h' tk' F' N' (fun p hp => nomatch hp) hPF)
  | var =>
    obtain ⟨u1, u2, u3, ht⟩ := hT
    refine place_var B F X T hkf N (by omega) hR ht (fun h' tk' F' N' => ret trivial pG [] h' tk' F' N' (fun p hp => nomatch hp) hPG)
  | elem k =>
    obtain ⟨u1, u2, u3, u4, u5, u6, ll, c1, nl, ht, hl, hc1⟩ := hT
    refine place_elem B F X T hkf N (by omega) hR ht hl hc1 h3 h4 h5 (fun g1 g2 r em a1 a2 a3 h' tk' F' N' l1 l2 => ret ⟨g1, g2⟩ r [(r, tupO [.int 5 a1, .int ((k - 1) * size) a2, .int size a3, .ref em]), (em, tupO [])] h' tk' F' N' ?_ ⟨a1, a2, a3, em, .head _, .one (.tail _ (.head _))⟩) exc
    intro p hp q hq
    simp only [List.mem_cons, List.not_mem_nil, or_false] at hp
    rcases hp with rfl | rfl
    · exact Nat.lt_trans (l1 q hq) l2
    · exact l1 q hq
  | sub lo hi =>
    obtain ⟨u1, u2, u3, u4, u5, u6, u7, u8, u9, v1, v2, va, b0, b1, ht, hv, hb0, hb1⟩ := hT
    refine place_sub B F X T hkf N (by omega) hR ht hv hb0 hb1 (fun g1 g2 g3 r em a1 a2 a3 h' tk' F' N' l1 l2 => ret ⟨g1, g2, g3⟩ r [(r, tupO [.int 5 a1, .int (lo - 1) a2, .int (hi - lo + 1) a3, .ref em]), (em, tupO [])] h' tk' F' N' ?_ ⟨a1, a2, a3, em, .head _, .one (.tail _ (.head _))⟩) exc
    intro p hp q hq
    simp only [List.mem_cons, List.not_mem_nil, or_false] at hp
    rcases hp with rfl | rfl
    · exact Nat.lt_trans (l1 q hq) l2
    · exact l1 q hq
end
local macro_rules | `(tactic| walk_at "tl184d389") => `(tactic| (intro _ _ _ _ _ _ _ ho' _; (have hl' := (ho' (Str.ofString "limits") (by decide)).trans (by assumption))))
section
theorem reg_Count_1 : True := by
  w_top off
  k_with_none
  k_with "pj" => (first | exact Mine.c0 h9 | exact Mine.c1 h9 | exact Mine.e1 h9 | exact Mine.c2 h9 | exact Mine.e2 h9 | exact Mine.c3 h9 | exact Mine.e3 h9 | exact Mine.c4 h9 | exact Mine.e4 h9 | exact Mine.c5 h9 | exact Mine.e5 h9 | exact Mine.c6 h9 | exact Mine.e6 h9 | exact Mine.c7 h9 | exact Mine.e7 h9 | exact Mine.c8 h9 | exact Mine.e8 h9 | exact Mine.c9 h9 | exact Mine.e9 h9 | exact Mine.c10 h9 | exact Mine.e10 h9 | exact Mine.c11 h9 | exact Mine.e11 h9 | exact Mine.c12 h9 | exact Mine.e12 h9 | exact Mine.c13 h9 | exact Mine.e13 h9 | exact Mine.c14 h9 | exact Mine.e14 h9 | exact Mine.c15 h9 | exact Mine.e15 h9 | exact Mine.c16 h9 | exact Mine.e16 h9 | exact Mine.c17 h9 | exact Mine.e17 h9 | exact Mine.c18 h9 | exact Mine.e18 h9 | exact Mine.c19 h9 | exact Mine.e19 h9 | exact Mine.c20 h9 | exact Mine.e20 h9 | fail "pj")
  k_with "pj1" => (first | exact Mine.c0 (Mine.c0 h9) | exact Mine.c0 (Mine.c1 h9) | exact Mine.c0 (Mine.c2 h9) | exact Mine.c0 (Mine.c3 h9) | exact Mine.c0 (Mine.c4 h9) | exact Mine.c0 (Mine.c5 h9) | exact Mine.c0 (Mine.c6 h9) | exact Mine.c0 (Mine.c7 h9) | exact Mine.c0 (Mine.c8 h9) | exact Mine.c0 (Mine.c9 h9) | exact Mine.c0 (Mine.c10 h9) | exact Mine.c0 (Mine.c11 h9) | exact Mine.c0 (Mine.c12 h9) | exact Mine.c0 (Mine.c13 h9) | exact Mine.c0 (Mine.c14 h9) | exact Mine.c0 (Mine.c15 h9) | exact Mine.c0 (Mine.c16 h9) | exact Mine.c0 (Mine.c17 h9) | exact Mine.c0 (Mine.c18 h9) | exact Mine.c0 (Mine.c19 h9) | exact Mine.c0 (Mine.c20 h9) | fail "pj1")
  k_with "pj2" => (first | exact Mine.c1 (Mine.c0 h9) | exact Mine.c1 (Mine.c1 h9) | exact Mine.c1 (Mine.c2 h9) | exact Mine.c1 (Mine.c3 h9) | exact Mine.c1 (Mine.c4 h9) | exact Mine.c1 (Mine.c5 h9) | exact Mine.c1 (Mine.c6 h9) | exact Mine.c1 (Mine.c7 h9) | exact Mine.c1 (Mine.c8 h9) | exact Mine.c1 (Mine.c9 h9) | exact Mine.c1 (Mine.c10 h9) | exact Mine.c1 (Mine.c11 h9) | exact Mine.c1 (Mine.c12 h9) | exact Mine.c1 (Mine.c13 h9) | exact Mine.c1 (Mine.c14 h9) | exact Mine.c1 (Mine.c15 h9) | exact Mine.c1 (Mine.c16 h9) | exact Mine.c1 (Mine.c17 h9) | exact Mine.c1 (Mine.c18 h9) | exact Mine.c1 (Mine.c19 h9) | exact Mine.c1 (Mine.c20 h9) | fail "pj2")
  k_with "pj3" => (first | exact Mine.e2 (Mine.c0 h9) | exact Mine.e2 (Mine.c1 h9) | exact Mine.e2 (Mine.c2 h9) | exact Mine.e2 (Mine.c3 h9) | exact Mine.e2 (Mine.c4 h9) | exact Mine.e2 (Mine.c5 h9) | exact Mine.e2 (Mine.c6 h9) | exact Mine.e2 (Mine.c7 h9) | exact Mine.e2 (Mine.c8 h9) | exact Mine.e2 (Mine.c9 h9) | exact Mine.e2 (Mine.c10 h9) | exact Mine.e2 (Mine.c11 h9) | exact Mine.e2 (Mine.c12 h9) | exact Mine.e2 (Mine.c13 h9) | exact Mine.e2 (Mine.c14 h9) | exact Mine.e2 (Mine.c15 h9) | exact Mine.e2 (Mine.c16 h9) | exact Mine.e2 (Mine.c17 h9) | exact Mine.e2 (Mine.c18 h9) | exact Mine.e2 (Mine.c19 h9) | exact Mine.e2 (Mine.c20 h9) | fail "pj3")
  k_with "omega" => (first | exact Nat.le_refl _ | decide | with_reducible (first | exact Mine.lim0 (by assumption) | exact Mine.lim1 (by assumption) (by with_unfolding_all rfl) | exact Mine.lim2 (by assumption) (by with_unfolding_all rfl) | exact Mine.lim3 (by assumption) (by with_unfolding_all rfl) | exact Mine.lim8 (by assumption) (by assumption) (by with_unfolding_all rfl) | exact Mine.lim9 (by assumption) (by assumption) (by with_unfolding_all rfl) | exact Mine.lim10 (by assumption) (by assumption) (by with_unfolding_all rfl) | exact Mine.i1 (by assumption) | exact Mine.i2 (by assumption) | exact Mine.i3 (by assumption) | exact Mine.i4 (by assumption) (by with_unfolding_all rfl) | exact Mine.i5 (by assumption) | exact Mine.i6 (by assumption) (by assumption) | exact Mine.i7 (by assumption) (by assumption) | exact Mine.i8 (by assumption) (by assumption) | exact List.length_take_le _ _ | fail "l") | (refine Mine.toNe ?_; with_reducible (first | exact Nat.ne_of_lt (by ((repeat (first | assumption | exact Mine.ltp0 | refine Mine.ltp ?_)); (first | done | fail "c"))) | exact Nat.ne_of_gt (by ((repeat (first | assumption | exact Mine.ltp0 | refine Mine.ltp ?_)); (first | done | fail "c"))) | (refine Nat.ne_of_lt (Mine.viaL (by assumption) ?_); intro h9; k_extra "pj") | (refine Nat.ne_of_gt (Mine.viaL (by assumption) ?_); intro h9; k_extra "pj") | (refine Nat.ne_of_lt (Mine.viaM (by assumption) ?_); intro h9; k_extra "pj") | (refine Nat.ne_of_gt (Mine.viaM (by assumption) ?_); intro h9; k_extra "pj") | assumption | exact Ne.symm (by assumption) | (refine Mine.viaN (by assumption) ?_; intro h9; k_extra "pj") | (refine Ne.symm (Mine.viaN (by assumption) ?_); intro h9; k_extra "pj") | (refine Mine.viaN1 (by assumption) ?_; intro h9; k_extra "pj1") | (refine Ne.symm (Mine.viaN1 (by assumption) ?_); intro h9; k_extra "pj1") | (refine Mine.viaN2 (by assumption) ?_; intro h9; k_extra "pj2") | (refine Ne.symm (Mine.viaN2 (by assumption) ?_); intro h9; k_extra "pj2") | (refine Mine.viaN3 (by assumption) ?_; intro h9; k_extra "pj3") | (refine Ne.symm (Mine.viaN3 (by assumption) ?_); intro h9; k_extra "pj3") | fail "n")) | fail "o")
  trivial
theorem getL_put_self {name : Str} {hsh : Int} {key v u : Value} : ∀ {es : List DictEntry}, getL name es = some (some u) → getL name (putL name hsh key v es) = some (some v) ∧ (putL name hsh key v es).length = es.length
  | [], h => by simp [getL] at h
  | e :: r, h => by
    unfold putL
    cases hk : e.key.isStr name with
    | true =>
      rw [if_pos rfl]
      refine ⟨?_, rfl⟩
      unfold getL
      rw [List.find?_cons, show (DictEntry.mk e.hash e.key v).key.isStr name = true from hk]
    | false =>
      rw [if_neg Bool.false_ne_true]
      have h2 : getL name r = some (some u) := by
        unfold getL at h ⊢
        rw [List.find?_cons, hk] at h
        simp only at h
        cases hf : r.find? (·.key.isStr name) with
        | some x => rw [hf] at h; exact h
        | none => rw [hf] at h; simp only at h; split at h <;> simp at h
      obtain ⟨a, b⟩ := getL_put_self (hsh := hsh) (key := key) (v := v) h2
      refine ⟨?_, by simp [b]⟩
      unfold getL at a ⊢
      rw [List.find?_cons, hk]
      simp only
      cases hf : (putL name hsh key v r).find? (·.key.isStr name) with
      | some x => rw [hf] at a; exact a
      | none => rw [hf] at a; simp only at a; split at a <;> simp at a
theorem isStr_ne {k : Value} {a b : Str} (h : k.isStr a = true) (hn : b ≠ a) : k.isStr b = false := by
  cases k <;> simp_all [Value.isStr]
  intro e
  exact hn (e ▸ rfl)
theorem find_put {name y : Str} {hsh : Int} {key v u : Value} (hy : y ≠ name) : ∀ {es : List DictEntry}, getL name es = some (some u) →
    (putL name hsh key v es).find? (·.key.isStr y) = es.find? (·.key.isStr y) ∧ (putL name hsh key v es).any (·.refKey) = es.any (·.refKey)
  | [], h => by simp [getL] at h
  | e :: r, h => by
    unfold putL
    cases hk : e.key.isStr name with
    | true =>
      rw [if_pos rfl]
      have := isStr_ne hk hy
      refine ⟨?_, rfl⟩
      rw [List.find?_cons, List.find?_cons, show (DictEntry.mk e.hash e.key v).key.isStr y = false from this]
    | false =>
      rw [if_neg Bool.false_ne_true]
      have h2 : getL name r = some (some u) := by
        unfold getL at h ⊢
        rw [List.find?_cons, hk] at h
        simp only at h
        cases hf : r.find? (·.key.isStr name) with
        | some x => rw [hf] at h; exact h
        | none => rw [hf] at h; simp only at h; split at h <;> simp at h
      obtain ⟨a, b⟩ := find_put (hsh := hsh) (key := key) (v := v) hy h2
      rw [List.find?_cons, List.find?_cons, a, List.any_cons, List.any_cons, b]
      exact ⟨rfl, rfl⟩
theorem getL_put_ne {name y : Str} {hsh : Int} {key v u : Value} {es : List DictEntry} (hy : y ≠ name) (h : getL name es = some (some u)) : getL y (putL name hsh key v es) = getL y es := by
  obtain ⟨a, b⟩ := find_put (hsh := hsh) (key := key) (v := v) hy h
  unfold getL
  rw [a, b]
section
variable {prog : Program} {w : World} {A A₀ : Around} {E : Value → Shared → Prop} {s : Shared} {K : Frag} {x C dx L : Addr} {h₀ : Heap} {m : Str → Option Value} {rest : List (Addr × Obj)} {es : List DictEntry} {n : Nat} {name : Str} {u v : Value}
theorem set_abs {Q : Unit → Shared → Prop} (F : Fr h₀ L s.heap m) (X₀ : K.In h₀) (N : News h₀ L s.heap ((dx, dictOf es n) :: rest)) (hne : ∀ p ∈ rest, p.1 ≠ dx) (hx : (x, instObj C dx) ∈ rest)
    (hl : getL name es = some (some u)) (hz : es.length ≤ 500)
    (h : ∀ h' es' n' tk', Fr h₀ L h' m → News h₀ L h' ((dx, dictOf es' n') :: rest) → getL name es' = some (some v) → (∀ y, y ≠ name → getL y es' = getL y es) → es'.length = es.length → Q () { s with heap := h', toks := tk' })
    (hs : findIn K (.ref C) "__setattr__" = some (some (.builtin "object.__setattr__"))) (hp : plainOver K C = true) (ht : takerIn K C name = some none) (hh : hasDictIn K C = true) :
    wpAny (model prog w) A (setAttr (.ref x) name v) Q E s := by
  obtain ⟨e1, e2⟩ := getL_put_self (hsh := PyData.keyHash w.params name) (key := .str name (s.toks + 1)) (v := v) hl
  refine set_dict F X₀ N (InstAt.of_news N (.tail _ hx) (.head _)) rfl hs hp ht hh (by rw [hl]; rfl) rfl (.head hne) (by rw [e2]; omega) fun h' F' N' => h h' _ _ _ F' N' e1 (fun y hy => getL_put_ne hy hl) e2
end
section
theorem reg_Count_2 : True := by
  w_top off
  k_with_none
  k_with "pj" => (first | exact Mine.c0 h9 | exact Mine.c1 h9 | exact Mine.e1 h9 | exact Mine.c2 h9 | exact Mine.e2 h9 | exact Mine.c3 h9 | exact Mine.e3 h9 | exact Mine.c4 h9 | exact Mine.e4 h9 | exact Mine.c5 h9 | exact Mine.e5 h9 | exact Mine.c6 h9 | exact Mine.e6 h9 | exact Mine.c7 h9 | exact Mine.e7 h9 | exact Mine.c8 h9 | exact Mine.e8 h9 | exact Mine.c9 h9 | exact Mine.e9 h9 | exact Mine.c10 h9 | exact Mine.e10 h9 | exact Mine.c11 h9 | exact Mine.e11 h9 | exact Mine.c12 h9 | exact Mine.e12 h9 | exact Mine.c13 h9 | exact Mine.e13 h9 | exact Mine.c14 h9 | exact Mine.e14 h9 | exact Mine.c15 h9 | exact Mine.e15 h9 | exact Mine.c16 h9 | exact Mine.e16 h9 | exact Mine.c17 h9 | exact Mine.e17 h9 | exact Mine.c18 h9 | exact Mine.e18 h9 | exact Mine.c19 h9 | exact Mine.e19 h9 | exact Mine.c20 h9 | exact Mine.e20 h9 | fail "pj")
  k_with "pj1" => (first | exact Mine.c0 (Mine.c0 h9) | exact Mine.c0 (Mine.c1 h9) | exact Mine.c0 (Mine.c2 h9) | exact Mine.c0 (Mine.c3 h9) | exact Mine.c0 (Mine.c4 h9) | exact Mine.c0 (Mine.c5 h9) | exact Mine.c0 (Mine.c6 h9) | exact Mine.c0 (Mine.c7 h9) | exact Mine.c0 (Mine.c8 h9) | exact Mine.c0 (Mine.c9 h9) | exact Mine.c0 (Mine.c10 h9) | exact Mine.c0 (Mine.c11 h9) | exact Mine.c0 (Mine.c12 h9) | exact Mine.c0 (Mine.c13 h9) | exact Mine.c0 (Mine.c14 h9) | exact Mine.c0 (Mine.c15 h9) | exact Mine.c0 (Mine.c16 h9) | exact Mine.c0 (Mine.c17 h9) | exact Mine.c0 (Mine.c18 h9) | exact Mine.c0 (Mine.c19 h9) | exact Mine.c0 (Mine.c20 h9) | fail "pj1")
  k_with "pj2" => (first | exact Mine.c1 (Mine.c0 h9) | exact Mine.c1 (Mine.c1 h9) | exact Mine.c1 (Mine.c2 h9) | exact Mine.c1 (Mine.c3 h9) | exact Mine.c1 (Mine.c4 h9) | exact Mine.c1 (Mine.c5 h9) | exact Mine.c1 (Mine.c6 h9) | exact Mine.c1 (Mine.c7 h9) | exact Mine.c1 (Mine.c8 h9) | exact Mine.c1 (Mine.c9 h9) | exact Mine.c1 (Mine.c10 h9) | exact Mine.c1 (Mine.c11 h9) | exact Mine.c1 (Mine.c12 h9) | exact Mine.c1 (Mine.c13 h9) | exact Mine.c1 (Mine.c14 h9) | exact Mine.c1 (Mine.c15 h9) | exact Mine.c1 (Mine.c16 h9) | exact Mine.c1 (Mine.c17 h9) | exact Mine.c1 (Mine.c18 h9) | exact Mine.c1 (Mine.c19 h9) | exact Mine.c1 (Mine.c20 h9) | fail "pj2")
  k_with "pj3" => (first | exact Mine.e2 (Mine.c0 h9) | exact Mine.e2 (Mine.c1 h9) | exact Mine.e2 (Mine.c2 h9) | exact Mine.e2 (Mine.c3 h9) | exact Mine.e2 (Mine.c4 h9) | exact Mine.e2 (Mine.c5 h9) | exact Mine.e2 (Mine.c6 h9) | exact Mine.e2 (Mine.c7 h9) | exact Mine.e2 (Mine.c8 h9) | exact Mine.e2 (Mine.c9 h9) | exact Mine.e2 (Mine.c10 h9) | exact Mine.e2 (Mine.c11 h9) | exact Mine.e2 (Mine.c12 h9) | exact Mine.e2 (Mine.c13 h9) | exact Mine.e2 (Mine.c14 h9) | exact Mine.e2 (Mine.c15 h9) | exact Mine.e2 (Mine.c16 h9) | exact Mine.e2 (Mine.c17 h9) | exact Mine.e2 (Mine.c18 h9) | exact Mine.e2 (Mine.c19 h9) | exact Mine.e2 (Mine.c20 h9) | fail "pj3")
  k_with "omega" => (first | exact Nat.le_refl _ | decide | with_reducible (first | exact Mine.lim0 (by assumption) | exact Mine.lim1 (by assumption) (by with_unfolding_all rfl) | exact Mine.lim2 (by assumption) (by with_unfolding_all rfl) | exact Mine.lim3 (by assumption) (by with_unfolding_all rfl) | exact Mine.lim8 (by assumption) (by assumption) (by with_unfolding_all rfl) | exact Mine.lim9 (by assumption) (by assumption) (by with_unfolding_all rfl) | exact Mine.lim10 (by assumption) (by assumption) (by with_unfolding_all rfl) | exact Mine.i1 (by assumption) | exact Mine.i2 (by assumption) | exact Mine.i3 (by assumption) | exact Mine.i4 (by assumption) (by with_unfolding_all rfl) | exact Mine.i5 (by assumption) | exact Mine.i6 (by assumption) (by assumption) | exact Mine.i7 (by assumption) (by assumption) | exact Mine.i8 (by assumption) (by assumption) | exact List.length_take_le _ _ | fail "l") | (refine Mine.toNe ?_; with_reducible (first | exact Nat.ne_of_lt (by ((repeat (first | assumption | exact Mine.ltp0 | refine Mine.ltp ?_)); (first | done | fail "c"))) | exact Nat.ne_of_gt (by ((repeat (first | assumption | exact Mine.ltp0 | refine Mine.ltp ?_)); (first | done | fail "c"))) | (refine Nat.ne_of_lt (Mine.viaL (by assumption) ?_); intro h9; k_extra "pj") | (refine Nat.ne_of_gt (Mine.viaL (by assumption) ?_); intro h9; k_extra "pj") | (refine Nat.ne_of_lt (Mine.viaM (by assumption) ?_); intro h9; k_extra "pj") | (refine Nat.ne_of_gt (Mine.viaM (by assumption) ?_); intro h9; k_extra "pj") | assumption | exact Ne.symm (by assumption) | (refine Mine.viaN (by assumption) ?_; intro h9; k_extra "pj") | (refine Ne.symm (Mine.viaN (by assumption) ?_); intro h9; k_extra "pj") | (refine Mine.viaN1 (by assumption) ?_; intro h9; k_extra "pj1") | (refine Ne.symm (Mine.viaN1 (by assumption) ?_); intro h9; k_extra "pj1") | (refine Mine.viaN2 (by assumption) ?_; intro h9; k_extra "pj2") | (refine Ne.symm (Mine.viaN2 (by assumption) ?_); intro h9; k_extra "pj2") | (refine Mine.viaN3 (by assumption) ?_; intro h9; k_extra "pj3") | (refine Ne.symm (Mine.viaN3 (by assumption) ?_); intro h9; k_extra "pj3") | fail "n")) | fail "o")
  k_with "k_all" => (first | (assumption) | fail "no")
  k_with "k_mem" => (first | (assumption) | fail "no")
  k_with "news_mem" => (first | (k_mem) | fail "no")
  k_with "k_get" => (first | (assumption) | fail "no")
  k_with "setAttr ref" => (first | (k_here; k_dflt (refine' set_abs ?q92d786d7F ?q92d786d7X ?q92d786d7N ?q92d786d7ne ?q92d786d7x ?q92d786d7l ?q92d786d7z ?_ ?q92d786d7hs ?q92d786d7hp ?q92d786d7ht ?q92d786d7hh; (case q92d786d7F => k_asm); (case q92d786d7X => k_asm); (case q92d786d7N => k_asm); (case q92d786d7ne => assumption); (case q92d786d7x => assumption); (case q92d786d7l => assumption); (case q92d786d7z => assumption); (case q92d786d7hs => k_is); (case q92d786d7hp => k_is); (case q92d786d7ht => k_is); (case q92d786d7hh => k_is); k_whole); walk_at "tl184d389"; (try k_sweep)) | fail "no")
  trivial
theorem count_c {w : World} {dp un : Nat} {gd : Option (List Code)} {cn : Str} {cs : Scope} {a : Addr} {ccd : Value} {cl : List (Str × Addr)} {outer : List Env} {A₀ : Around} {base h₀ : Heap} {L : Addr} {m : Str → Option Value} {s : Shared} {Q E : Value → Shared → Prop} {mean : ExcName → Option Value} {mg mb : Str → Option Value} {rest : List (Addr × Obj)} {run rd lim : Addr} {es : List DictEntry} {nn : Nat} {many : Int} {t0 tm : Tok}
    (B : Below A₀ base outer h₀) (F : Fr h₀ L s.heap m) (X : (seat.heap_1 w.params).In h₀) (T : Top topProg ((looseW seat.view_1 [Str.ofString "counted_elements_iops", Str.ofString "counted_elements_plainio"]) ++ List.map (fun x => x.name) (recsOf seat.view_1) ++ List.map (fun x => x.fst) (litsOf seat.view_1) ++ List.map (fun x => x.name) (clssOf seat.view_1 (looseW seat.view_1 [Str.ofString "counted_elements_iops", Str.ofString "counted_elements_plainio"]))) mean mg mb h₀) (hkf : cs.kind = .function) (N : News h₀ L s.heap ((rd, dictOf es nn) :: rest)) (hne : ∀ p ∈ rest, p.1 ≠ rd) (hdp : dp + 20 < recursionLimit) (hrun : (run, instObj 308 rd) ∈ rest) (hLim : LimAt rest lim)
    (g1 : getL (Str.ofString "steps") es = some (some (.int 0 t0))) (g2 : getL (Str.ofString "limits") es = some (some (.ref lim))) (hz : es.length ≤ 500) (h1 : 0 ≤ many) (h2 : many ≤ 100)
    (ret : ∀ h' tk', Fr h₀ L h' m → News h₀ L h' rest → Q .none { s with heap := h', toks := tk' }) :
    wpAny (model PySem.Challenge.rw_rh0120_01.row.prog w) (ktrTop dp un gd cn cs L a ccd cl outer) (call (.ref 366) [.ref run, .int many tm]) Q E s := by
  (revert X; k_fill; intro X)
  obtain ⟨ld, esl, nl, tl, hl1, hl2, hl3⟩ := hLim
  (refine wpAny_call ?_; k_dflt ktr_enter)
  k_steps
  all_goals exact ret _ _ (by assumption) (newsSub (by assumption) (by intro p hp; repeat (first | exact hp | refine List.mem_cons_of_mem _ ?_)))
end
/-- what a run's dict holds -/
structure RunD (es : List DictEntry) (mem lim : Addr) : Prop where
  mem : getL (Str.ofString "memory") es = some (some (.ref mem))
  lim : getL (Str.ofString "limits") es = some (some (.ref lim))
  steps : ∃ t, getL (Str.ofString "steps") es = some (some (.int 0 t))
  len : es.length ≤ 100
section
theorem reg_Count_3 : True := by
  w_top off
  k_with_none
  k_with "pj" => (first | exact Mine.c0 h9 | exact Mine.c1 h9 | exact Mine.e1 h9 | exact Mine.c2 h9 | exact Mine.e2 h9 | exact Mine.c3 h9 | exact Mine.e3 h9 | exact Mine.c4 h9 | exact Mine.e4 h9 | exact Mine.c5 h9 | exact Mine.e5 h9 | exact Mine.c6 h9 | exact Mine.e6 h9 | exact Mine.c7 h9 | exact Mine.e7 h9 | exact Mine.c8 h9 | exact Mine.e8 h9 | exact Mine.c9 h9 | exact Mine.e9 h9 | exact Mine.c10 h9 | exact Mine.e10 h9 | exact Mine.c11 h9 | exact Mine.e11 h9 | exact Mine.c12 h9 | exact Mine.e12 h9 | exact Mine.c13 h9 | exact Mine.e13 h9 | exact Mine.c14 h9 | exact Mine.e14 h9 | exact Mine.c15 h9 | exact Mine.e15 h9 | exact Mine.c16 h9 | exact Mine.e16 h9 | exact Mine.c17 h9 | exact Mine.e17 h9 | exact Mine.c18 h9 | exact Mine.e18 h9 | exact Mine.c19 h9 | exact Mine.e19 h9 | exact Mine.c20 h9 | exact Mine.e20 h9 | fail "pj")
  k_with "pj1" => (first | exact Mine.c0 (Mine.c0 h9) | exact Mine.c0 (Mine.c1 h9) | exact Mine.c0 (Mine.c2 h9) | exact Mine.c0 (Mine.c3 h9) | exact Mine.c0 (Mine.c4 h9) | exact Mine.c0 (Mine.c5 h9) | exact Mine.c0 (Mine.c6 h9) | exact Mine.c0 (Mine.c7 h9) | exact Mine.c0 (Mine.c8 h9) | exact Mine.c0 (Mine.c9 h9) | exact Mine.c0 (Mine.c10 h9) | exact Mine.c0 (Mine.c11 h9) | exact Mine.c0 (Mine.c12 h9) | exact Mine.c0 (Mine.c13 h9) | exact Mine.c0 (Mine.c14 h9) | exact Mine.c0 (Mine.c15 h9) | exact Mine.c0 (Mine.c16 h9) | exact Mine.c0 (Mine.c17 h9) | exact Mine.c0 (Mine.c18 h9) | exact Mine.c0 (Mine.c19 h9) | exact Mine.c0 (Mine.c20 h9) | fail "pj1")
  k_with "pj2" => (first | exact Mine.c1 (Mine.c0 h9) | exact Mine.c1 (Mine.c1 h9) | exact Mine.c1 (Mine.c2 h9) | exact Mine.c1 (Mine.c3 h9) | exact Mine.c1 (Mine.c4 h9) | exact Mine.c1 (Mine.c5 h9) | exact Mine.c1 (Mine.c6 h9) | exact Mine.c1 (Mine.c7 h9) | exact Mine.c1 (Mine.c8 h9) | exact Mine.c1 (Mine.c9 h9) | exact Mine.c1 (Mine.c10 h9) | exact Mine.c1 (Mine.c11 h9) | exact Mine.c1 (Mine.c12 h9) | exact Mine.c1 (Mine.c13 h9) | exact Mine.c1 (Mine.c14 h9) | exact Mine.c1 (Mine.c15 h9) | exact Mine.c1 (Mine.c16 h9) | exact Mine.c1 (Mine.c17 h9) | exact Mine.c1 (Mine.c18 h9) | exact Mine.c1 (Mine.c19 h9) | exact Mine.c1 (Mine.c20 h9) | fail "pj2")
  k_with "pj3" => (first | exact Mine.e2 (Mine.c0 h9) | exact Mine.e2 (Mine.c1 h9) | exact Mine.e2 (Mine.c2 h9) | exact Mine.e2 (Mine.c3 h9) | exact Mine.e2 (Mine.c4 h9) | exact Mine.e2 (Mine.c5 h9) | exact Mine.e2 (Mine.c6 h9) | exact Mine.e2 (Mine.c7 h9) | exact Mine.e2 (Mine.c8 h9) | exact Mine.e2 (Mine.c9 h9) | exact Mine.e2 (Mine.c10 h9) | exact Mine.e2 (Mine.c11 h9) | exact Mine.e2 (Mine.c12 h9) | exact Mine.e2 (Mine.c13 h9) | exact Mine.e2 (Mine.c14 h9) | exact Mine.e2 (Mine.c15 h9) | exact Mine.e2 (Mine.c16 h9) | exact Mine.e2 (Mine.c17 h9) | exact Mine.e2 (Mine.c18 h9) | exact Mine.e2 (Mine.c19 h9) | exact Mine.e2 (Mine.c20 h9) | fail "pj3")
  k_with "omega" => (first | exact Nat.le_refl _ | decide | with_reducible (first | exact Mine.lim0 (by assumption) | exact Mine.lim1 (by assumption) (by with_unfolding_all rfl) | exact Mine.lim2 (by assumption) (by with_unfolding_all rfl) | exact Mine.lim3 (by assumption) (by with_unfolding_all rfl) | exact Mine.lim8 (by assumption) (by assumption) (by with_unfolding_all rfl) | exact Mine.lim9 (by assumption) (by assumption) (by with_unfolding_all rfl) | exact Mine.lim10 (by assumption) (by assumption) (by with_unfolding_all rfl) | exact Mine.i1 (by assumption) | exact Mine.i2 (by assumption) | exact Mine.i3 (by assumption) | exact Mine.i4 (by assumption) (by with_unfolding_all rfl) | exact Mine.i5 (by assumption) | exact Mine.i6 (by assumption) (by assumption) | exact Mine.i7 (by assumption) (by assumption) | exact Mine.i8 (by assumption) (by assumption) | exact List.length_take_le _ _ | fail "l") | (refine Mine.toNe ?_; with_reducible (first | exact Nat.ne_of_lt (by ((repeat (first | assumption | exact Mine.ltp0 | refine Mine.ltp ?_)); (first | done | fail "c"))) | exact Nat.ne_of_gt (by ((repeat (first | assumption | exact Mine.ltp0 | refine Mine.ltp ?_)); (first | done | fail "c"))) | (refine Nat.ne_of_lt (Mine.viaL (by assumption) ?_); intro h9; k_extra "pj") | (refine Nat.ne_of_gt (Mine.viaL (by assumption) ?_); intro h9; k_extra "pj") | (refine Nat.ne_of_lt (Mine.viaM (by assumption) ?_); intro h9; k_extra "pj") | (refine Nat.ne_of_gt (Mine.viaM (by assumption) ?_); intro h9; k_extra "pj") | assumption | exact Ne.symm (by assumption) | (refine Mine.viaN (by assumption) ?_; intro h9; k_extra "pj") | (refine Ne.symm (Mine.viaN (by assumption) ?_); intro h9; k_extra "pj") | (refine Mine.viaN1 (by assumption) ?_; intro h9; k_extra "pj1") | (refine Ne.symm (Mine.viaN1 (by assumption) ?_); intro h9; k_extra "pj1") | (refine Mine.viaN2 (by assumption) ?_; intro h9; k_extra "pj2") | (refine Ne.symm (Mine.viaN2 (by assumption) ?_); intro h9; k_extra "pj2") | (refine Mine.viaN3 (by assumption) ?_; intro h9; k_extra "pj3") | (refine Ne.symm (Mine.viaN3 (by assumption) ?_); intro h9; k_extra "pj3") | fail "n")) | fail "o")
  k_with "k_all" => (first | (assumption) | fail "no")
  k_with "k_mem" => (first | (assumption) | fail "no")
  k_with "news_mem" => (first | (k_mem) | fail "no")
  k_with "exec Raise some none" => (first | (k_here; refine raise_open rfl ?_) | fail "no")
  k_with "call ref" => (first | (k_here; (with_reducible show wpAny _ _ (call (Value.ref 51) [Value.str _ _] _) _ _ _); k_dflt (refine' fault_mk ?q96b9c5B ?q96b9c5F ?q96b9c5X ?q96b9c5T ?q96b9c5hk ?q96b9c5hA ?q96b9c5hr ?q96b9c5N ?_; (case q96b9c5hA => exact rfl); (case q96b9c5hk => first | exact rfl | assumption); (case q96b9c5B => k_asm); (case q96b9c5F => k_asm); (case q96b9c5X => k_asm); (case q96b9c5T => k_asm); (case q96b9c5hr => ((simp only [depth_under_make, depth_under_kw, depth_in1, depth_deeper, depth_caller]); first | decide | ((try dsimp only [ktrTop]); omega))); (case q96b9c5N => k_asm)); intro _ _ _ _ _ _ _ _; (try k_sweep)) | fail "no")
  k_with "RaisedVal" => (first | (refine ⟨_, _, _, rfl, Frag.In.keeps (by assumption) (Fr.keep (by assumption)), ((by assumption : News _ _ _ (_ :: _)) _ List.mem_cons_self).1, ?_⟩) | fail "no")
  k_with "leaving ref" => (first | (k_here; first | (refine' leave_fault ?q91bf5e95K ?q91bf5e95F ?q91bf5e95N ?q91bf5e95n ?_ ?q91bf5e95hf ?q91bf5e95hk; (case q91bf5e95hf => exact rfl); (case q91bf5e95hk => first | exact rfl | assumption); (case q91bf5e95F => assumption); (case q91bf5e95K => assumption); (case q91bf5e95N => assumption); (case q91bf5e95n => assumption); k_whole; walk_at "tl3225b9b") | (refine' leave_past ?q91bf5e95K ?q91bf5e95F ?q91bf5e95R ?q91bf5e95U ?_ ?q91bf5e95hf; (case q91bf5e95hf => exact rfl); (case q91bf5e95R => assumption); (case q91bf5e95U => assumption); (case q91bf5e95K => assumption); (case q91bf5e95F => assumption); k_whole; walk_at "tl3225b9b")) | fail "no")
  k_with "call builtin:len" => (first | (k_here; k_dflt (refine call_len_list (by is_list) (by rw [List.size_toArray]; omega) ?_)) | fail "no")
  k_with "k_get" => (first | (assumption) | fail "no")
  k_with "call ref" => (first | (refine halt ?_) | fail "no")
  trivial
theorem newsIn {h₀ h : Heap} {L : Addr} {x y : Addr × Obj} {ex rest : List (Addr × Obj)} (N : News h₀ L h (x :: (ex ++ y :: rest))) : News h₀ L h (y :: x :: (ex ++ rest)) :=
  newsSub N fun p hp => by
    simp only [List.mem_cons, List.mem_append] at hp ⊢
    rcases hp with h | h | h | h <;> simp [h]
theorem counted_p {w : World} {dp un : Nat} {gd : Option (List Code)} {cn : Str} {cs : Scope} {a : Addr} {ccd : Value} {cl : List (Str × Addr)} {outer : List Env} {A₀ : Around} {base h₀ : Heap} {L : Addr} {m : Str → Option Value} {s : Shared} {Q E : Value → Shared → Prop} {mean : ExcName → Option Value} {mg mb : Str → Option Value} {rest : List (Addr × Obj)} {run rd lim mem ch pr : Addr} {es : List DictEntry} {nn : Nat} {vs : List Value} {ad n c : Int}
    (B : Below A₀ base outer h₀) (F : Fr h₀ L s.heap m) (X : (seat.heap_1 w.params).In h₀) (T : Top topProg ((looseW seat.view_1 [Str.ofString "counted_elements_iops", Str.ofString "counted_elements_plainio"]) ++ List.map (fun x => x.name) (recsOf seat.view_1) ++ List.map (fun x => x.fst) (litsOf seat.view_1) ++ List.map (fun x => x.name) (clssOf seat.view_1 (looseW seat.view_1 [Str.ofString "counted_elements_iops", Str.ofString "counted_elements_plainio"]))) mean mg mb h₀) (hkf : cs.kind = .function) (N : News h₀ L s.heap ((rd, dictOf es nn) :: rest)) (hne : ∀ p ∈ rest, p.1 ≠ rd) (hdp : dp + 60 < recursionLimit) (hrun : (run, instObj 308 rd) ∈ rest) (hLim : LimAt rest lim) (hD : RunD es mem lim)
    (hM : MemAt rest mem ch vs) (hz : vs.length ≤ 1000) (hP : PlaceAt ((rd, dictOf es nn) :: rest) pr ad n c) (h1 : 1 ≤ c) (h2 : c ≤ 3) (h3 : 1 ≤ n) (h4 : n ≤ 100) (h5 : 0 ≤ ad) (h6 : ad ≤ 1000) (hsm : c * n ≤ 500)
    (ret : ad + c * n ≤ vs.length → ∀ pl ps c0 ex h' tk', Fr h₀ L h' m → News h₀ L h' ((pl, W.listOf ps.toArray c0) :: (ex ++ rest)) → (∀ p ∈ ex, ∀ q ∈ rest, q.1 < p.1) → (∀ q ∈ ex ++ rest, q.1 ≠ pl) → PlAt ex ps ad n c.toNat → Q (.ref pl) { s with heap := h', toks := tk' })
    (exc : ¬ ad + c * n ≤ vs.length → ∀ e g₂ h' tk', Fr h₀ L g₂ m → RaisedSN base g₂ (envX cn cs L a ccd cl :: outer) e (.ref 51) rest h' → g₂.UpToSlots h' → E (.ref e) { s with heap := h', toks := tk' }) :
    wpAny (model PySem.Challenge.rw_rh0120_01.row.prog w) (ktrTop dp un gd cn cs L a ccd cl outer) (call (.ref 387) [.ref run, .ref pr]) Q E s := by
  (revert X; k_fill; intro X)
  have hm : ∀ p ∈ rest, p ∈ (rd, dictOf es nn) :: rest := fun p hp => .tail _ hp
  have hrun' := hm _ hrun
  have hrd' : (rd, dictOf es nn) ∈ (rd, dictOf es nn) :: rest := .head _
  have hgm := hD.mem
  generalize hnw : (rd, dictOf es nn) :: rest = nw at N hrun' hrd'
  (refine wpAny_call ?_; k_dflt ktr_enter)
  k_steps
  refine unhalt ?_
  subst hnw
  by_cases hfit : ad + c * n ≤ vs.length
  · k_dflt (refine' held_ok ?q9B ?q9F ?q9X ?q9T ?q9hk ?q9N ?q9hdp (hM.mono hm) hz hP h1 h2 h3 h4 h5 h6 hfit ?_)
    (case q9hk => first | exact rfl | assumption); (case q9B => k_asm); (case q9F => k_asm); (case q9X => k_asm); (case q9T => k_asm); (case q9N => k_asm); (case q9hdp => ((simp only [depth_under_make, depth_under_kw, depth_in1, depth_deeper, depth_caller]); first | decide | ((try dsimp only [ktrTop]); omega)))
    intro pl ps c0 ex h' tk' F' N' l1 l2 hPl
    replace N' := newsIn N'
    have hpl1 := hPl.1
    have hmm : ∀ p ∈ rest, p ∈ (pl, W.listOf ps.toArray c0) :: (ex ++ rest) := fun p hp => .tail _ (List.mem_append_right _ hp)
    k_steps
    refine unhalt ?_
    obtain ⟨t9, hst⟩ := hD.steps
    k_dflt (refine' count_c ?q9B ?q9F ?q9X ?q9T ?q9hk ?q9N ?q9hne ?q9hdp (hmm _ hrun) (hLim.mono hmm) hst hD.lim ?q9hz ?q9h1 ?q9h2 ?_)
    (case q9hk => first | exact rfl | assumption); (case q9B => k_asm); (case q9F => k_asm); (case q9X => k_asm); (case q9T => k_asm); (case q9N => k_asm); (case q9hdp => ((simp only [depth_under_make, depth_under_kw, depth_in1, depth_deeper, depth_caller]); first | decide | ((try dsimp only [ktrTop]); omega)))
    (case q9hz => exact Nat.le_trans hD.len (by decide))
    (case q9h1 => (rw [List.size_toArray]; omega))
    (case q9h2 => (rw [List.size_toArray]; omega))
    · intro p hp
      rcases List.mem_cons.mp hp with rfl | hp
      · exact (l2 _ (List.mem_append_right _ (.head _))).symm
      · rcases List.mem_append.mp hp with hp | hp
        · exact Nat.ne_of_gt (l1 p hp _ (.head _))
        · exact hne p hp
    · intro h' tk' F' N'
      k_steps
      all_goals exact ret hfit _ _ _ _ _ _ (by assumption) (by assumption) (fun p hp q hq => l1 p hp q (.tail _ hq)) (fun q hq => l2 q (by
        rcases List.mem_append.mp hq with h | h
        · exact List.mem_append_left _ h
        · exact List.mem_append_right _ (.tail _ h))) hPl
  · k_dflt (refine' held_bad ?q9B ?q9F ?q9X ?q9T ?q9hk ?q9N ?q9hdp (hM.mono hm) hz hP h1 h2 h3 h4 h5 h6 hfit hsm ?_)
    (case q9hk => first | exact rfl | assumption); (case q9B => k_asm); (case q9F => k_asm); (case q9X => k_asm); (case q9T => k_asm); (case q9N => k_asm); (case q9hdp => ((simp only [depth_under_make, depth_under_kw, depth_in1, depth_deeper, depth_caller]); first | decide | ((try dsimp only [ktrTop]); omega)))
    intro e g₂ h' tk' F' R' U'
    k_steps
    all_goals exact exc hfit _ _ _ _ (by assumption) (raisedSub (by assumption) (fun p hp => .tail _ hp)) (by assumption)
end
end
section
def fmtT (t : Str) : Str := if t == Str.ofString "*" then t ++ Str.ofString " " else t
theorem reg_Fmt_1 : True := by
  w_top off
  k_with_none
  k_with "pj" => (first | exact Mine.c0 h9 | exact Mine.c1 h9 | exact Mine.e1 h9 | exact Mine.c2 h9 | exact Mine.e2 h9 | exact Mine.c3 h9 | exact Mine.e3 h9 | exact Mine.c4 h9 | exact Mine.e4 h9 | exact Mine.c5 h9 | exact Mine.e5 h9 | exact Mine.c6 h9 | exact Mine.e6 h9 | exact Mine.c7 h9 | exact Mine.e7 h9 | exact Mine.c8 h9 | exact Mine.e8 h9 | exact Mine.c9 h9 | exact Mine.e9 h9 | exact Mine.c10 h9 | exact Mine.e10 h9 | exact Mine.c11 h9 | exact Mine.e11 h9 | exact Mine.c12 h9 | exact Mine.e12 h9 | exact Mine.c13 h9 | exact Mine.e13 h9 | exact Mine.c14 h9 | exact Mine.e14 h9 | exact Mine.c15 h9 | exact Mine.e15 h9 | exact Mine.c16 h9 | exact Mine.e16 h9 | exact Mine.c17 h9 | exact Mine.e17 h9 | exact Mine.c18 h9 | exact Mine.e18 h9 | exact Mine.c19 h9 | exact Mine.e19 h9 | exact Mine.c20 h9 | exact Mine.e20 h9 | fail "pj")
  k_with "pj1" => (first | exact Mine.c0 (Mine.c0 h9) | exact Mine.c0 (Mine.c1 h9) | exact Mine.c0 (Mine.c2 h9) | exact Mine.c0 (Mine.c3 h9) | exact Mine.c0 (Mine.c4 h9) | exact Mine.c0 (Mine.c5 h9) | exact Mine.c0 (Mine.c6 h9) | exact Mine.c0 (Mine.c7 h9) | exact Mine.c0 (Mine.c8 h9) | exact Mine.c0 (Mine.c9 h9) | exact Mine.c0 (Mine.c10 h9) | exact Mine.c0 (Mine.c11 h9) | exact Mine.c0 (Mine.c12 h9) | exact Mine.c0 (Mine.c13 h9) | exact Mine.c0 (Mine.c14 h9) | exact Mine.c0 (Mine.c15 h9) | exact Mine.c0 (Mine.c16 h9) | exact Mine.c0 (Mine.c17 h9) | exact Mine.c0 (Mine.c18 h9) | exact Mine.c0 (Mine.c19 h9) | exact Mine.c0 (Mine.c20 h9) | fail "pj1")
  k_with "pj2" => (first | exact Mine.c1 (Mine.c0 h9) | exact Mine.c1 (Mine.c1 h9) | exact Mine.c1 (Mine.c2 h9) | exact Mine.c1 (Mine.c3 h9) | exact Mine.c1 (Mine.c4 h9) | exact Mine.c1 (Mine.c5 h9) | exact Mine.c1 (Mine.c6 h9) | exact Mine.c1 (Mine.c7 h9) | exact Mine.c1 (Mine.c8 h9) | exact Mine.c1 (Mine.c9 h9) | exact Mine.c1 (Mine.c10 h9) | exact Mine.c1 (Mine.c11 h9) | exact Mine.c1 (Mine.c12 h9) | exact Mine.c1 (Mine.c13 h9) | exact Mine.c1 (Mine.c14 h9) | exact Mine.c1 (Mine.c15 h9) | exact Mine.c1 (Mine.c16 h9) | exact Mine.c1 (Mine.c17 h9) | exact Mine.c1 (Mine.c18 h9) | exact Mine.c1 (Mine.c19 h9) | exact Mine.c1 (Mine.c20 h9) | fail "pj2")
  k_with "pj3" => (first | exact Mine.e2 (Mine.c0 h9) | exact Mine.e2 (Mine.c1 h9) | exact Mine.e2 (Mine.c2 h9) | exact Mine.e2 (Mine.c3 h9) | exact Mine.e2 (Mine.c4 h9) | exact Mine.e2 (Mine.c5 h9) | exact Mine.e2 (Mine.c6 h9) | exact Mine.e2 (Mine.c7 h9) | exact Mine.e2 (Mine.c8 h9) | exact Mine.e2 (Mine.c9 h9) | exact Mine.e2 (Mine.c10 h9) | exact Mine.e2 (Mine.c11 h9) | exact Mine.e2 (Mine.c12 h9) | exact Mine.e2 (Mine.c13 h9) | exact Mine.e2 (Mine.c14 h9) | exact Mine.e2 (Mine.c15 h9) | exact Mine.e2 (Mine.c16 h9) | exact Mine.e2 (Mine.c17 h9) | exact Mine.e2 (Mine.c18 h9) | exact Mine.e2 (Mine.c19 h9) | exact Mine.e2 (Mine.c20 h9) | fail "pj3")
  k_with "omega" => (first | exact Nat.le_refl _ | decide | with_reducible (first | exact Mine.lim0 (by assumption) | exact Mine.lim1 (by assumption) (by with_unfolding_all rfl) | exact Mine.lim2 (by assumption) (by with_unfolding_all rfl) | exact Mine.lim3 (by assumption) (by with_unfolding_all rfl) | exact Mine.lim8 (by assumption) (by assumption) (by with_unfolding_all rfl) | exact Mine.lim9 (by assumption) (by assumption) (by with_unfolding_all rfl) | exact Mine.lim10 (by assumption) (by assumption) (by with_unfolding_all rfl) | exact Mine.i1 (by assumption) | exact Mine.i2 (by assumption) | exact Mine.i3 (by assumption) | exact Mine.i4 (by assumption) (by with_unfolding_all rfl) | exact Mine.i5 (by assumption) | exact Mine.i6 (by assumption) (by assumption) | exact Mine.i7 (by assumption) (by assumption) | exact Mine.i8 (by assumption) (by assumption) | exact List.length_take_le _ _ | fail "l") | (refine Mine.toNe ?_; with_reducible (first | exact Nat.ne_of_lt (by ((repeat (first | assumption | exact Mine.ltp0 | refine Mine.ltp ?_)); (first | done | fail "c"))) | exact Nat.ne_of_gt (by ((repeat (first | assumption | exact Mine.ltp0 | refine Mine.ltp ?_)); (first | done | fail "c"))) | (refine Nat.ne_of_lt (Mine.viaL (by assumption) ?_); intro h9; k_extra "pj") | (refine Nat.ne_of_gt (Mine.viaL (by assumption) ?_); intro h9; k_extra "pj") | (refine Nat.ne_of_lt (Mine.viaM (by assumption) ?_); intro h9; k_extra "pj") | (refine Nat.ne_of_gt (Mine.viaM (by assumption) ?_); intro h9; k_extra "pj") | assumption | exact Ne.symm (by assumption) | (refine Mine.viaN (by assumption) ?_; intro h9; k_extra "pj") | (refine Ne.symm (Mine.viaN (by assumption) ?_); intro h9; k_extra "pj") | (refine Mine.viaN1 (by assumption) ?_; intro h9; k_extra "pj1") | (refine Ne.symm (Mine.viaN1 (by assumption) ?_); intro h9; k_extra "pj1") | (refine Mine.viaN2 (by assumption) ?_; intro h9; k_extra "pj2") | (refine Ne.symm (Mine.viaN2 (by assumption) ?_); intro h9; k_extra "pj2") | (refine Mine.viaN3 (by assumption) ?_; intro h9; k_extra "pj3") | (refine Ne.symm (Mine.viaN3 (by assumption) ?_); intro h9; k_extra "pj3") | fail "n")) | fail "o")
  trivial
theorem fmtT_pos {t : Str} (h : (t == Str.ofString "*") = true) : fmtT t = t ++ Str.ofString " " := if_pos h
theorem fmtT_neg {t : Str} (h : (t == Str.ofString "*") = false) : fmtT t = t := if_neg (by rw [h]; exact Bool.false_ne_true)
section
theorem reg_Fmt_2 : True := by
  w_top off
  k_with_none
  k_with "pj" => (first | exact Mine.c0 h9 | exact Mine.c1 h9 | exact Mine.e1 h9 | exact Mine.c2 h9 | exact Mine.e2 h9 | exact Mine.c3 h9 | exact Mine.e3 h9 | exact Mine.c4 h9 | exact Mine.e4 h9 | exact Mine.c5 h9 | exact Mine.e5 h9 | exact Mine.c6 h9 | exact Mine.e6 h9 | exact Mine.c7 h9 | exact Mine.e7 h9 | exact Mine.c8 h9 | exact Mine.e8 h9 | exact Mine.c9 h9 | exact Mine.e9 h9 | exact Mine.c10 h9 | exact Mine.e10 h9 | exact Mine.c11 h9 | exact Mine.e11 h9 | exact Mine.c12 h9 | exact Mine.e12 h9 | exact Mine.c13 h9 | exact Mine.e13 h9 | exact Mine.c14 h9 | exact Mine.e14 h9 | exact Mine.c15 h9 | exact Mine.e15 h9 | exact Mine.c16 h9 | exact Mine.e16 h9 | exact Mine.c17 h9 | exact Mine.e17 h9 | exact Mine.c18 h9 | exact Mine.e18 h9 | exact Mine.c19 h9 | exact Mine.e19 h9 | exact Mine.c20 h9 | exact Mine.e20 h9 | fail "pj")
  k_with "pj1" => (first | exact Mine.c0 (Mine.c0 h9) | exact Mine.c0 (Mine.c1 h9) | exact Mine.c0 (Mine.c2 h9) | exact Mine.c0 (Mine.c3 h9) | exact Mine.c0 (Mine.c4 h9) | exact Mine.c0 (Mine.c5 h9) | exact Mine.c0 (Mine.c6 h9) | exact Mine.c0 (Mine.c7 h9) | exact Mine.c0 (Mine.c8 h9) | exact Mine.c0 (Mine.c9 h9) | exact Mine.c0 (Mine.c10 h9) | exact Mine.c0 (Mine.c11 h9) | exact Mine.c0 (Mine.c12 h9) | exact Mine.c0 (Mine.c13 h9) | exact Mine.c0 (Mine.c14 h9) | exact Mine.c0 (Mine.c15 h9) | exact Mine.c0 (Mine.c16 h9) | exact Mine.c0 (Mine.c17 h9) | exact Mine.c0 (Mine.c18 h9) | exact Mine.c0 (Mine.c19 h9) | exact Mine.c0 (Mine.c20 h9) | fail "pj1")
  k_with "pj2" => (first | exact Mine.c1 (Mine.c0 h9) | exact Mine.c1 (Mine.c1 h9) | exact Mine.c1 (Mine.c2 h9) | exact Mine.c1 (Mine.c3 h9) | exact Mine.c1 (Mine.c4 h9) | exact Mine.c1 (Mine.c5 h9) | exact Mine.c1 (Mine.c6 h9) | exact Mine.c1 (Mine.c7 h9) | exact Mine.c1 (Mine.c8 h9) | exact Mine.c1 (Mine.c9 h9) | exact Mine.c1 (Mine.c10 h9) | exact Mine.c1 (Mine.c11 h9) | exact Mine.c1 (Mine.c12 h9) | exact Mine.c1 (Mine.c13 h9) | exact Mine.c1 (Mine.c14 h9) | exact Mine.c1 (Mine.c15 h9) | exact Mine.c1 (Mine.c16 h9) | exact Mine.c1 (Mine.c17 h9) | exact Mine.c1 (Mine.c18 h9) | exact Mine.c1 (Mine.c19 h9) | exact Mine.c1 (Mine.c20 h9) | fail "pj2")
  k_with "pj3" => (first | exact Mine.e2 (Mine.c0 h9) | exact Mine.e2 (Mine.c1 h9) | exact Mine.e2 (Mine.c2 h9) | exact Mine.e2 (Mine.c3 h9) | exact Mine.e2 (Mine.c4 h9) | exact Mine.e2 (Mine.c5 h9) | exact Mine.e2 (Mine.c6 h9) | exact Mine.e2 (Mine.c7 h9) | exact Mine.e2 (Mine.c8 h9) | exact Mine.e2 (Mine.c9 h9) | exact Mine.e2 (Mine.c10 h9) | exact Mine.e2 (Mine.c11 h9) | exact Mine.e2 (Mine.c12 h9) | exact Mine.e2 (Mine.c13 h9) | exact Mine.e2 (Mine.c14 h9) | exact Mine.e2 (Mine.c15 h9) | exact Mine.e2 (Mine.c16 h9) | exact Mine.e2 (Mine.c17 h9) | exact Mine.e2 (Mine.c18 h9) | exact Mine.e2 (Mine.c19 h9) | exact Mine.e2 (Mine.c20 h9) | fail "pj3")
  k_with "omega" => (first | exact Nat.le_refl _ | decide | with_reducible (first | exact Mine.lim0 (by assumption) | exact Mine.lim1 (by assumption) (by with_unfolding_all rfl) | exact Mine.lim2 (by assumption) (by with_unfolding_all rfl) | exact Mine.lim3 (by assumption) (by with_unfolding_all rfl) | exact Mine.lim8 (by assumption) (by assumption) (by with_unfolding_all rfl) | exact Mine.lim9 (by assumption) (by assumption) (by with_unfolding_all rfl) | exact Mine.lim10 (by assumption) (by assumption) (by with_unfolding_all rfl) | exact Mine.i1 (by assumption) | exact Mine.i2 (by assumption) | exact Mine.i3 (by assumption) | exact Mine.i4 (by assumption) (by with_unfolding_all rfl) | exact Mine.i5 (by assumption) | exact Mine.i6 (by assumption) (by assumption) | exact Mine.i7 (by assumption) (by assumption) | exact Mine.i8 (by assumption) (by assumption) | exact List.length_take_le _ _ | fail "l") | (refine Mine.toNe ?_; with_reducible (first | exact Nat.ne_of_lt (by ((repeat (first | assumption | exact Mine.ltp0 | refine Mine.ltp ?_)); (first | done | fail "c"))) | exact Nat.ne_of_gt (by ((repeat (first | assumption | exact Mine.ltp0 | refine Mine.ltp ?_)); (first | done | fail "c"))) | (refine Nat.ne_of_lt (Mine.viaL (by assumption) ?_); intro h9; k_extra "pj") | (refine Nat.ne_of_gt (Mine.viaL (by assumption) ?_); intro h9; k_extra "pj") | (refine Nat.ne_of_lt (Mine.viaM (by assumption) ?_); intro h9; k_extra "pj") | (refine Nat.ne_of_gt (Mine.viaM (by assumption) ?_); intro h9; k_extra "pj") | assumption | exact Ne.symm (by assumption) | (refine Mine.viaN (by assumption) ?_; intro h9; k_extra "pj") | (refine Ne.symm (Mine.viaN (by assumption) ?_); intro h9; k_extra "pj") | (refine Mine.viaN1 (by assumption) ?_; intro h9; k_extra "pj1") | (refine Ne.symm (Mine.viaN1 (by assumption) ?_); intro h9; k_extra "pj1") | (refine Mine.viaN2 (by assumption) ?_; intro h9; k_extra "pj2") | (refine Ne.symm (Mine.viaN2 (by assumption) ?_); intro h9; k_extra "pj2") | (refine Mine.viaN3 (by assumption) ?_; intro h9; k_extra "pj3") | (refine Ne.symm (Mine.viaN3 (by assumption) ?_); intro h9; k_extra "pj3") | fail "n")) | fail "o")
  k_with "k_all" => (first | (assumption) | fail "no")
  k_with "k_mem" => (first | (assumption) | fail "no")
  k_with "news_mem" => (first | (k_mem) | fail "no")
  trivial
theorem fmt_c {w : World} {dp un : Nat} {gd : Option (List Code)} {cn : Str} {cs : Scope} {a : Addr} {ccd : Value} {cl : List (Str × Addr)} {outer : List Env} {A₀ : Around} {base h₀ : Heap} {L : Addr} {m : Str → Option Value} {s : Shared} {Q E : Value → Shared → Prop} {mean : ExcName → Option Value} {mg mb : Str → Option Value} {news : List (Addr × Obj)} {t : Str} {tk : Tok}
    (B : Below A₀ base outer h₀) (F : Fr h₀ L s.heap m) (X : (seat.heap_1 w.params).In h₀) (T : Top topProg ((looseW seat.view_1 [Str.ofString "counted_elements_iops", Str.ofString "counted_elements_plainio"]) ++ List.map (fun x => x.name) (recsOf seat.view_1) ++ List.map (fun x => x.fst) (litsOf seat.view_1) ++ List.map (fun x => x.name) (clssOf seat.view_1 (looseW seat.view_1 [Str.ofString "counted_elements_iops", Str.ofString "counted_elements_plainio"]))) mean mg mb h₀) (hkf : cs.kind = .function) (N : News h₀ L s.heap news) (hdp : dp + 10 < recursionLimit) (hz : t.length ≤ 100)
    (ret : ∀ t' h' tk', Fr h₀ L h' m → News h₀ L h' news → Q (.str (fmtT t) t') { s with heap := h', toks := tk' }) :
    wpAny (model PySem.Challenge.rw_rh0120_01.row.prog w) (ktrTop dp un gd cn cs L a ccd cl outer) (call (.ref 217) [.str t tk]) Q E s := by
  (revert X; k_fill; intro X)
  (refine wpAny_call ?_; k_dflt ktr_enter)
  k_steps
  · have q := fun t' h' tk' => ret t' h' tk'
    rw [fmtT_pos (by assumption)] at q
    exact q _ _ _ (by assumption) (by assumption)
  · have q := fun t' h' tk' => ret t' h' tk'
    rw [fmtT_neg (by assumption)] at q
    exact q _ _ _ (by assumption) (by assumption)
end
end
section
theorem reg_FmtVal_1 : True := by
  w_top off
  k_with_none
  k_with "pj" => (first | exact Mine.c0 h9 | exact Mine.c1 h9 | exact Mine.e1 h9 | exact Mine.c2 h9 | exact Mine.e2 h9 | exact Mine.c3 h9 | exact Mine.e3 h9 | exact Mine.c4 h9 | exact Mine.e4 h9 | exact Mine.c5 h9 | exact Mine.e5 h9 | exact Mine.c6 h9 | exact Mine.e6 h9 | exact Mine.c7 h9 | exact Mine.e7 h9 | exact Mine.c8 h9 | exact Mine.e8 h9 | exact Mine.c9 h9 | exact Mine.e9 h9 | exact Mine.c10 h9 | exact Mine.e10 h9 | exact Mine.c11 h9 | exact Mine.e11 h9 | exact Mine.c12 h9 | exact Mine.e12 h9 | exact Mine.c13 h9 | exact Mine.e13 h9 | exact Mine.c14 h9 | exact Mine.e14 h9 | exact Mine.c15 h9 | exact Mine.e15 h9 | exact Mine.c16 h9 | exact Mine.e16 h9 | exact Mine.c17 h9 | exact Mine.e17 h9 | exact Mine.c18 h9 | exact Mine.e18 h9 | exact Mine.c19 h9 | exact Mine.e19 h9 | exact Mine.c20 h9 | exact Mine.e20 h9 | fail "pj")
  k_with "pj1" => (first | exact Mine.c0 (Mine.c0 h9) | exact Mine.c0 (Mine.c1 h9) | exact Mine.c0 (Mine.c2 h9) | exact Mine.c0 (Mine.c3 h9) | exact Mine.c0 (Mine.c4 h9) | exact Mine.c0 (Mine.c5 h9) | exact Mine.c0 (Mine.c6 h9) | exact Mine.c0 (Mine.c7 h9) | exact Mine.c0 (Mine.c8 h9) | exact Mine.c0 (Mine.c9 h9) | exact Mine.c0 (Mine.c10 h9) | exact Mine.c0 (Mine.c11 h9) | exact Mine.c0 (Mine.c12 h9) | exact Mine.c0 (Mine.c13 h9) | exact Mine.c0 (Mine.c14 h9) | exact Mine.c0 (Mine.c15 h9) | exact Mine.c0 (Mine.c16 h9) | exact Mine.c0 (Mine.c17 h9) | exact Mine.c0 (Mine.c18 h9) | exact Mine.c0 (Mine.c19 h9) | exact Mine.c0 (Mine.c20 h9) | fail "pj1")
  k_with "pj2" => (first | exact Mine.c1 (Mine.c0 h9) | exact Mine.c1 (Mine.c1 h9) | exact Mine.c1 (Mine.c2 h9) | exact Mine.c1 (Mine.c3 h9) | exact Mine.c1 (Mine.c4 h9) | exact Mine.c1 (Mine.c5 h9) | exact Mine.c1 (Mine.c6 h9) | exact Mine.c1 (Mine.c7 h9) | exact Mine.c1 (Mine.c8 h9) | exact Mine.c1 (Mine.c9 h9) | exact Mine.c1 (Mine.c10 h9) | exact Mine.c1 (Mine.c11 h9) | exact Mine.c1 (Mine.c12 h9) | exact Mine.c1 (Mine.c13 h9) | exact Mine.c1 (Mine.c14 h9) | exact Mine.c1 (Mine.c15 h9) | exact Mine.c1 (Mine.c16 h9) | exact Mine.c1 (Mine.c17 h9) | exact Mine.c1 (Mine.c18 h9) | exact Mine.c1 (Mine.c19 h9) | exact Mine.c1 (Mine.c20 h9) | fail "pj2")
  k_with "pj3" => (first | exact Mine.e2 (Mine.c0 h9) | exact Mine.e2 (Mine.c1 h9) | exact Mine.e2 (Mine.c2 h9) | exact Mine.e2 (Mine.c3 h9) | exact Mine.e2 (Mine.c4 h9) | exact Mine.e2 (Mine.c5 h9) | exact Mine.e2 (Mine.c6 h9) | exact Mine.e2 (Mine.c7 h9) | exact Mine.e2 (Mine.c8 h9) | exact Mine.e2 (Mine.c9 h9) | exact Mine.e2 (Mine.c10 h9) | exact Mine.e2 (Mine.c11 h9) | exact Mine.e2 (Mine.c12 h9) | exact Mine.e2 (Mine.c13 h9) | exact Mine.e2 (Mine.c14 h9) | exact Mine.e2 (Mine.c15 h9) | exact Mine.e2 (Mine.c16 h9) | exact Mine.e2 (Mine.c17 h9) | exact Mine.e2 (Mine.c18 h9) | exact Mine.e2 (Mine.c19 h9) | exact Mine.e2 (Mine.c20 h9) | fail "pj3")
  k_with "omega" => (first | exact Nat.le_refl _ | decide | with_reducible (first | exact Mine.lim0 (by assumption) | exact Mine.lim1 (by assumption) (by with_unfolding_all rfl) | exact Mine.lim2 (by assumption) (by with_unfolding_all rfl) | exact Mine.lim3 (by assumption) (by with_unfolding_all rfl) | exact Mine.lim8 (by assumption) (by assumption) (by with_unfolding_all rfl) | exact Mine.lim9 (by assumption) (by assumption) (by with_unfolding_all rfl) | exact Mine.lim10 (by assumption) (by assumption) (by with_unfolding_all rfl) | exact Mine.i1 (by assumption) | exact Mine.i2 (by assumption) | exact Mine.i3 (by assumption) | exact Mine.i4 (by assumption) (by with_unfolding_all rfl) | exact Mine.i5 (by assumption) | exact Mine.i6 (by assumption) (by assumption) | exact Mine.i7 (by assumption) (by assumption) | exact Mine.i8 (by assumption) (by assumption) | exact List.length_take_le _ _ | fail "l") | (refine Mine.toNe ?_; with_reducible (first | exact Nat.ne_of_lt (by ((repeat (first | assumption | exact Mine.ltp0 | refine Mine.ltp ?_)); (first | done | fail "c"))) | exact Nat.ne_of_gt (by ((repeat (first | assumption | exact Mine.ltp0 | refine Mine.ltp ?_)); (first | done | fail "c"))) | (refine Nat.ne_of_lt (Mine.viaL (by assumption) ?_); intro h9; k_extra "pj") | (refine Nat.ne_of_gt (Mine.viaL (by assumption) ?_); intro h9; k_extra "pj") | (refine Nat.ne_of_lt (Mine.viaM (by assumption) ?_); intro h9; k_extra "pj") | (refine Nat.ne_of_gt (Mine.viaM (by assumption) ?_); intro h9; k_extra "pj") | assumption | exact Ne.symm (by assumption) | (refine Mine.viaN (by assumption) ?_; intro h9; k_extra "pj") | (refine Ne.symm (Mine.viaN (by assumption) ?_); intro h9; k_extra "pj") | (refine Mine.viaN1 (by assumption) ?_; intro h9; k_extra "pj1") | (refine Ne.symm (Mine.viaN1 (by assumption) ?_); intro h9; k_extra "pj1") | (refine Mine.viaN2 (by assumption) ?_; intro h9; k_extra "pj2") | (refine Ne.symm (Mine.viaN2 (by assumption) ?_); intro h9; k_extra "pj2") | (refine Mine.viaN3 (by assumption) ?_; intro h9; k_extra "pj3") | (refine Ne.symm (Mine.viaN3 (by assumption) ?_); intro h9; k_extra "pj3") | fail "n")) | fail "o")
  trivial
theorem TreeAt.two {news : List (Addr × Obj)} {tr : Addr} {kd : Kd} (h : TreeAt news tr kd) (hc : ∀ t, kd ≠ .cst t) : ∃ nm u u2 rest, nm ≠ Str.ofString "const" ∧ (tr, tupO (.str nm u :: .int 5 u2 :: rest)) ∈ news := by
  cases kd with
  | cst t => exact absurd rfl (hc t)
  | arr => obtain ⟨a, b, c, h⟩ := h; exact ⟨_, a, b, _, by decide, h⟩
  | var => obtain ⟨a, b, c, h⟩ := h; exact ⟨_, a, b, _, by decide, h⟩
  | elem k => obtain ⟨a1, a2, a3, a4, a5, a6, a7, a8, a9, h1, h2, h3⟩ := h; exact ⟨_, a1, a2, _, by decide, h1⟩
  | sub lo hi => obtain ⟨a1, a2, a3, a4, a5, a6, a7, a8, a9, b1, b2, b3, b4, b5, h1, h2, h3, h4⟩ := h; exact ⟨_, a1, a2, _, by decide, h1⟩
theorem second_item {prog : Program} {w : World} {A : Around} {E : Value → Shared → Prop} {s : Shared} {h₀ : Heap} {L tr : Addr} {news : List (Addr × Obj)} {value slice : PySem.Expr} {x y : Value} {rest : List Value} {u : Tok} {Q : Value → Shared → Prop}
    (N : News h₀ L s.heap news) (ht : (tr, tupO (x :: y :: rest)) ∈ news) (h : Q y s)
    (hs : subscripted slice false (.ref tr) (.int 1 u) = operate [.ref tr, .int 1 u] (getItem (.ref tr) (.int 1 u))) : wpAny (model prog w) A (subscriptTail value slice (.ref tr) (.int 1 u)) Q E s := by
  refine item_tupleT (l := x :: y :: rest) (j := 1) (x := y) (News.isTup N ht) (by decide) (by decide) ?_ rfl h hs
  have e : ((x :: y :: rest).length : Int) = rest.length + 1 + 1 := by simp
  unfold seqIndex?
  simp
  omega
theorem eq_tup_str {prog : Program} {w : World} {A : Around} {E : Value → Shared → Prop} {s : Shared} {h₀ : Heap} {L l : Addr} {news : List (Addr × Obj)} {vs : List Value} {x : Str} {u : Tok} {Q : Value → Shared → Prop}
    (N : News h₀ L s.heap news) (hl : (l, tupO vs) ∈ news) (hu : A.units < cLine) (h : Q (.bool false) s) : wpAny (model prog w) A (compareOp .Eq (.ref l) (.str x u)) Q E s :=
  PySem.SeqAt.RcAt.tuple_str x u ⟨_, (N _ hl).1, rfl, _, rfl⟩ hu _ _ _ _ h
section
theorem reg_FmtVal_2 : True := by
  w_top off
  k_with_none
  k_with "pj" => (first | exact Mine.c0 h9 | exact Mine.c1 h9 | exact Mine.e1 h9 | exact Mine.c2 h9 | exact Mine.e2 h9 | exact Mine.c3 h9 | exact Mine.e3 h9 | exact Mine.c4 h9 | exact Mine.e4 h9 | exact Mine.c5 h9 | exact Mine.e5 h9 | exact Mine.c6 h9 | exact Mine.e6 h9 | exact Mine.c7 h9 | exact Mine.e7 h9 | exact Mine.c8 h9 | exact Mine.e8 h9 | exact Mine.c9 h9 | exact Mine.e9 h9 | exact Mine.c10 h9 | exact Mine.e10 h9 | exact Mine.c11 h9 | exact Mine.e11 h9 | exact Mine.c12 h9 | exact Mine.e12 h9 | exact Mine.c13 h9 | exact Mine.e13 h9 | exact Mine.c14 h9 | exact Mine.e14 h9 | exact Mine.c15 h9 | exact Mine.e15 h9 | exact Mine.c16 h9 | exact Mine.e16 h9 | exact Mine.c17 h9 | exact Mine.e17 h9 | exact Mine.c18 h9 | exact Mine.e18 h9 | exact Mine.c19 h9 | exact Mine.e19 h9 | exact Mine.c20 h9 | exact Mine.e20 h9 | fail "pj")
  k_with "pj1" => (first | exact Mine.c0 (Mine.c0 h9) | exact Mine.c0 (Mine.c1 h9) | exact Mine.c0 (Mine.c2 h9) | exact Mine.c0 (Mine.c3 h9) | exact Mine.c0 (Mine.c4 h9) | exact Mine.c0 (Mine.c5 h9) | exact Mine.c0 (Mine.c6 h9) | exact Mine.c0 (Mine.c7 h9) | exact Mine.c0 (Mine.c8 h9) | exact Mine.c0 (Mine.c9 h9) | exact Mine.c0 (Mine.c10 h9) | exact Mine.c0 (Mine.c11 h9) | exact Mine.c0 (Mine.c12 h9) | exact Mine.c0 (Mine.c13 h9) | exact Mine.c0 (Mine.c14 h9) | exact Mine.c0 (Mine.c15 h9) | exact Mine.c0 (Mine.c16 h9) | exact Mine.c0 (Mine.c17 h9) | exact Mine.c0 (Mine.c18 h9) | exact Mine.c0 (Mine.c19 h9) | exact Mine.c0 (Mine.c20 h9) | fail "pj1")
  k_with "pj2" => (first | exact Mine.c1 (Mine.c0 h9) | exact Mine.c1 (Mine.c1 h9) | exact Mine.c1 (Mine.c2 h9) | exact Mine.c1 (Mine.c3 h9) | exact Mine.c1 (Mine.c4 h9) | exact Mine.c1 (Mine.c5 h9) | exact Mine.c1 (Mine.c6 h9) | exact Mine.c1 (Mine.c7 h9) | exact Mine.c1 (Mine.c8 h9) | exact Mine.c1 (Mine.c9 h9) | exact Mine.c1 (Mine.c10 h9) | exact Mine.c1 (Mine.c11 h9) | exact Mine.c1 (Mine.c12 h9) | exact Mine.c1 (Mine.c13 h9) | exact Mine.c1 (Mine.c14 h9) | exact Mine.c1 (Mine.c15 h9) | exact Mine.c1 (Mine.c16 h9) | exact Mine.c1 (Mine.c17 h9) | exact Mine.c1 (Mine.c18 h9) | exact Mine.c1 (Mine.c19 h9) | exact Mine.c1 (Mine.c20 h9) | fail "pj2")
  k_with "pj3" => (first | exact Mine.e2 (Mine.c0 h9) | exact Mine.e2 (Mine.c1 h9) | exact Mine.e2 (Mine.c2 h9) | exact Mine.e2 (Mine.c3 h9) | exact Mine.e2 (Mine.c4 h9) | exact Mine.e2 (Mine.c5 h9) | exact Mine.e2 (Mine.c6 h9) | exact Mine.e2 (Mine.c7 h9) | exact Mine.e2 (Mine.c8 h9) | exact Mine.e2 (Mine.c9 h9) | exact Mine.e2 (Mine.c10 h9) | exact Mine.e2 (Mine.c11 h9) | exact Mine.e2 (Mine.c12 h9) | exact Mine.e2 (Mine.c13 h9) | exact Mine.e2 (Mine.c14 h9) | exact Mine.e2 (Mine.c15 h9) | exact Mine.e2 (Mine.c16 h9) | exact Mine.e2 (Mine.c17 h9) | exact Mine.e2 (Mine.c18 h9) | exact Mine.e2 (Mine.c19 h9) | exact Mine.e2 (Mine.c20 h9) | fail "pj3")
  k_with "omega" => (first | exact Nat.le_refl _ | decide | with_reducible (first | exact Mine.lim0 (by assumption) | exact Mine.lim1 (by assumption) (by with_unfolding_all rfl) | exact Mine.lim2 (by assumption) (by with_unfolding_all rfl) | exact Mine.lim3 (by assumption) (by with_unfolding_all rfl) | exact Mine.lim8 (by assumption) (by assumption) (by with_unfolding_all rfl) | exact Mine.lim9 (by assumption) (by assumption) (by with_unfolding_all rfl) | exact Mine.lim10 (by assumption) (by assumption) (by with_unfolding_all rfl) | exact Mine.i1 (by assumption) | exact Mine.i2 (by assumption) | exact Mine.i3 (by assumption) | exact Mine.i4 (by assumption) (by with_unfolding_all rfl) | exact Mine.i5 (by assumption) | exact Mine.i6 (by assumption) (by assumption) | exact Mine.i7 (by assumption) (by assumption) | exact Mine.i8 (by assumption) (by assumption) | exact List.length_take_le _ _ | fail "l") | (refine Mine.toNe ?_; with_reducible (first | exact Nat.ne_of_lt (by ((repeat (first | assumption | exact Mine.ltp0 | refine Mine.ltp ?_)); (first | done | fail "c"))) | exact Nat.ne_of_gt (by ((repeat (first | assumption | exact Mine.ltp0 | refine Mine.ltp ?_)); (first | done | fail "c"))) | (refine Nat.ne_of_lt (Mine.viaL (by assumption) ?_); intro h9; k_extra "pj") | (refine Nat.ne_of_gt (Mine.viaL (by assumption) ?_); intro h9; k_extra "pj") | (refine Nat.ne_of_lt (Mine.viaM (by assumption) ?_); intro h9; k_extra "pj") | (refine Nat.ne_of_gt (Mine.viaM (by assumption) ?_); intro h9; k_extra "pj") | assumption | exact Ne.symm (by assumption) | (refine Mine.viaN (by assumption) ?_; intro h9; k_extra "pj") | (refine Ne.symm (Mine.viaN (by assumption) ?_); intro h9; k_extra "pj") | (refine Mine.viaN1 (by assumption) ?_; intro h9; k_extra "pj1") | (refine Ne.symm (Mine.viaN1 (by assumption) ?_); intro h9; k_extra "pj1") | (refine Mine.viaN2 (by assumption) ?_; intro h9; k_extra "pj2") | (refine Ne.symm (Mine.viaN2 (by assumption) ?_); intro h9; k_extra "pj2") | (refine Mine.viaN3 (by assumption) ?_; intro h9; k_extra "pj3") | (refine Ne.symm (Mine.viaN3 (by assumption) ?_); intro h9; k_extra "pj3") | fail "n")) | fail "o")
  k_with "k_all" => (first | (assumption) | fail "no")
  k_with "k_mem" => (first | (assumption) | fail "no")
  k_with "news_mem" => (first | (k_mem) | fail "no")
  trivial
theorem has_c {w : World} {dp un : Nat} {gd : Option (List Code)} {cn : Str} {cs : Scope} {a : Addr} {ccd : Value} {cl : List (Str × Addr)} {outer : List Env} {A₀ : Around} {base h₀ : Heap} {L : Addr} {m : Str → Option Value} {s : Shared} {Q E : Value → Shared → Prop} {mean : ExcName → Option Value} {mg mb : Str → Option Value} {news : List (Addr × Obj)} {tr : Addr} {kd : Kd}
    (B : Below A₀ base outer h₀) (F : Fr h₀ L s.heap m) (X : (seat.heap_1 w.params).In h₀) (T : Top topProg ((looseW seat.view_1 [Str.ofString "counted_elements_iops", Str.ofString "counted_elements_plainio"]) ++ List.map (fun x => x.name) (recsOf seat.view_1) ++ List.map (fun x => x.fst) (litsOf seat.view_1) ++ List.map (fun x => x.name) (clssOf seat.view_1 (looseW seat.view_1 [Str.ofString "counted_elements_iops", Str.ofString "counted_elements_plainio"]))) mean mg mb h₀) (hkf : cs.kind = .function) (N : News h₀ L s.heap news) (hdp : dp + 20 < recursionLimit) (hT : TreeAt news tr kd) (hc : ∀ t, kd ≠ .cst t)
    (ret : ∀ h' tk', Fr h₀ L h' m → News h₀ L h' news → Q (.bool true) { s with heap := h', toks := tk' }) :
    wpAny (model PySem.Challenge.rw_rh0120_01.row.prog w) (ktrTop dp un gd cn cs L a ccd cl outer) (call (.ref 352) [.ref tr]) Q E s := by
  (revert X; k_fill; intro X)
  cases kd with
  | cst t => exact absurd rfl (hc t)
  | arr =>
    obtain ⟨u1, u2, u3, ht⟩ := hT
    (refine wpAny_call ?_; k_dflt ktr_enter)
    k_steps
    all_goals exact ret _ _ (by assumption) (newsSub (by assumption) (by intro p hp; repeat (first | exact hp | refine List.mem_cons_of_mem _ ?_)))
  | var =>
    obtain ⟨u1, u2, u3, ht⟩ := hT
    (refine wpAny_call ?_; k_dflt ktr_enter)
    k_steps
    all_goals exact ret _ _ (by assumption) (newsSub (by assumption) (by intro p hp; repeat (first | exact hp | refine List.mem_cons_of_mem _ ?_)))
  | elem k =>
    obtain ⟨u1, u2, u3, u4, u5, u6, ll, c1, nl, ht, hl, hc1⟩ := hT
    (refine wpAny_call ?_; k_dflt ktr_enter)
    k_steps
    all_goals exact ret _ _ (by assumption) (newsSub (by assumption) (by intro p hp; repeat (first | exact hp | refine List.mem_cons_of_mem _ ?_)))
  | sub lo hi =>
    obtain ⟨u1, u2, u3, u4, u5, u6, u7, u8, u9, v1, v2, va, b0, b1, ht, hv, hb0, hb1⟩ := hT
    (refine wpAny_call ?_; k_dflt ktr_enter)
    k_steps
    all_goals exact ret _ _ (by assumption) (newsSub (by assumption) (by intro p hp; repeat (first | exact hp | refine List.mem_cons_of_mem _ ?_)))
theorem reg_FmtVal_3 : True := by
  w_top off
  k_with_none
  k_with "pj" => (first | exact Mine.c0 h9 | exact Mine.c1 h9 | exact Mine.e1 h9 | exact Mine.c2 h9 | exact Mine.e2 h9 | exact Mine.c3 h9 | exact Mine.e3 h9 | exact Mine.c4 h9 | exact Mine.e4 h9 | exact Mine.c5 h9 | exact Mine.e5 h9 | exact Mine.c6 h9 | exact Mine.e6 h9 | exact Mine.c7 h9 | exact Mine.e7 h9 | exact Mine.c8 h9 | exact Mine.e8 h9 | exact Mine.c9 h9 | exact Mine.e9 h9 | exact Mine.c10 h9 | exact Mine.e10 h9 | exact Mine.c11 h9 | exact Mine.e11 h9 | exact Mine.c12 h9 | exact Mine.e12 h9 | exact Mine.c13 h9 | exact Mine.e13 h9 | exact Mine.c14 h9 | exact Mine.e14 h9 | exact Mine.c15 h9 | exact Mine.e15 h9 | exact Mine.c16 h9 | exact Mine.e16 h9 | exact Mine.c17 h9 | exact Mine.e17 h9 | exact Mine.c18 h9 | exact Mine.e18 h9 | exact Mine.c19 h9 | exact Mine.e19 h9 | exact Mine.c20 h9 | exact Mine.e20 h9 | fail "pj")
  k_with "pj1" => (first | exact Mine.c0 (Mine.c0 h9) | exact Mine.c0 (Mine.c1 h9) | exact Mine.c0 (Mine.c2 h9) | exact Mine.c0 (Mine.c3 h9) | exact Mine.c0 (Mine.c4 h9) | exact Mine.c0 (Mine.c5 h9) | exact Mine.c0 (Mine.c6 h9) | exact Mine.c0 (Mine.c7 h9) | exact Mine.c0 (Mine.c8 h9) | exact Mine.c0 (Mine.c9 h9) | exact Mine.c0 (Mine.c10 h9) | exact Mine.c0 (Mine.c11 h9) | exact Mine.c0 (Mine.c12 h9) | exact Mine.c0 (Mine.c13 h9) | exact Mine.c0 (Mine.c14 h9) | exact Mine.c0 (Mine.c15 h9) | exact Mine.c0 (Mine.c16 h9) | exact Mine.c0 (Mine.c17 h9) | exact Mine.c0 (Mine.c18 h9) | exact Mine.c0 (Mine.c19 h9) | exact Mine.c0 (Mine.c20 h9) | fail "pj1")
  k_with "pj2" => (first | exact Mine.c1 (Mine.c0 h9) | exact Mine.c1 (Mine.c1 h9) | exact Mine.c1 (Mine.c2 h9) | exact Mine.c1 (Mine.c3 h9) | exact Mine.c1 (Mine.c4 h9) | exact Mine.c1 (Mine.c5 h9) | exact Mine.c1 (Mine.c6 h9) | exact Mine.c1 (Mine.c7 h9) | exact Mine.c1 (Mine.c8 h9) | exact Mine.c1 (Mine.c9 h9) | exact Mine.c1 (Mine.c10 h9) | exact Mine.c1 (Mine.c11 h9) | exact Mine.c1 (Mine.c12 h9) | exact Mine.c1 (Mine.c13 h9) | exact Mine.c1 (Mine.c14 h9) | exact Mine.c1 (Mine.c15 h9) | exact Mine.c1 (Mine.c16 h9) | exact Mine.c1 (Mine.c17 h9) | exact Mine.c1 (Mine.c18 h9) | exact Mine.c1 (Mine.c19 h9) | exact Mine.c1 (Mine.c20 h9) | fail "pj2")
  k_with "pj3" => (first | exact Mine.e2 (Mine.c0 h9) | exact Mine.e2 (Mine.c1 h9) | exact Mine.e2 (Mine.c2 h9) | exact Mine.e2 (Mine.c3 h9) | exact Mine.e2 (Mine.c4 h9) | exact Mine.e2 (Mine.c5 h9) | exact Mine.e2 (Mine.c6 h9) | exact Mine.e2 (Mine.c7 h9) | exact Mine.e2 (Mine.c8 h9) | exact Mine.e2 (Mine.c9 h9) | exact Mine.e2 (Mine.c10 h9) | exact Mine.e2 (Mine.c11 h9) | exact Mine.e2 (Mine.c12 h9) | exact Mine.e2 (Mine.c13 h9) | exact Mine.e2 (Mine.c14 h9) | exact Mine.e2 (Mine.c15 h9) | exact Mine.e2 (Mine.c16 h9) | exact Mine.e2 (Mine.c17 h9) | exact Mine.e2 (Mine.c18 h9) | exact Mine.e2 (Mine.c19 h9) | exact Mine.e2 (Mine.c20 h9) | fail "pj3")
  k_with "omega" => (first | exact Nat.le_refl _ | decide | with_reducible (first | exact Mine.lim0 (by assumption) | exact Mine.lim1 (by assumption) (by with_unfolding_all rfl) | exact Mine.lim2 (by assumption) (by with_unfolding_all rfl) | exact Mine.lim3 (by assumption) (by with_unfolding_all rfl) | exact Mine.lim8 (by assumption) (by assumption) (by with_unfolding_all rfl) | exact Mine.lim9 (by assumption) (by assumption) (by with_unfolding_all rfl) | exact Mine.lim10 (by assumption) (by assumption) (by with_unfolding_all rfl) | exact Mine.i1 (by assumption) | exact Mine.i2 (by assumption) | exact Mine.i3 (by assumption) | exact Mine.i4 (by assumption) (by with_unfolding_all rfl) | exact Mine.i5 (by assumption) | exact Mine.i6 (by assumption) (by assumption) | exact Mine.i7 (by assumption) (by assumption) | exact Mine.i8 (by assumption) (by assumption) | exact List.length_take_le _ _ | fail "l") | (refine Mine.toNe ?_; with_reducible (first | exact Nat.ne_of_lt (by ((repeat (first | assumption | exact Mine.ltp0 | refine Mine.ltp ?_)); (first | done | fail "c"))) | exact Nat.ne_of_gt (by ((repeat (first | assumption | exact Mine.ltp0 | refine Mine.ltp ?_)); (first | done | fail "c"))) | (refine Nat.ne_of_lt (Mine.viaL (by assumption) ?_); intro h9; k_extra "pj") | (refine Nat.ne_of_gt (Mine.viaL (by assumption) ?_); intro h9; k_extra "pj") | (refine Nat.ne_of_lt (Mine.viaM (by assumption) ?_); intro h9; k_extra "pj") | (refine Nat.ne_of_gt (Mine.viaM (by assumption) ?_); intro h9; k_extra "pj") | assumption | exact Ne.symm (by assumption) | (refine Mine.viaN (by assumption) ?_; intro h9; k_extra "pj") | (refine Ne.symm (Mine.viaN (by assumption) ?_); intro h9; k_extra "pj") | (refine Mine.viaN1 (by assumption) ?_; intro h9; k_extra "pj1") | (refine Ne.symm (Mine.viaN1 (by assumption) ?_); intro h9; k_extra "pj1") | (refine Mine.viaN2 (by assumption) ?_; intro h9; k_extra "pj2") | (refine Ne.symm (Mine.viaN2 (by assumption) ?_); intro h9; k_extra "pj2") | (refine Mine.viaN3 (by assumption) ?_; intro h9; k_extra "pj3") | (refine Ne.symm (Mine.viaN3 (by assumption) ?_); intro h9; k_extra "pj3") | fail "n")) | fail "o")
  k_with "k_all" => (first | (assumption) | fail "no")
  k_with "k_mem" => (first | (assumption) | fail "no")
  k_with "news_mem" => (first | (k_mem) | fail "no")
  k_with "exec Raise some none" => (first | (k_here; refine raise_open rfl ?_) | fail "no")
  k_with "call ref" => (first | (k_here; (with_reducible show wpAny _ _ (call (Value.ref 51) [Value.str _ _] _) _ _ _); k_dflt (refine' fault_mk ?q96b9c5B ?q96b9c5F ?q96b9c5X ?q96b9c5T ?q96b9c5hk ?q96b9c5hA ?q96b9c5hr ?q96b9c5N ?_; (case q96b9c5hA => exact rfl); (case q96b9c5hk => first | exact rfl | assumption); (case q96b9c5B => k_asm); (case q96b9c5F => k_asm); (case q96b9c5X => k_asm); (case q96b9c5T => k_asm); (case q96b9c5hr => ((simp only [depth_under_make, depth_under_kw, depth_in1, depth_deeper, depth_caller]); first | decide | ((try dsimp only [ktrTop]); omega))); (case q96b9c5N => k_asm)); intro _ _ _ _ _ _ _ _; (try k_sweep)) | fail "no")
  k_with "RaisedVal" => (first | (refine ⟨_, _, _, rfl, Frag.In.keeps (by assumption) (Fr.keep (by assumption)), ((by assumption : News _ _ _ (_ :: _)) _ List.mem_cons_self).1, ?_⟩) | fail "no")
  k_with "leaving ref" => (first | (k_here; first | (refine' leave_fault ?q91bf5e95K ?q91bf5e95F ?q91bf5e95N ?q91bf5e95n ?_ ?q91bf5e95hf ?q91bf5e95hk; (case q91bf5e95hf => exact rfl); (case q91bf5e95hk => first | exact rfl | assumption); (case q91bf5e95F => assumption); (case q91bf5e95K => assumption); (case q91bf5e95N => assumption); (case q91bf5e95n => assumption); k_whole; walk_at "tl3225b9b") | (refine' leave_past ?q91bf5e95K ?q91bf5e95F ?q91bf5e95R ?q91bf5e95U ?_ ?q91bf5e95hf; (case q91bf5e95hf => exact rfl); (case q91bf5e95R => assumption); (case q91bf5e95U => assumption); (case q91bf5e95K => assumption); (case q91bf5e95F => assumption); k_whole; walk_at "tl3225b9b")) | fail "no")
  k_with "subscriptTail" => (first | (k_here; (with_reducible show wpAny _ _ (subscriptTail _ _ (Value.ref _) (Value.int 0 _)) _ _ _); k_dflt (refine' first_item ?q91543b2dN ?q91543b2dt ?_ ?q91543b2ds; (case q91543b2dN => k_asm); (case q91543b2dt => first | assumption | k_mem); (case q91543b2ds => with_unfolding_all rfl))) | fail "no")
  k_with "k_get" => (first | (assumption) | fail "no")
  k_with "compareOp Eq ref str" => (first | (k_here; k_dflt (refine' eq_tup_str ?q9398d922N ?q9398d922l ?q9398d922u ?_; (case q9398d922N => k_asm); (case q9398d922l => assumption); (case q9398d922u => ((simp only [units_in1, units_deeper, Around.mark_units, units_caller]); first | decide | ((try dsimp only [ktrTop]); omega))))) | fail "no")
  k_with "subscriptTail" => (first | (k_here; (with_reducible show wpAny _ _ (subscriptTail _ _ (Value.ref _) (Value.int 1 _)) _ _ _); k_dflt (refine' second_item ?q916fc20aN ?q916fc20at ?_ ?q916fc20as; (case q916fc20aN => k_asm); (case q916fc20at => assumption); (case q916fc20as => with_unfolding_all rfl))) | fail "no")
  k_with "call ref" => (first | (refine halt ?_) | fail "no")
  trivial
theorem newsPut {h₀ h : Heap} {L : Addr} {y : Addr × Obj} {ex rest : List (Addr × Obj)} (N : News h₀ L h (ex ++ y :: rest)) : News h₀ L h (y :: (ex ++ rest)) :=
  newsSub N fun p hp => by
    simp only [List.mem_cons, List.mem_append] at hp ⊢
    rcases hp with h | h | h <;> simp [h]
theorem ne_put {rd : Addr} {o : Obj} {ex rest : List (Addr × Obj)} (hne : ∀ p ∈ rest, p.1 ≠ rd) (l1 : ∀ p ∈ ex, ∀ q ∈ (rd, o) :: rest, q.1 < p.1) : ∀ p ∈ ex ++ rest, p.1 ≠ rd := fun p hp => by
  rcases List.mem_append.mp hp with hp | hp
  · exact Nat.ne_of_gt (l1 p hp _ (.head _))
  · exact hne p hp
theorem PlAt.mono {news news' : List (Addr × Obj)} {ps : List Value} {ad n : Int} {c : Nat} (h : PlAt news ps ad n c) (hs : ∀ p ∈ news, p ∈ news') : PlAt news' ps ad n c :=
  ⟨h.1, fun i v hv => let ⟨r, t0, t1, t2, em, a, b⟩ := h.2 i v hv; ⟨r, t0, t1, t2, em, a, hs _ b⟩⟩
theorem seg_sgs {vs : List Value} {os : List (Option Str)} (hS : Sgs vs os) (a b : Nat) (hz : vs.length ≤ 100) : (lead ((os.drop a).take b)).length ≤ 100 := by
  have h := (hS.drop a).take b
  rw [lead_len h]
  have := (upTo_len h).2
  simp only [List.length_take, List.length_drop] at this
  omega
theorem fv_c {w : World} {dp un : Nat} {gd : Option (List Code)} {cn : Str} {cs : Scope} {a : Addr} {ccd : Value} {cl : List (Str × Addr)} {outer : List Env} {A₀ : Around} {base h₀ : Heap} {L : Addr} {m : Str → Option Value} {s : Shared} {Q E : Value → Shared → Prop} {mean : ExcName → Option Value} {mg mb : Str → Option Value} {rest : List (Addr × Obj)} {run tr : Addr} {size many : Int} {pF pG dF d1 dG : Addr} {es : List DictEntry} {rd fr ex : Addr} {nn : Nat} {ofr oex : Obj} {t1 t2 t3 t4 t5 t6 t7 t8 : Tok} {kd : Kd} {lim mem ch : Addr} {vs : List Value} {os : List (Option Str)}
    (B : Below A₀ base outer h₀) (F : Fr h₀ L s.heap m) (X : (seat.heap_1 w.params).In h₀) (T : Top topProg ((looseW seat.view_1 [Str.ofString "counted_elements_iops", Str.ofString "counted_elements_plainio"]) ++ List.map (fun x => x.name) (recsOf seat.view_1) ++ List.map (fun x => x.fst) (litsOf seat.view_1) ++ List.map (fun x => x.name) (clssOf seat.view_1 (looseW seat.view_1 [Str.ofString "counted_elements_iops", Str.ofString "counted_elements_plainio"]))) mean mg mb h₀) (hkf : cs.kind = .function) (N : News h₀ L s.heap ((rd, dictOf es nn) :: rest)) (hne : ∀ p ∈ rest, p.1 ≠ rd) (hdp : dp + 80 < recursionLimit) (hun : un + 600 < cLine) (hR : FrAt w ((rd, dictOf es nn) :: rest) run size many pF pG dF d1 dG es rd fr ex nn ofr oex t1 t2 t3 t4 t5 t6 t7 t8) (hrun : (run, instObj 308 rd) ∈ rest)
    (hLim : LimAt rest lim) (hD : RunD es mem lim) (hM : MemAt rest mem ch vs) (hS : Sgs vs os) (hz : vs.length ≤ 100) (hT : TreeAt rest tr kd) (hc : ∀ t, kd ≠ .cst t) (h1 : 1 ≤ many) (h2 : many ≤ 3) (h3 : 1 ≤ size) (h4 : size ≤ 4)
    (ret : ∀ t, dueOf many size os kd = some t → ∀ t' h' tk', Fr h₀ L h' m → News h₀ L h' rest → Q (.str (fmtT t) t') { s with heap := h', toks := tk' })
    (exc : dueOf many size os kd = none → ∀ e g₂ h' tk', Fr h₀ L g₂ m → RaisedSN base g₂ (envX cn cs L a ccd cl :: outer) e (.ref 51) rest h' → g₂.UpToSlots h' → E (.ref e) { s with heap := h', toks := tk' }) :
    wpAny (model PySem.Challenge.rw_rh0120_01.row.prog w) (ktrTop dp un gd cn cs L a ccd cl outer) (call (.ref 401) [.ref run, .none, .ref tr]) Q E s := by
  (revert X; k_fill; intro X)
  have hm : ∀ p ∈ rest, p ∈ (rd, dictOf es nn) :: rest := fun p hp => .tail _ hp
  have hrun' := hm _ hrun
  have hrd' : (rd, dictOf es nn) ∈ (rd, dictOf es nn) :: rest := .head _
  have hgm := hD.mem
  have hT' := hT.mono hm
  obtain ⟨nm, u, u2, rs, hnm, hh⟩ := hT'.two hc
  generalize hnw : (rd, dictOf es nn) :: rest = nw at N hrun' hrd' hT' hh hm hR
  (refine wpAny_call ?_; k_dflt ktr_enter)
  k_steps
  refine unhalt ?_
  k_dflt (refine' has_c ?q9B ?q9F ?q9X ?q9T ?q9hk ?q9N ?q9hdp hT' hc ?_)
  (case q9hk => first | exact rfl | assumption); (case q9B => k_asm); (case q9F => k_asm); (case q9X => k_asm); (case q9T => k_asm); (case q9N => k_asm); (case q9hdp => ((simp only [depth_under_make, depth_under_kw, depth_in1, depth_deeper, depth_caller]); first | decide | ((try dsimp only [ktrTop]); omega)))
  intro h' tk' F' N'
  k_steps
  refine unhalt ?_
  k_dflt (refine' place_all ?q9B ?q9F ?q9X ?q9T ?q9hk ?q9N ?q9hdp hR hT' hc h2 h3 h4 hR.pF hR.pG ?_ ?_)
  (case q9hk => first | exact rfl | assumption); (case q9B => k_asm); (case q9F => k_asm); (case q9X => k_asm); (case q9T => k_asm); (case q9N => k_asm); (case q9hdp => ((simp only [depth_under_make, depth_under_kw, depth_in1, depth_deeper, depth_caller]); first | decide | ((try dsimp only [ktrTop]); omega)))
  · intro hok r ex2 h' tk' F' N' l1 hP
    subst hnw
    replace N' := newsPut N'
    obtain ⟨b1, b2, b3, b4, b5, b6, b7⟩ := pl_bnd hok h1 h2 h3 h4
    have hdue := due_place (os := os) hok hc h1 h2 h3 h4
    have hne2 := ne_put hne l1
    have hP2 : PlaceAt ((rd, dictOf es nn) :: (ex2 ++ rest)) r (plAd size kd) (plN size kd) (plC many kd) := hP.mono (fun p hp => by
      simp only [List.mem_cons, List.mem_append] at hp ⊢
      rcases hp with h | h | h <;> simp [h])
    have hm2 : ∀ p ∈ rest, p ∈ ex2 ++ rest := fun p hp => List.mem_append_right _ hp
    generalize ex2 ++ rest = rest2 at N' hne2 hP2 hm2
    k_steps
    refine unhalt ?_
    k_dflt (refine' counted_p ?q9B ?q9F ?q9X ?q9T ?q9hk ?q9N hne2 ?q9hdp (hm2 _ hrun) (hLim.mono hm2) hD (hM.mono hm2) (Nat.le_trans hz (by decide)) hP2 b1 b2 b3 (Int.le_trans b4 (by decide)) b5 (Int.le_trans b6 (by decide)) (Int.le_trans b7 (by decide)) ?_ ?_)
    (case q9hk => first | exact rfl | assumption); (case q9B => k_asm); (case q9F => k_asm); (case q9X => k_asm); (case q9T => k_asm); (case q9N => k_asm); (case q9hdp => ((simp only [depth_under_make, depth_under_kw, depth_in1, depth_deeper, depth_caller]); first | decide | ((try dsimp only [ktrTop]); omega)))
    · intro hfit pl ps c0 ex3 h' tk' F' N' l2 l3 hPl
      obtain ⟨md, es3, nn3, c3, hm1, hm22, hg3, hch⟩ := hM
      rw [if_pos (show plAd size kd + plC many kd * plN size kd ≤ os.length by rw [← hS.length]; exact hfit)] at hdue
      have hcc : ((plC many kd).toNat : Int) = plC many kd := Int.toNat_of_nonneg (by omega)
      have hm3 : ∀ p ∈ rest, p ∈ (pl, W.listOf ps.toArray c0) :: (ex3 ++ rest2) := fun p hp => .tail _ (List.mem_append_right _ (hm2 p hp))
      have hPl3 : PlAt ((pl, W.listOf ps.toArray c0) :: (ex3 ++ rest2)) ps (plAd size kd) (plN size kd) (plC many kd).toNat := hPl.mono fun p hp => .tail _ (List.mem_append_left _ hp)
      have hpl3 : (pl, W.listOf ps.toArray c0) ∈ (pl, W.listOf ps.toArray c0) :: (ex3 ++ rest2) := .head _
      generalize (pl, W.listOf ps.toArray c0) :: (ex3 ++ rest2) = nw3 at N' hm3 hPl3 hpl3
      k_steps
      refine unhalt ?_
      k_dflt (refine' lead1 ?q9B ?q9F ?q9X ?q9T ?q9hk ?q9N ?q9hdp ?q9hun (hm3 _ hm1) (hm3 _ hm22) hg3 (hm3 _ hch) hS (Nat.le_trans hz (by decide)) hpl3 hPl3 b5 (by rw [hcc]; exact hfit) b3 ⟨?_, ?_⟩)
      (case q9hk => first | exact rfl | assumption); (case q9B => k_asm); (case q9F => k_asm); (case q9X => k_asm); (case q9T => k_asm); (case q9N => k_asm); (case q9hdp => ((simp only [depth_under_make, depth_under_kw, depth_in1, depth_deeper, depth_caller]); first | decide | ((try dsimp only [ktrTop]); omega)))
      (case q9hun => ((simp only [units_in1, units_deeper, Around.mark_units, units_caller]); first | decide | ((try dsimp only [ktrTop]); omega)))
      · intro he e g₂ h' tk' F' R' U'
        rw [if_pos (show (upTo (segAt many size os kd)).isEmpty = true from he)] at hdue
        k_steps
        all_goals exact exc hdue _ _ _ _ (by assumption) (raisedSub (by assumption) hm3) (by assumption)
      · intro he t h' tk' F' N'
        rw [if_neg (show ¬ (upTo (segAt many size os kd)).isEmpty = true from fun q => by rw [show (upTo (segAt many size os kd)).isEmpty = false from he] at q; cases q)] at hdue
        have hle := seg_sgs hS (plAd size kd).toNat ((plC many kd).toNat * (plN size kd).toNat) hz
        k_steps
        refine unhalt ?_
        k_dflt (refine' fmt_c ?q9B ?q9F ?q9X ?q9T ?q9hk ?q9N ?q9hdp hle ?_)
        (case q9hk => first | exact rfl | assumption); (case q9B => k_asm); (case q9F => k_asm); (case q9X => k_asm); (case q9T => k_asm); (case q9N => k_asm); (case q9hdp => ((simp only [depth_under_make, depth_under_kw, depth_in1, depth_deeper, depth_caller]); first | decide | ((try dsimp only [ktrTop]); omega)))
        intro t' h' tk' F' N'
        k_steps
        all_goals exact ret _ hdue _ _ _ (by assumption) (newsSub (by assumption) hm3)
    · intro hfit e g₂ h' tk' F' R' U'
      rw [if_neg (show ¬ plAd size kd + plC many kd * plN size kd ≤ os.length by rw [← hS.length]; exact hfit)] at hdue
      k_steps
      all_goals exact exc hdue _ _ _ _ (by assumption) (raisedSub (by assumption) hm2) (by assumption)
  · intro hok e g₂ h' tk' F' R' U'
    subst hnw
    k_steps
    all_goals exact exc (due_none hok) _ _ _ _ (by assumption) (raisedSub (by assumption) (fun p hp => .tail _ hp)) (by assumption)
end
end
section
section

theorem reg_FmtCst_1 : True := by
  w_top off
  k_with_none
  k_with "pj" => (first | exact Mine.c0 h9 | exact Mine.c1 h9 | exact Mine.e1 h9 | exact Mine.c2 h9 | exact Mine.e2 h9 | exact Mine.c3 h9 | exact Mine.e3 h9 | exact Mine.c4 h9 | exact Mine.e4 h9 | exact Mine.c5 h9 | exact Mine.e5 h9 | exact Mine.c6 h9 | exact Mine.e6 h9 | exact Mine.c7 h9 | exact Mine.e7 h9 | exact Mine.c8 h9 | exact Mine.e8 h9 | exact Mine.c9 h9 | exact Mine.e9 h9 | exact Mine.c10 h9 | exact Mine.e10 h9 | exact Mine.c11 h9 | exact Mine.e11 h9 | exact Mine.c12 h9 | exact Mine.e12 h9 | exact Mine.c13 h9 | exact Mine.e13 h9 | exact Mine.c14 h9 | exact Mine.e14 h9 | exact Mine.c15 h9 | exact Mine.e15 h9 | exact Mine.c16 h9 | exact Mine.e16 h9 | exact Mine.c17 h9 | exact Mine.e17 h9 | exact Mine.c18 h9 | exact Mine.e18 h9 | exact Mine.c19 h9 | exact Mine.e19 h9 | exact Mine.c20 h9 | exact Mine.e20 h9 | fail "pj")
  k_with "pj1" => (first | exact Mine.c0 (Mine.c0 h9) | exact Mine.c0 (Mine.c1 h9) | exact Mine.c0 (Mine.c2 h9) | exact Mine.c0 (Mine.c3 h9) | exact Mine.c0 (Mine.c4 h9) | exact Mine.c0 (Mine.c5 h9) | exact Mine.c0 (Mine.c6 h9) | exact Mine.c0 (Mine.c7 h9) | exact Mine.c0 (Mine.c8 h9) | exact Mine.c0 (Mine.c9 h9) | exact Mine.c0 (Mine.c10 h9) | exact Mine.c0 (Mine.c11 h9) | exact Mine.c0 (Mine.c12 h9) | exact Mine.c0 (Mine.c13 h9) | exact Mine.c0 (Mine.c14 h9) | exact Mine.c0 (Mine.c15 h9) | exact Mine.c0 (Mine.c16 h9) | exact Mine.c0 (Mine.c17 h9) | exact Mine.c0 (Mine.c18 h9) | exact Mine.c0 (Mine.c19 h9) | exact Mine.c0 (Mine.c20 h9) | fail "pj1")
  k_with "pj2" => (first | exact Mine.c1 (Mine.c0 h9) | exact Mine.c1 (Mine.c1 h9) | exact Mine.c1 (Mine.c2 h9) | exact Mine.c1 (Mine.c3 h9) | exact Mine.c1 (Mine.c4 h9) | exact Mine.c1 (Mine.c5 h9) | exact Mine.c1 (Mine.c6 h9) | exact Mine.c1 (Mine.c7 h9) | exact Mine.c1 (Mine.c8 h9) | exact Mine.c1 (Mine.c9 h9) | exact Mine.c1 (Mine.c10 h9) | exact Mine.c1 (Mine.c11 h9) | exact Mine.c1 (Mine.c12 h9) | exact Mine.c1 (Mine.c13 h9) | exact Mine.c1 (Mine.c14 h9) | exact Mine.c1 (Mine.c15 h9) | exact Mine.c1 (Mine.c16 h9) | exact Mine.c1 (Mine.c17 h9) | exact Mine.c1 (Mine.c18 h9) | exact Mine.c1 (Mine.c19 h9) | exact Mine.c1 (Mine.c20 h9) | fail "pj2")
  k_with "pj3" => (first | exact Mine.e2 (Mine.c0 h9) | exact Mine.e2 (Mine.c1 h9) | exact Mine.e2 (Mine.c2 h9) | exact Mine.e2 (Mine.c3 h9) | exact Mine.e2 (Mine.c4 h9) | exact Mine.e2 (Mine.c5 h9) | exact Mine.e2 (Mine.c6 h9) | exact Mine.e2 (Mine.c7 h9) | exact Mine.e2 (Mine.c8 h9) | exact Mine.e2 (Mine.c9 h9) | exact Mine.e2 (Mine.c10 h9) | exact Mine.e2 (Mine.c11 h9) | exact Mine.e2 (Mine.c12 h9) | exact Mine.e2 (Mine.c13 h9) | exact Mine.e2 (Mine.c14 h9) | exact Mine.e2 (Mine.c15 h9) | exact Mine.e2 (Mine.c16 h9) | exact Mine.e2 (Mine.c17 h9) | exact Mine.e2 (Mine.c18 h9) | exact Mine.e2 (Mine.c19 h9) | exact Mine.e2 (Mine.c20 h9) | fail "pj3")
  k_with "omega" => (first | exact Nat.le_refl _ | decide | with_reducible (first | exact Mine.lim0 (by assumption) | exact Mine.lim1 (by assumption) (by with_unfolding_all rfl) | exact Mine.lim2 (by assumption) (by with_unfolding_all rfl) | exact Mine.lim3 (by assumption) (by with_unfolding_all rfl) | exact Mine.lim8 (by assumption) (by assumption) (by with_unfolding_all rfl) | exact Mine.lim9 (by assumption) (by assumption) (by with_unfolding_all rfl) | exact Mine.lim10 (by assumption) (by assumption) (by with_unfolding_all rfl) | exact Mine.i1 (by assumption) | exact Mine.i2 (by assumption) | exact Mine.i3 (by assumption) | exact Mine.i4 (by assumption) (by with_unfolding_all rfl) | exact Mine.i5 (by assumption) | exact Mine.i6 (by assumption) (by assumption) | exact Mine.i7 (by assumption) (by assumption) | exact Mine.i8 (by assumption) (by assumption) | exact List.length_take_le _ _ | fail "l") | (refine Mine.toNe ?_; with_reducible (first | exact Nat.ne_of_lt (by ((repeat (first | assumption | exact Mine.ltp0 | refine Mine.ltp ?_)); (first | done | fail "c"))) | exact Nat.ne_of_gt (by ((repeat (first | assumption | exact Mine.ltp0 | refine Mine.ltp ?_)); (first | done | fail "c"))) | (refine Nat.ne_of_lt (Mine.viaL (by assumption) ?_); intro h9; k_extra "pj") | (refine Nat.ne_of_gt (Mine.viaL (by assumption) ?_); intro h9; k_extra "pj") | (refine Nat.ne_of_lt (Mine.viaM (by assumption) ?_); intro h9; k_extra "pj") | (refine Nat.ne_of_gt (Mine.viaM (by assumption) ?_); intro h9; k_extra "pj") | assumption | exact Ne.symm (by assumption) | (refine Mine.viaN (by assumption) ?_; intro h9; k_extra "pj") | (refine Ne.symm (Mine.viaN (by assumption) ?_); intro h9; k_extra "pj") | (refine Mine.viaN1 (by assumption) ?_; intro h9; k_extra "pj1") | (refine Ne.symm (Mine.viaN1 (by assumption) ?_); intro h9; k_extra "pj1") | (refine Mine.viaN2 (by assumption) ?_; intro h9; k_extra "pj2") | (refine Ne.symm (Mine.viaN2 (by assumption) ?_); intro h9; k_extra "pj2") | (refine Mine.viaN3 (by assumption) ?_; intro h9; k_extra "pj3") | (refine Ne.symm (Mine.viaN3 (by assumption) ?_); intro h9; k_extra "pj3") | fail "n")) | fail "o")
  k_with "k_all" => (first | (assumption) | fail "no")
  k_with "k_mem" => (first | (assumption) | fail "no")
  k_with "news_mem" => (first | (k_mem) | fail "no")
  k_with "k_all" => (first | (refine fun p9 hp9 => Nat.ne_of_lt (Nat.lt_of_lt_of_le ((by assumption : ∀ p ∈ _, p.1 < _) p9 hp9) ?_); omega) | fail "no")
  k_with "call ref" => (first | (k_here; (refine wpAny_call ?_); k_dflt (refine' code_def ?q92f5ae95k1 ?q92f5ae95k2 ?q92f5ae95k3 ?q92f5ae95k4 ?q92f5ae95k5 ?q92f5ae95kA ?q92f5ae95kF ?q92f5ae95kK ?q92f5ae95k6 ?q92f5ae95k7 ?q92f5ae95k8 ?q92f5ae95k9 ?q92f5ae95kB ?_ ?q92f5ae95c2 ?q92f5ae95c3 ?q92f5ae95c4 ?q92f5ae95c5; (case q92f5ae95kA => exact rfl); (case q92f5ae95kF => exact rfl); (case q92f5ae95kK => first | exact rfl | assumption); (case q92f5ae95k1 => k_asm); (case q92f5ae95k2 => k_asm); (case q92f5ae95k3 => k_asm); (case q92f5ae95k4 => k_asm); (case q92f5ae95k5 => k_asm); (case q92f5ae95k6 => k_is); (case q92f5ae95k7 => k_is); (case q92f5ae95k8 => ((simp only [depth_under_make, depth_under_kw, depth_in1, depth_deeper, depth_caller]); first | decide | ((try dsimp only [ktrTop]); omega))); (case q92f5ae95k9 => exact BindsTo.of_eq rfl); (case q92f5ae95c5 => decide); (case q92f5ae95kB => exact locs rfl); (case q92f5ae95c2 => exact rfl); (case q92f5ae95c3 => exact rfl); (case q92f5ae95c4 => exact rfl); k_whole; intro _ _ _ _ _ _ _ _ _; (try dsimp only); (try k_fold))) | fail "no")
  k_with "exec Raise some none" => (first | (k_here; refine raise_open rfl ?_) | fail "no")
  k_with "call ref" => (first | (k_here; (with_reducible show wpAny _ _ (call (Value.ref 51) [Value.str _ _] _) _ _ _); k_dflt (refine' fault_mk ?q96b9c5B ?q96b9c5F ?q96b9c5X ?q96b9c5T ?q96b9c5hk ?q96b9c5hA ?q96b9c5hr ?q96b9c5N ?_; (case q96b9c5hA => exact rfl); (case q96b9c5hk => first | exact rfl | assumption); (case q96b9c5B => k_asm); (case q96b9c5F => k_asm); (case q96b9c5X => k_asm); (case q96b9c5T => k_asm); (case q96b9c5hr => ((simp only [depth_under_make, depth_under_kw, depth_in1, depth_deeper, depth_caller]); first | decide | ((try dsimp only [ktrTop]); omega))); (case q96b9c5N => k_asm)); intro _ _ _ _ _ _ _ _; (try k_sweep)) | fail "no")
  k_with "RaisedVal" => (first | (refine ⟨_, _, _, rfl, Frag.In.keeps (by assumption) (Fr.keep (by assumption)), ((by assumption : News _ _ _ (_ :: _)) _ List.mem_cons_self).1, ?_⟩) | fail "no")
  k_with "leaving ref" => (first | (k_here; first | (refine' leave_fault ?q91bf5e95K ?q91bf5e95F ?q91bf5e95N ?q91bf5e95n ?_ ?q91bf5e95hf ?q91bf5e95hk; (case q91bf5e95hf => exact rfl); (case q91bf5e95hk => first | exact rfl | assumption); (case q91bf5e95F => assumption); (case q91bf5e95K => assumption); (case q91bf5e95N => assumption); (case q91bf5e95n => assumption); k_whole; walk_at "tl3225b9b") | (refine' leave_past ?q91bf5e95K ?q91bf5e95F ?q91bf5e95R ?q91bf5e95U ?_ ?q91bf5e95hf; (case q91bf5e95hf => exact rfl); (case q91bf5e95R => assumption); (case q91bf5e95U => assumption); (case q91bf5e95K => assumption); (case q91bf5e95F => assumption); k_whole; walk_at "tl3225b9b")) | fail "no")
  k_with "getMethod ref" => (first | (k_here; (with_reducible show wpAny _ _ (getMethod (Value.ref _) (Str.ofString "get") _) _ _ _); k_dflt (refine kdg_method (knd := PySem.strKind _ _) (by k_asm) (by k_mem) (by k_asm) ?_)) | fail "no")
  k_with "call builtin:dict.get" => (first | (k_here; k_dflt (first | refine kdg_get1 (knd := PySem.strKind _ _) (by k_asm) (by k_mem) (by k_asm) (by k_asm) (strKind_is _ _ _ _) (some _) (by rfl) ?_ | refine kdg_get1 (knd := PySem.strKind _ _) (by k_asm) (by k_mem) (by k_asm) (by k_asm) (strKind_is _ _ _ _) none (by rfl) ?_); (try dsimp only [Option.getD])) | fail "no")
  k_with "subscriptTail" => (first | (k_here; (with_reducible show wpAny _ _ (subscriptTail _ _ (Value.ref _) (Value.str _ _)) _ _ _); k_dflt (refine kda_item (knd := PySem.strKind _ _) (by k_asm) (by k_mem) (by k_asm) (strKind_is _ _ _ _) (by rfl) ?_)) | fail "no")
  k_with "compareOp NotIn str ref" => (first | (k_here; k_dflt (refine kdg_notin (knd := PySem.strKind _ _) (by k_asm) (by k_mem) (by k_asm) (by k_asm) (strKind_is _ _ _ _) _ (by rfl) ?_)) | fail "no")
  k_with "k_get" => (first | (assumption) | fail "no")
  k_with "compareOp Eq ref str" => (first | (k_here; k_dflt (refine' eq_tup_str ?q9398d922N ?q9398d922l ?q9398d922u ?_; (case q9398d922N => k_asm); (case q9398d922l => assumption); (case q9398d922u => ((simp only [units_in1, units_deeper, Around.mark_units, units_caller]); first | decide | ((try dsimp only [ktrTop]); omega))))) | fail "no")
  k_with "call ref" => (first | (k_here; (with_reducible show wpAny _ _ (call (Value.ref 217) _ _) _ _ _); k_dflt (refine' fmt_c ?q9899ad5B ?q9899ad5F ?q9899ad5X ?q9899ad5T ?q9899ad5hk ?q9899ad5N ?q9899ad5hdp ?q9899ad5z ?_; (case q9899ad5hk => first | exact rfl | assumption); (case q9899ad5B => k_asm); (case q9899ad5F => k_asm); (case q9899ad5X => k_asm); (case q9899ad5T => k_asm); (case q9899ad5N => k_asm); (case q9899ad5hdp => ((simp only [depth_under_make, depth_under_kw, depth_in1, depth_deeper, depth_caller]); first | decide | ((try dsimp only [ktrTop]); omega))); (case q9899ad5z => assumption)); intro _ _ _ _ _; (try k_sweep)) | fail "no")
  trivial
theorem fv_cst {w : World} {dp un : Nat} {gd : Option (List Code)} {cn : Str} {cs : Scope} {a : Addr} {ccd : Value} {cl : List (Str × Addr)} {outer : List Env} {A₀ : Around} {base h₀ : Heap} {L : Addr} {m : Str → Option Value} {s : Shared} {Q E : Value → Shared → Prop} {mean : ExcName → Option Value} {mg mb : Str → Option Value} {news : List (Addr × Obj)} {run tr : Addr} {size many : Int} {pF pG dF d1 dG : Addr} {es : List DictEntry} {rd fr ex : Addr} {nn : Nat} {ofr oex : Obj} {t1 t2 t3 t4 t5 t6 t7 t8 u1 u2 u3 : Tok} {t : Str}
    (B : Below A₀ base outer h₀) (F : Fr h₀ L s.heap m) (X : (seat.heap_1 w.params).In h₀) (T : Top topProg ((looseW seat.view_1 [Str.ofString "counted_elements_iops", Str.ofString "counted_elements_plainio"]) ++ List.map (fun x => x.name) (recsOf seat.view_1) ++ List.map (fun x => x.fst) (litsOf seat.view_1) ++ List.map (fun x => x.name) (clssOf seat.view_1 (looseW seat.view_1 [Str.ofString "counted_elements_iops", Str.ofString "counted_elements_plainio"]))) mean mg mb h₀) (hkf : cs.kind = .function) (N : News h₀ L s.heap news) (hdp : dp + 80 < recursionLimit) (hun : un + 600 < cLine) (hR : FrAt w news run size many pF pG dF d1 dG es rd fr ex nn ofr oex t1 t2 t3 t4 t5 t6 t7 t8)
    (ht : (tr, tupO [.str (Str.ofString "const") u1, .int 5 u2, .str t u3]) ∈ news) (hz : t.length ≤ 100)
    (ret : ∀ t' h' tk', Fr h₀ L h' m → News h₀ L h' news → Q (.str (fmtT t) t') { s with heap := h', toks := tk' }) :
    wpAny (model PySem.Challenge.rw_rh0120_01.row.prog w) (ktrTop dp un gd cn cs L a ccd cl outer) (call (.ref 401) [.ref run, .none, .ref tr]) Q E s := by
  (revert X; k_fill; intro X)
  obtain ⟨r1, r2, r3, r4, r5, r6, r7, r8, r9, r10, r11, r12, r13, r14, r15⟩ := hR
  (refine wpAny_call ?_; k_dflt ktr_enter)
  k_steps
  all_goals exact ret _ _ _ (by assumption) (newsSub (by assumption) (by intro p hp; repeat (first | exact hp | refine List.mem_cons_of_mem _ ?_)))
end
end
section
section
theorem reg_Iops_1 : True := by
  w_top off
  k_with_none
  k_with "pj" => (first | exact Mine.c0 h9 | exact Mine.c1 h9 | exact Mine.e1 h9 | exact Mine.c2 h9 | exact Mine.e2 h9 | exact Mine.c3 h9 | exact Mine.e3 h9 | exact Mine.c4 h9 | exact Mine.e4 h9 | exact Mine.c5 h9 | exact Mine.e5 h9 | exact Mine.c6 h9 | exact Mine.e6 h9 | exact Mine.c7 h9 | exact Mine.e7 h9 | exact Mine.c8 h9 | exact Mine.e8 h9 | exact Mine.c9 h9 | exact Mine.e9 h9 | exact Mine.c10 h9 | exact Mine.e10 h9 | exact Mine.c11 h9 | exact Mine.e11 h9 | exact Mine.c12 h9 | exact Mine.e12 h9 | exact Mine.c13 h9 | exact Mine.e13 h9 | exact Mine.c14 h9 | exact Mine.e14 h9 | exact Mine.c15 h9 | exact Mine.e15 h9 | exact Mine.c16 h9 | exact Mine.e16 h9 | exact Mine.c17 h9 | exact Mine.e17 h9 | exact Mine.c18 h9 | exact Mine.e18 h9 | exact Mine.c19 h9 | exact Mine.e19 h9 | exact Mine.c20 h9 | exact Mine.e20 h9 | fail "pj")
  k_with "pj1" => (first | exact Mine.c0 (Mine.c0 h9) | exact Mine.c0 (Mine.c1 h9) | exact Mine.c0 (Mine.c2 h9) | exact Mine.c0 (Mine.c3 h9) | exact Mine.c0 (Mine.c4 h9) | exact Mine.c0 (Mine.c5 h9) | exact Mine.c0 (Mine.c6 h9) | exact Mine.c0 (Mine.c7 h9) | exact Mine.c0 (Mine.c8 h9) | exact Mine.c0 (Mine.c9 h9) | exact Mine.c0 (Mine.c10 h9) | exact Mine.c0 (Mine.c11 h9) | exact Mine.c0 (Mine.c12 h9) | exact Mine.c0 (Mine.c13 h9) | exact Mine.c0 (Mine.c14 h9) | exact Mine.c0 (Mine.c15 h9) | exact Mine.c0 (Mine.c16 h9) | exact Mine.c0 (Mine.c17 h9) | exact Mine.c0 (Mine.c18 h9) | exact Mine.c0 (Mine.c19 h9) | exact Mine.c0 (Mine.c20 h9) | fail "pj1")
  k_with "pj2" => (first | exact Mine.c1 (Mine.c0 h9) | exact Mine.c1 (Mine.c1 h9) | exact Mine.c1 (Mine.c2 h9) | exact Mine.c1 (Mine.c3 h9) | exact Mine.c1 (Mine.c4 h9) | exact Mine.c1 (Mine.c5 h9) | exact Mine.c1 (Mine.c6 h9) | exact Mine.c1 (Mine.c7 h9) | exact Mine.c1 (Mine.c8 h9) | exact Mine.c1 (Mine.c9 h9) | exact Mine.c1 (Mine.c10 h9) | exact Mine.c1 (Mine.c11 h9) | exact Mine.c1 (Mine.c12 h9) | exact Mine.c1 (Mine.c13 h9) | exact Mine.c1 (Mine.c14 h9) | exact Mine.c1 (Mine.c15 h9) | exact Mine.c1 (Mine.c16 h9) | exact Mine.c1 (Mine.c17 h9) | exact Mine.c1 (Mine.c18 h9) | exact Mine.c1 (Mine.c19 h9) | exact Mine.c1 (Mine.c20 h9) | fail "pj2")
  k_with "pj3" => (first | exact Mine.e2 (Mine.c0 h9) | exact Mine.e2 (Mine.c1 h9) | exact Mine.e2 (Mine.c2 h9) | exact Mine.e2 (Mine.c3 h9) | exact Mine.e2 (Mine.c4 h9) | exact Mine.e2 (Mine.c5 h9) | exact Mine.e2 (Mine.c6 h9) | exact Mine.e2 (Mine.c7 h9) | exact Mine.e2 (Mine.c8 h9) | exact Mine.e2 (Mine.c9 h9) | exact Mine.e2 (Mine.c10 h9) | exact Mine.e2 (Mine.c11 h9) | exact Mine.e2 (Mine.c12 h9) | exact Mine.e2 (Mine.c13 h9) | exact Mine.e2 (Mine.c14 h9) | exact Mine.e2 (Mine.c15 h9) | exact Mine.e2 (Mine.c16 h9) | exact Mine.e2 (Mine.c17 h9) | exact Mine.e2 (Mine.c18 h9) | exact Mine.e2 (Mine.c19 h9) | exact Mine.e2 (Mine.c20 h9) | fail "pj3")
  k_with "omega" => (first | exact Nat.le_refl _ | decide | with_reducible (first | exact Mine.lim0 (by assumption) | exact Mine.lim1 (by assumption) (by with_unfolding_all rfl) | exact Mine.lim2 (by assumption) (by with_unfolding_all rfl) | exact Mine.lim3 (by assumption) (by with_unfolding_all rfl) | exact Mine.lim8 (by assumption) (by assumption) (by with_unfolding_all rfl) | exact Mine.lim9 (by assumption) (by assumption) (by with_unfolding_all rfl) | exact Mine.lim10 (by assumption) (by assumption) (by with_unfolding_all rfl) | exact Mine.i1 (by assumption) | exact Mine.i2 (by assumption) | exact Mine.i3 (by assumption) | exact Mine.i4 (by assumption) (by with_unfolding_all rfl) | exact Mine.i5 (by assumption) | exact Mine.i6 (by assumption) (by assumption) | exact Mine.i7 (by assumption) (by assumption) | exact Mine.i8 (by assumption) (by assumption) | exact List.length_take_le _ _ | fail "l") | (refine Mine.toNe ?_; with_reducible (first | exact Nat.ne_of_lt (by ((repeat (first | assumption | exact Mine.ltp0 | refine Mine.ltp ?_)); (first | done | fail "c"))) | exact Nat.ne_of_gt (by ((repeat (first | assumption | exact Mine.ltp0 | refine Mine.ltp ?_)); (first | done | fail "c"))) | (refine Nat.ne_of_lt (Mine.viaL (by assumption) ?_); intro h9; k_extra "pj") | (refine Nat.ne_of_gt (Mine.viaL (by assumption) ?_); intro h9; k_extra "pj") | (refine Nat.ne_of_lt (Mine.viaM (by assumption) ?_); intro h9; k_extra "pj") | (refine Nat.ne_of_gt (Mine.viaM (by assumption) ?_); intro h9; k_extra "pj") | assumption | exact Ne.symm (by assumption) | (refine Mine.viaN (by assumption) ?_; intro h9; k_extra "pj") | (refine Ne.symm (Mine.viaN (by assumption) ?_); intro h9; k_extra "pj") | (refine Mine.viaN1 (by assumption) ?_; intro h9; k_extra "pj1") | (refine Ne.symm (Mine.viaN1 (by assumption) ?_); intro h9; k_extra "pj1") | (refine Mine.viaN2 (by assumption) ?_; intro h9; k_extra "pj2") | (refine Ne.symm (Mine.viaN2 (by assumption) ?_); intro h9; k_extra "pj2") | (refine Mine.viaN3 (by assumption) ?_; intro h9; k_extra "pj3") | (refine Ne.symm (Mine.viaN3 (by assumption) ?_); intro h9; k_extra "pj3") | fail "n")) | fail "o")
  k_with "k_all" => (first | (assumption) | fail "no")
  k_with "k_mem" => (first | (assumption) | fail "no")
  k_with "news_mem" => (first | (k_mem) | fail "no")
  k_with "exec Raise some none" => (first | (k_here; refine raise_open rfl ?_) | fail "no")
  k_with "call ref" => (first | (k_here; (with_reducible show wpAny _ _ (call (Value.ref 51) [Value.str _ _] _) _ _ _); k_dflt (refine' fault_mk ?q96b9c5B ?q96b9c5F ?q96b9c5X ?q96b9c5T ?q96b9c5hk ?q96b9c5hA ?q96b9c5hr ?q96b9c5N ?_; (case q96b9c5hA => exact rfl); (case q96b9c5hk => first | exact rfl | assumption); (case q96b9c5B => k_asm); (case q96b9c5F => k_asm); (case q96b9c5X => k_asm); (case q96b9c5T => k_asm); (case q96b9c5hr => ((simp only [depth_under_make, depth_under_kw, depth_in1, depth_deeper, depth_caller]); first | decide | ((try dsimp only [ktrTop]); omega))); (case q96b9c5N => k_asm)); intro _ _ _ _ _ _ _ _; (try k_sweep)) | fail "no")
  k_with "RaisedVal" => (first | (refine ⟨_, _, _, rfl, Frag.In.keeps (by assumption) (Fr.keep (by assumption)), ((by assumption : News _ _ _ (_ :: _)) _ List.mem_cons_self).1, ?_⟩) | fail "no")
  k_with "leaving ref" => (first | (k_here; first | (refine' leave_fault ?q91bf5e95K ?q91bf5e95F ?q91bf5e95N ?q91bf5e95n ?_ ?q91bf5e95hf ?q91bf5e95hk; (case q91bf5e95hf => exact rfl); (case q91bf5e95hk => first | exact rfl | assumption); (case q91bf5e95F => assumption); (case q91bf5e95K => assumption); (case q91bf5e95N => assumption); (case q91bf5e95n => assumption); k_whole; walk_at "tl3225b9b") | (refine' leave_past ?q91bf5e95K ?q91bf5e95F ?q91bf5e95R ?q91bf5e95U ?_ ?q91bf5e95hf; (case q91bf5e95hf => exact rfl); (case q91bf5e95R => assumption); (case q91bf5e95U => assumption); (case q91bf5e95K => assumption); (case q91bf5e95F => assumption); k_whole; walk_at "tl3225b9b")) | fail "no")
  k_with "call builtin:len" => (first | (k_here; k_dflt (refine call_len_list (by is_list) (by rw [List.size_toArray]; omega) ?_)) | fail "no")
  k_with "k_get" => (first | (assumption) | fail "no")
  k_with "setAttr ref" => (first | (k_here; k_dflt (refine' set_abs ?q92d786d7F ?q92d786d7X ?q92d786d7N ?q92d786d7ne ?q92d786d7x ?q92d786d7l ?q92d786d7z ?_ ?q92d786d7hs ?q92d786d7hp ?q92d786d7ht ?q92d786d7hh; (case q92d786d7F => k_asm); (case q92d786d7X => k_asm); (case q92d786d7N => k_asm); (case q92d786d7ne => assumption); (case q92d786d7x => assumption); (case q92d786d7l => assumption); (case q92d786d7z => assumption); (case q92d786d7hs => k_is); (case q92d786d7hp => k_is); (case q92d786d7ht => k_is); (case q92d786d7hh => k_is); k_whole); walk_at "tl184d389"; (try k_sweep)) | fail "no")
  k_with "call ref" => (first | (refine halt ?_) | fail "no")
  trivial
theorem counted_i {w : World} {dp un : Nat} {gd : Option (List Code)} {cn : Str} {cs : Scope} {a : Addr} {ccd : Value} {cl : List (Str × Addr)} {outer : List Env} {A₀ : Around} {base h₀ : Heap} {L : Addr} {m : Str → Option Value} {s : Shared} {Q E : Value → Shared → Prop} {mean : ExcName → Option Value} {mg mb : Str → Option Value} {rest : List (Addr × Obj)} {mac md lim mem ch pr : Addr} {es : List DictEntry} {nn : Nat} {vs : List Value} {ad n c : Int}
    (B : Below A₀ base outer h₀) (F : Fr h₀ L s.heap m) (X : (seat.heap_1 w.params).In h₀) (T : Top topProg ((looseW seat.view_1 [Str.ofString "counted_elements_iops", Str.ofString "counted_elements_plainio"]) ++ List.map (fun x => x.name) (recsOf seat.view_1) ++ List.map (fun x => x.fst) (litsOf seat.view_1) ++ List.map (fun x => x.name) (clssOf seat.view_1 (looseW seat.view_1 [Str.ofString "counted_elements_iops", Str.ofString "counted_elements_plainio"]))) mean mg mb h₀) (hkf : cs.kind = .function) (N : News h₀ L s.heap ((md, dictOf es nn) :: rest)) (hne : ∀ p ∈ rest, p.1 ≠ md) (hdp : dp + 60 < recursionLimit) (hmac : (mac, instObj 282 md) ∈ rest) (hLim : LimAt rest lim) (hD : RunD es mem lim)
    (hM : MemAt rest mem ch vs) (hz : vs.length ≤ 1000) (hP : PlaceAt rest pr ad n c) (h1 : 1 ≤ c) (h2 : c ≤ 3) (h3 : 1 ≤ n) (h4 : n ≤ 100) (h5 : 0 ≤ ad) (h6 : ad ≤ 1000) (hsm : c * n ≤ 500)
    (ret : ad + c * n ≤ vs.length → ∀ pl ps c0 ex es' nn' h' tk', Fr h₀ L h' m → News h₀ L h' ((md, dictOf es' nn') :: (pl, W.listOf ps.toArray c0) :: (ex ++ rest)) → getL (Str.ofString "memory") es' = some (some (.ref mem)) → (∀ p ∈ (pl, W.listOf ps.toArray c0) :: (ex ++ rest), p.1 ≠ md) → PlAt ex ps ad n c.toNat → Q (.ref pl) { s with heap := h', toks := tk' })
    (exc : ¬ ad + c * n ≤ vs.length → ∀ e g₂ h' tk', Fr h₀ L g₂ m → RaisedSN base g₂ (envX cn cs L a ccd cl :: outer) e (.ref 51) rest h' → g₂.UpToSlots h' → E (.ref e) { s with heap := h', toks := tk' }) :
    wpAny (model PySem.Challenge.rw_rh0120_01.row.prog w) (ktrTop dp un gd cn cs L a ccd cl outer) (call (.ref 224) [.ref mac, .ref pr]) Q E s := by
  (revert X; k_fill; intro X)
  have hm : ∀ p ∈ rest, p ∈ (md, dictOf es nn) :: rest := fun p hp => .tail _ hp
  have hmac' := hm _ hmac
  have hrd' : (md, dictOf es nn) ∈ (md, dictOf es nn) :: rest := .head _
  have hgm := hD.mem
  generalize hnw : (md, dictOf es nn) :: rest = nw at N hmac' hrd'
  (refine wpAny_call ?_; k_dflt ktr_enter)
  k_steps
  refine unhalt ?_
  subst hnw
  by_cases hfit : ad + c * n ≤ vs.length
  · k_dflt (refine' held_ok ?q9B ?q9F ?q9X ?q9T ?q9hk ?q9N ?q9hdp (hM.mono hm) hz (hP.mono hm) h1 h2 h3 h4 h5 h6 hfit ?_)
    (case q9hk => first | exact rfl | assumption); (case q9B => k_asm); (case q9F => k_asm); (case q9X => k_asm); (case q9T => k_asm); (case q9N => k_asm); (case q9hdp => ((simp only [depth_under_make, depth_under_kw, depth_in1, depth_deeper, depth_caller]); first | decide | ((try dsimp only [ktrTop]); omega)))
    intro pl ps c0 ex h' tk' F' N' l1 l2 hPl
    replace N' := newsIn N'
    have hpl1 := hPl.1
    have hmm : ∀ p ∈ rest, p ∈ (pl, W.listOf ps.toArray c0) :: (ex ++ rest) := fun p hp => .tail _ (List.mem_append_right _ hp)
    have hpl3 : (pl, W.listOf ps.toArray c0) ∈ (pl, W.listOf ps.toArray c0) :: (ex ++ rest) := .head _
    have hne3 : ∀ p ∈ (pl, W.listOf ps.toArray c0) :: (ex ++ rest), p.1 ≠ md := by
      intro p hp
      rcases List.mem_cons.mp hp with rfl | hp
      · exact (l2 _ (List.mem_append_right _ (.head _))).symm
      · rcases List.mem_append.mp hp with hp | hp
        · exact Nat.ne_of_gt (l1 p hp _ (.head _))
        · exact hne p hp
    replace ret := ret hfit pl ps c0 ex
    have hmac3 := hmm _ hmac
    obtain ⟨ld, esl, nl, tl, hl1, hl2, hl3⟩ := hLim.mono hmm
    obtain ⟨t9, hst⟩ := hD.steps
    have hlm := hD.lim
    have hle : es.length ≤ 500 := Nat.le_trans hD.len (by decide)
    generalize (pl, W.listOf ps.toArray c0) :: (ex ++ rest) = rest3 at N' hmac3 hl1 hl2 hpl3 hne3 ret hmm
    have t1 : (mac, instObj 282 md) ∈ (md, dictOf es nn) :: rest3 := .tail _ hmac3
    have t2 : (md, dictOf es nn) ∈ (md, dictOf es nn) :: rest3 := .head _
    have t3 : (pl, W.listOf ps.toArray c0) ∈ (md, dictOf es nn) :: rest3 := .tail _ hpl3
    k_steps
    all_goals (rename (∀ y : Str, y ≠ _ → _) => ho9; exact ret _ _ _ _ (by assumption) (by assumption) ((ho9 _ (by decide)).trans hgm) hne3 hPl)
  · k_dflt (refine' held_bad ?q9B ?q9F ?q9X ?q9T ?q9hk ?q9N ?q9hdp (hM.mono hm) hz (hP.mono hm) h1 h2 h3 h4 h5 h6 hfit hsm ?_)
    (case q9hk => first | exact rfl | assumption); (case q9B => k_asm); (case q9F => k_asm); (case q9X => k_asm); (case q9T => k_asm); (case q9N => k_asm); (case q9hdp => ((simp only [depth_under_make, depth_under_kw, depth_in1, depth_deeper, depth_caller]); first | decide | ((try dsimp only [ktrTop]); omega)))
    intro e g₂ h' tk' F' R' U'
    k_steps
    all_goals exact exc hfit _ _ _ _ (by assumption) (raisedSub (by assumption) (fun p hp => .tail _ hp)) (by assumption)
theorem part_texts {w : World} {dp un : Nat} {gd : Option (List Code)} {cn : Str} {cs : Scope} {a : Addr} {ccd : Value} {cl : List (Str × Addr)} {outer : List Env} {A₀ : Around} {base h₀ : Heap} {L : Addr} {m : Str → Option Value} {s : Shared} {Q E : Value → Shared → Prop} {mean : ExcName → Option Value} {mg mb : Str → Option Value} {rest : List (Addr × Obj)} {mac md lim mem ch pr fs : Addr} {es : List DictEntry} {nn : Nat} {vs : List Value} {os : List (Option Str)} {ad n c : Int} {tk : Tok}
    (B : Below A₀ base outer h₀) (F : Fr h₀ L s.heap m) (X : (seat.heap_1 w.params).In h₀) (T : Top topProg ((looseW seat.view_1 [Str.ofString "counted_elements_iops", Str.ofString "counted_elements_plainio"]) ++ List.map (fun x => x.name) (recsOf seat.view_1) ++ List.map (fun x => x.fst) (litsOf seat.view_1) ++ List.map (fun x => x.name) (clssOf seat.view_1 (looseW seat.view_1 [Str.ofString "counted_elements_iops", Str.ofString "counted_elements_plainio"]))) mean mg mb h₀) (hkf : cs.kind = .function) (N : News h₀ L s.heap ((md, dictOf es nn) :: rest)) (hne : ∀ p ∈ rest, p.1 ≠ md) (hdp : dp + 80 < recursionLimit) (hun : un + 500 < cLine) (hmac : (mac, instObj 282 md) ∈ rest) (hLim : LimAt rest lim) (hD : RunD es mem lim)
    (hM : MemAt rest mem ch vs) (hS : Sgs vs os) (hz : vs.length ≤ 100) (hP : PlaceAt rest pr ad n c) (h1 : 1 ≤ c) (h2 : c ≤ 3) (h3 : 1 ≤ n) (h4 : n ≤ 100) (h5 : 0 ≤ ad) (h6 : ad ≤ 1000) (hsm : c * n ≤ 500)
    (ret : ad + c * n ≤ vs.length → (upTo ((os.drop ad.toNat).take (c.toNat * n.toNat))).isEmpty = false → ∀ t h' tk', Fr h₀ L h' m → News h₀ L h' rest → Q (.str (lead ((os.drop ad.toNat).take (c.toNat * n.toNat))) t) { s with heap := h', toks := tk' })
    (exc : ¬ (ad + c * n ≤ vs.length ∧ (upTo ((os.drop ad.toNat).take (c.toNat * n.toNat))).isEmpty = false) → ∀ e g₂ h' tk', Fr h₀ L g₂ m → RaisedSN base g₂ (envX cn cs L a ccd cl :: outer) e (.ref 51) rest h' → g₂.UpToSlots h' → E (.ref e) { s with heap := h', toks := tk' }) :
    wpAny (model PySem.Challenge.rw_rh0120_01.row.prog w) (ktrTop dp un gd cn cs L a ccd cl outer) (call (.ref 236) [.ref mac, .str (Str.ofString "texts") tk, .ref pr, .ref fs, .bool false]) Q E s := by
  (revert X; k_fill; intro X)
  (refine wpAny_call ?_; k_dflt ktr_enter)
  k_steps
  refine unhalt ?_
  k_dflt (refine' counted_i ?q9B ?q9F ?q9X ?q9T ?q9hk ?q9N hne ?q9hdp hmac hLim hD hM (Nat.le_trans hz (by decide)) hP h1 h2 h3 h4 h5 h6 hsm ?_ ?_)
  (case q9hk => first | exact rfl | assumption); (case q9B => k_asm); (case q9F => k_asm); (case q9X => k_asm); (case q9T => k_asm); (case q9N => k_asm); (case q9hdp => ((simp only [depth_under_make, depth_under_kw, depth_in1, depth_deeper, depth_caller]); first | decide | ((try dsimp only [ktrTop]); omega)))
  · intro hfit pl ps c0 ex es' nn' h' tk' F' N' hg' hne' hPl
    have hcc : (c.toNat : Int) = c := Int.toNat_of_nonneg (by omega)
    have hmm : ∀ p ∈ rest, p ∈ (md, dictOf es' nn') :: (pl, W.listOf ps.toArray c0) :: (ex ++ rest) := fun p hp => .tail _ (.tail _ (List.mem_append_right _ hp))
    have hPl3 : PlAt ((md, dictOf es' nn') :: (pl, W.listOf ps.toArray c0) :: (ex ++ rest)) ps ad n c.toNat := hPl.mono fun p hp => .tail _ (.tail _ (List.mem_append_left _ hp))
    have hpl3 : (pl, W.listOf ps.toArray c0) ∈ (md, dictOf es' nn') :: (pl, W.listOf ps.toArray c0) :: (ex ++ rest) := .tail _ (.head _)
    have hmd3 : (md, dictOf es' nn') ∈ (md, dictOf es' nn') :: (pl, W.listOf ps.toArray c0) :: (ex ++ rest) := .head _
    obtain ⟨md9, es3, nn3, c3, hm1, hm22, hg3, hch⟩ := hM
    have hmac3 := hmm _ hmac
    generalize (md, dictOf es' nn') :: (pl, W.listOf ps.toArray c0) :: (ex ++ rest) = nw3 at N' hmm hPl3 hpl3 hmd3 hmac3
    k_steps
    refine unhalt ?_
    k_dflt (refine' lead1 ?q9B ?q9F ?q9X ?q9T ?q9hk ?q9N ?q9hdp ?q9hun (hmm _ hm1) (hmm _ hm22) hg3 (hmm _ hch) hS (Nat.le_trans hz (by decide)) hpl3 hPl3 h5 (by rw [hcc]; exact hfit) h3 ⟨?_, ?_⟩)
    (case q9hk => first | exact rfl | assumption); (case q9B => k_asm); (case q9F => k_asm); (case q9X => k_asm); (case q9T => k_asm); (case q9N => k_asm); (case q9hdp => ((simp only [depth_under_make, depth_under_kw, depth_in1, depth_deeper, depth_caller]); first | decide | ((try dsimp only [ktrTop]); omega)))
    (case q9hun => ((simp only [units_in1, units_deeper, Around.mark_units, units_caller]); first | decide | ((try dsimp only [ktrTop]); omega)))
    · intro he e g₂ h' tk' F' R' U'
      k_steps
      all_goals exact exc (fun q => by rw [he] at q; exact Bool.noConfusion q.2) _ _ _ _ (by assumption) (raisedSub (by assumption) hmm) (by assumption)
    · intro he t h' tk' F' N'
      k_steps
      all_goals exact ret hfit he _ _ _ (by assumption) (newsSub (by assumption) hmm)
  · intro hfit e g₂ h' tk' F' R' U'
    k_steps
    all_goals exact exc (fun q => hfit q.1) _ _ _ _ (by assumption) (by assumption) (by assumption)
end
end
section
section
variable {prog : Program} {w : World} {K : Type} [DecidableEq K] {knd : KeyKind prog w K} {A : Around} {E : Value → Shared → Prop} {s : Shared} {h₀ : Heap} {L src : Addr} {m : Str → Option Value} {news : List (Addr × Obj)}
theorem reg_Control_1 : True := by
  w_top off
  k_with_none
  k_with "pj" => (first | exact Mine.c0 h9 | exact Mine.c1 h9 | exact Mine.e1 h9 | exact Mine.c2 h9 | exact Mine.e2 h9 | exact Mine.c3 h9 | exact Mine.e3 h9 | exact Mine.c4 h9 | exact Mine.e4 h9 | exact Mine.c5 h9 | exact Mine.e5 h9 | exact Mine.c6 h9 | exact Mine.e6 h9 | exact Mine.c7 h9 | exact Mine.e7 h9 | exact Mine.c8 h9 | exact Mine.e8 h9 | exact Mine.c9 h9 | exact Mine.e9 h9 | exact Mine.c10 h9 | exact Mine.e10 h9 | exact Mine.c11 h9 | exact Mine.e11 h9 | exact Mine.c12 h9 | exact Mine.e12 h9 | exact Mine.c13 h9 | exact Mine.e13 h9 | exact Mine.c14 h9 | exact Mine.e14 h9 | exact Mine.c15 h9 | exact Mine.e15 h9 | exact Mine.c16 h9 | exact Mine.e16 h9 | exact Mine.c17 h9 | exact Mine.e17 h9 | exact Mine.c18 h9 | exact Mine.e18 h9 | exact Mine.c19 h9 | exact Mine.e19 h9 | exact Mine.c20 h9 | exact Mine.e20 h9 | fail "pj")
  k_with "pj1" => (first | exact Mine.c0 (Mine.c0 h9) | exact Mine.c0 (Mine.c1 h9) | exact Mine.c0 (Mine.c2 h9) | exact Mine.c0 (Mine.c3 h9) | exact Mine.c0 (Mine.c4 h9) | exact Mine.c0 (Mine.c5 h9) | exact Mine.c0 (Mine.c6 h9) | exact Mine.c0 (Mine.c7 h9) | exact Mine.c0 (Mine.c8 h9) | exact Mine.c0 (Mine.c9 h9) | exact Mine.c0 (Mine.c10 h9) | exact Mine.c0 (Mine.c11 h9) | exact Mine.c0 (Mine.c12 h9) | exact Mine.c0 (Mine.c13 h9) | exact Mine.c0 (Mine.c14 h9) | exact Mine.c0 (Mine.c15 h9) | exact Mine.c0 (Mine.c16 h9) | exact Mine.c0 (Mine.c17 h9) | exact Mine.c0 (Mine.c18 h9) | exact Mine.c0 (Mine.c19 h9) | exact Mine.c0 (Mine.c20 h9) | fail "pj1")
  k_with "pj2" => (first | exact Mine.c1 (Mine.c0 h9) | exact Mine.c1 (Mine.c1 h9) | exact Mine.c1 (Mine.c2 h9) | exact Mine.c1 (Mine.c3 h9) | exact Mine.c1 (Mine.c4 h9) | exact Mine.c1 (Mine.c5 h9) | exact Mine.c1 (Mine.c6 h9) | exact Mine.c1 (Mine.c7 h9) | exact Mine.c1 (Mine.c8 h9) | exact Mine.c1 (Mine.c9 h9) | exact Mine.c1 (Mine.c10 h9) | exact Mine.c1 (Mine.c11 h9) | exact Mine.c1 (Mine.c12 h9) | exact Mine.c1 (Mine.c13 h9) | exact Mine.c1 (Mine.c14 h9) | exact Mine.c1 (Mine.c15 h9) | exact Mine.c1 (Mine.c16 h9) | exact Mine.c1 (Mine.c17 h9) | exact Mine.c1 (Mine.c18 h9) | exact Mine.c1 (Mine.c19 h9) | exact Mine.c1 (Mine.c20 h9) | fail "pj2")
  k_with "pj3" => (first | exact Mine.e2 (Mine.c0 h9) | exact Mine.e2 (Mine.c1 h9) | exact Mine.e2 (Mine.c2 h9) | exact Mine.e2 (Mine.c3 h9) | exact Mine.e2 (Mine.c4 h9) | exact Mine.e2 (Mine.c5 h9) | exact Mine.e2 (Mine.c6 h9) | exact Mine.e2 (Mine.c7 h9) | exact Mine.e2 (Mine.c8 h9) | exact Mine.e2 (Mine.c9 h9) | exact Mine.e2 (Mine.c10 h9) | exact Mine.e2 (Mine.c11 h9) | exact Mine.e2 (Mine.c12 h9) | exact Mine.e2 (Mine.c13 h9) | exact Mine.e2 (Mine.c14 h9) | exact Mine.e2 (Mine.c15 h9) | exact Mine.e2 (Mine.c16 h9) | exact Mine.e2 (Mine.c17 h9) | exact Mine.e2 (Mine.c18 h9) | exact Mine.e2 (Mine.c19 h9) | exact Mine.e2 (Mine.c20 h9) | fail "pj3")
  k_with "omega" => (first | exact Nat.le_refl _ | decide | with_reducible (first | exact Mine.lim0 (by assumption) | exact Mine.lim1 (by assumption) (by with_unfolding_all rfl) | exact Mine.lim2 (by assumption) (by with_unfolding_all rfl) | exact Mine.lim3 (by assumption) (by with_unfolding_all rfl) | exact Mine.lim8 (by assumption) (by assumption) (by with_unfolding_all rfl) | exact Mine.lim9 (by assumption) (by assumption) (by with_unfolding_all rfl) | exact Mine.lim10 (by assumption) (by assumption) (by with_unfolding_all rfl) | exact Mine.i1 (by assumption) | exact Mine.i2 (by assumption) | exact Mine.i3 (by assumption) | exact Mine.i4 (by assumption) (by with_unfolding_all rfl) | exact Mine.i5 (by assumption) | exact Mine.i6 (by assumption) (by assumption) | exact Mine.i7 (by assumption) (by assumption) | exact Mine.i8 (by assumption) (by assumption) | exact List.length_take_le _ _ | fail "l") | (refine Mine.toNe ?_; with_reducible (first | exact Nat.ne_of_lt (by ((repeat (first | assumption | exact Mine.ltp0 | refine Mine.ltp ?_)); (first | done | fail "c"))) | exact Nat.ne_of_gt (by ((repeat (first | assumption | exact Mine.ltp0 | refine Mine.ltp ?_)); (first | done | fail "c"))) | (refine Nat.ne_of_lt (Mine.viaL (by assumption) ?_); intro h9; k_extra "pj") | (refine Nat.ne_of_gt (Mine.viaL (by assumption) ?_); intro h9; k_extra "pj") | (refine Nat.ne_of_lt (Mine.viaM (by assumption) ?_); intro h9; k_extra "pj") | (refine Nat.ne_of_gt (Mine.viaM (by assumption) ?_); intro h9; k_extra "pj") | assumption | exact Ne.symm (by assumption) | (refine Mine.viaN (by assumption) ?_; intro h9; k_extra "pj") | (refine Ne.symm (Mine.viaN (by assumption) ?_); intro h9; k_extra "pj") | (refine Mine.viaN1 (by assumption) ?_; intro h9; k_extra "pj1") | (refine Ne.symm (Mine.viaN1 (by assumption) ?_); intro h9; k_extra "pj1") | (refine Mine.viaN2 (by assumption) ?_; intro h9; k_extra "pj2") | (refine Ne.symm (Mine.viaN2 (by assumption) ?_); intro h9; k_extra "pj2") | (refine Mine.viaN3 (by assumption) ?_; intro h9; k_extra "pj3") | (refine Ne.symm (Mine.viaN3 (by assumption) ?_); intro h9; k_extra "pj3") | fail "n")) | fail "o")
  trivial
/-- dict(d), whatever its values -/
theorem dict_of {Q : Value → Shared → Prop} {oS : Obj} {kvs : List (K × Value)} (F : Fr h₀ L s.heap m) (N : News h₀ L s.heap news) (hbig : h₀.NoLimit) (hs : (src, oS) ∈ news) (hd : oS.IsDictOf knd kvs) (lo : (src == sysModules) = false) (hsz : kvs.length ≤ sizeLine)
    (k : ∀ d h' o, Fr h₀ L h' m → News h₀ L h' ((d, o) :: news) → (∀ p ∈ news, p.1 < d) → (d == sysModules) = false → o.IsDictOf knd kvs → Q (.ref d) { s with heap := h' }) :
    wpAny (model prog w) A (call (.type "dict") [.ref src]) Q E s := by
  refine PySem.kt_call_dict lo (Heap.dictOf_iff.mpr ⟨oS, (N _ hs).1, hd⟩) hsz fun h' hm hs => ?_
  obtain ⟨o', ho', hd'⟩ := Heap.dictOf_iff.mp hm
  have N1 := News.push F N { cls := .type "dict", data := .dict #[] }
  exact k _ h' o' ((F.push _).change hs (N1 _ (.head _)).2.1 (N1.fresh (.head _))) (N1.setHead N.apart hs ho') (fun p hp => Heap.lt_size (N p hp).1) (F.notModules (modules_low hbig)) hd'
end
section
theorem reg_Control_2 : True := by
  w_top off
  k_with_none
  k_with "pj" => (first | exact Mine.c0 h9 | exact Mine.c1 h9 | exact Mine.e1 h9 | exact Mine.c2 h9 | exact Mine.e2 h9 | exact Mine.c3 h9 | exact Mine.e3 h9 | exact Mine.c4 h9 | exact Mine.e4 h9 | exact Mine.c5 h9 | exact Mine.e5 h9 | exact Mine.c6 h9 | exact Mine.e6 h9 | exact Mine.c7 h9 | exact Mine.e7 h9 | exact Mine.c8 h9 | exact Mine.e8 h9 | exact Mine.c9 h9 | exact Mine.e9 h9 | exact Mine.c10 h9 | exact Mine.e10 h9 | exact Mine.c11 h9 | exact Mine.e11 h9 | exact Mine.c12 h9 | exact Mine.e12 h9 | exact Mine.c13 h9 | exact Mine.e13 h9 | exact Mine.c14 h9 | exact Mine.e14 h9 | exact Mine.c15 h9 | exact Mine.e15 h9 | exact Mine.c16 h9 | exact Mine.e16 h9 | exact Mine.c17 h9 | exact Mine.e17 h9 | exact Mine.c18 h9 | exact Mine.e18 h9 | exact Mine.c19 h9 | exact Mine.e19 h9 | exact Mine.c20 h9 | exact Mine.e20 h9 | fail "pj")
  k_with "pj1" => (first | exact Mine.c0 (Mine.c0 h9) | exact Mine.c0 (Mine.c1 h9) | exact Mine.c0 (Mine.c2 h9) | exact Mine.c0 (Mine.c3 h9) | exact Mine.c0 (Mine.c4 h9) | exact Mine.c0 (Mine.c5 h9) | exact Mine.c0 (Mine.c6 h9) | exact Mine.c0 (Mine.c7 h9) | exact Mine.c0 (Mine.c8 h9) | exact Mine.c0 (Mine.c9 h9) | exact Mine.c0 (Mine.c10 h9) | exact Mine.c0 (Mine.c11 h9) | exact Mine.c0 (Mine.c12 h9) | exact Mine.c0 (Mine.c13 h9) | exact Mine.c0 (Mine.c14 h9) | exact Mine.c0 (Mine.c15 h9) | exact Mine.c0 (Mine.c16 h9) | exact Mine.c0 (Mine.c17 h9) | exact Mine.c0 (Mine.c18 h9) | exact Mine.c0 (Mine.c19 h9) | exact Mine.c0 (Mine.c20 h9) | fail "pj1")
  k_with "pj2" => (first | exact Mine.c1 (Mine.c0 h9) | exact Mine.c1 (Mine.c1 h9) | exact Mine.c1 (Mine.c2 h9) | exact Mine.c1 (Mine.c3 h9) | exact Mine.c1 (Mine.c4 h9) | exact Mine.c1 (Mine.c5 h9) | exact Mine.c1 (Mine.c6 h9) | exact Mine.c1 (Mine.c7 h9) | exact Mine.c1 (Mine.c8 h9) | exact Mine.c1 (Mine.c9 h9) | exact Mine.c1 (Mine.c10 h9) | exact Mine.c1 (Mine.c11 h9) | exact Mine.c1 (Mine.c12 h9) | exact Mine.c1 (Mine.c13 h9) | exact Mine.c1 (Mine.c14 h9) | exact Mine.c1 (Mine.c15 h9) | exact Mine.c1 (Mine.c16 h9) | exact Mine.c1 (Mine.c17 h9) | exact Mine.c1 (Mine.c18 h9) | exact Mine.c1 (Mine.c19 h9) | exact Mine.c1 (Mine.c20 h9) | fail "pj2")
  k_with "pj3" => (first | exact Mine.e2 (Mine.c0 h9) | exact Mine.e2 (Mine.c1 h9) | exact Mine.e2 (Mine.c2 h9) | exact Mine.e2 (Mine.c3 h9) | exact Mine.e2 (Mine.c4 h9) | exact Mine.e2 (Mine.c5 h9) | exact Mine.e2 (Mine.c6 h9) | exact Mine.e2 (Mine.c7 h9) | exact Mine.e2 (Mine.c8 h9) | exact Mine.e2 (Mine.c9 h9) | exact Mine.e2 (Mine.c10 h9) | exact Mine.e2 (Mine.c11 h9) | exact Mine.e2 (Mine.c12 h9) | exact Mine.e2 (Mine.c13 h9) | exact Mine.e2 (Mine.c14 h9) | exact Mine.e2 (Mine.c15 h9) | exact Mine.e2 (Mine.c16 h9) | exact Mine.e2 (Mine.c17 h9) | exact Mine.e2 (Mine.c18 h9) | exact Mine.e2 (Mine.c19 h9) | exact Mine.e2 (Mine.c20 h9) | fail "pj3")
  k_with "omega" => (first | exact Nat.le_refl _ | decide | with_reducible (first | exact Mine.lim0 (by assumption) | exact Mine.lim1 (by assumption) (by with_unfolding_all rfl) | exact Mine.lim2 (by assumption) (by with_unfolding_all rfl) | exact Mine.lim3 (by assumption) (by with_unfolding_all rfl) | exact Mine.lim8 (by assumption) (by assumption) (by with_unfolding_all rfl) | exact Mine.lim9 (by assumption) (by assumption) (by with_unfolding_all rfl) | exact Mine.lim10 (by assumption) (by assumption) (by with_unfolding_all rfl) | exact Mine.i1 (by assumption) | exact Mine.i2 (by assumption) | exact Mine.i3 (by assumption) | exact Mine.i4 (by assumption) (by with_unfolding_all rfl) | exact Mine.i5 (by assumption) | exact Mine.i6 (by assumption) (by assumption) | exact Mine.i7 (by assumption) (by assumption) | exact Mine.i8 (by assumption) (by assumption) | exact List.length_take_le _ _ | fail "l") | (refine Mine.toNe ?_; with_reducible (first | exact Nat.ne_of_lt (by ((repeat (first | assumption | exact Mine.ltp0 | refine Mine.ltp ?_)); (first | done | fail "c"))) | exact Nat.ne_of_gt (by ((repeat (first | assumption | exact Mine.ltp0 | refine Mine.ltp ?_)); (first | done | fail "c"))) | (refine Nat.ne_of_lt (Mine.viaL (by assumption) ?_); intro h9; k_extra "pj") | (refine Nat.ne_of_gt (Mine.viaL (by assumption) ?_); intro h9; k_extra "pj") | (refine Nat.ne_of_lt (Mine.viaM (by assumption) ?_); intro h9; k_extra "pj") | (refine Nat.ne_of_gt (Mine.viaM (by assumption) ?_); intro h9; k_extra "pj") | assumption | exact Ne.symm (by assumption) | (refine Mine.viaN (by assumption) ?_; intro h9; k_extra "pj") | (refine Ne.symm (Mine.viaN (by assumption) ?_); intro h9; k_extra "pj") | (refine Mine.viaN1 (by assumption) ?_; intro h9; k_extra "pj1") | (refine Ne.symm (Mine.viaN1 (by assumption) ?_); intro h9; k_extra "pj1") | (refine Mine.viaN2 (by assumption) ?_; intro h9; k_extra "pj2") | (refine Ne.symm (Mine.viaN2 (by assumption) ?_); intro h9; k_extra "pj2") | (refine Mine.viaN3 (by assumption) ?_; intro h9; k_extra "pj3") | (refine Ne.symm (Mine.viaN3 (by assumption) ?_); intro h9; k_extra "pj3") | fail "n")) | fail "o")
  k_with "k_all" => (first | (assumption) | fail "no")
  k_with "k_mem" => (first | (assumption) | fail "no")
  k_with "news_mem" => (first | (k_mem) | fail "no")
  k_with "exec Raise some none" => (first | (k_here; refine raise_open rfl ?_) | fail "no")
  k_with "call ref" => (first | (k_here; (with_reducible show wpAny _ _ (call (Value.ref 51) [Value.str _ _] _) _ _ _); k_dflt (refine' fault_mk ?q96b9c5B ?q96b9c5F ?q96b9c5X ?q96b9c5T ?q96b9c5hk ?q96b9c5hA ?q96b9c5hr ?q96b9c5N ?_; (case q96b9c5hA => exact rfl); (case q96b9c5hk => first | exact rfl | assumption); (case q96b9c5B => k_asm); (case q96b9c5F => k_asm); (case q96b9c5X => k_asm); (case q96b9c5T => k_asm); (case q96b9c5hr => ((simp only [depth_under_make, depth_under_kw, depth_in1, depth_deeper, depth_caller]); first | decide | ((try dsimp only [ktrTop]); omega))); (case q96b9c5N => k_asm)); intro _ _ _ _ _ _ _ _; (try k_sweep)) | fail "no")
  k_with "RaisedVal" => (first | (refine ⟨_, _, _, rfl, Frag.In.keeps (by assumption) (Fr.keep (by assumption)), ((by assumption : News _ _ _ (_ :: _)) _ List.mem_cons_self).1, ?_⟩) | fail "no")
  k_with "leaving ref" => (first | (k_here; first | (refine' leave_fault ?q91bf5e95K ?q91bf5e95F ?q91bf5e95N ?q91bf5e95n ?_ ?q91bf5e95hf ?q91bf5e95hk; (case q91bf5e95hf => exact rfl); (case q91bf5e95hk => first | exact rfl | assumption); (case q91bf5e95F => assumption); (case q91bf5e95K => assumption); (case q91bf5e95N => assumption); (case q91bf5e95n => assumption); k_whole; walk_at "tl3225b9b") | (refine' leave_past ?q91bf5e95K ?q91bf5e95F ?q91bf5e95R ?q91bf5e95U ?_ ?q91bf5e95hf; (case q91bf5e95hf => exact rfl); (case q91bf5e95R => assumption); (case q91bf5e95U => assumption); (case q91bf5e95K => assumption); (case q91bf5e95F => assumption); k_whole; walk_at "tl3225b9b")) | fail "no")
  k_with "call builtin:len" => (first | (k_here; k_dflt (refine call_len_list (by is_list) (by rw [List.size_toArray]; omega) ?_)) | fail "no")
  k_with "k_all" => (first | (refine fun p9 hp9 => Nat.ne_of_lt (Nat.lt_of_lt_of_le ((by assumption : ∀ p ∈ _, p.1 < _) p9 hp9) ?_); omega) | fail "no")
  k_with "getMethod ref" => (first | (k_here; (with_reducible show wpAny _ _ (getMethod (Value.ref _) (Str.ofString "get") _) _ _ _); k_dflt (refine kdg_method (knd := PySem.strKind _ _) (by k_asm) (by k_mem) (by k_asm) ?_)) | fail "no")
  k_with "call builtin:dict.get" => (first | (k_here; k_dflt (first | refine kdg_get1 (knd := PySem.strKind _ _) (by k_asm) (by k_mem) (by k_asm) (by k_asm) (strKind_is _ _ _ _) (some _) (by rfl) ?_ | refine kdg_get1 (knd := PySem.strKind _ _) (by k_asm) (by k_mem) (by k_asm) (by k_asm) (strKind_is _ _ _ _) none (by rfl) ?_); (try dsimp only [Option.getD])) | fail "no")
  k_with "subscriptTail" => (first | (k_here; (with_reducible show wpAny _ _ (subscriptTail _ _ (Value.ref _) (Value.str _ _)) _ _ _); k_dflt (refine kda_item (knd := PySem.strKind _ _) (by k_asm) (by k_mem) (by k_asm) (strKind_is _ _ _ _) (by rfl) ?_)) | fail "no")
  k_with "compareOp NotIn str ref" => (first | (k_here; k_dflt (refine kdg_notin (knd := PySem.strKind _ _) (by k_asm) (by k_mem) (by k_asm) (by k_asm) (strKind_is _ _ _ _) _ (by rfl) ?_)) | fail "no")
  k_with "call type:dict" => (first | (k_here; (with_reducible show wpAny _ _ (call (Value.type "dict") [Value.ref _]) _ _ _); k_dflt (refine' dict_of (knd := PySem.strKind _ _) ?q9dd896F ?q9dd896N ?q9dd896b ?q9dd896s ?q9dd896d ?q9dd896l ?q9dd896z ?_; (case q9dd896F => k_asm); (case q9dd896N => k_asm); (case q9dd896b => exact Top.nolimit (by k_asm)); (case q9dd896s => k_mem); (case q9dd896d => assumption); (case q9dd896l => assumption); (case q9dd896z => exact Nat.le_of_ble_eq_true rfl)); intro _ _ _ _ _ _ _ _; (try k_sweep)) | fail "no")
  k_with "k_get" => (first | (assumption) | fail "no")
  k_with "call ref" => (first | (refine halt ?_) | fail "no")
  trivial
theorem ctl_ne {h₀ h : Heap} {L ai bi md : Addr} {oa ob oc : Obj} {rest : List (Addr × Obj)} (N : News h₀ L h ((ai, oa) :: (bi, ob) :: (md, oc) :: rest)) (li : bi < ai ∧ md < ai ∧ AllLt ai rest) (ld : ∀ p ∈ (md, oc) :: rest, p.1 < bi) (hne : ∀ p ∈ rest, p.1 ≠ md) :
    News h₀ L h ((md, oc) :: (ai, oa) :: (bi, ob) :: rest) ∧ (∀ p ∈ (ai, oa) :: (bi, ob) :: rest, p.1 ≠ md) ∧ @LT.lt Nat _ bi ai ∧ (∀ p ∈ rest, p.1 < bi) ∧ (∀ p ∈ rest, p ∈ (ai, oa) :: (bi, ob) :: rest) ∧ (∀ o, ∀ p ∈ (bi, o) :: rest, p.1 ≠ ai) := by
  refine ⟨newsSub N fun p hp => ?_, List.forall_mem_cons.mpr ⟨Nat.ne_of_gt li.2.1, List.forall_mem_cons.mpr ⟨Nat.ne_of_gt (ld _ (.head _)), hne⟩⟩, li.1, fun p hp => ld p (.tail _ hp), fun p hp => .tail _ (.tail _ hp), fun o => List.forall_mem_cons.mpr ⟨Nat.ne_of_lt li.1, fun p hp => Nat.ne_of_lt (allLt_mem li.2.2 p hp)⟩⟩
  simp only [List.mem_cons] at hp ⊢
  rcases hp with h | h | h | h <;> simp [h]
theorem ctl_texts {w : World} {dp un : Nat} {gd : Option (List Code)} {cn : Str} {cs : Scope} {a : Addr} {ccd : Value} {cl : List (Str × Addr)} {outer : List Env} {A₀ : Around} {base h₀ : Heap} {L : Addr} {m : Str → Option Value} {s : Shared} {Q E : Value → Shared → Prop} {mean : ExcName → Option Value} {mg mb : Str → Option Value} {rest : List (Addr × Obj)} {mac md lim mem ch pr fs vl hl hp fx : Addr} {ofx : Obj} {es : List DictEntry} {nn c1 c2 : Nat} {vs : List Value} {os : List (Option Str)} {ad n c : Int} {x1 x2 x3 : Tok}
    (B : Below A₀ base outer h₀) (F : Fr h₀ L s.heap m) (X : (seat.heap_1 w.params).In h₀) (T : Top topProg ((looseW seat.view_1 [Str.ofString "counted_elements_iops", Str.ofString "counted_elements_plainio"]) ++ List.map (fun x => x.name) (recsOf seat.view_1) ++ List.map (fun x => x.fst) (litsOf seat.view_1) ++ List.map (fun x => x.name) (clssOf seat.view_1 (looseW seat.view_1 [Str.ofString "counted_elements_iops", Str.ofString "counted_elements_plainio"]))) mean mg mb h₀) (hkf : cs.kind = .function) (N : News h₀ L s.heap ((md, dictOf es nn) :: rest)) (hne : ∀ p ∈ rest, p.1 ≠ md) (hdp : dp + 100 < recursionLimit) (hun : un + 600 < cLine) (hmac : (mac, instObj 282 md) ∈ rest) (hLim : LimAt rest lim) (hD : RunD es mem lim)
    (hM : MemAt rest mem ch vs) (hS : Sgs vs os) (hz : vs.length ≤ 100) (hP : PlaceAt rest pr ad n c) (h1 : 1 ≤ c) (h2 : c ≤ 3) (h3 : 1 ≤ n) (h4 : n ≤ 100) (h5 : 0 ≤ ad) (h6 : ad ≤ 1000) (hsm : c * n ≤ 500)
    (hvl : (vl, W.listOf [.ref pr].toArray c1) ∈ rest) (hhl : (hl, W.listOf [.ref hp].toArray c2) ∈ rest) (hhp : (hp, tupO [.str (Str.ofString "FMT") x1, .str (Str.ofString "texts") x2]) ∈ rest) (hfx : (fx, ofx) ∈ rest) (hfd : ofx.IsDictOf (strKind PySem.Challenge.rw_rh0120_01.row.prog w) [(Str.ofString "REC", .int 1 x3)]) (hlo : (fx == sysModules) = false)
    (ret : ad + c * n ≤ vs.length → (upTo ((os.drop ad.toNat).take (c.toNat * n.toNat))).isEmpty = false → ∀ r k ok t y1 h' tk', Fr h₀ L h' m → News h₀ L h' ((r, tupO [.ref k, .none]) :: (k, ok) :: rest) → ok.IsDictOf (strKind PySem.Challenge.rw_rh0120_01.row.prog w) [(Str.ofString "REC", .int 1 y1), (Str.ofString "FMT", .str (fmtT (lead ((os.drop ad.toNat).take (c.toNat * n.toNat)))) t)] → @LT.lt Nat _ k r → (∀ p ∈ rest, p.1 < k) → (k == sysModules) = false → Q (.ref r) { s with heap := h', toks := tk' })
    (exc : ¬ (ad + c * n ≤ vs.length ∧ (upTo ((os.drop ad.toNat).take (c.toNat * n.toNat))).isEmpty = false) → ∀ e g₂ h' tk', Fr h₀ L g₂ m → RaisedSN base g₂ (envX cn cs L a ccd cl :: outer) e (.ref 51) rest h' → g₂.UpToSlots h' → E (.ref e) { s with heap := h', toks := tk' }) :
    wpAny (model PySem.Challenge.rw_rh0120_01.row.prog w) (ktrTop dp un gd cn cs L a ccd cl outer) (call (.ref 243) [.ref mac, .ref vl, .ref hl, .ref fx, .ref fs, .bool false]) Q E s := by
  (revert X; k_fill; intro X)
  have hm : ∀ p ∈ rest, p ∈ (md, dictOf es nn) :: rest := fun p hp => .tail _ hp
  have e1 := hm _ hmac
  have e2 := hm _ hvl
  have e3 := hm _ hhl
  have e4 := hm _ hhp
  have e5 := hm _ hfx
  (refine wpAny_call ?_; k_dflt ktr_enter)
  k_steps
  refine unhalt ?_
  rename (∀ p : Addr × Obj, p ∈ (md, dictOf es nn) :: rest → p.1 < _) => ld9
  rename (_ < _ ∧ md < _ ∧ AllLt _ rest) => li9
  rename News _ _ _ (_ :: _ :: (md, _) :: rest) => N9
  obtain ⟨N8, hne9, li8, lr9, hm9, hoi9⟩ := ctl_ne N9 li9 ld9 hne
  k_dflt (refine' part_texts ?q9B ?q9F ?q9X ?q9T ?q9hk ?q9N hne9 ?q9hdp ?q9hun (hm9 _ hmac) (hLim.mono hm9) hD (hM.mono hm9) hS hz (hP.mono hm9) h1 h2 h3 h4 h5 h6 hsm ?_ ?_)
  (case q9hk => first | exact rfl | assumption); (case q9B => k_asm); (case q9F => k_asm); (case q9X => k_asm); (case q9T => k_asm); (case q9N => k_asm); (case q9hdp => ((simp only [depth_under_make, depth_under_kw, depth_in1, depth_deeper, depth_caller]); first | decide | ((try dsimp only [ktrTop]); omega)))
  (case q9hun => ((simp only [units_in1, units_deeper, Around.mark_units, units_caller]); first | decide | ((try dsimp only [ktrTop]); omega)))
  · intro hfit he t h' tk' F' N'
    have hle := seg_sgs hS ad.toNat (c.toNat * n.toNat) hz
    clear li9 ld9 N9 N8
    k_steps
    refine unhalt ?_
    k_dflt (refine' fmt_c ?q9B ?q9F ?q9X ?q9T ?q9hk ?q9N ?q9hdp hle ?_)
    (case q9hk => first | exact rfl | assumption); (case q9B => k_asm); (case q9F => k_asm); (case q9X => k_asm); (case q9T => k_asm); (case q9N => k_asm); (case q9hdp => ((simp only [depth_under_make, depth_under_kw, depth_in1, depth_deeper, depth_caller]); first | decide | ((try dsimp only [ktrTop]); omega)))
    intro t' h' tk' F' N'
    k_steps
    rename Fr _ _ _ _ => F6
    rename News _ _ _ (_ :: _ :: rest) => N6
    refine UnrEnd.intro F6 N6 (_ :: rest) (fun p hp => hp) (hoi9 _) ?_
    k_steps
    rename (_ < _ ∧ AllLt _ rest) => lD
    exact ret hfit he _ _ _ _ _ _ _ (by assumption) (by assumption) (by assumption) lD.1 lr9 (by assumption)
  · intro hq e g₂ h' tk' F' R' U'
    k_steps
    all_goals exact exc hq _ _ _ _ (by assumption) (raisedSub (by assumption) hm9) (by assumption)
theorem ctl_val {w : World} {dp un : Nat} {gd : Option (List Code)} {cn : Str} {cs : Scope} {a : Addr} {ccd : Value} {cl : List (Str × Addr)} {outer : List Env} {A₀ : Around} {base h₀ : Heap} {L : Addr} {m : Str → Option Value} {s : Shared} {Q E : Value → Shared → Prop} {mean : ExcName → Option Value} {mg mb : Str → Option Value} {rest : List (Addr × Obj)} {mac fs vl hl hp fx : Addr} {ofx : Obj} {c1 c2 : Nat} {t : Str} {u x1 x2 : Tok}
    (B : Below A₀ base outer h₀) (F : Fr h₀ L s.heap m) (X : (seat.heap_1 w.params).In h₀) (T : Top topProg ((looseW seat.view_1 [Str.ofString "counted_elements_iops", Str.ofString "counted_elements_plainio"]) ++ List.map (fun x => x.name) (recsOf seat.view_1) ++ List.map (fun x => x.fst) (litsOf seat.view_1) ++ List.map (fun x => x.name) (clssOf seat.view_1 (looseW seat.view_1 [Str.ofString "counted_elements_iops", Str.ofString "counted_elements_plainio"]))) mean mg mb h₀) (hkf : cs.kind = .function) (N : News h₀ L s.heap rest) (hdp : dp + 100 < recursionLimit) (hun : un + 600 < cLine) (hz : t.length ≤ 100)
    (hvl : (vl, W.listOf [.str t u].toArray c1) ∈ rest) (hhl : (hl, W.listOf [.ref hp].toArray c2) ∈ rest) (hhp : (hp, tupO [.str (Str.ofString "FMT") x1, .str (Str.ofString "value") x2]) ∈ rest) (hfx : (fx, ofx) ∈ rest) (hfd : ofx.IsDictOf (strKind PySem.Challenge.rw_rh0120_01.row.prog w) []) (hlo : (fx == sysModules) = false)
    (ret : ∀ r k ok t' h' tk', Fr h₀ L h' m → News h₀ L h' ((r, tupO [.ref k, .none]) :: (k, ok) :: rest) → ok.IsDictOf (strKind PySem.Challenge.rw_rh0120_01.row.prog w) [(Str.ofString "FMT", .str (fmtT t) t')] → @LT.lt Nat _ k r → (∀ p ∈ rest, p.1 < k) → (k == sysModules) = false → Q (.ref r) { s with heap := h', toks := tk' }) :
    wpAny (model PySem.Challenge.rw_rh0120_01.row.prog w) (ktrTop dp un gd cn cs L a ccd cl outer) (call (.ref 243) [.ref mac, .ref vl, .ref hl, .ref fx, .ref fs, .bool false]) Q E s := by
  (revert X; k_fill; intro X)
  (refine wpAny_call ?_; k_dflt ktr_enter)
  k_steps
  refine unhalt ?_
  ((refine wpAny_call ?_); k_dflt (refine' code_def ?q9k1 ?q9k2 ?q9k3 ?q9k4 ?q9k5 ?q9kA ?q9kF ?q9kK ?q9k6 ?q9k7 ?q9k8 ?q9k9 ?q9kB ?_ ?q9c2 ?q9c3 ?q9c4 ?q9c5; (case q9kA => exact rfl); (case q9kF => exact rfl); (case q9kK => first | exact rfl | assumption); (case q9k1 => k_asm); (case q9k2 => k_asm); (case q9k3 => k_asm); (case q9k4 => k_asm); (case q9k5 => k_asm); (case q9k6 => k_is); (case q9k7 => k_is); (case q9k8 => ((simp only [depth_under_make, depth_under_kw, depth_in1, depth_deeper, depth_caller]); first | decide | ((try dsimp only [ktrTop]); omega))); (case q9k9 => exact BindsTo.of_eq rfl); (case q9c5 => decide); (case q9kB => exact locs rfl); (case q9c2 => exact rfl); (case q9c3 => exact rfl); (case q9c4 => exact rfl); k_whole; intro g' L' h' FG' F' N' B' X' T'; (try dsimp only); (try k_fold)))
  k_steps
  refine unhalt ?_
  k_dflt (refine' fmt_c ?q9B ?q9F ?q9X ?q9T ?q9hk ?q9N ?q9hdp hz ?_)
  (case q9hk => first | exact rfl | assumption); (case q9B => k_asm); (case q9F => k_asm); (case q9X => k_asm); (case q9T => k_asm); (case q9N => k_asm); (case q9hdp => ((simp only [depth_under_make, depth_under_kw, depth_in1, depth_deeper, depth_caller]); first | decide | ((try dsimp only [ktrTop]); omega)))
  intro t' h' tk' F' N'
  k_steps
  rename Fr _ _ _ _ => F6
  rename News _ _ _ (_ :: _ :: rest) => N6
  rename (∀ p : Addr × Obj, p ∈ rest → p.1 < _) => ld9
  rename (_ < _ ∧ AllLt _ rest) => li9
  refine UnrEnd.intro F6 N6 (_ :: rest) (fun p hp => hp) (List.forall_mem_cons.mpr ⟨Nat.ne_of_lt li9.1, fun p hp => Nat.ne_of_lt (allLt_mem li9.2 p hp)⟩) ?_
  k_steps
  rename (_ < _ ∧ AllLt _ rest) => lD
  exact ret _ _ _ _ _ _ (by assumption) (by assumption) (by assumption) lD.1 ld9 (by assumption)
end
end
section
open PySem.SeqAt
open AutoSeq1 (wpAny_loadPart')
section
variable {prog : Program} {w : World} {A : Around} {E : Value → Shared → Prop} {s : Shared} {l b : Addr} {x1 x2 y1 y2 : Value} {Q : Value → Shared → Prop}
/-- two values are equal, in this world -/
def EqW (prog : Program) (w : World) (A : Around) (s : Shared) (x y : Value) : Prop := ∀ (E : Value → Shared → Prop) (Q : Bool → Shared → Prop), Q true s → wpAny (model prog w) A (eqBool x y) Q E s
theorem reg_TupEq_1 : True := by
  w_top off
  k_with_none
  k_with "pj" => (first | exact Mine.c0 h9 | exact Mine.c1 h9 | exact Mine.e1 h9 | exact Mine.c2 h9 | exact Mine.e2 h9 | exact Mine.c3 h9 | exact Mine.e3 h9 | exact Mine.c4 h9 | exact Mine.e4 h9 | exact Mine.c5 h9 | exact Mine.e5 h9 | exact Mine.c6 h9 | exact Mine.e6 h9 | exact Mine.c7 h9 | exact Mine.e7 h9 | exact Mine.c8 h9 | exact Mine.e8 h9 | exact Mine.c9 h9 | exact Mine.e9 h9 | exact Mine.c10 h9 | exact Mine.e10 h9 | exact Mine.c11 h9 | exact Mine.e11 h9 | exact Mine.c12 h9 | exact Mine.e12 h9 | exact Mine.c13 h9 | exact Mine.e13 h9 | exact Mine.c14 h9 | exact Mine.e14 h9 | exact Mine.c15 h9 | exact Mine.e15 h9 | exact Mine.c16 h9 | exact Mine.e16 h9 | exact Mine.c17 h9 | exact Mine.e17 h9 | exact Mine.c18 h9 | exact Mine.e18 h9 | exact Mine.c19 h9 | exact Mine.e19 h9 | exact Mine.c20 h9 | exact Mine.e20 h9 | fail "pj")
  k_with "pj1" => (first | exact Mine.c0 (Mine.c0 h9) | exact Mine.c0 (Mine.c1 h9) | exact Mine.c0 (Mine.c2 h9) | exact Mine.c0 (Mine.c3 h9) | exact Mine.c0 (Mine.c4 h9) | exact Mine.c0 (Mine.c5 h9) | exact Mine.c0 (Mine.c6 h9) | exact Mine.c0 (Mine.c7 h9) | exact Mine.c0 (Mine.c8 h9) | exact Mine.c0 (Mine.c9 h9) | exact Mine.c0 (Mine.c10 h9) | exact Mine.c0 (Mine.c11 h9) | exact Mine.c0 (Mine.c12 h9) | exact Mine.c0 (Mine.c13 h9) | exact Mine.c0 (Mine.c14 h9) | exact Mine.c0 (Mine.c15 h9) | exact Mine.c0 (Mine.c16 h9) | exact Mine.c0 (Mine.c17 h9) | exact Mine.c0 (Mine.c18 h9) | exact Mine.c0 (Mine.c19 h9) | exact Mine.c0 (Mine.c20 h9) | fail "pj1")
  k_with "pj2" => (first | exact Mine.c1 (Mine.c0 h9) | exact Mine.c1 (Mine.c1 h9) | exact Mine.c1 (Mine.c2 h9) | exact Mine.c1 (Mine.c3 h9) | exact Mine.c1 (Mine.c4 h9) | exact Mine.c1 (Mine.c5 h9) | exact Mine.c1 (Mine.c6 h9) | exact Mine.c1 (Mine.c7 h9) | exact Mine.c1 (Mine.c8 h9) | exact Mine.c1 (Mine.c9 h9) | exact Mine.c1 (Mine.c10 h9) | exact Mine.c1 (Mine.c11 h9) | exact Mine.c1 (Mine.c12 h9) | exact Mine.c1 (Mine.c13 h9) | exact Mine.c1 (Mine.c14 h9) | exact Mine.c1 (Mine.c15 h9) | exact Mine.c1 (Mine.c16 h9) | exact Mine.c1 (Mine.c17 h9) | exact Mine.c1 (Mine.c18 h9) | exact Mine.c1 (Mine.c19 h9) | exact Mine.c1 (Mine.c20 h9) | fail "pj2")
  k_with "pj3" => (first | exact Mine.e2 (Mine.c0 h9) | exact Mine.e2 (Mine.c1 h9) | exact Mine.e2 (Mine.c2 h9) | exact Mine.e2 (Mine.c3 h9) | exact Mine.e2 (Mine.c4 h9) | exact Mine.e2 (Mine.c5 h9) | exact Mine.e2 (Mine.c6 h9) | exact Mine.e2 (Mine.c7 h9) | exact Mine.e2 (Mine.c8 h9) | exact Mine.e2 (Mine.c9 h9) | exact Mine.e2 (Mine.c10 h9) | exact Mine.e2 (Mine.c11 h9) | exact Mine.e2 (Mine.c12 h9) | exact Mine.e2 (Mine.c13 h9) | exact Mine.e2 (Mine.c14 h9) | exact Mine.e2 (Mine.c15 h9) | exact Mine.e2 (Mine.c16 h9) | exact Mine.e2 (Mine.c17 h9) | exact Mine.e2 (Mine.c18 h9) | exact Mine.e2 (Mine.c19 h9) | exact Mine.e2 (Mine.c20 h9) | fail "pj3")
  k_with "omega" => (first | exact Nat.le_refl _ | decide | with_reducible (first | exact Mine.lim0 (by assumption) | exact Mine.lim1 (by assumption) (by with_unfolding_all rfl) | exact Mine.lim2 (by assumption) (by with_unfolding_all rfl) | exact Mine.lim3 (by assumption) (by with_unfolding_all rfl) | exact Mine.lim8 (by assumption) (by assumption) (by with_unfolding_all rfl) | exact Mine.lim9 (by assumption) (by assumption) (by with_unfolding_all rfl) | exact Mine.lim10 (by assumption) (by assumption) (by with_unfolding_all rfl) | exact Mine.i1 (by assumption) | exact Mine.i2 (by assumption) | exact Mine.i3 (by assumption) | exact Mine.i4 (by assumption) (by with_unfolding_all rfl) | exact Mine.i5 (by assumption) | exact Mine.i6 (by assumption) (by assumption) | exact Mine.i7 (by assumption) (by assumption) | exact Mine.i8 (by assumption) (by assumption) | exact List.length_take_le _ _ | fail "l") | (refine Mine.toNe ?_; with_reducible (first | exact Nat.ne_of_lt (by ((repeat (first | assumption | exact Mine.ltp0 | refine Mine.ltp ?_)); (first | done | fail "c"))) | exact Nat.ne_of_gt (by ((repeat (first | assumption | exact Mine.ltp0 | refine Mine.ltp ?_)); (first | done | fail "c"))) | (refine Nat.ne_of_lt (Mine.viaL (by assumption) ?_); intro h9; k_extra "pj") | (refine Nat.ne_of_gt (Mine.viaL (by assumption) ?_); intro h9; k_extra "pj") | (refine Nat.ne_of_lt (Mine.viaM (by assumption) ?_); intro h9; k_extra "pj") | (refine Nat.ne_of_gt (Mine.viaM (by assumption) ?_); intro h9; k_extra "pj") | assumption | exact Ne.symm (by assumption) | (refine Mine.viaN (by assumption) ?_; intro h9; k_extra "pj") | (refine Ne.symm (Mine.viaN (by assumption) ?_); intro h9; k_extra "pj") | (refine Mine.viaN1 (by assumption) ?_; intro h9; k_extra "pj1") | (refine Ne.symm (Mine.viaN1 (by assumption) ?_); intro h9; k_extra "pj1") | (refine Mine.viaN2 (by assumption) ?_; intro h9; k_extra "pj2") | (refine Ne.symm (Mine.viaN2 (by assumption) ?_); intro h9; k_extra "pj2") | (refine Mine.viaN3 (by assumption) ?_; intro h9; k_extra "pj3") | (refine Ne.symm (Mine.viaN3 (by assumption) ?_); intro h9; k_extra "pj3") | fail "n")) | fail "o")
  trivial
theorem tup2_ne (hl : s.heap.get? l = some (tupO [x1, x2])) (hb : s.heap.get? b = some (tupO [y1, y2])) (hu : A.units < cLine) (h1 : EqW prog w A.in1 s x1 y1) (h2 : EqW prog w A.in1 s x2 y2) (h : Q (.bool false) s) :
    wpAny (model prog w) A (compareOp .NotEq (.ref l) (.ref b)) Q E s := by
  show wpAny _ A (richCompare .NotEq _ _) _ _ _
  refine wpAny_richCompare_same_room ⟨_, hl, rfl⟩ ⟨_, hb, rfl⟩ F.slot_tuple_ne (wpAny_call_entry F.slot_tuple_ne ⟨_, hl, rfl⟩ F.entry_tuple_ne ?_ (F.args_tuple_ne_2 _ _)) hu
  have f2 := AutoSeq1.sub_tuple_tuple
  obtain ⟨hp, g, d, tk, os⟩ := s
  wp_walk using wpAny_loadPart' hl, wpAny_loadPart' hb, wpAny_forIn_list _ (fun rest b s' => b.1 = none ∧ s' = ⟨hp, g, d, tk, os⟩ ∧ ∀ p ∈ rest, EqW prog w A.in1 ⟨hp, g, d, tk, os⟩ p.1 p.2) _
  · rintro ⟨x, y⟩ rest b s' ⟨hb', rfl, he⟩
    refine wpAny_bind (he _ List.mem_cons_self _ _ ?_)
    wp_walk
    exact ⟨rfl, rfl, fun p hp => he p (List.mem_cons_of_mem _ hp)⟩
  · rintro ⟨b1, b2⟩ s' ⟨hb', rfl, _⟩
    simp only at hb'
    subst hb'
    wp_walk
    exact ⟨_, rfl, fun x => (nomatch x), h⟩
  · refine ⟨rfl, rfl, fun p hp => ?_⟩
    rcases (show p = (x1, y1) ∨ p = (x2, y2) by simpa using hp) with rfl | rfl
    · exact h1
    · exact h2
theorem tup2_eq (hl : s.heap.get? l = some (tupO [x1, x2])) (hb : s.heap.get? b = some (tupO [y1, y2])) (hu : A.units < cLine) (h1 : EqW prog w A.in1 s x1 y1) (h2 : EqW prog w A.in1 s x2 y2) (h : Q (.bool true) s) :
    wpAny (model prog w) A (compareOp .Eq (.ref l) (.ref b)) Q E s := by
  show wpAny _ A (richCompare .Eq _ _) _ _ _
  refine wpAny_richCompare_same_room ⟨_, hl, rfl⟩ ⟨_, hb, rfl⟩ F.slot_tuple_eq (wpAny_call_entry F.slot_tuple_eq ⟨_, hl, rfl⟩ F.entry_tuple_eq ?_ (F.args_tuple_eq_2 _ _)) hu
  have f2 := AutoSeq1.sub_tuple_tuple
  obtain ⟨hp, g, d, tk, os⟩ := s
  wp_walk using wpAny_loadPart' hl, wpAny_loadPart' hb, wpAny_forIn_list _ (fun rest b s' => b.1 = none ∧ s' = ⟨hp, g, d, tk, os⟩ ∧ ∀ p ∈ rest, EqW prog w A.in1 ⟨hp, g, d, tk, os⟩ p.1 p.2) _
  · rintro ⟨x, y⟩ rest b s' ⟨hb', rfl, he⟩
    refine wpAny_bind (he _ List.mem_cons_self _ _ ?_)
    wp_walk
    exact ⟨rfl, rfl, fun p hp => he p (List.mem_cons_of_mem _ hp)⟩
  · rintro ⟨b1, b2⟩ s' ⟨hb', rfl, _⟩
    simp only at hb'
    subst hb'
    wp_walk
    exact ⟨_, rfl, fun x => (nomatch x), h⟩
  · refine ⟨rfl, rfl, fun p hp => ?_⟩
    rcases (show p = (x1, y1) ∨ p = (x2, y2) by simpa using hp) with rfl | rfl
    · exact h1
    · exact h2
theorem eqw_ref {a c : Addr} (hc : ∀ (E Q : Value → Shared → Prop), Q (.bool true) s → wpAny (model prog w) A (compareOp .Eq (.ref a) (.ref c)) Q E s) : EqW prog w A s (.ref a) (.ref c) := fun E Q h => by
  unfold eqBool
  refine wpAny_holding ?_
  refine wpAny_ite_split (fun _ => wpAny_bind (wpAny_rule (wpAny_pure h))) (fun _ => ?_)
  exact wpAny_bind (hc _ _ (wpAny_truthy_bool h))
theorem eqw_none : EqW prog w A s .none .none := fun E Q h => (EqAt.same _ : EqAt A s .none .none true) prog w E Q h
theorem eqw_dicts {h₀ : Heap} {L a c : Addr} {oa oc : Obj} {news : List (Addr × Obj)} {ka kc : List (Str × Value)} (N : News h₀ L s.heap news) (pa : (a, oa) ∈ news) (pc : (c, oc) ∈ news) (da : oa.IsDictOf (strKind prog w) ka) (dc : oc.IsDictOf (strKind prog w) kc) (la : (a == sysModules) = false) (lc : (c == sysModules) = false)
    (hl : ka.length = kc.length) (hu : A.units < cLine) (hits : KeqHits A.in1 s kc ka true) : EqW prog w A s (.ref a) (.ref c) :=
  eqw_ref fun E Q h => keq_pairs N pa pc da dc la lc hl hu hits h
theorem hits2 {x : Str} {a c t u : Tok} : KeqHits A s [(Str.ofString "REC", .int 1 c), (Str.ofString "FMT", .str x u)] [(Str.ofString "REC", .int 1 a), (Str.ofString "FMT", .str x t)] true := by
  have e1 := EqAt.int_int (A := A) (s := s) 1 a 1 c
  have e2 := EqAt.str_str (A := A) (s := s) x t x u
  rw [beq_self_eq_true] at e1 e2
  exact KeqHits.hit (b := true) rfl e1 (KeqHits.hit (b := true) rfl e2 .nil)
theorem hits1 {x : Str} {t u : Tok} : KeqHits A s [(Str.ofString "FMT", .str x u)] [(Str.ofString "FMT", .str x t)] true := by
  have e2 := EqAt.str_str (A := A) (s := s) x t x u
  rw [beq_self_eq_true] at e2
  exact KeqHits.hit (b := true) rfl e2 .nil
/-- two lists of the same values -/
theorem eq_same {h₀ : Heap} {L a c : Addr} {n k : Nat} {vs : List Value} {news : List (Addr × Obj)} (N : News h₀ L s.heap news) (ha : (a, W.listOf vs.toArray n) ∈ news) (hc : (c, W.listOf vs.toArray k) ∈ news) (hu : A.units < cLine) (h : Q (.bool true) s) :
    wpAny (model prog w) A (compareOp .Eq (.ref a) (.ref c)) Q E s :=
  eq_listAt (e := fun _ => true) (News.isList N ha) (News.isList N hc) rfl hu (fun j h1 h2 => EqAt.same _) (by rw [show ((List.range vs.toArray.size).all fun _ => true) = true from List.all_eq_true.mpr (fun _ _ => rfl)]; exact h)
end
end
section
section
variable {prog : Program} {w : World} {A₀ A : Around} {s : Shared} {base h₀ g₀ : Heap} {outer : List Env} {L : Addr} {m : Str → Option Value} {env : Env} {news : List (Addr × Obj)} {K : Frag} {p : Program} {loose : List Str} {mean : ExcName → Option Value} {mg mb : Str → Option Value}
    {R : Result → Shared → Prop} {name qual : Str} {params : Arguments} {body : List Stmt} {scope : Scope} {dV kV doc pm cdv ct oc : Value} {an od : Option Addr} {osl : Array (Option Value)} {f : Addr} {args : Args} {binds : List (Str × Value)}
theorem reg_Heard_1 : True := by
  w_top off
  k_with_none
  k_with "pj" => (first | exact Mine.c0 h9 | exact Mine.c1 h9 | exact Mine.e1 h9 | exact Mine.c2 h9 | exact Mine.e2 h9 | exact Mine.c3 h9 | exact Mine.e3 h9 | exact Mine.c4 h9 | exact Mine.e4 h9 | exact Mine.c5 h9 | exact Mine.e5 h9 | exact Mine.c6 h9 | exact Mine.e6 h9 | exact Mine.c7 h9 | exact Mine.e7 h9 | exact Mine.c8 h9 | exact Mine.e8 h9 | exact Mine.c9 h9 | exact Mine.e9 h9 | exact Mine.c10 h9 | exact Mine.e10 h9 | exact Mine.c11 h9 | exact Mine.e11 h9 | exact Mine.c12 h9 | exact Mine.e12 h9 | exact Mine.c13 h9 | exact Mine.e13 h9 | exact Mine.c14 h9 | exact Mine.e14 h9 | exact Mine.c15 h9 | exact Mine.e15 h9 | exact Mine.c16 h9 | exact Mine.e16 h9 | exact Mine.c17 h9 | exact Mine.e17 h9 | exact Mine.c18 h9 | exact Mine.e18 h9 | exact Mine.c19 h9 | exact Mine.e19 h9 | exact Mine.c20 h9 | exact Mine.e20 h9 | fail "pj")
  k_with "pj1" => (first | exact Mine.c0 (Mine.c0 h9) | exact Mine.c0 (Mine.c1 h9) | exact Mine.c0 (Mine.c2 h9) | exact Mine.c0 (Mine.c3 h9) | exact Mine.c0 (Mine.c4 h9) | exact Mine.c0 (Mine.c5 h9) | exact Mine.c0 (Mine.c6 h9) | exact Mine.c0 (Mine.c7 h9) | exact Mine.c0 (Mine.c8 h9) | exact Mine.c0 (Mine.c9 h9) | exact Mine.c0 (Mine.c10 h9) | exact Mine.c0 (Mine.c11 h9) | exact Mine.c0 (Mine.c12 h9) | exact Mine.c0 (Mine.c13 h9) | exact Mine.c0 (Mine.c14 h9) | exact Mine.c0 (Mine.c15 h9) | exact Mine.c0 (Mine.c16 h9) | exact Mine.c0 (Mine.c17 h9) | exact Mine.c0 (Mine.c18 h9) | exact Mine.c0 (Mine.c19 h9) | exact Mine.c0 (Mine.c20 h9) | fail "pj1")
  k_with "pj2" => (first | exact Mine.c1 (Mine.c0 h9) | exact Mine.c1 (Mine.c1 h9) | exact Mine.c1 (Mine.c2 h9) | exact Mine.c1 (Mine.c3 h9) | exact Mine.c1 (Mine.c4 h9) | exact Mine.c1 (Mine.c5 h9) | exact Mine.c1 (Mine.c6 h9) | exact Mine.c1 (Mine.c7 h9) | exact Mine.c1 (Mine.c8 h9) | exact Mine.c1 (Mine.c9 h9) | exact Mine.c1 (Mine.c10 h9) | exact Mine.c1 (Mine.c11 h9) | exact Mine.c1 (Mine.c12 h9) | exact Mine.c1 (Mine.c13 h9) | exact Mine.c1 (Mine.c14 h9) | exact Mine.c1 (Mine.c15 h9) | exact Mine.c1 (Mine.c16 h9) | exact Mine.c1 (Mine.c17 h9) | exact Mine.c1 (Mine.c18 h9) | exact Mine.c1 (Mine.c19 h9) | exact Mine.c1 (Mine.c20 h9) | fail "pj2")
  k_with "pj3" => (first | exact Mine.e2 (Mine.c0 h9) | exact Mine.e2 (Mine.c1 h9) | exact Mine.e2 (Mine.c2 h9) | exact Mine.e2 (Mine.c3 h9) | exact Mine.e2 (Mine.c4 h9) | exact Mine.e2 (Mine.c5 h9) | exact Mine.e2 (Mine.c6 h9) | exact Mine.e2 (Mine.c7 h9) | exact Mine.e2 (Mine.c8 h9) | exact Mine.e2 (Mine.c9 h9) | exact Mine.e2 (Mine.c10 h9) | exact Mine.e2 (Mine.c11 h9) | exact Mine.e2 (Mine.c12 h9) | exact Mine.e2 (Mine.c13 h9) | exact Mine.e2 (Mine.c14 h9) | exact Mine.e2 (Mine.c15 h9) | exact Mine.e2 (Mine.c16 h9) | exact Mine.e2 (Mine.c17 h9) | exact Mine.e2 (Mine.c18 h9) | exact Mine.e2 (Mine.c19 h9) | exact Mine.e2 (Mine.c20 h9) | fail "pj3")
  k_with "omega" => (first | exact Nat.le_refl _ | decide | with_reducible (first | exact Mine.lim0 (by assumption) | exact Mine.lim1 (by assumption) (by with_unfolding_all rfl) | exact Mine.lim2 (by assumption) (by with_unfolding_all rfl) | exact Mine.lim3 (by assumption) (by with_unfolding_all rfl) | exact Mine.lim8 (by assumption) (by assumption) (by with_unfolding_all rfl) | exact Mine.lim9 (by assumption) (by assumption) (by with_unfolding_all rfl) | exact Mine.lim10 (by assumption) (by assumption) (by with_unfolding_all rfl) | exact Mine.i1 (by assumption) | exact Mine.i2 (by assumption) | exact Mine.i3 (by assumption) | exact Mine.i4 (by assumption) (by with_unfolding_all rfl) | exact Mine.i5 (by assumption) | exact Mine.i6 (by assumption) (by assumption) | exact Mine.i7 (by assumption) (by assumption) | exact Mine.i8 (by assumption) (by assumption) | exact List.length_take_le _ _ | fail "l") | (refine Mine.toNe ?_; with_reducible (first | exact Nat.ne_of_lt (by ((repeat (first | assumption | exact Mine.ltp0 | refine Mine.ltp ?_)); (first | done | fail "c"))) | exact Nat.ne_of_gt (by ((repeat (first | assumption | exact Mine.ltp0 | refine Mine.ltp ?_)); (first | done | fail "c"))) | (refine Nat.ne_of_lt (Mine.viaL (by assumption) ?_); intro h9; k_extra "pj") | (refine Nat.ne_of_gt (Mine.viaL (by assumption) ?_); intro h9; k_extra "pj") | (refine Nat.ne_of_lt (Mine.viaM (by assumption) ?_); intro h9; k_extra "pj") | (refine Nat.ne_of_gt (Mine.viaM (by assumption) ?_); intro h9; k_extra "pj") | assumption | exact Ne.symm (by assumption) | (refine Mine.viaN (by assumption) ?_; intro h9; k_extra "pj") | (refine Ne.symm (Mine.viaN (by assumption) ?_); intro h9; k_extra "pj") | (refine Mine.viaN1 (by assumption) ?_; intro h9; k_extra "pj1") | (refine Ne.symm (Mine.viaN1 (by assumption) ?_); intro h9; k_extra "pj1") | (refine Mine.viaN2 (by assumption) ?_; intro h9; k_extra "pj2") | (refine Ne.symm (Mine.viaN2 (by assumption) ?_); intro h9; k_extra "pj2") | (refine Mine.viaN3 (by assumption) ?_; intro h9; k_extra "pj3") | (refine Ne.symm (Mine.viaN3 (by assumption) ?_); intro h9; k_extra "pj3") | fail "n")) | fail "o")
  trivial
theorem enterX (B : Below A₀ base outer h₀) (F : Fr h₀ L s.heap m) (N : News h₀ L s.heap news) (hA : A.frames = some (env :: outer)) (hf : env.frame = some L) (hke : env.scope.kind = .function) :
    ∃ oL es ep, (hideAll s.heap (news.map (·.1))).get? L = some oL ∧ oL.data = .dict es ep ∧ (∀ h', h'.get? L = some oL → Heap.Ns h' L m) ∧ (∀ (sl : Array (Option Value)) h', h'.get? L = some { oL with slots := sl } → Heap.Ns h' L m) ∧
      h₀.StaysIn (hideAll s.heap (news.map (·.1))) ∧ Below A base (env :: outer) (hideAll s.heap (news.map (·.1))) := by
  have nm : ∀ b o, h₀.get? b = some o → b ∉ news.map (·.1) := fun b o e q => by
    obtain ⟨p, hp, rfl⟩ := List.mem_map.mp q
    rw [(N p hp).2.2] at e; cases e
  have st : h₀.StaysIn (hideAll s.heap (news.map (·.1))) := fun b o e => hideAll_get _ (F.keep b o e) (nm b o e)
  obtain ⟨oL, es, ep, hL, hLd, hLk, hLf⟩ := F.ns
  have nL : L ∉ news.map (·.1) := fun q => by
    obtain ⟨p, hp, e⟩ := List.mem_map.mp q
    exact (N p hp).2.1 e
  have hLg := hideAll_get (news.map (·.1)) hL nL
  have B₁ := pushX B F hf hke
  exact ⟨oL, es, ep, hLg, hLd, fun h' e => ⟨oL, es, ep, e, hLd, hLk, hLf⟩, fun sl h' e => ⟨_, es, ep, e, hLd, hLk, hLf⟩, st, ⟨hA, fun b o e => st b o (B.stays b o e), funFrames_hideAll B₁.frames fun env' he b hb hf' => by
    cases he with
    | head => exact nL ((Option.some.inj (hf.symm.trans hf') : L = b) ▸ hb)
    | tail _ he =>
      obtain ⟨L₁, o₁, hf₁, ho₁⟩ := funFrames_in B.frames env' he
      rw [hf₁] at hf'
      exact nm L₁ o₁ ho₁ ((Option.some.inj hf' : L₁ = b) ▸ hb)⟩⟩
theorem code_defS0X (B : Below A₀ base [] h₀) (F : Fr h₀ L s.heap m) (X₀ : K.In h₀) (N : News h₀ L s.heap news) (T : Top p loose mean mg mb h₀) (hA : A.frames = some [env]) (hf : env.frame = some L) (hke : env.scope.kind = .function)
    (ho : K.lookup f = some ⟨oc, od, .func (fnOf name qual params body scope dV kV doc pm an cdv ct), osl⟩) (hcd : codeIn K cdv qual = true) (hroom : A.depth < recursionLimit)
    (hbind : BindsTo s (fnOf name qual params body scope dV kV doc pm an cdv ct) args binds) (hloc : ∀ y ∈ binds, scope.names.lookup y.1 = some .local)
    (h : ∀ g L' h₁, Fr h₀ L g m → Fr g L' h₁ (fun y => binds.reverse.lookup y) → News g L' h₁ news → Below A base [env] g → K.In g → Top p loose mean mg mb g → KtsDicts ([env].filterMap (·.frame)) g →
      wpAny (model prog w) (A.deeper (envOf qual scope L' f cdv)) (execs body (envOf qual scope L' f cdv))
        (fun fl s' => LeaveS0 ([env].filterMap (·.frame)) h₀ L m g R (match fl with | .ret v => v | _ => .none) s')
        (fun e s' => wpAny (model prog w) (A.deeper (envOf qual scope L' f cdv)) (leaving (envOf qual scope L' f cdv) e) (fun _ s'' => R (.error e) s'') (fun e' s'' => R (.error e') s'') s')
        { s with heap := h₁, toks := s.toks + binds.length })
    (hco : scope.isCoroutine = false) (hgen : scope.isGenerator = false) (hk : scope.kind = .function)
    (hcell : ∀ x ∈ scope.names, x.2 ≠ .cell) : codeAny (model prog w) A (.call (.ref f) args) R s := by
  have X := X₀.keeps F.keep
  have fmem : ∀ b ∈ [env].filterMap (·.frame), b = L := fun b hb => by
    rw [List.filterMap_cons, hf] at hb
    simpa using hb
  refine codeAny_call_def (fd := fnOf name qual params body scope dV kV doc pm an cdv ct) (body := body) (binds := binds) hroom (X _ _ ho) rfl (T.nolimit.keeps F.keep) (codeRec_of X hcd) rfl hbind hcell hloc (fun h₁ hns hk₁ => ?_) hco hgen hk
  obtain ⟨oL, es, ep, hLg, hLd, hN, hNs, st, B₂⟩ := enterX B F N hA hf hke
  refine wpAny_mono (h _ s.heap.objs.size h₁ ⟨hN _ hLg, st, F.above⟩ ⟨hns, fun b o e => hk₁ b o (of_hideAll _ e), Nat.le_of_eq (hideAll_size _ _)⟩
    (fun p hp => ⟨hk₁ _ _ (N p hp).1, Nat.ne_of_lt (Heap.lt_size (N p hp).1), hideAll_none _ (List.mem_map_of_mem hp)⟩) B₂ (X₀.keeps st) (T.keeps st) (fun b hb => by
      obtain rfl := fmem b hb
      exact ⟨oL, es, ep, hLg, hLd⟩)) (fun fl s' hl => ?_) fun _ _ y => y
  obtain ⟨g', L', m', news', T', F', N', k⟩ := hl
  have nL₀ : h₀.get? L = none := kts_self F
  obtain ⟨sl, hs⟩ := T'.up hLg
  refine k ⟨hNs sl _ (F'.keep _ _ hs), fun b o e => F'.keep b o (T'.other b o (st b o e) (fun q => by
    rw [fmem b q, nL₀] at e
    cases e)), F.above⟩ fun p hp => ⟨(N' p hp).1, fun q => ?_, ?_⟩
  · have := (N' p hp).2.2; rw [q, hs] at this; cases this
  · cases q : h₀.get? p.1 with
    | none => rfl
    | some o =>
      obtain ⟨sl', hs'⟩ := T'.up (st _ _ q)
      have := (N' p hp).2.2
      rw [hs'] at this
      cases this
end
/-- a goal that the walk leaves alone -/
def Halt0 (P : Prop) : Prop := P
theorem halt0 {P : Prop} (h : Halt0 P) : P := h
theorem unhalt0 {P : Prop} (h : P) : Halt0 P := h
section
theorem reg_Heard_2 : True := by
  w_top off
  k_with_none
  k_with "pj" => (first | exact Mine.c0 h9 | exact Mine.c1 h9 | exact Mine.e1 h9 | exact Mine.c2 h9 | exact Mine.e2 h9 | exact Mine.c3 h9 | exact Mine.e3 h9 | exact Mine.c4 h9 | exact Mine.e4 h9 | exact Mine.c5 h9 | exact Mine.e5 h9 | exact Mine.c6 h9 | exact Mine.e6 h9 | exact Mine.c7 h9 | exact Mine.e7 h9 | exact Mine.c8 h9 | exact Mine.e8 h9 | exact Mine.c9 h9 | exact Mine.e9 h9 | exact Mine.c10 h9 | exact Mine.e10 h9 | exact Mine.c11 h9 | exact Mine.e11 h9 | exact Mine.c12 h9 | exact Mine.e12 h9 | exact Mine.c13 h9 | exact Mine.e13 h9 | exact Mine.c14 h9 | exact Mine.e14 h9 | exact Mine.c15 h9 | exact Mine.e15 h9 | exact Mine.c16 h9 | exact Mine.e16 h9 | exact Mine.c17 h9 | exact Mine.e17 h9 | exact Mine.c18 h9 | exact Mine.e18 h9 | exact Mine.c19 h9 | exact Mine.e19 h9 | exact Mine.c20 h9 | exact Mine.e20 h9 | fail "pj")
  k_with "pj1" => (first | exact Mine.c0 (Mine.c0 h9) | exact Mine.c0 (Mine.c1 h9) | exact Mine.c0 (Mine.c2 h9) | exact Mine.c0 (Mine.c3 h9) | exact Mine.c0 (Mine.c4 h9) | exact Mine.c0 (Mine.c5 h9) | exact Mine.c0 (Mine.c6 h9) | exact Mine.c0 (Mine.c7 h9) | exact Mine.c0 (Mine.c8 h9) | exact Mine.c0 (Mine.c9 h9) | exact Mine.c0 (Mine.c10 h9) | exact Mine.c0 (Mine.c11 h9) | exact Mine.c0 (Mine.c12 h9) | exact Mine.c0 (Mine.c13 h9) | exact Mine.c0 (Mine.c14 h9) | exact Mine.c0 (Mine.c15 h9) | exact Mine.c0 (Mine.c16 h9) | exact Mine.c0 (Mine.c17 h9) | exact Mine.c0 (Mine.c18 h9) | exact Mine.c0 (Mine.c19 h9) | exact Mine.c0 (Mine.c20 h9) | fail "pj1")
  k_with "pj2" => (first | exact Mine.c1 (Mine.c0 h9) | exact Mine.c1 (Mine.c1 h9) | exact Mine.c1 (Mine.c2 h9) | exact Mine.c1 (Mine.c3 h9) | exact Mine.c1 (Mine.c4 h9) | exact Mine.c1 (Mine.c5 h9) | exact Mine.c1 (Mine.c6 h9) | exact Mine.c1 (Mine.c7 h9) | exact Mine.c1 (Mine.c8 h9) | exact Mine.c1 (Mine.c9 h9) | exact Mine.c1 (Mine.c10 h9) | exact Mine.c1 (Mine.c11 h9) | exact Mine.c1 (Mine.c12 h9) | exact Mine.c1 (Mine.c13 h9) | exact Mine.c1 (Mine.c14 h9) | exact Mine.c1 (Mine.c15 h9) | exact Mine.c1 (Mine.c16 h9) | exact Mine.c1 (Mine.c17 h9) | exact Mine.c1 (Mine.c18 h9) | exact Mine.c1 (Mine.c19 h9) | exact Mine.c1 (Mine.c20 h9) | fail "pj2")
  k_with "pj3" => (first | exact Mine.e2 (Mine.c0 h9) | exact Mine.e2 (Mine.c1 h9) | exact Mine.e2 (Mine.c2 h9) | exact Mine.e2 (Mine.c3 h9) | exact Mine.e2 (Mine.c4 h9) | exact Mine.e2 (Mine.c5 h9) | exact Mine.e2 (Mine.c6 h9) | exact Mine.e2 (Mine.c7 h9) | exact Mine.e2 (Mine.c8 h9) | exact Mine.e2 (Mine.c9 h9) | exact Mine.e2 (Mine.c10 h9) | exact Mine.e2 (Mine.c11 h9) | exact Mine.e2 (Mine.c12 h9) | exact Mine.e2 (Mine.c13 h9) | exact Mine.e2 (Mine.c14 h9) | exact Mine.e2 (Mine.c15 h9) | exact Mine.e2 (Mine.c16 h9) | exact Mine.e2 (Mine.c17 h9) | exact Mine.e2 (Mine.c18 h9) | exact Mine.e2 (Mine.c19 h9) | exact Mine.e2 (Mine.c20 h9) | fail "pj3")
  k_with "omega" => (first | exact Nat.le_refl _ | decide | with_reducible (first | exact Mine.lim0 (by assumption) | exact Mine.lim1 (by assumption) (by with_unfolding_all rfl) | exact Mine.lim2 (by assumption) (by with_unfolding_all rfl) | exact Mine.lim3 (by assumption) (by with_unfolding_all rfl) | exact Mine.lim8 (by assumption) (by assumption) (by with_unfolding_all rfl) | exact Mine.lim9 (by assumption) (by assumption) (by with_unfolding_all rfl) | exact Mine.lim10 (by assumption) (by assumption) (by with_unfolding_all rfl) | exact Mine.i1 (by assumption) | exact Mine.i2 (by assumption) | exact Mine.i3 (by assumption) | exact Mine.i4 (by assumption) (by with_unfolding_all rfl) | exact Mine.i5 (by assumption) | exact Mine.i6 (by assumption) (by assumption) | exact Mine.i7 (by assumption) (by assumption) | exact Mine.i8 (by assumption) (by assumption) | exact List.length_take_le _ _ | fail "l") | (refine Mine.toNe ?_; with_reducible (first | exact Nat.ne_of_lt (by ((repeat (first | assumption | exact Mine.ltp0 | refine Mine.ltp ?_)); (first | done | fail "c"))) | exact Nat.ne_of_gt (by ((repeat (first | assumption | exact Mine.ltp0 | refine Mine.ltp ?_)); (first | done | fail "c"))) | (refine Nat.ne_of_lt (Mine.viaL (by assumption) ?_); intro h9; k_extra "pj") | (refine Nat.ne_of_gt (Mine.viaL (by assumption) ?_); intro h9; k_extra "pj") | (refine Nat.ne_of_lt (Mine.viaM (by assumption) ?_); intro h9; k_extra "pj") | (refine Nat.ne_of_gt (Mine.viaM (by assumption) ?_); intro h9; k_extra "pj") | assumption | exact Ne.symm (by assumption) | (refine Mine.viaN (by assumption) ?_; intro h9; k_extra "pj") | (refine Ne.symm (Mine.viaN (by assumption) ?_); intro h9; k_extra "pj") | (refine Mine.viaN1 (by assumption) ?_; intro h9; k_extra "pj1") | (refine Ne.symm (Mine.viaN1 (by assumption) ?_); intro h9; k_extra "pj1") | (refine Mine.viaN2 (by assumption) ?_; intro h9; k_extra "pj2") | (refine Ne.symm (Mine.viaN2 (by assumption) ?_); intro h9; k_extra "pj2") | (refine Mine.viaN3 (by assumption) ?_; intro h9; k_extra "pj3") | (refine Ne.symm (Mine.viaN3 (by assumption) ?_); intro h9; k_extra "pj3") | fail "n")) | fail "o")
  k_with "k_all" => (first | (assumption) | fail "no")
  k_with "k_mem" => (first | (assumption) | fail "no")
  k_with "news_mem" => (first | (k_mem) | fail "no")
  k_with "call ref" => (first | (refine halt0 ?_) | fail "no")
  k_with "callWith ref" => (first | (k_here; refine callWith_F0 (FnAt.of (by assumption) (by assumption)) ?_) | fail "no")
  trivial
theorem heard_c {w : World} {dp un : Nat} {gd : Option (List Code)} {cn : Str} {cs : Scope} {a : Addr} {ccd : Value} {cl : List (Str × Addr)} {A₀ : Around} {base h₀ : Heap} {L : Addr} {m : Str → Option Value} {s : Shared} {Q E : Value → Shared → Prop} {mean : ExcName → Option Value} {mg mb : Str → Option Value} {news : List (Addr × Obj)} {wk : Addr}
    {oc : Value} {od : Option Addr} {fd : FuncData} {sl : Array (Option Value)} (Res : Value → List (Addr × Obj) → Prop) (ResE : List (Addr × Obj) → Prop)
    (B : Below A₀ base [] h₀) (F : Fr h₀ L s.heap m) (X : (seat.heap_1 w.params).In h₀) (T : Top topProg ((looseW seat.view_1 [Str.ofString "counted_elements_iops", Str.ofString "counted_elements_plainio"]) ++ List.map (fun x => x.name) (recsOf seat.view_1) ++ List.map (fun x => x.fst) (litsOf seat.view_1) ++ List.map (fun x => x.name) (clssOf seat.view_1 (looseW seat.view_1 [Str.ofString "counted_elements_iops", Str.ofString "counted_elements_plainio"]))) mean mg mb h₀) (hkf : cs.kind = .function) (XB : (seat.heap_1 w.params).In base) (TB : Top topProg ((looseW seat.view_1 [Str.ofString "counted_elements_iops", Str.ofString "counted_elements_plainio"]) ++ List.map (fun x => x.name) (recsOf seat.view_1) ++ List.map (fun x => x.fst) (litsOf seat.view_1) ++ List.map (fun x => x.name) (clssOf seat.view_1 (looseW seat.view_1 [Str.ofString "counted_elements_iops", Str.ofString "counted_elements_plainio"]))) mean mg mb base)
    (N : News h₀ L s.heap news) (hdp : dp + 200 < recursionLimit) (hw : (wk, (⟨oc, od, .func fd, sl⟩ : Obj)) ∈ news)
    (work : ∀ {dp' un' gd' cn' cs' a' ccd' g L' m' h' tk' A'} {Q' E' : Value → Shared → Prop}, dp' ≤ dp + 1 → un' ≤ un + 20 → cs'.kind = .function → Below A' base [envX cn cs L a ccd cl] g → Fr g L' h' m' → (seat.heap_1 w.params).In g → Top topProg ((looseW seat.view_1 [Str.ofString "counted_elements_iops", Str.ofString "counted_elements_plainio"]) ++ List.map (fun x => x.name) (recsOf seat.view_1) ++ List.map (fun x => x.fst) (litsOf seat.view_1) ++ List.map (fun x => x.name) (clssOf seat.view_1 (looseW seat.view_1 [Str.ofString "counted_elements_iops", Str.ofString "counted_elements_plainio"]))) mean mg mb g → News g L' h' news →
      (∀ v h' tk' news', Fr g L' h' m' → News g L' h' news' → Res v news' → Q' v { s with heap := h', toks := tk' }) →
      (∀ e g₂ h' tk' news', Fr g L' g₂ m' → RaisedSN base g₂ (envX cn' cs' L' a' ccd' [] :: [envX cn cs L a ccd cl]) e (.ref 51) news' h' → g₂.UpToSlots h' → ResE news' → E' (.ref e) { s with heap := h', toks := tk' }) →
      wpAny (model PySem.Challenge.rw_rh0120_01.row.prog w) (ktrTop dp' un' gd' cn' cs' L' a' ccd' [] [envX cn cs L a ccd cl]) (call (.ref wk) []) Q' E' { s with heap := h', toks := tk' })
    (ret : ∀ v h' tk' news', Fr h₀ L h' m → News h₀ L h' news' → Res v news' → Q v { s with heap := h', toks := tk' })
    (retE : ∀ h' tk' news', Fr h₀ L h' m → News h₀ L h' news' → ResE news' → Q .none { s with heap := h', toks := tk' }) :
    wpAny (model PySem.Challenge.rw_rh0120_01.row.prog w) (ktrTop dp un gd cn cs L a ccd cl []) (call (.ref 436) [.ref wk]) Q E s := by
  (revert X; k_fill; intro X)
  refine wpAny_call ?_
  k_dflt (refine' code_defS0X ?q9k1 ?q9k2 ?q9k3 ?q9k4 ?q9k5 ?q9kA ?q9kF ?q9kK ?q9k6 ?q9k7 ?q9k8 ?q9k9 ?q9kB ?_ ?q9c2 ?q9c3 ?q9c4 ?q9c5; (case q9kA => exact rfl); (case q9kF => exact rfl); (case q9kK => first | exact rfl | assumption); (case q9k1 => k_asm); (case q9k2 => k_asm); (case q9k3 => k_asm); (case q9k4 => k_asm); (case q9k5 => k_asm); (case q9k6 => k_is); (case q9k7 => k_is); (case q9k8 => ((simp only [depth_under_make, depth_under_kw, depth_in1, depth_deeper, depth_caller]); first | decide | ((try dsimp only [ktrTop]); omega))); (case q9k9 => exact BindsTo.of_eq rfl); (case q9c5 => decide); (case q9kB => exact locs rfl); (case q9c2 => exact rfl); (case q9c3 => exact rfl); (case q9c4 => exact rfl); k_whole; intro g' L' h' FG' F' N' B' X' T' D'; (try dsimp only); (try k_fold))
  k_steps
  all_goals (refine unhalt0 ?_)
  refine work (Nat.le_refl _) (Nat.add_le_add_left (by decide) _) rfl B' F' X' T' N' ?_ ?_
  · intro v h' tk' news' F9 N9 hR
    k_steps
    all_goals exact ret _ _ _ _ (by assumption) (by assumption) hR
  · intro e g₂ h' tk' news' F9 hRS hU hR
    k_steps
    all_goals exact retE _ _ _ (by assumption) (by assumption) hR
end
end
section
theorem reg_Heard2_1 : True := by
  w_top off
  k_with_none
  k_with "pj" => (first | exact Mine.c0 h9 | exact Mine.c1 h9 | exact Mine.e1 h9 | exact Mine.c2 h9 | exact Mine.e2 h9 | exact Mine.c3 h9 | exact Mine.e3 h9 | exact Mine.c4 h9 | exact Mine.e4 h9 | exact Mine.c5 h9 | exact Mine.e5 h9 | exact Mine.c6 h9 | exact Mine.e6 h9 | exact Mine.c7 h9 | exact Mine.e7 h9 | exact Mine.c8 h9 | exact Mine.e8 h9 | exact Mine.c9 h9 | exact Mine.e9 h9 | exact Mine.c10 h9 | exact Mine.e10 h9 | exact Mine.c11 h9 | exact Mine.e11 h9 | exact Mine.c12 h9 | exact Mine.e12 h9 | exact Mine.c13 h9 | exact Mine.e13 h9 | exact Mine.c14 h9 | exact Mine.e14 h9 | exact Mine.c15 h9 | exact Mine.e15 h9 | exact Mine.c16 h9 | exact Mine.e16 h9 | exact Mine.c17 h9 | exact Mine.e17 h9 | exact Mine.c18 h9 | exact Mine.e18 h9 | exact Mine.c19 h9 | exact Mine.e19 h9 | exact Mine.c20 h9 | exact Mine.e20 h9 | fail "pj")
  k_with "pj1" => (first | exact Mine.c0 (Mine.c0 h9) | exact Mine.c0 (Mine.c1 h9) | exact Mine.c0 (Mine.c2 h9) | exact Mine.c0 (Mine.c3 h9) | exact Mine.c0 (Mine.c4 h9) | exact Mine.c0 (Mine.c5 h9) | exact Mine.c0 (Mine.c6 h9) | exact Mine.c0 (Mine.c7 h9) | exact Mine.c0 (Mine.c8 h9) | exact Mine.c0 (Mine.c9 h9) | exact Mine.c0 (Mine.c10 h9) | exact Mine.c0 (Mine.c11 h9) | exact Mine.c0 (Mine.c12 h9) | exact Mine.c0 (Mine.c13 h9) | exact Mine.c0 (Mine.c14 h9) | exact Mine.c0 (Mine.c15 h9) | exact Mine.c0 (Mine.c16 h9) | exact Mine.c0 (Mine.c17 h9) | exact Mine.c0 (Mine.c18 h9) | exact Mine.c0 (Mine.c19 h9) | exact Mine.c0 (Mine.c20 h9) | fail "pj1")
  k_with "pj2" => (first | exact Mine.c1 (Mine.c0 h9) | exact Mine.c1 (Mine.c1 h9) | exact Mine.c1 (Mine.c2 h9) | exact Mine.c1 (Mine.c3 h9) | exact Mine.c1 (Mine.c4 h9) | exact Mine.c1 (Mine.c5 h9) | exact Mine.c1 (Mine.c6 h9) | exact Mine.c1 (Mine.c7 h9) | exact Mine.c1 (Mine.c8 h9) | exact Mine.c1 (Mine.c9 h9) | exact Mine.c1 (Mine.c10 h9) | exact Mine.c1 (Mine.c11 h9) | exact Mine.c1 (Mine.c12 h9) | exact Mine.c1 (Mine.c13 h9) | exact Mine.c1 (Mine.c14 h9) | exact Mine.c1 (Mine.c15 h9) | exact Mine.c1 (Mine.c16 h9) | exact Mine.c1 (Mine.c17 h9) | exact Mine.c1 (Mine.c18 h9) | exact Mine.c1 (Mine.c19 h9) | exact Mine.c1 (Mine.c20 h9) | fail "pj2")
  k_with "pj3" => (first | exact Mine.e2 (Mine.c0 h9) | exact Mine.e2 (Mine.c1 h9) | exact Mine.e2 (Mine.c2 h9) | exact Mine.e2 (Mine.c3 h9) | exact Mine.e2 (Mine.c4 h9) | exact Mine.e2 (Mine.c5 h9) | exact Mine.e2 (Mine.c6 h9) | exact Mine.e2 (Mine.c7 h9) | exact Mine.e2 (Mine.c8 h9) | exact Mine.e2 (Mine.c9 h9) | exact Mine.e2 (Mine.c10 h9) | exact Mine.e2 (Mine.c11 h9) | exact Mine.e2 (Mine.c12 h9) | exact Mine.e2 (Mine.c13 h9) | exact Mine.e2 (Mine.c14 h9) | exact Mine.e2 (Mine.c15 h9) | exact Mine.e2 (Mine.c16 h9) | exact Mine.e2 (Mine.c17 h9) | exact Mine.e2 (Mine.c18 h9) | exact Mine.e2 (Mine.c19 h9) | exact Mine.e2 (Mine.c20 h9) | fail "pj3")
  k_with "omega" => (first | exact Nat.le_refl _ | decide | with_reducible (first | exact Mine.lim0 (by assumption) | exact Mine.lim1 (by assumption) (by with_unfolding_all rfl) | exact Mine.lim2 (by assumption) (by with_unfolding_all rfl) | exact Mine.lim3 (by assumption) (by with_unfolding_all rfl) | exact Mine.lim8 (by assumption) (by assumption) (by with_unfolding_all rfl) | exact Mine.lim9 (by assumption) (by assumption) (by with_unfolding_all rfl) | exact Mine.lim10 (by assumption) (by assumption) (by with_unfolding_all rfl) | exact Mine.i1 (by assumption) | exact Mine.i2 (by assumption) | exact Mine.i3 (by assumption) | exact Mine.i4 (by assumption) (by with_unfolding_all rfl) | exact Mine.i5 (by assumption) | exact Mine.i6 (by assumption) (by assumption) | exact Mine.i7 (by assumption) (by assumption) | exact Mine.i8 (by assumption) (by assumption) | exact List.length_take_le _ _ | fail "l") | (refine Mine.toNe ?_; with_reducible (first | exact Nat.ne_of_lt (by ((repeat (first | assumption | exact Mine.ltp0 | refine Mine.ltp ?_)); (first | done | fail "c"))) | exact Nat.ne_of_gt (by ((repeat (first | assumption | exact Mine.ltp0 | refine Mine.ltp ?_)); (first | done | fail "c"))) | (refine Nat.ne_of_lt (Mine.viaL (by assumption) ?_); intro h9; k_extra "pj") | (refine Nat.ne_of_gt (Mine.viaL (by assumption) ?_); intro h9; k_extra "pj") | (refine Nat.ne_of_lt (Mine.viaM (by assumption) ?_); intro h9; k_extra "pj") | (refine Nat.ne_of_gt (Mine.viaM (by assumption) ?_); intro h9; k_extra "pj") | assumption | exact Ne.symm (by assumption) | (refine Mine.viaN (by assumption) ?_; intro h9; k_extra "pj") | (refine Ne.symm (Mine.viaN (by assumption) ?_); intro h9; k_extra "pj") | (refine Mine.viaN1 (by assumption) ?_; intro h9; k_extra "pj1") | (refine Ne.symm (Mine.viaN1 (by assumption) ?_); intro h9; k_extra "pj1") | (refine Mine.viaN2 (by assumption) ?_; intro h9; k_extra "pj2") | (refine Ne.symm (Mine.viaN2 (by assumption) ?_); intro h9; k_extra "pj2") | (refine Mine.viaN3 (by assumption) ?_; intro h9; k_extra "pj3") | (refine Ne.symm (Mine.viaN3 (by assumption) ?_); intro h9; k_extra "pj3") | fail "n")) | fail "o")
  trivial
theorem heard_v {w : World} {dp un : Nat} {gd : Option (List Code)} {cn : Str} {cs : Scope} {a : Addr} {ccd : Value} {cl : List (Str × Addr)} {A₀ : Around} {base h₀ : Heap} {L : Addr} {m : Str → Option Value} {s : Shared} {Q E : Value → Shared → Prop} {mean : ExcName → Option Value} {mg mb : Str → Option Value} {news : List (Addr × Obj)} {wk : Addr}
    {oc : Value} {od : Option Addr} {fd : FuncData} {sl : Array (Option Value)} (d : Option Str) (led : List (Addr × Obj))
    (B : Below A₀ base [] h₀) (F : Fr h₀ L s.heap m) (X : (seat.heap_1 w.params).In h₀) (T : Top topProg ((looseW seat.view_1 [Str.ofString "counted_elements_iops", Str.ofString "counted_elements_plainio"]) ++ List.map (fun x => x.name) (recsOf seat.view_1) ++ List.map (fun x => x.fst) (litsOf seat.view_1) ++ List.map (fun x => x.name) (clssOf seat.view_1 (looseW seat.view_1 [Str.ofString "counted_elements_iops", Str.ofString "counted_elements_plainio"]))) mean mg mb h₀) (hkf : cs.kind = .function) (XB : (seat.heap_1 w.params).In base) (TB : Top topProg ((looseW seat.view_1 [Str.ofString "counted_elements_iops", Str.ofString "counted_elements_plainio"]) ++ List.map (fun x => x.name) (recsOf seat.view_1) ++ List.map (fun x => x.fst) (litsOf seat.view_1) ++ List.map (fun x => x.name) (clssOf seat.view_1 (looseW seat.view_1 [Str.ofString "counted_elements_iops", Str.ofString "counted_elements_plainio"]))) mean mg mb base)
    (N : News h₀ L s.heap news) (hdp : dp + 200 < recursionLimit) (hw : (wk, (⟨oc, od, .func fd, sl⟩ : Obj)) ∈ news)
    (work : ∀ {dp' un' gd' cn' cs' a' ccd' g L' m' h' tk' A'} {Q' E' : Value → Shared → Prop}, dp' ≤ dp + 1 → un' ≤ un + 20 → cs'.kind = .function → Below A' base [envX cn cs L a ccd cl] g → Fr g L' h' m' → (seat.heap_1 w.params).In g → Top topProg ((looseW seat.view_1 [Str.ofString "counted_elements_iops", Str.ofString "counted_elements_plainio"]) ++ List.map (fun x => x.name) (recsOf seat.view_1) ++ List.map (fun x => x.fst) (litsOf seat.view_1) ++ List.map (fun x => x.name) (clssOf seat.view_1 (looseW seat.view_1 [Str.ofString "counted_elements_iops", Str.ofString "counted_elements_plainio"]))) mean mg mb g → News g L' h' news →
      (∀ v h' tk' news', Fr g L' h' m' → News g L' h' news' → (∃ t, v = optV d t) ∧ news' = led → Q' v { s with heap := h', toks := tk' }) →
      (∀ e g₂ h' tk' news', Fr g L' g₂ m' → RaisedSN base g₂ (envX cn' cs' L' a' ccd' [] :: [envX cn cs L a ccd cl]) e (.ref 51) news' h' → g₂.UpToSlots h' → d = none ∧ news' = led → E' (.ref e) { s with heap := h', toks := tk' }) →
      wpAny (model PySem.Challenge.rw_rh0120_01.row.prog w) (ktrTop dp' un' gd' cn' cs' L' a' ccd' [] [envX cn cs L a ccd cl]) (call (.ref wk) []) Q' E' { s with heap := h', toks := tk' })
    (ret : ∀ t h' tk', Fr h₀ L h' m → News h₀ L h' led → Q (optV d t) { s with heap := h', toks := tk' }) :
    wpAny (model PySem.Challenge.rw_rh0120_01.row.prog w) (ktrTop dp un gd cn cs L a ccd cl []) (call (.ref 436) [.ref wk]) Q E s := by
  refine heard_c (fun v nw => (∃ t, v = optV d t) ∧ nw = led) (fun nw => d = none ∧ nw = led) B F X T hkf XB TB N hdp hw work ?_ ?_
  · rintro v h' tk' news' F' N' ⟨⟨t, rfl⟩, rfl⟩
    exact ret t h' tk' F' N'
  · rintro h' tk' news' F' N' ⟨hd, rfl⟩
    have q := ret 0 h' tk' F' N'
    rw [hd] at q
    exact q
end
section
theorem reg_LawLem_1 : True := by
  w_top off
  k_with_none
  k_with "pj" => (first | exact Mine.c0 h9 | exact Mine.c1 h9 | exact Mine.e1 h9 | exact Mine.c2 h9 | exact Mine.e2 h9 | exact Mine.c3 h9 | exact Mine.e3 h9 | exact Mine.c4 h9 | exact Mine.e4 h9 | exact Mine.c5 h9 | exact Mine.e5 h9 | exact Mine.c6 h9 | exact Mine.e6 h9 | exact Mine.c7 h9 | exact Mine.e7 h9 | exact Mine.c8 h9 | exact Mine.e8 h9 | exact Mine.c9 h9 | exact Mine.e9 h9 | exact Mine.c10 h9 | exact Mine.e10 h9 | exact Mine.c11 h9 | exact Mine.e11 h9 | exact Mine.c12 h9 | exact Mine.e12 h9 | exact Mine.c13 h9 | exact Mine.e13 h9 | exact Mine.c14 h9 | exact Mine.e14 h9 | exact Mine.c15 h9 | exact Mine.e15 h9 | exact Mine.c16 h9 | exact Mine.e16 h9 | exact Mine.c17 h9 | exact Mine.e17 h9 | exact Mine.c18 h9 | exact Mine.e18 h9 | exact Mine.c19 h9 | exact Mine.e19 h9 | exact Mine.c20 h9 | exact Mine.e20 h9 | fail "pj")
  k_with "pj1" => (first | exact Mine.c0 (Mine.c0 h9) | exact Mine.c0 (Mine.c1 h9) | exact Mine.c0 (Mine.c2 h9) | exact Mine.c0 (Mine.c3 h9) | exact Mine.c0 (Mine.c4 h9) | exact Mine.c0 (Mine.c5 h9) | exact Mine.c0 (Mine.c6 h9) | exact Mine.c0 (Mine.c7 h9) | exact Mine.c0 (Mine.c8 h9) | exact Mine.c0 (Mine.c9 h9) | exact Mine.c0 (Mine.c10 h9) | exact Mine.c0 (Mine.c11 h9) | exact Mine.c0 (Mine.c12 h9) | exact Mine.c0 (Mine.c13 h9) | exact Mine.c0 (Mine.c14 h9) | exact Mine.c0 (Mine.c15 h9) | exact Mine.c0 (Mine.c16 h9) | exact Mine.c0 (Mine.c17 h9) | exact Mine.c0 (Mine.c18 h9) | exact Mine.c0 (Mine.c19 h9) | exact Mine.c0 (Mine.c20 h9) | fail "pj1")
  k_with "pj2" => (first | exact Mine.c1 (Mine.c0 h9) | exact Mine.c1 (Mine.c1 h9) | exact Mine.c1 (Mine.c2 h9) | exact Mine.c1 (Mine.c3 h9) | exact Mine.c1 (Mine.c4 h9) | exact Mine.c1 (Mine.c5 h9) | exact Mine.c1 (Mine.c6 h9) | exact Mine.c1 (Mine.c7 h9) | exact Mine.c1 (Mine.c8 h9) | exact Mine.c1 (Mine.c9 h9) | exact Mine.c1 (Mine.c10 h9) | exact Mine.c1 (Mine.c11 h9) | exact Mine.c1 (Mine.c12 h9) | exact Mine.c1 (Mine.c13 h9) | exact Mine.c1 (Mine.c14 h9) | exact Mine.c1 (Mine.c15 h9) | exact Mine.c1 (Mine.c16 h9) | exact Mine.c1 (Mine.c17 h9) | exact Mine.c1 (Mine.c18 h9) | exact Mine.c1 (Mine.c19 h9) | exact Mine.c1 (Mine.c20 h9) | fail "pj2")
  k_with "pj3" => (first | exact Mine.e2 (Mine.c0 h9) | exact Mine.e2 (Mine.c1 h9) | exact Mine.e2 (Mine.c2 h9) | exact Mine.e2 (Mine.c3 h9) | exact Mine.e2 (Mine.c4 h9) | exact Mine.e2 (Mine.c5 h9) | exact Mine.e2 (Mine.c6 h9) | exact Mine.e2 (Mine.c7 h9) | exact Mine.e2 (Mine.c8 h9) | exact Mine.e2 (Mine.c9 h9) | exact Mine.e2 (Mine.c10 h9) | exact Mine.e2 (Mine.c11 h9) | exact Mine.e2 (Mine.c12 h9) | exact Mine.e2 (Mine.c13 h9) | exact Mine.e2 (Mine.c14 h9) | exact Mine.e2 (Mine.c15 h9) | exact Mine.e2 (Mine.c16 h9) | exact Mine.e2 (Mine.c17 h9) | exact Mine.e2 (Mine.c18 h9) | exact Mine.e2 (Mine.c19 h9) | exact Mine.e2 (Mine.c20 h9) | fail "pj3")
  k_with "omega" => (first | exact Nat.le_refl _ | decide | with_reducible (first | exact Mine.lim0 (by assumption) | exact Mine.lim1 (by assumption) (by with_unfolding_all rfl) | exact Mine.lim2 (by assumption) (by with_unfolding_all rfl) | exact Mine.lim3 (by assumption) (by with_unfolding_all rfl) | exact Mine.lim8 (by assumption) (by assumption) (by with_unfolding_all rfl) | exact Mine.lim9 (by assumption) (by assumption) (by with_unfolding_all rfl) | exact Mine.lim10 (by assumption) (by assumption) (by with_unfolding_all rfl) | exact Mine.i1 (by assumption) | exact Mine.i2 (by assumption) | exact Mine.i3 (by assumption) | exact Mine.i4 (by assumption) (by with_unfolding_all rfl) | exact Mine.i5 (by assumption) | exact Mine.i6 (by assumption) (by assumption) | exact Mine.i7 (by assumption) (by assumption) | exact Mine.i8 (by assumption) (by assumption) | exact List.length_take_le _ _ | fail "l") | (refine Mine.toNe ?_; with_reducible (first | exact Nat.ne_of_lt (by ((repeat (first | assumption | exact Mine.ltp0 | refine Mine.ltp ?_)); (first | done | fail "c"))) | exact Nat.ne_of_gt (by ((repeat (first | assumption | exact Mine.ltp0 | refine Mine.ltp ?_)); (first | done | fail "c"))) | (refine Nat.ne_of_lt (Mine.viaL (by assumption) ?_); intro h9; k_extra "pj") | (refine Nat.ne_of_gt (Mine.viaL (by assumption) ?_); intro h9; k_extra "pj") | (refine Nat.ne_of_lt (Mine.viaM (by assumption) ?_); intro h9; k_extra "pj") | (refine Nat.ne_of_gt (Mine.viaM (by assumption) ?_); intro h9; k_extra "pj") | assumption | exact Ne.symm (by assumption) | (refine Mine.viaN (by assumption) ?_; intro h9; k_extra "pj") | (refine Ne.symm (Mine.viaN (by assumption) ?_); intro h9; k_extra "pj") | (refine Mine.viaN1 (by assumption) ?_; intro h9; k_extra "pj1") | (refine Ne.symm (Mine.viaN1 (by assumption) ?_); intro h9; k_extra "pj1") | (refine Mine.viaN2 (by assumption) ?_; intro h9; k_extra "pj2") | (refine Ne.symm (Mine.viaN2 (by assumption) ?_); intro h9; k_extra "pj2") | (refine Mine.viaN3 (by assumption) ?_; intro h9; k_extra "pj3") | (refine Ne.symm (Mine.viaN3 (by assumption) ?_); intro h9; k_extra "pj3") | fail "n")) | fail "o")
  trivial
theorem prod_bnd {v1 v2 : Int} (h1 : 0 ≤ v1) (h2 : v1 < 3) (h3 : 0 ≤ v2) (h4 : v2 < 4) : 1 ≤ (1 + v1) * (1 + v2) ∧ (1 + v1) * (1 + v2) ≤ 12 := by
  obtain rfl | rfl | rfl : v1 = 0 ∨ v1 = 1 ∨ v1 = 2 := by omega
  all_goals omega
def SignsJ (w : World) (DT : Addr) (oT : Obj) (DA : Addr) (ws : List Value) (mug : Addr) (rl : List (Addr × Obj)) (i : Nat) (ys : List Value) (nw : List (Addr × Obj)) : Prop :=
  ∃ om t', nw = (DT, oT) :: (DA, W.listOf ws.toArray 0) :: (mug, om) :: rl ∧ om.IsDictOf (strKind PySem.Challenge.rw_rh0120_01.row.prog w) [(Str.ofString "cells", .ref DA), (Str.ofString "at", .int (2 + (i : Int)) t')] ∧ ∃ os, Sgs ys os ∧ os.length = i
theorem SignsJ.start {w : World} {DT : Addr} {oT : Obj} {DA : Addr} {ws : List Value} {mug : Addr} {rl : List (Addr × Obj)} {om : Obj} {t' : Tok} (h : om.IsDictOf (strKind PySem.Challenge.rw_rh0120_01.row.prog w) [(Str.ofString "cells", .ref DA), (Str.ofString "at", .int 2 t')]) :
    SignsJ w DT oT DA ws mug rl 0 [] ((DT, oT) :: (DA, W.listOf ws.toArray 0) :: (mug, om) :: rl) := ⟨om, t', rfl, h, [], .nil, rfl⟩
theorem sg_pick {x : Value} {a1 a2 a3 a4 a5 : Tok} (hx : x ∈ [.str (Str.ofString "(") a1, .str (Str.ofString "I") a2, .str (Str.ofString ")") a3, .str (Str.ofString "*") a4, .none, .str (Str.ofString "3") a5]) : ∃ o, Sg x o := by
  simp only [List.mem_cons, List.not_mem_nil, or_false] at hx
  rcases hx with rfl | rfl | rfl | rfl | rfl | rfl
  · exact ⟨_, .some _ _ (by decide)⟩
  · exact ⟨_, .some _ _ (by decide)⟩
  · exact ⟨_, .some _ _ (by decide)⟩
  · exact ⟨_, .some _ _ (by decide)⟩
  · exact ⟨_, .none⟩
  · exact ⟨_, .some _ _ (by decide)⟩
theorem SignsJ.step {w : World} {DT : Addr} {oT : Obj} {DA : Addr} {ws : List Value} {mug : Addr} {rl : List (Addr × Obj)} {om : Obj} {t' : Tok} {i : Nat} {ys : List Value} {os : List (Option Str)} {x : Value} {a1 a2 a3 a4 a5 : Tok}
    (h : om.IsDictOf (strKind PySem.Challenge.rw_rh0120_01.row.prog w) [(Str.ofString "cells", .ref DA), (Str.ofString "at", .int (2 + (i : Int) + 1) t')]) (hs : Sgs ys os) (hl : os.length = i) (hx : x ∈ [.str (Str.ofString "(") a1, .str (Str.ofString "I") a2, .str (Str.ofString ")") a3, .str (Str.ofString "*") a4, .none, .str (Str.ofString "3") a5]) :
    SignsJ w DT oT DA ws mug rl (i + 1) (ys ++ [x]) ((DT, oT) :: (DA, W.listOf ws.toArray 0) :: (mug, om) :: rl) := by
  obtain ⟨o, ho⟩ := sg_pick hx
  refine ⟨om, t', rfl, ?_, os ++ [o], hs.append (.cons ho .nil), by simp [hl]⟩
  rw [Int.add_assoc] at h
  exact h
/-- the addresses of R are none of these -/
def Off (as : List Addr) (R : List (Addr × Obj)) : Prop := ∀ p ∈ R, ∀ a ∈ as, p.1 ≠ a
theorem off_all {as : List Addr} {R : List (Addr × Obj)} {x : Addr} (h : Off as R) (hm : x ∈ as) : ∀ p ∈ R, p.1 ≠ x := fun p hp => h p hp x hm
theorem lt_all {R : List (Addr × Obj)} {x : Addr} (h : AllLt x R) : ∀ p ∈ R, p.1 ≠ x := fun p hp => Nat.ne_of_lt (allLt_mem h p hp)
theorem ne_memR {R : List (Addr × Obj)} {x y : Addr} {o : Obj} (h : AllLt x R) (hm : (y, o) ∈ R) : x ≠ y := Nat.ne_of_gt (allLt_mem h (y, o) hm)
theorem off6 {a1 a2 a3 a4 a5 a6 d : Addr} {o : Obj} {R : List (Addr × Obj)} {P : Prop} (ho : Off [a1, a2, a3, a4, a5, a6] R) (hl : a1 < d ∧ a2 < d ∧ a3 < d ∧ a4 < d ∧ a5 < d ∧ a6 < d ∧ P) : Off [a1, a2, a3, a4, a5, a6] ((d, o) :: R) := fun p hp a ha => by
  rcases List.mem_cons.mp hp with rfl | hp
  · simp only [List.mem_cons, List.not_mem_nil, or_false] at ha
    obtain ⟨h1, h2, h3, h4, h5, h6, _⟩ := hl
    rcases ha with rfl | rfl | rfl | rfl | rfl | rfl
    · exact Nat.ne_of_gt h1
    · exact Nat.ne_of_gt h2
    · exact Nat.ne_of_gt h3
    · exact Nat.ne_of_gt h4
    · exact Nat.ne_of_gt h5
    · exact Nat.ne_of_gt h6
  · exact ho p hp a ha
theorem off7 {a1 a2 a3 a4 a5 a6 a7 d : Addr} {o : Obj} {R : List (Addr × Obj)} {P : Prop} (ho : Off [a1, a2, a3, a4, a5, a6, a7] R) (hl : a1 < d ∧ a2 < d ∧ a3 < d ∧ a4 < d ∧ a5 < d ∧ a6 < d ∧ a7 < d ∧ P) : Off [a1, a2, a3, a4, a5, a6, a7] ((d, o) :: R) := fun p hp a ha => by
  rcases List.mem_cons.mp hp with rfl | hp
  · simp only [List.mem_cons, List.not_mem_nil, or_false] at ha
    obtain ⟨h1, h2, h3, h4, h5, h6, h7, _⟩ := hl
    rcases ha with rfl | rfl | rfl | rfl | rfl | rfl | rfl
    · exact Nat.ne_of_gt h1
    · exact Nat.ne_of_gt h2
    · exact Nat.ne_of_gt h3
    · exact Nat.ne_of_gt h4
    · exact Nat.ne_of_gt h5
    · exact Nat.ne_of_gt h6
    · exact Nat.ne_of_gt h7
  · exact ho p hp a ha
theorem off8 {a1 a2 a3 a4 a5 a6 a7 a8 d : Addr} {o : Obj} {R : List (Addr × Obj)} {P : Prop} (ho : Off [a1, a2, a3, a4, a5, a6, a7, a8] R) (hl : a1 < d ∧ a2 < d ∧ a3 < d ∧ a4 < d ∧ a5 < d ∧ a6 < d ∧ a7 < d ∧ a8 < d ∧ P) : Off [a1, a2, a3, a4, a5, a6, a7, a8] ((d, o) :: R) := fun p hp a ha => by
  rcases List.mem_cons.mp hp with rfl | hp
  · simp only [List.mem_cons, List.not_mem_nil, or_false] at ha
    obtain ⟨h1, h2, h3, h4, h5, h6, h7, h8, _⟩ := hl
    rcases ha with rfl | rfl | rfl | rfl | rfl | rfl | rfl | rfl
    · exact Nat.ne_of_gt h1
    · exact Nat.ne_of_gt h2
    · exact Nat.ne_of_gt h3
    · exact Nat.ne_of_gt h4
    · exact Nat.ne_of_gt h5
    · exact Nat.ne_of_gt h6
    · exact Nat.ne_of_gt h7
    · exact Nat.ne_of_gt h8
  · exact ho p hp a ha
theorem regroup {h₀ h : Heap} {L D a6 a5 a4 a3 a2 a1 f tr : Addr} {oD o6 o5 o4 o3 o2 o1 oF : Obj} {b c d : Addr × Obj} {ex nl : List (Addr × Obj)} {kd : Kd} {x1 x2 x3 : Prop}
    (N : News h₀ L h ((D, oD) :: b :: c :: d :: (a6, o6) :: (a5, o5) :: (a4, o4) :: (a3, o3) :: (a2, o2) :: (a1, o1) :: (f, oF) :: ex)) (hT : TreeAt ex tr kd)
    (hx : ∀ p ∈ ex, ∀ q ∈ nl, q.1 < p.1) (hm : ∀ a ∈ [a6, a5, a4, a3, a2, a1, f], a ∈ nl.map (·.1)) (ho : x1 ∧ x2 ∧ x3 ∧ a6 ≠ D ∧ a5 ≠ D ∧ a4 ≠ D ∧ a3 ≠ D ∧ a2 ≠ D ∧ a1 ≠ D ∧ f ≠ D) :
    ∃ R, News h₀ L h ((f, oF) :: (a6, o6) :: (a5, o5) :: (a4, o4) :: (a3, o3) :: (a2, o2) :: R) ∧ (D, oD) ∈ R ∧ TreeAt R tr kd ∧ Off [f, a6, a5, a4, a3, a2] R := by
  refine ⟨(D, oD) :: ex, newsSub N fun p hp => ?_, List.mem_cons_self, hT.mono fun p hp => List.mem_cons_of_mem _ hp, fun p hp a ha => ?_⟩
  · simp only [List.mem_cons] at hp ⊢
    rcases hp with h | h | h | h | h | h | h | h <;> simp [h]
  · rcases List.mem_cons.mp hp with rfl | hp
    · simp only [List.mem_cons, List.not_mem_nil, or_false] at ha
      obtain ⟨_, _, _, e6, e5, e4, e3, e2, e1, ef⟩ := ho
      rcases ha with rfl | rfl | rfl | rfl | rfl | rfl
      · exact ef.symm
      · exact e6.symm
      · exact e5.symm
      · exact e4.symm
      · exact e3.symm
      · exact e2.symm
    · obtain ⟨q, hq, rfl⟩ := List.mem_map.mp (hm a (by
        simp only [List.mem_cons, List.not_mem_nil, or_false] at ha ⊢
        rcases ha with h | h | h | h | h | h <;> simp [h]))
      exact Nat.ne_of_gt (hx p hp q hq)
theorem regE {h₀ h : Heap} {L ch mem md sg tr : Addr} {vs : List Value} {c n : Nat} {es : List DictEntry} {oS : Obj} {kd : Kd} {a1 a2 a3 a4 a5 a6 : Addr} {o1 o2 o3 o4 o5 o6 : Obj} {R : List (Addr × Obj)} {P1 P2 P3 : Prop}
    (N : News h₀ L h ((ch, W.listOf vs.toArray c) :: (mem, instObj 117 md) :: (md, dictOf es n) :: (a1, o1) :: (a2, o2) :: (a3, o3) :: (a4, o4) :: (a5, o5) :: (a6, o6) :: R))
    (hg : getL (Str.ofString "characters") es = some (some (.ref ch))) (hs : (sg, oS) ∈ R) (hT : TreeAt R tr kd) (ho : Off [a1, a2, a3, a4, a5, a6] R)
    (l1 : a1 < md ∧ a2 < md ∧ a3 < md ∧ a4 < md ∧ a5 < md ∧ a6 < md ∧ P1) (l2 : a1 < mem ∧ a2 < mem ∧ a3 < mem ∧ a4 < mem ∧ a5 < mem ∧ a6 < mem ∧ P2) (l3 : a1 < ch ∧ a2 < ch ∧ a3 < ch ∧ a4 < ch ∧ a5 < ch ∧ a6 < ch ∧ P3) :
    ∃ R2, News h₀ L h ((a1, o1) :: (a2, o2) :: (a3, o3) :: (a4, o4) :: (a5, o5) :: (a6, o6) :: R2) ∧ MemAt R2 mem ch vs ∧ (sg, oS) ∈ R2 ∧ TreeAt R2 tr kd ∧ Off [a1, a2, a3, a4, a5, a6] R2 := by
  refine ⟨(ch, W.listOf vs.toArray c) :: (mem, instObj 117 md) :: (md, dictOf es n) :: R, newsSub N fun p hp => ?_, ⟨md, es, n, c, .tail _ (.head _), .tail _ (.tail _ (.head _)), hg, .head _⟩, .tail _ (.tail _ (.tail _ hs)), hT.mono (fun p hp => .tail _ (.tail _ (.tail _ hp))), off6 (off6 (off6 ho l1) l2) l3⟩
  simp only [List.mem_cons] at hp ⊢
  grind
theorem regF {h₀ h : Heap} {L mem ch sg tr d1 d3 ex lim ld : Addr} {vs : List Value} {n : Nat} {es : List DictEntry} {oS p1 p3 oex : Obj} {kd : Kd} {t : Tok} {a1 a2 a3 a4 a5 a6 : Addr} {o1 o2 o3 o4 o5 o6 : Obj} {R : List (Addr × Obj)} {P1 P2 P3 Q1 Q2 Q3 : Prop}
    (N : News h₀ L h ((d3, p3) :: (ex, oex) :: (d1, p1) :: (lim, instObj 261 ld) :: (ld, dictOf es n) :: (a1, o1) :: (a2, o2) :: (a3, o3) :: (a4, o4) :: (a5, o5) :: (a6, o6) :: R))
    (hg : getL (Str.ofString "steps") es = some (some (.int 1000000 t))) (hM : MemAt R mem ch vs) (hs : (sg, oS) ∈ R) (hT : TreeAt R tr kd) (ho : Off [a1, a2, a3, a4, a5, a6] R)
    (l1 : a1 < ld ∧ a2 < ld ∧ a3 < ld ∧ a4 < ld ∧ a5 < ld ∧ a6 < ld ∧ P1) (l2 : a1 < lim ∧ a2 < lim ∧ a3 < lim ∧ a4 < lim ∧ a5 < lim ∧ a6 < lim ∧ P2) (l3 : Q1 ∧ Q2 ∧ Q3 ∧ a1 < ex ∧ a2 < ex ∧ a3 < ex ∧ a4 < ex ∧ a5 < ex ∧ a6 < ex ∧ P3) :
    ∃ R2, News h₀ L h ((a1, o1) :: (a2, o2) :: (a3, o3) :: (a4, o4) :: (a5, o5) :: (a6, o6) :: R2) ∧ LimAt R2 lim ∧ (ex, oex) ∈ R2 ∧ MemAt R2 mem ch vs ∧ (sg, oS) ∈ R2 ∧ TreeAt R2 tr kd ∧ Off [a1, a2, a3, a4, a5, a6] R2 := by
  have hm : ∀ p ∈ R, p ∈ (ex, oex) :: (lim, instObj 261 ld) :: (ld, dictOf es n) :: R := fun p hp => .tail _ (.tail _ (.tail _ hp))
  refine ⟨(ex, oex) :: (lim, instObj 261 ld) :: (ld, dictOf es n) :: R, newsSub N fun p hp => ?_, ⟨ld, es, n, t, .tail _ (.head _), .tail _ (.tail _ (.head _)), hg⟩, .head _, hM.mono hm, hm _ hs, hT.mono hm, off6 (off6 (off6 ho l1) l2) l3.2.2.2⟩
  simp only [List.mem_cons] at hp ⊢
  grind
theorem FrAt.mono {w : World} {news news' : List (Addr × Obj)} {run pF pG dF d1 dG rd fr ex : Addr} {size many : Int} {es : List DictEntry} {nn : Nat} {ofr oex : Obj} {t1 t2 t3 t4 t5 t6 t7 t8 : Tok}
    (h : FrAt w news run size many pF pG dF d1 dG es rd fr ex nn ofr oex t1 t2 t3 t4 t5 t6 t7 t8) (hs : ∀ p ∈ news, p ∈ news') : FrAt w news' run size many pF pG dF d1 dG es rd fr ex nn ofr oex t1 t2 t3 t4 t5 t6 t7 t8 := by
  obtain ⟨r1, r2, r3, r4, r5, r6, r7, r8, r9, r10, r11, r12, r13, r14, r15⟩ := h
  exact ⟨hs _ r1, hs _ r2, r3, r4, hs _ r5, r6, hs _ r7, r8, r9, r10, hs _ r11, hs _ r12, hs _ r13, hs _ r14, hs _ r15⟩
theorem off_lt {as : List Addr} {d : Addr} {R : List (Addr × Obj)} (h : Off as R) (hl : AllLt d R) : Off (d :: as) R := fun p hp a ha => by
  rcases List.mem_cons.mp ha with rfl | ha
  · exact Nat.ne_of_lt (allLt_mem hl p hp)
  · exact h p hp a ha
theorem regG {w : World} {h₀ h : Heap} {L mem ch sg tr run rd lim ex pG dG pF dF d1 fr : Addr} {vs : List Value} {nn : Nat} {es : List DictEntry} {oS oex ofr : Obj} {kd : Kd} {size many : Int} {t t1 t2 t3 t4 t5 t6 t7 t8 : Tok} {a1 a2 a3 a4 a5 a6 : Addr} {o1 o2 o3 o4 o5 o6 : Obj} {R : List (Addr × Obj)} {P1 P2 P3 P4 P5 P6 P7 : Prop}
    (N : News h₀ L h ((pG, tupO [.int 5 t6, .int 0 t7, .int 3 t8, .ref dG]) :: (dG, tupO []) :: (pF, tupO [.int 5 t1, .int 0 t2, .int size t3, .ref dF]) :: (dF, tupO [.ref d1]) :: (d1, tupO [.int 1 t4, .int many t5]) :: (fr, ofr) :: (run, instObj 308 rd) :: (rd, dictOf es nn) :: (a1, o1) :: (a2, o2) :: (a3, o3) :: (a4, o4) :: (a5, o5) :: (a6, o6) :: R))
    (g1 : getL (Str.ofString "frame") es = some (some (.ref fr))) (g2 : getL (Str.ofString "expressions") es = some (some (.ref ex))) (g3 : getL (Str.ofString "memory") es = some (some (.ref mem))) (g4 : getL (Str.ofString "limits") es = some (some (.ref lim))) (g5 : getL (Str.ofString "steps") es = some (some (.int 0 t))) (hz : es.length ≤ 100)
    (hfr : ofr.IsDictOf (strKind PySem.Challenge.rw_rh0120_01.row.prog w) [(Str.ofString "F", .ref pF), (Str.ofString "G", .ref pG)]) (hex : (ex, oex) ∈ R) (hexd : oex.IsDictOf (strKind PySem.Challenge.rw_rh0120_01.row.prog w) [(Str.ofString "const", .ref 359)]) (lo1 : (fr == sysModules) = false) (lo2 : (ex == sysModules) = false)
    (hLim : LimAt R lim) (hM : MemAt R mem ch vs) (hs : (sg, oS) ∈ R) (hT : TreeAt R tr kd) (ho : Off [a1, a2, a3, a4, a5, a6] R)
    (k1 : a1 < rd ∧ a2 < rd ∧ a3 < rd ∧ a4 < rd ∧ a5 < rd ∧ a6 < rd ∧ AllLt rd R) (k2 : rd < run) (k3 : a1 < run ∧ a2 < run ∧ a3 < run ∧ a4 < run ∧ a5 < run ∧ a6 < run ∧ P1)
    (k4 : run < fr ∧ rd < fr ∧ a1 < fr ∧ a2 < fr ∧ a3 < fr ∧ a4 < fr ∧ a5 < fr ∧ a6 < fr ∧ P2) (k5 : fr < d1 ∧ run < d1 ∧ rd < d1 ∧ a1 < d1 ∧ a2 < d1 ∧ a3 < d1 ∧ a4 < d1 ∧ a5 < d1 ∧ a6 < d1 ∧ P3)
    (k6 : d1 < dF ∧ fr < dF ∧ run < dF ∧ rd < dF ∧ a1 < dF ∧ a2 < dF ∧ a3 < dF ∧ a4 < dF ∧ a5 < dF ∧ a6 < dF ∧ P4) (k7 : dF < pF ∧ d1 < pF ∧ fr < pF ∧ run < pF ∧ rd < pF ∧ a1 < pF ∧ a2 < pF ∧ a3 < pF ∧ a4 < pF ∧ a5 < pF ∧ a6 < pF ∧ P5)
    (k8 : pF < dG ∧ dF < dG ∧ d1 < dG ∧ fr < dG ∧ run < dG ∧ rd < dG ∧ a1 < dG ∧ a2 < dG ∧ a3 < dG ∧ a4 < dG ∧ a5 < dG ∧ a6 < dG ∧ P6) (k9 : dG < pG ∧ pF < pG ∧ dF < pG ∧ d1 < pG ∧ fr < pG ∧ run < pG ∧ rd < pG ∧ a1 < pG ∧ a2 < pG ∧ a3 < pG ∧ a4 < pG ∧ a5 < pG ∧ a6 < pG ∧ P7) :
    ∃ R2 es nn, News h₀ L h ((rd, dictOf es nn) :: (a1, o1) :: (a2, o2) :: (a3, o3) :: (a4, o4) :: (a5, o5) :: (a6, o6) :: R2) ∧ FrAt w ((rd, dictOf es nn) :: R2) run size many pF pG dF d1 dG es rd fr ex nn ofr oex t1 t2 t3 t4 t5 t6 t7 t8 ∧ RunD es mem lim ∧ LimAt R2 lim ∧ MemAt R2 mem ch vs ∧ (sg, oS) ∈ R2 ∧ TreeAt R2 tr kd ∧ Off [rd, a1, a2, a3, a4, a5, a6] R2 ∧ PlaceAt R2 pF 0 size many ∧ PlaceAt R2 pG 0 3 1 ∧ (¬ @LE.le Nat _ rd a1 ∧ ¬ @LE.le Nat _ rd a2 ∧ ¬ @LE.le Nat _ rd a3 ∧ ¬ @LE.le Nat _ rd a4 ∧ ¬ @LE.le Nat _ rd a5 ∧ ¬ @LE.le Nat _ rd a6) := by
  have hm : ∀ p ∈ R, p ∈ (pG, tupO [.int 5 t6, .int 0 t7, .int 3 t8, .ref dG]) :: (dG, tupO []) :: (pF, tupO [.int 5 t1, .int 0 t2, .int size t3, .ref dF]) :: (dF, tupO [.ref d1]) :: (d1, tupO [.int 1 t4, .int many t5]) :: (fr, ofr) :: (run, instObj 308 rd) :: R :=
    fun p hp => .tail _ (.tail _ (.tail _ (.tail _ (.tail _ (.tail _ (.tail _ hp))))))
  refine ⟨_, es, nn, newsSub N fun p hp => ?_, ⟨?_, .head _, g1, g2, ?_, hfr, .tail _ (hm _ hex), hexd, lo1, lo2, ?_, ?_, ?_, .tail _ (.head _), .tail _ (.tail _ (.head _))⟩, ⟨g3, g4, ⟨t, g5⟩, hz⟩, hLim.mono hm, hM.mono hm, hm _ hs, hT.mono hm,
    off7 (off7 (off7 (off7 (off7 (off7 (off7 (off_lt ho k1.2.2.2.2.2.2) ⟨k2, k3⟩) k4.2) k5.2.2) k6.2.2.2) k7.2.2.2.2) k8.2.2.2.2.2) k9.2.2.2.2.2.2, ⟨t1, t2, t3, dF, ?_, .arr d1 t4 t5 many ?_ ?_⟩, ⟨t6, t7, t8, dG, ?_, .one ?_⟩,
    Nat.not_le_of_lt k1.1, Nat.not_le_of_lt k1.2.1, Nat.not_le_of_lt k1.2.2.1, Nat.not_le_of_lt k1.2.2.2.1, Nat.not_le_of_lt k1.2.2.2.2.1, Nat.not_le_of_lt k1.2.2.2.2.2.1⟩
  · simp only [List.mem_cons] at hp ⊢
    grind
  all_goals simp
theorem regH {w : World} {h₀ h : Heap} {L mem ch sg tr run rd lim ex pG dG pF dF d1 fr mac md d2 d3 lim2 ld2 : Addr} {vs : List Value} {nn n2 n3 : Nat} {es es2 es3 : List DictEntry} {oS oex ofr p2 p3 : Obj} {kd : Kd} {size many : Int} {t t' t1 t2 t3 t4 t5 t6 t7 t8 : Tok} {a1 a2 a3 a4 a5 a6 : Addr} {o1 o2 o3 o4 o5 o6 : Obj} {R : List (Addr × Obj)} {P1 P2 P5 : Prop}
    (N : News h₀ L h ((mac, instObj 282 md) :: (md, dictOf es2 n2) :: (d3, p3) :: (d2, p2) :: (lim2, instObj 261 ld2) :: (ld2, dictOf es3 n3) :: (rd, dictOf es nn) :: (a1, o1) :: (a2, o2) :: (a3, o3) :: (a4, o4) :: (a5, o5) :: (a6, o6) :: R))
    (g1 : getL (Str.ofString "memory") es2 = some (some (.ref mem))) (g2 : getL (Str.ofString "limits") es2 = some (some (.ref lim2))) (g3 : getL (Str.ofString "steps") es2 = some (some (.int 0 t))) (hz : es2.length ≤ 100) (g4 : getL (Str.ofString "steps") es3 = some (some (.int 1000000 t')))
    (hFr : FrAt w ((rd, dictOf es nn) :: R) run size many pF pG dF d1 dG es rd fr ex nn ofr oex t1 t2 t3 t4 t5 t6 t7 t8)
    (hLim : LimAt R lim) (hM : MemAt R mem ch vs) (hs : (sg, oS) ∈ R) (hT : TreeAt R tr kd) (ho : Off [rd, a1, a2, a3, a4, a5, a6] R) (hPF : PlaceAt R pF 0 size many) (hPG : PlaceAt R pG 0 3 1)
    (k1 : rd < ld2 ∧ a1 < ld2 ∧ a2 < ld2 ∧ a3 < ld2 ∧ a4 < ld2 ∧ a5 < ld2 ∧ a6 < ld2 ∧ P1) (k2 : rd < lim2 ∧ a1 < lim2 ∧ a2 < lim2 ∧ a3 < lim2 ∧ a4 < lim2 ∧ a5 < lim2 ∧ a6 < lim2 ∧ P2)
    (k3 : d3 < md ∧ d2 < md ∧ lim2 < md ∧ ld2 < md ∧ rd < md ∧ a1 < md ∧ a2 < md ∧ a3 < md ∧ a4 < md ∧ a5 < md ∧ a6 < md ∧ AllLt md R) (k4 : md < mac)
    (k5 : d3 < mac ∧ d2 < mac ∧ lim2 < mac ∧ ld2 < mac ∧ rd < mac ∧ a1 < mac ∧ a2 < mac ∧ a3 < mac ∧ a4 < mac ∧ a5 < mac ∧ a6 < mac ∧ P5) :
    ∃ R2 es2 n2, News h₀ L h ((md, dictOf es2 n2) :: (rd, dictOf es nn) :: (a1, o1) :: (a2, o2) :: (a3, o3) :: (a4, o4) :: (a5, o5) :: (a6, o6) :: R2) ∧ FrAt w ((rd, dictOf es nn) :: R2) run size many pF pG dF d1 dG es rd fr ex nn ofr oex t1 t2 t3 t4 t5 t6 t7 t8 ∧ RunD es2 mem lim2 ∧ (mac, instObj 282 md) ∈ R2 ∧ LimAt R2 lim ∧ LimAt R2 lim2 ∧ MemAt R2 mem ch vs ∧ (sg, oS) ∈ R2 ∧ TreeAt R2 tr kd ∧ Off [md, rd, a1, a2, a3, a4, a5, a6] R2 ∧ PlaceAt R2 pF 0 size many ∧ PlaceAt R2 pG 0 3 1 ∧
      (@LT.lt Nat _ rd md ∧ @LT.lt Nat _ a1 md ∧ @LT.lt Nat _ a2 md ∧ @LT.lt Nat _ a3 md ∧ @LT.lt Nat _ a4 md ∧ @LT.lt Nat _ a5 md ∧ @LT.lt Nat _ a6 md) := by
  have hm : ∀ p ∈ R, p ∈ (mac, instObj 282 md) :: (lim2, instObj 261 ld2) :: (ld2, dictOf es3 n3) :: R :=
    fun p hp => .tail _ (.tail _ (.tail _ hp))
  have hl : AllLt md ((lim2, instObj 261 ld2) :: (ld2, dictOf es3 n3) :: R) := ⟨k3.2.2.1, k3.2.2.2.1, k3.2.2.2.2.2.2.2.2.2.2.2⟩
  refine ⟨_, es2, n2, newsSub N fun p hp => ?_, hFr.mono (fun p hp => ?_), ⟨g1, g2, ⟨t, g3⟩, hz⟩, .head _, hLim.mono hm, ⟨ld2, es3, n3, t', .tail _ (.head _), .tail _ (.tail _ (.head _)), g4⟩, hM.mono hm, hm _ hs, hT.mono hm,
    off8 (off_lt (off7 (off7 ho k1) k2) hl) ⟨k4, k5.2.2.2.2⟩, hPF.mono hm, hPG.mono hm, k3.2.2.2.2.1, k3.2.2.2.2.2.1, k3.2.2.2.2.2.2.1, k3.2.2.2.2.2.2.2.1, k3.2.2.2.2.2.2.2.2.1, k3.2.2.2.2.2.2.2.2.2.1, k3.2.2.2.2.2.2.2.2.2.2.1⟩
  · simp only [List.mem_cons] at hp ⊢
    grind
  · rcases List.mem_cons.mp hp with rfl | hp
    · exact .head _
    · exact .tail _ (hm p hp)
theorem regU {h₀ h : Heap} {L : Addr} {a1 a2 a3 a4 a5 a6 a7 a8 : Addr} {o1 o2 o3 o4 o5 o6 o7 o8 : Obj} {a b : Addr × Obj} {ex R : List (Addr × Obj)}
    (N : News h₀ L h (ex ++ a :: b :: (a1, o1) :: (a2, o2) :: (a3, o3) :: (a4, o4) :: (a5, o5) :: (a6, o6) :: (a7, o7) :: (a8, o8) :: R))
    (l1 : ∀ p ∈ ex, ∀ q ∈ a :: b :: (a1, o1) :: (a2, o2) :: (a3, o3) :: (a4, o4) :: (a5, o5) :: (a6, o6) :: (a7, o7) :: (a8, o8) :: R, q.1 < p.1) (ho : Off [a1, a2, a3, a4, a5, a6, a7, a8] R) :
    News h₀ L h ((a1, o1) :: (a2, o2) :: (a3, o3) :: (a4, o4) :: (a5, o5) :: (a6, o6) :: (a7, o7) :: (a8, o8) :: (ex ++ R)) ∧ Off [a1, a2, a3, a4, a5, a6, a7, a8] (ex ++ R) := by
  refine ⟨newsSub N fun p hp => ?_, fun p hp x hx => ?_⟩
  · simp only [List.mem_cons, List.mem_append] at hp ⊢
    rcases hp with h | h | h | h | h | h | h | h | h | h <;> simp [h]
  · rcases List.mem_append.mp hp with hp | hp
    · have l2 := l1 p hp
      simp only [List.mem_cons, List.not_mem_nil, or_false] at hx
      rcases hx with rfl | rfl | rfl | rfl | rfl | rfl | rfl | rfl
      · exact Nat.ne_of_gt (l2 (_, o1) (by simp))
      · exact Nat.ne_of_gt (l2 (_, o2) (by simp))
      · exact Nat.ne_of_gt (l2 (_, o3) (by simp))
      · exact Nat.ne_of_gt (l2 (_, o4) (by simp))
      · exact Nat.ne_of_gt (l2 (_, o5) (by simp))
      · exact Nat.ne_of_gt (l2 (_, o6) (by simp))
      · exact Nat.ne_of_gt (l2 (_, o7) (by simp))
      · exact Nat.ne_of_gt (l2 (_, o8) (by simp))
    · exact ho p hp x hx
def PlR (many size : Int) (kd : Kd) (led R : List (Addr × Obj)) (v : Value) (nw : List (Addr × Obj)) : Prop :=
  placeOk many kd ∧ ∃ r ex, v = .ref r ∧ nw = ex ++ led ∧ (∀ p ∈ ex, ∀ q ∈ led, q.1 < p.1) ∧ PlaceAt (ex ++ R) r (plAd size kd) (plN size kd) (plC many kd)
theorem consMono {a : Addr × Obj} {R R' : List (Addr × Obj)} (h : ∀ p ∈ R, p ∈ R') : ∀ p ∈ a :: R, p ∈ a :: R' := fun p hp => by
  rcases List.mem_cons.mp hp with rfl | hp
  · exact List.mem_cons_self
  · exact List.mem_cons_of_mem _ (h p hp)
theorem tie {h₀ h : Heap} {L : Addr} {l : List (Addr × Obj)} (N : News h₀ L h l) : ∃ led, led = l ∧ News h₀ L h led := ⟨l, rfl, N⟩
def toldOf (d : Option Str) : Option Str := d.map fmtT
def ToldJ (base : Heap) (L : Addr) (m : Str → Option Value) (news : List (Addr × Obj)) (s : Shared) (d : Option Str) (v : Value) (s' : Shared) : Prop :=
  ∃ h' tk t', s' = { s with heap := h', toks := tk } ∧ v = optV (toldOf d) t' ∧ Fr base L h' m ∧ News base L h' news
theorem told_start {prog : Program} {w : World} {A : Around} {E : Value → Shared → Prop} {s : Shared} {base : Heap} {L : Addr} {m : Str → Option Value} {news : List (Addr × Obj)} {x : Sem Value} {Q : Value → Shared → Prop} (d : Option Str) (F : Fr base L s.heap m) (N : News base L s.heap news)
    (h : wpAny (model prog w) A x (ToldJ base L m news s d) E s)
    (hq : ∀ h' tk t', Fr base L h' m → News base L h' news → Q (optV (toldOf d) t') { s with heap := h', toks := tk }) :
    wpAny (model prog w) A x Q E s :=
  wpAny_mono h (fun v s' p => by
    obtain ⟨h', tk, t', rfl, rfl, F', N'⟩ := p
    exact hq h' tk t' F' N') fun _ _ e => e
theorem due_len {many size : Int} {vs : List Value} {os : List (Option Str)} {kd : Kd} {t : Str} (hS : Sgs vs os) (hz : vs.length ≤ 100) (h : dueOf many size os kd = some t) : t.length ≤ 100 := by
  unfold dueOf at h
  split at h
  · cases h
  · split at h
    · cases h
    · cases h
      exact seg_sgs hS _ _ hz
theorem regV {h₀ h : Heap} {L : Addr} {a b c d : Addr × Obj} {R : List (Addr × Obj)} (N : News h₀ L h (a :: b :: c :: d :: R)) : News h₀ L h (d :: a :: b :: c :: R) :=
  newsSub N fun p hp => by
    simp only [List.mem_cons] at hp ⊢
    rcases hp with h | h | h | h | h <;> simp [h]
section
variable {prog : Program} {w : World} {A : Around} {E : Value → Shared → Prop} {s : Shared} {Q : Value → Shared → Prop}
theorem ne_optV {d : Option Str} {t u : Tok} (h : Q (.bool false) s) : wpAny (model prog w) A (compareOp .NotEq (optV d t) (optV d u)) Q E s := by
  cases d with
  | none => exact PySem.EqNone.ne_none_none h
  | some x =>
    refine PyProof.Rows.ne_str ?_
    rw [bne_self_eq_false]
    exact h
end
def CtlR (w : World) (d : Option Str) (led : List (Addr × Obj)) (v : Value) (nw : List (Addr × Obj)) : Prop :=
  ∃ r k ok x t y1, v = .ref r ∧ nw = (r, tupO [.ref k, .none]) :: (k, ok) :: led ∧ d = some x ∧ ok.IsDictOf (strKind PySem.Challenge.rw_rh0120_01.row.prog w) [(Str.ofString "REC", .int 1 y1), (Str.ofString "FMT", .str (fmtT x) t)] ∧ @LT.lt Nat _ k r ∧ (∀ p ∈ led, p.1 < k) ∧ (k == sysModules) = false
theorem regY {h₀ h : Heap} {L : Addr} {a b c d e f g y : Addr × Obj} {R : List (Addr × Obj)} (N : News h₀ L h (a :: b :: c :: d :: e :: f :: g :: y :: R)) : News h₀ L h (y :: a :: b :: c :: d :: e :: f :: g :: R) :=
  newsSub N fun p hp => by
    simp only [List.mem_cons] at hp ⊢
    rcases hp with h | h | h | h | h | h | h | h | h <;> simp [h]
theorem dropY {h₀ h : Heap} {L : Addr} {r k a b c d e f g : Addr × Obj} {R : List (Addr × Obj)} (N : News h₀ L h (r :: k :: a :: b :: c :: d :: e :: f :: g :: R)) : News h₀ L h (r :: k :: R) :=
  newsSub N fun p hp => by
    simp only [List.mem_cons] at hp ⊢
    rcases hp with h | h | h <;> simp [h]
theorem due_fit {many size : Int} {vs : List Value} {os : List (Option Str)} {kd : Kd} (h : placeOk many kd) (hc : ∀ t, kd ≠ .cst t) (h1 : 1 ≤ many) (h2 : many ≤ 3) (h3 : 1 ≤ size) (h4 : size ≤ 4) (hS : Sgs vs os)
    (hf : plAd size kd + plC many kd * plN size kd ≤ vs.length) (he : (upTo ((os.drop (plAd size kd).toNat).take ((plC many kd).toNat * (plN size kd).toNat))).isEmpty = false) :
    dueOf many size os kd = some (lead ((os.drop (plAd size kd).toNat).take ((plC many kd).toNat * (plN size kd).toNat))) := by
  rw [due_place h hc h1 h2 h3 h4, if_pos (by rw [← hS.length]; exact hf), if_neg (show ¬ (upTo (segAt many size os kd)).isEmpty = true from fun q => by rw [show (upTo (segAt many size os kd)).isEmpty = false from he] at q; cases q)]
  rfl
theorem due_unfit {many size : Int} {vs : List Value} {os : List (Option Str)} {kd : Kd} (h : placeOk many kd) (hc : ∀ t, kd ≠ .cst t) (h1 : 1 ≤ many) (h2 : many ≤ 3) (h3 : 1 ≤ size) (h4 : size ≤ 4) (hS : Sgs vs os)
    (hf : ¬ (plAd size kd + plC many kd * plN size kd ≤ vs.length ∧ (upTo ((os.drop (plAd size kd).toNat).take ((plC many kd).toNat * (plN size kd).toNat))).isEmpty = false)) : dueOf many size os kd = none := by
  rw [due_place h hc h1 h2 h3 h4]
  split
  · rename_i q
    split
    · rfl
    · rename_i q2
      exact absurd ⟨by rw [hS.length]; exact q, by
        cases hb : (upTo (segAt many size os kd)).isEmpty with
        | true => exact absurd hb q2
        | false => exact hb⟩ hf
  · rfl
theorem eq_self {prog : Program} {w : World} {A : Around} {E : Value → Shared → Prop} {s : Shared} {x : Str} {t u : Tok} {Q : Value → Shared → Prop} (h : Q (.bool true) s) : wpAny (model prog w) A (compareOp .Eq (.str x t) (.str x u)) Q E s := by
  refine PyProof.Rows.eq_str ?_
  rw [beq_self_eq_true]
  exact h
end
local macro_rules | `(tactic| walk_at "tl16a8096") => `(tactic| (intro _ _ _ _ _ _ _ _ _ _ _ _ _ N' _ _; (try dsimp only at N'); (try simp only [List.cons_append, List.nil_append] at N')))
local macro_rules | `(tactic| walk_at "tl1ee258b") => `(tactic| (intro _ _ _ _ _ _ _ _ _ _ l1 l2 l3; (have l4 := fun p hp => Nat.lt_trans (l1 p hp) l2); (have l5 := fun p hp => Nat.lt_trans (l4 p hp) l3); (try k_lt l1); (try k_lt l4); (try k_lt l5); (try k_lt2 l2); (try k_lt2 l3)))
local macro_rules | `(tactic| walk_at "tlf459dc") => `(tactic| (intro _ _ _ _ _ l1 _ _; (try k_lt l1)))
section
section
theorem reg_LawAll_1 : True := by
  w_top off
  k_with_none
  k_with "pj" => (first | exact Mine.c0 h9 | exact Mine.c1 h9 | exact Mine.e1 h9 | exact Mine.c2 h9 | exact Mine.e2 h9 | exact Mine.c3 h9 | exact Mine.e3 h9 | exact Mine.c4 h9 | exact Mine.e4 h9 | exact Mine.c5 h9 | exact Mine.e5 h9 | exact Mine.c6 h9 | exact Mine.e6 h9 | exact Mine.c7 h9 | exact Mine.e7 h9 | exact Mine.c8 h9 | exact Mine.e8 h9 | exact Mine.c9 h9 | exact Mine.e9 h9 | exact Mine.c10 h9 | exact Mine.e10 h9 | exact Mine.c11 h9 | exact Mine.e11 h9 | exact Mine.c12 h9 | exact Mine.e12 h9 | exact Mine.c13 h9 | exact Mine.e13 h9 | exact Mine.c14 h9 | exact Mine.e14 h9 | exact Mine.c15 h9 | exact Mine.e15 h9 | exact Mine.c16 h9 | exact Mine.e16 h9 | exact Mine.c17 h9 | exact Mine.e17 h9 | exact Mine.c18 h9 | exact Mine.e18 h9 | exact Mine.c19 h9 | exact Mine.e19 h9 | exact Mine.c20 h9 | exact Mine.e20 h9 | fail "pj")
  k_with "pj1" => (first | exact Mine.c0 (Mine.c0 h9) | exact Mine.c0 (Mine.c1 h9) | exact Mine.c0 (Mine.c2 h9) | exact Mine.c0 (Mine.c3 h9) | exact Mine.c0 (Mine.c4 h9) | exact Mine.c0 (Mine.c5 h9) | exact Mine.c0 (Mine.c6 h9) | exact Mine.c0 (Mine.c7 h9) | exact Mine.c0 (Mine.c8 h9) | exact Mine.c0 (Mine.c9 h9) | exact Mine.c0 (Mine.c10 h9) | exact Mine.c0 (Mine.c11 h9) | exact Mine.c0 (Mine.c12 h9) | exact Mine.c0 (Mine.c13 h9) | exact Mine.c0 (Mine.c14 h9) | exact Mine.c0 (Mine.c15 h9) | exact Mine.c0 (Mine.c16 h9) | exact Mine.c0 (Mine.c17 h9) | exact Mine.c0 (Mine.c18 h9) | exact Mine.c0 (Mine.c19 h9) | exact Mine.c0 (Mine.c20 h9) | fail "pj1")
  k_with "pj2" => (first | exact Mine.c1 (Mine.c0 h9) | exact Mine.c1 (Mine.c1 h9) | exact Mine.c1 (Mine.c2 h9) | exact Mine.c1 (Mine.c3 h9) | exact Mine.c1 (Mine.c4 h9) | exact Mine.c1 (Mine.c5 h9) | exact Mine.c1 (Mine.c6 h9) | exact Mine.c1 (Mine.c7 h9) | exact Mine.c1 (Mine.c8 h9) | exact Mine.c1 (Mine.c9 h9) | exact Mine.c1 (Mine.c10 h9) | exact Mine.c1 (Mine.c11 h9) | exact Mine.c1 (Mine.c12 h9) | exact Mine.c1 (Mine.c13 h9) | exact Mine.c1 (Mine.c14 h9) | exact Mine.c1 (Mine.c15 h9) | exact Mine.c1 (Mine.c16 h9) | exact Mine.c1 (Mine.c17 h9) | exact Mine.c1 (Mine.c18 h9) | exact Mine.c1 (Mine.c19 h9) | exact Mine.c1 (Mine.c20 h9) | fail "pj2")
  k_with "pj3" => (first | exact Mine.e2 (Mine.c0 h9) | exact Mine.e2 (Mine.c1 h9) | exact Mine.e2 (Mine.c2 h9) | exact Mine.e2 (Mine.c3 h9) | exact Mine.e2 (Mine.c4 h9) | exact Mine.e2 (Mine.c5 h9) | exact Mine.e2 (Mine.c6 h9) | exact Mine.e2 (Mine.c7 h9) | exact Mine.e2 (Mine.c8 h9) | exact Mine.e2 (Mine.c9 h9) | exact Mine.e2 (Mine.c10 h9) | exact Mine.e2 (Mine.c11 h9) | exact Mine.e2 (Mine.c12 h9) | exact Mine.e2 (Mine.c13 h9) | exact Mine.e2 (Mine.c14 h9) | exact Mine.e2 (Mine.c15 h9) | exact Mine.e2 (Mine.c16 h9) | exact Mine.e2 (Mine.c17 h9) | exact Mine.e2 (Mine.c18 h9) | exact Mine.e2 (Mine.c19 h9) | exact Mine.e2 (Mine.c20 h9) | fail "pj3")
  k_with "omega" => (first | with_reducible (first | exact Mine.i5 (by assumption) | exact Mine.i6 (by assumption) (by assumption) | exact Mine.i7 (by assumption) (by assumption) | exact List.length_take_le _ _ | fail "l") | (refine Mine.toNe ?_; with_reducible (first | (refine Mine.viaN (by assumption) ?_; intro h9; k_extra "pj") | (refine Ne.symm (Mine.viaN (by assumption) ?_); intro h9; k_extra "pj") | (refine Mine.viaN1 (by assumption) ?_; intro h9; k_extra "pj1") | (refine Ne.symm (Mine.viaN1 (by assumption) ?_); intro h9; k_extra "pj1") | (refine Mine.viaN2 (by assumption) ?_; intro h9; k_extra "pj2") | (refine Ne.symm (Mine.viaN2 (by assumption) ?_); intro h9; k_extra "pj2") | (refine Mine.viaN3 (by assumption) ?_; intro h9; k_extra "pj3") | (refine Ne.symm (Mine.viaN3 (by assumption) ?_); intro h9; k_extra "pj3") | fail "n")) | fail "o")
  k_with "treelt" => ((with_reducible first | assumption | exact (by assumption : _ ∧ AllLt _ _).2 | exact (by assumption : _ ∧ _ ∧ AllLt _ _).2.2 | exact (by assumption : _ ∧ _ ∧ _ ∧ AllLt _ _).2.2.2 | exact (by assumption : _ ∧ _ ∧ _ ∧ _ ∧ AllLt _ _).2.2.2.2 | exact (by assumption : _ ∧ _ ∧ _ ∧ _ ∧ _ ∧ AllLt _ _).2.2.2.2.2 | exact (by assumption : _ ∧ _ ∧ _ ∧ _ ∧ _ ∧ _ ∧ AllLt _ _).2.2.2.2.2.2 | exact (by assumption : _ ∧ _ ∧ _ ∧ _ ∧ _ ∧ _ ∧ _ ∧ AllLt _ _).2.2.2.2.2.2.2 | exact (by assumption : _ ∧ _ ∧ _ ∧ _ ∧ _ ∧ _ ∧ _ ∧ _ ∧ AllLt _ _).2.2.2.2.2.2.2.2 | exact (by assumption : _ ∧ _ ∧ _ ∧ _ ∧ _ ∧ _ ∧ _ ∧ _ ∧ _ ∧ AllLt _ _).2.2.2.2.2.2.2.2.2 | exact (by assumption : _ ∧ _ ∧ _ ∧ _ ∧ _ ∧ _ ∧ _ ∧ _ ∧ _ ∧ _ ∧ AllLt _ _).2.2.2.2.2.2.2.2.2.2 | exact (by assumption : _ ∧ _ ∧ _ ∧ _ ∧ _ ∧ _ ∧ _ ∧ _ ∧ _ ∧ _ ∧ _ ∧ AllLt _ _).2.2.2.2.2.2.2.2.2.2.2 | exact (by assumption : _ ∧ _ ∧ _ ∧ _ ∧ _ ∧ _ ∧ _ ∧ _ ∧ _ ∧ _ ∧ _ ∧ _ ∧ AllLt _ _).2.2.2.2.2.2.2.2.2.2.2.2 | exact (by assumption : _ ∧ _ ∧ _ ∧ _ ∧ _ ∧ _ ∧ _ ∧ _ ∧ _ ∧ _ ∧ _ ∧ _ ∧ _ ∧ AllLt _ _).2.2.2.2.2.2.2.2.2.2.2.2.2 | exact (by assumption : _ ∧ _ ∧ _ ∧ _ ∧ _ ∧ _ ∧ _ ∧ _ ∧ _ ∧ _ ∧ _ ∧ _ ∧ _ ∧ _ ∧ AllLt _ _).2.2.2.2.2.2.2.2.2.2.2.2.2.2 | exact (by assumption : _ ∧ _ ∧ _ ∧ _ ∧ _ ∧ _ ∧ _ ∧ _ ∧ _ ∧ _ ∧ _ ∧ _ ∧ _ ∧ _ ∧ _ ∧ AllLt _ _).2.2.2.2.2.2.2.2.2.2.2.2.2.2.2 | exact (by assumption : _ ∧ _ ∧ _ ∧ _ ∧ _ ∧ _ ∧ _ ∧ _ ∧ _ ∧ _ ∧ _ ∧ _ ∧ _ ∧ _ ∧ _ ∧ _ ∧ AllLt _ _).2.2.2.2.2.2.2.2.2.2.2.2.2.2.2.2 | exact (by assumption : _ ∧ _ ∧ _ ∧ _ ∧ _ ∧ _ ∧ _ ∧ _ ∧ _ ∧ _ ∧ _ ∧ _ ∧ _ ∧ _ ∧ _ ∧ _ ∧ _ ∧ AllLt _ _).2.2.2.2.2.2.2.2.2.2.2.2.2.2.2.2.2 | exact (by assumption : _ ∧ _ ∧ _ ∧ _ ∧ _ ∧ _ ∧ _ ∧ _ ∧ _ ∧ _ ∧ _ ∧ _ ∧ _ ∧ _ ∧ _ ∧ _ ∧ _ ∧ _ ∧ AllLt _ _).2.2.2.2.2.2.2.2.2.2.2.2.2.2.2.2.2.2 | exact (by assumption : _ ∧ _ ∧ _ ∧ _ ∧ _ ∧ _ ∧ _ ∧ _ ∧ _ ∧ _ ∧ _ ∧ _ ∧ _ ∧ _ ∧ _ ∧ _ ∧ _ ∧ _ ∧ _ ∧ AllLt _ _).2.2.2.2.2.2.2.2.2.2.2.2.2.2.2.2.2.2.2 | exact (by assumption : _ ∧ _ ∧ _ ∧ _ ∧ _ ∧ _ ∧ _ ∧ _ ∧ _ ∧ _ ∧ _ ∧ _ ∧ _ ∧ _ ∧ _ ∧ _ ∧ _ ∧ _ ∧ _ ∧ _ ∧ AllLt _ _).2.2.2.2.2.2.2.2.2.2.2.2.2.2.2.2.2.2.2.2 | exact (by assumption : _ ∧ _ ∧ _ ∧ _ ∧ _ ∧ _ ∧ _ ∧ _ ∧ _ ∧ _ ∧ _ ∧ _ ∧ _ ∧ _ ∧ _ ∧ _ ∧ _ ∧ _ ∧ _ ∧ _ ∧ _ ∧ AllLt _ _).2.2.2.2.2.2.2.2.2.2.2.2.2.2.2.2.2.2.2.2.2 | exact (by assumption : _ ∧ _ ∧ _ ∧ _ ∧ _ ∧ _ ∧ _ ∧ _ ∧ _ ∧ _ ∧ _ ∧ _ ∧ _ ∧ _ ∧ _ ∧ _ ∧ _ ∧ _ ∧ _ ∧ _ ∧ _ ∧ _ ∧ AllLt _ _).2.2.2.2.2.2.2.2.2.2.2.2.2.2.2.2.2.2.2.2.2.2 | exact (by assumption : _ ∧ _ ∧ _ ∧ _ ∧ _ ∧ _ ∧ _ ∧ _ ∧ _ ∧ _ ∧ _ ∧ _ ∧ _ ∧ _ ∧ _ ∧ _ ∧ _ ∧ _ ∧ _ ∧ _ ∧ _ ∧ _ ∧ _ ∧ AllLt _ _).2.2.2.2.2.2.2.2.2.2.2.2.2.2.2.2.2.2.2.2.2.2.2 | exact (by assumption : _ ∧ _ ∧ _ ∧ _ ∧ _ ∧ _ ∧ _ ∧ _ ∧ _ ∧ _ ∧ _ ∧ _ ∧ _ ∧ _ ∧ _ ∧ _ ∧ _ ∧ _ ∧ _ ∧ _ ∧ _ ∧ _ ∧ _ ∧ _ ∧ AllLt _ _).2.2.2.2.2.2.2.2.2.2.2.2.2.2.2.2.2.2.2.2.2.2.2.2 | exact (by assumption : _ ∧ _ ∧ _ ∧ _ ∧ _ ∧ _ ∧ _ ∧ _ ∧ _ ∧ _ ∧ _ ∧ _ ∧ _ ∧ _ ∧ _ ∧ _ ∧ _ ∧ _ ∧ _ ∧ _ ∧ _ ∧ _ ∧ _ ∧ _ ∧ _ ∧ AllLt _ _).2.2.2.2.2.2.2.2.2.2.2.2.2.2.2.2.2.2.2.2.2.2.2.2.2 | fail "treelt"))
  k_with "subscriptTail" => (first | (k_here; (with_reducible show wpAny _ _ (subscriptTail _ (PySem.Expr.Call _ _ _ _) (Value.ref _) (Value.int _ _)) _ _ _); k_dflt (refine' pick_list ?q927db6b8N ?q927db6b8l ?q927db6b8a ?q927db6b8b ?q927db6b8z ?_ ?q927db6b8s; (case q927db6b8N => k_asm); (case q927db6b8l => k_mem); (case q927db6b8a => omega); (case q927db6b8b => (simp only [List.length_cons, List.length_nil]; omega)); (case q927db6b8z => (simp only [List.length_cons, List.length_nil]; omega)); (case q927db6b8s => with_unfolding_all rfl)); intro _ _; (try k_sweep)) | fail "no")
  k_with "call ref" => (first | (refine halt ?_) | fail "no")
  k_with "exec If" => (first | (k_here; (with_reducible show wpAny _ _ (exec (Stmt.If (PySem.Expr.Compare (PySem.Expr.Call _ _ _ _) _ _ _) [PySem.Stmt.Expr _ _] _ _) _) _ _ _); (fail_if_success (with_reducible show wpAny _ _ _ (PopJ _ _ _ _ _ _ _ _ _ _ _ _) _ _)); refine halt ?_) | fail "no")
  k_with "CompSrc" => (first | (refine halt ?_) | fail "no")
  k_with "CompEnd" => (first | (refine halt ?_) | fail "no")
  k_with "eval IfExp" => (first | (k_here; (with_reducible show wpAny _ _ (eval (PySem.Expr.IfExp _ (PySem.Expr.BinOp _ _ _ _) _ _) _) _ _ _); (fail_if_success (with_reducible show wpAny _ _ _ (ToldJ _ _ _ _ _ _) _ _)); refine halt ?_) | fail "no")
  k_with "compareOp NotEq ref ref" => (first | (k_here; (with_reducible show wpAny _ _ (compareOp CmpOp.NotEq (Value.ref _) (Value.ref _)) _ _ _); refine halt ?_) | fail "no")
  k_with "compareOp NotEq" => (first | (k_here; refine ne_optV ?_) | fail "no")
  k_with "compareOp Eq ref ref" => (first | (refine halt ?_) | fail "no")
  k_with "compareOp Eq ref ref" => (first | (k_here; k_dflt (refine' eq_same ?q923c8395N ?q923c8395a ?q923c8395b ?q923c8395u ?_; (case q923c8395N => k_asm); (case q923c8395a => k_mem); (case q923c8395b => k_mem); (case q923c8395u => ((simp only [units_in1, units_deeper, Around.mark_units, units_caller]); first | decide | ((try dsimp only [ktrTop]); omega))))) | fail "no")
  k_with "compareOp Eq str str" => (first | (k_here; refine eq_self ?_) | fail "no")
  k_with "exec Raise some none" => (first | (k_here; refine raise_open rfl ?_) | fail "no")
  k_with "call ref" => (first | (k_here; (with_reducible show wpAny _ _ (call (Value.ref 51) [Value.str _ _] _) _ _ _); k_dflt (refine' fault_mk ?q96b9c5B ?q96b9c5F ?q96b9c5X ?q96b9c5T ?q96b9c5hk ?q96b9c5hA ?q96b9c5hr ?q96b9c5N ?_; (case q96b9c5hA => exact rfl); (case q96b9c5hk => first | exact rfl | assumption); (case q96b9c5B => k_asm); (case q96b9c5F => k_asm); (case q96b9c5X => k_asm); (case q96b9c5T => k_asm); (case q96b9c5hr => ((simp only [depth_under_make, depth_under_kw, depth_in1, depth_deeper, depth_caller]); first | decide | ((try dsimp only [ktrTop]); omega))); (case q96b9c5N => k_asm)); intro _ _ _ _ _ _ _ _; (try k_sweep)) | fail "no")
  k_with "RaisedVal" => (first | (refine ⟨_, _, _, rfl, Frag.In.keeps (by assumption) (Fr.keep (by assumption)), ((by assumption : News _ _ _ (_ :: _)) _ List.mem_cons_self).1, ?_⟩) | fail "no")
  k_with "leaving ref" => (first | (k_here; first | (refine' leave_fault ?q91bf5e95K ?q91bf5e95F ?q91bf5e95N ?q91bf5e95n ?_ ?q91bf5e95hf ?q91bf5e95hk; (case q91bf5e95hf => exact rfl); (case q91bf5e95hk => first | exact rfl | assumption); (case q91bf5e95F => assumption); (case q91bf5e95K => assumption); (case q91bf5e95N => assumption); (case q91bf5e95n => assumption); k_whole; walk_at "tl3225b9b") | (refine' leave_past ?q91bf5e95K ?q91bf5e95F ?q91bf5e95R ?q91bf5e95U ?_ ?q91bf5e95hf; (case q91bf5e95hf => exact rfl); (case q91bf5e95R => assumption); (case q91bf5e95U => assumption); (case q91bf5e95K => assumption); (case q91bf5e95F => assumption); k_whole; walk_at "tl3225b9b")) | fail "no")
  k_with "call ref" => (first | (refine halt ?_) | fail "no")
  k_with "call ref" => (first | (k_here; (with_reducible show wpAny _ _ (call (Value.ref 408) [Value.ref _, Value.int _ _] _) _ _ _); k_dflt (refine' draught ?q9e182cdB ?q9e182cdF ?q9e182cdX ?q9e182cdT ?q9e182cdhk ?q9e182cdN ?q9e182cdhdp ?q9e182cdhun ?q9e182cdhU ?q9e182cdhD ?q9e182cdhDm ?q9e182cdhI ?q9e182cdhlen ?q9e182cdhka ?q9e182cdhkb ?q9e182cdhkc ?q9e182cdhkd ?q9e182cdhke ?_; (case q9e182cdhk => first | exact rfl | assumption); (case q9e182cdB => k_asm); (case q9e182cdF => k_asm); (case q9e182cdX => k_asm); (case q9e182cdT => k_asm); (case q9e182cdN => k_asm); (case q9e182cdhdp => ((simp only [depth_under_make, depth_under_kw, depth_in1, depth_deeper, depth_caller]); first | decide | ((try dsimp only [ktrTop]); omega))); (case q9e182cdhun => ((simp only [units_in1, units_deeper, Around.mark_units, units_caller]); first | decide | ((try dsimp only [ktrTop]); omega))); (case q9e182cdhU => k_updF); (case q9e182cdhke => k_asm); (case q9e182cdhD => k_mem); (case q9e182cdhDm => first | assumption | k_ne); (case q9e182cdhI => assumption); (case q9e182cdhlen => first | assumption | omega); (case q9e182cdhka => omega); (case q9e182cdhkb => omega); (case q9e182cdhkc => omega); (case q9e182cdhkd => omega)); walk_at "tl6c326b"; (try k_sweep)) | fail "no")
  k_with "call ref" => (first | (k_here; (with_reducible show wpAny _ _ (call (Value.ref 415) [Value.ref _, Value.int _ _] _) _ _ _); k_dflt (refine' tree_c ?q96e3fdfB ?q96e3fdfF ?q96e3fdfX ?q96e3fdfT ?q96e3fdfhk ?q96e3fdfN ?q96e3fdfhdp ?q96e3fdfhun ?q96e3fdfhU ?q96e3fdfhD ?q96e3fdfhDm ?q96e3fdfhI ?q96e3fdfhlen ?q96e3fdfhka ?q96e3fdfhkb ?q96e3fdfhkc ?q96e3fdfhkd ?q96e3fdfhke ?_; (case q96e3fdfhk => first | exact rfl | assumption); (case q96e3fdfB => k_asm); (case q96e3fdfF => k_asm); (case q96e3fdfX => k_asm); (case q96e3fdfT => k_asm); (case q96e3fdfN => k_asm); (case q96e3fdfhdp => ((simp only [depth_under_make, depth_under_kw, depth_in1, depth_deeper, depth_caller]); first | decide | ((try dsimp only [ktrTop]); omega))); (case q96e3fdfhun => ((simp only [units_in1, units_deeper, Around.mark_units, units_caller]); first | decide | ((try dsimp only [ktrTop]); omega))); (case q96e3fdfhU => k_updF); (case q96e3fdfhke => k_asm); (case q96e3fdfhD => k_mem); (case q96e3fdfhDm => first | assumption | k_ne); (case q96e3fdfhI => assumption); (case q96e3fdfhlen => first | assumption | omega); (case q96e3fdfhka => omega); (case q96e3fdfhkb => omega); (case q96e3fdfhkc => omega); (case q96e3fdfhkd => omega)); walk_at "tl16a8096") | fail "no")
  k_with "call builtin:list.pop" => (first | (k_here; k_dflt (refine' pop_any ?q91f4c8d4F ?q91f4c8d4N ?q91f4c8d4U ?q91f4c8d4l ?q91f4c8d4z ?_; (case q91f4c8d4F => k_asm); (case q91f4c8d4N => k_asm); (case q91f4c8d4U => k_upd); (case q91f4c8d4l => omega); (case q91f4c8d4z => (rw [sizeLine_eq]; omega))); intro _ _ _ _; (try k_sweep)) | fail "no")
  k_with "k_all" => (first | (refine ne_tail (by assumption) ?_; simp only [List.map_cons]; (repeat (first | exact List.mem_cons_self | refine List.mem_cons_of_mem _ ?_))) | fail "no")
  k_with "k_mem" => (first | (assumption) | fail "no")
  k_with "news_mem" => (first | (k_mem) | fail "no")
  k_with "k_all" => (first | (first | exact List.forall_mem_nil _ | (refine' List.forall_mem_cons.mpr ⟨?q9376ed43a, ?q9376ed43b⟩; (case q9376ed43a => k_ne); (case q9376ed43b => k_all)) | (refine' off_all ?q9376ed43h ?q9376ed43m; (case q9376ed43h => assumption); (case q9376ed43m => (repeat (first | exact List.mem_cons_self | refine List.mem_cons_of_mem _ ?_)))) | (refine' lt_all ?q9376ed43h; (case q9376ed43h => (k_extra "treelt"))) | fail "off") | fail "no")
  k_with "call builtin:len" => (first | (k_here; k_dflt (refine call_len_list (by is_list) (by rw [List.size_toArray]; omega) ?_)) | fail "no")
  k_with "k_get" => (first | (assumption) | fail "no")
  k_with "k_room" => (first | ((simp only [depth_under_make, depth_under_kw, depth_in1, depth_deeper, depth_caller]); first | decide | ((try dsimp only [ktrTop]); omega)) | fail "no")
  k_with "setItem ref ref" => (first | (k_here; (with_reducible show wpAny _ _ (setItem (Value.ref _) (Value.ref _) (Value.ref _)) _ _ _); k_dflt (refine' store_whole ?q937c724aF ?q937c724aN ?q937c724aU ?q937c724ab ?q937c724ad ?q937c724az ?_; (case q937c724aF => k_asm); (case q937c724aN => k_asm); (case q937c724aU => k_updF); (case q937c724ab => k_mem); (case q937c724ad => first | (refine' ne_memR ?q937c724ah ?q937c724am; (case q937c724am => assumption); (case q937c724ah => (k_extra "treelt"))) | k_ne); (case q937c724az => (rw [sizeLine_eq, nones_len]; (simp only [List.size_toArray, Int.toNat_natCast]); omega))); walk_at "tl262cc1d"; (try k_sweep)) | fail "no")
  k_with "call ref" => (first | (k_here; (with_reducible show wpAny _ _ (call (Value.ref 117) [Value.int 0 _, Value.int _ _] _) _ _ _); k_dflt (refine' new_mem ?q9146bc1cB ?q9146bc1cF ?q9146bc1cX ?q9146bc1cT ?q9146bc1chk ?q9146bc1cN ?q9146bc1chdp ?q9146bc1chn ?_; (case q9146bc1chk => first | exact rfl | assumption); (case q9146bc1cB => k_asm); (case q9146bc1cF => k_asm); (case q9146bc1cX => k_asm); (case q9146bc1cT => k_asm); (case q9146bc1cN => k_asm); (case q9146bc1chdp => ((simp only [depth_under_make, depth_under_kw, depth_in1, depth_deeper, depth_caller]); first | decide | ((try dsimp only [ktrTop]); omega))); (case q9146bc1chn => (rw [List.size_toArray]; omega))); walk_at "tl1ee258b"; (try k_sweep)) | fail "no")
  k_with "call ref" => (first | (k_here; (with_reducible show wpAny _ _ (call (Value.ref 429) _ _) _ _ _); k_dflt (refine' due_all ?q92073577B ?q92073577F ?q92073577X ?q92073577T ?q92073577hk ?q92073577N ?q92073577hdp ?q92073577hun ?q92073577hTr ?q92073577hkd ?q92073577h1 ?q92073577h2 ?q92073577h3 ?q92073577h4 ?q92073577hsg ?q92073577hS ?q92073577hz ?_; (case q92073577hk => first | exact rfl | assumption); (case q92073577B => k_asm); (case q92073577F => k_asm); (case q92073577X => k_asm); (case q92073577T => k_asm); (case q92073577N => k_asm); (case q92073577hdp => ((simp only [depth_under_make, depth_under_kw, depth_in1, depth_deeper, depth_caller]); first | decide | ((try dsimp only [ktrTop]); omega))); (case q92073577hun => ((simp only [units_in1, units_deeper, Around.mark_units, units_caller]); first | decide | ((try dsimp only [ktrTop]); omega))); (case q92073577hTr => exact TreeAt.mono (by assumption) (by intro p hp; repeat (first | exact hp | refine List.mem_cons_of_mem _ ?_))); (case q92073577hkd => assumption); (case q92073577h1 => omega); (case q92073577h2 => omega); (case q92073577h3 => omega); (case q92073577h4 => omega); (case q92073577hsg => k_mem); (case q92073577hS => assumption); (case q92073577hz => omega)); intro _ _ _ _ _; (try k_sweep)) | fail "no")
  k_with "eval Dict" => (first | (k_here; (with_reducible show wpAny _ _ (eval (PySem.Expr.Dict _ (PySem.Expr.Tuple _ _ _ :: _) _) _) _ _ _); k_dflt (refine' kdn_str ?q920fe995q ?q920fe995F ?q920fe995N ?q920fe995b ?q920fe995a ?q920fe995l ?q920fe995e ?q920fe995n ?_; (case q920fe995q => rfl); (case q920fe995F => k_asm); (case q920fe995N => first | k_asm | exact News.nil); (case q920fe995b => exact Top.nolimit (by k_asm)); (case q920fe995a => rfl); (case q920fe995l => rfl); (case q920fe995e => exact List.cons_ne_nil _ _); (case q920fe995n => exact Nat.le_of_ble_eq_true rfl)); walk_at "tlf459dc") | fail "no")
  k_with "subscriptTail" => (first | (k_here; (with_reducible show wpAny _ _ (subscriptTail _ _ (Value.ref _) (Value.int 0 _)) _ _ _); k_dflt (refine' first_item ?q91543b2dN ?q91543b2dt ?_ ?q91543b2ds; (case q91543b2dN => k_asm); (case q91543b2dt => first | assumption | k_mem); (case q91543b2ds => with_unfolding_all rfl))) | fail "no")
  k_with "callWith ref" => (first | (k_here; k_dflt (first | (refine' callWith_K ?q92b69576k1 ?q92b69576k2 ?_; (case q92b69576k1 => k_asm); (case q92b69576k2 => k_is); k_whole) | (refine' callWith_K0 ?q92b69576k1 ?q92b69576k2 ?_; (case q92b69576k1 => k_in); (case q92b69576k2 => k_is); k_whole))) | fail "no")
  trivial
theorem law0 : PySem.Challenge.rw_rh0120_01.Holds :=
  hd (Walk.of (by rfl) (by
    k_go0
    all_goals try k_fold
    rename (¬ (63 : Int) < _) => hz63
    rename IntsAre _ _ => hI0
    rename Heap.IsList _ _ _ => hL0
    k_steps
    rename_i mugA _ _ _ _ _ DA ws _ hI9 hC9 _ _ _ _ _ _ oM hoM v1 tv1 _ _ _ _ hv11 hv12 _ v2 tv2 tk2 om2 _ _ hv21 hv22 hm2 DT _ _ _ _ _ _ _ _ _ _ _ _ hR9 F9 N9 _
    have hP := prod_bnd hv11 hv12 hv21 hv22
    generalize hPe : (1 + v1) * (1 + v2) = P at hR9 hP
    refine unhalt ?_
    k_dflt (refine LCg.CompSrc.range (by rfl) F9 N9 hR9 (by exact small_one (by kcf_bnd) (by kcf_bnd) (by kcf_bnd) (by kcf_bnd)) (by exact rangeSize_nat _ _) (by rw [sizeLine_eq]; omega) ?_)
    intro gg
    refine comp_inv (SignsJ _ DT _ DA ws mugA _) (SignsJ.start hm2) ?_ ?_
    · rintro i ys nw t I oI C oC D m₂ h tk E' hi ⟨om, t', rfl, hom, os, hos, hol⟩ hC hx F11 N11 off ne
      have hi12 : (i : Int) < 12 := by omega
      simp only [LCg.Off3] at off
      k_steps
      rename (_ ∈ [Value.str _ _, _, _, _, _, _]) => hx9
      rename Obj.IsDictOf _ _ [_, (_, .int (2 + _ + 1) _)] => hm9
      rename News _ _ _ (_ :: _) => N12
      rename Fr _ _ _ _ => F12
      refine unhalt (LCg.CompEnd.intro F12 N12 _ ?_ ?_ trivial (SignsJ.step hm9 hos hol hx9))
      · exact fun p hp => List.mem_cons_of_mem _ hp
      · exact off
    · rintro ys nw ⟨om, t', rfl, hom, os, hos, hol⟩
      exact (by
        rename Frag.In _ _ => X9
        k_steps
        rename News _ _ _ (_ :: _) => N8
        rename Fr _ _ _ _ => F8
        have hys : ys.length = P.toNat := by rw [hos.length, hol, Int.sub_zero]
        refine unhalt (pop_start F8 N8 ?_ ?_)
        · k_steps
          · unfold PopJ
            exact ⟨rfl, _, _, _, _, _, _, rfl, by assumption, by assumption, hos.dropLast, by rw [List.length_dropLast]; omega⟩
          · unfold PopJ
            exact ⟨rfl, _, _, _, _, _, _, rfl, by assumption, by assumption, hos, by omega⟩
        · intro h' tk om' vs' os' c' F7 N7 hs7 hl7
          rename Kd => kd
          rename TreeAt _ _ _ => hT9
          rename KdOk _ _ => hkd9
          rename (∀ p : Addr × Obj, p ∈ _ → ∀ q : Addr × Obj, q ∈ _ → q.1 < p.1) => hlt9
          rename (_ ≠ _ ∧ _ ≠ _ ∧ _) => ho9
          obtain ⟨R, N6, hsg, hT, hoff⟩ := regroup N7 hT9 hlt9 (fun a ha => .tail _ (.tail _ (.tail _ (.tail _ ha)))) ho9
          clear N7 hT9 hlt9 ho9
          repeat (rename (_ < _ ∧ _) => hz; clear hz)
          repeat (rename (Obj.IsDictOf _ _ _) => hz; clear hz)
          exact (by
            rename (438 < _) => l0
            replace l0 := Nat.not_le_of_lt l0
            k_steps
            rename (getL _ _ = _) => hg9
            rename News _ _ _ _ => N9
            obtain ⟨R2, N8, hM, hsg2, hT2, hoff2⟩ := regE N9 hg9 hsg hT hoff (by assumption) (by assumption) (by assumption)
            repeat (rename (438 < _ ∧ _ ∧ _) => hz; clear hz)
            clear hsg hT hoff N9 hg9
            repeat (rename (@LT.lt Addr _ _ _) => hz; clear hz)
            exact (by
              refine unhalt ?_
              ((with_reducible show wpAny _ _ (call (Value.ref 261) _ _) _ _ _); k_dflt (refine' new_lim ?q9B ?q9F ?q9X ?q9T ?q9hk ?q9N ?q9hdp ?_; (case q9hk => first | exact rfl | assumption); (case q9B => k_asm); (case q9F => k_asm); (case q9X => k_asm); (case q9T => k_asm); (case q9N => k_asm); (case q9hdp => ((simp only [depth_under_make, depth_under_kw, depth_in1, depth_deeper, depth_caller]); first | decide | ((try dsimp only [ktrTop]); omega)))); intro lim' ld' es' c' t' h' tk' F' N' hg' l1 l2; (have l4 := fun p hp => Nat.lt_trans (l1 p hp) l2); (try k_lt l1); (try k_lt l4);  (try k_lt2 l2); (try k_sweep))
              k_steps
              rename (getL _ _ = _) => hg9
              rename News _ _ _ _ => N9
              rename Obj.IsDictOf _ _ (strPairs _) => hex9
              rename ((_ == _) = false) => hz; clear hz
              rename ((_ == _) = false) => hlo9
              obtain ⟨R3, N7, hLim, hex3, hM3, hsg3, hT3, hoff3⟩ := regF N9 hg9 hM hsg2 hT2 hoff2 (by assumption) (by assumption) (by assumption)
              clear hM hsg2 hT2 hoff2 N9 hg9
              repeat (rename (@LT.lt Addr _ _ _) => hz; clear hz)
              repeat (rename ((@LT.lt Addr _ _ _) ∧ _) => hz; clear hz)
              exact (by
                refine unhalt ?_
                ((with_reducible show wpAny _ _ (call (Value.ref 308) _ _) _ _ _); k_dflt (refine' new_run ?q9B ?q9F ?q9X ?q9T ?q9hk ?q9N ?q9hdp ?_; (case q9hk => first | exact rfl | assumption); (case q9B => k_asm); (case q9F => k_asm); (case q9X => k_asm); (case q9T => k_asm); (case q9N => k_asm); (case q9hdp => ((simp only [depth_under_make, depth_under_kw, depth_in1, depth_deeper, depth_caller]); first | decide | ((try dsimp only [ktrTop]); omega)))); intro run' rd' h' tk' a1' a2' a3' a4' a5' a6' a7' u0' u1' u2' u3' u4' u5' u6' u7' u8' u9' u10' u11' u12' u13' u14' u15' u16' u17' F' N' l1 l2; (have l4 := fun p hp => Nat.lt_trans (l1 p hp) l2); (try k_lt l1); (try k_lt l4);  (try k_lt2 l2); (try dsimp only [ent] at N'); (try k_sweep))
                k_steps
                rename News _ _ _ _ => N9
                rename Obj.IsDictOf _ _ (strPairs [_, _]) => hfr9
                rename ((_ == _) = false) => hlo8
                obtain ⟨R4, es9, nn9, N8, hFr, hRD, hLim4, hM4, hsg4, hT4, hoff4, hPF4, hPG4, hrd4⟩ := regG N9 rfl rfl rfl rfl rfl (Nat.le_of_ble_eq_true rfl) hfr9 hex3 hex9 hlo8 hlo9 hLim hM3 hsg3 hT3 hoff3 (by assumption) (by assumption) (by assumption) (by assumption) (by assumption) (by assumption) (by assumption) (by assumption) (by assumption)
                clear N9 hfr9 hex3 hex9 hlo8 hlo9 hLim hM3 hsg3 hT3 hoff3
                repeat (rename (@LT.lt Addr _ _ _) => hz; clear hz)
                repeat (rename ((@LT.lt Addr _ _ _) ∧ _) => hz; clear hz)
                exact (by
                  refine unhalt ?_
                  ((with_reducible show wpAny _ _ (call (Value.ref 261) _ _) _ _ _); k_dflt (refine' new_lim ?q9B ?q9F ?q9X ?q9T ?q9hk ?q9N ?q9hdp ?_; (case q9hk => first | exact rfl | assumption); (case q9B => k_asm); (case q9F => k_asm); (case q9X => k_asm); (case q9T => k_asm); (case q9N => k_asm); (case q9hdp => ((simp only [depth_under_make, depth_under_kw, depth_in1, depth_deeper, depth_caller]); first | decide | ((try dsimp only [ktrTop]); omega)))); intro lim' ld' es' c' t' h' tk' F' N' hg' l1 l2; (have l4 := fun p hp => Nat.lt_trans (l1 p hp) l2); (try k_lt l1); (try k_lt l4);  (try k_lt2 l2); (try k_sweep))
                  k_steps
                  refine unhalt ?_
                  ((with_reducible show wpAny _ _ (call (Value.ref 282) _ _) _ _ _); k_dflt (refine' new_mac ?q9B ?q9F ?q9X ?q9T ?q9hk ?q9N ?q9hdp ?_; (case q9hk => first | exact rfl | assumption); (case q9B => k_asm); (case q9F => k_asm); (case q9X => k_asm); (case q9T => k_asm); (case q9N => k_asm); (case q9hdp => ((simp only [depth_under_make, depth_under_kw, depth_in1, depth_deeper, depth_caller]); first | decide | ((try dsimp only [ktrTop]); omega)))); intro mac' md' h' tk' a1' a2' a3' a4' a5' a6' a7' a8' a9' pf' u0' u1' u2' u3' u4' u5' u6' u7' u8' u9' u10' u11' u12' u13' u14' u15' u16' u17' F' N' l1 l2; (have l4 := fun p hp => Nat.lt_trans (l1 p hp) l2); (try k_lt l1); (try k_lt l4);  (try k_lt2 l2); (try dsimp only [ent] at N'); (try k_sweep))
                  rename News _ _ _ _ => N9
                  rename (getL _ _ = _) => hg9
                  obtain ⟨R5, es8, nn8, N7, hFr5, hMD, hmac, hLim5, hLim6, hM5, hsg5, hT5, hoff5, hPF5, hPG5, hmd5⟩ := regH N9 rfl rfl rfl (Nat.le_of_ble_eq_true rfl) hg9 hFr hLim4 hM4 hsg4 hT4 hoff4 hPF4 hPG4 (by assumption) (by assumption) (by assumption) (by assumption) (by assumption)
                  clear N9 hg9 hFr hLim4 hM4 hsg4 hT4 hoff4 hPF4 hPG4
                  replace hmd5 := And.intro (Nat.not_le_of_lt hmd5.1) (And.intro (Nat.not_le_of_lt hmd5.2.1) (And.intro (Nat.not_le_of_lt hmd5.2.2.1) (And.intro (Nat.not_le_of_lt hmd5.2.2.2.1) (And.intro (Nat.not_le_of_lt hmd5.2.2.2.2.1) (And.intro (Nat.not_le_of_lt hmd5.2.2.2.2.2.1) (Nat.not_le_of_lt hmd5.2.2.2.2.2.2))))))
                  repeat (rename (@LT.lt Addr _ _ _) => hz; clear hz)
                  repeat (rename ((@LT.lt Addr _ _ _) ∧ _) => hz; clear hz)
                  repeat (rename (Obj.IsDictOf _ _ []) => hz; clear hz)
                  repeat (rename (PyProof.V.FlatPairs _ _ _) => hz; clear hz)
                  repeat (rename (@Eq Bool (@BEq.beq Addr _ _ _) _) => hz; clear hz)
                  rcases kd_cases kd with ⟨t, rfl⟩ | hc9
                  · obtain ⟨u1, u2, u3, ht9⟩ := hT5
                    exact (by
                      rename Fr _ _ _ _ => F0
                      dsimp only [dueAll, optV] at F0
                      k_steps
                      refine unhalt ?_
                      rename Fr _ _ _ _ => F9
                      rename News _ _ _ _ => N9
                      have htl : t.length ≤ 100 := by rcases hkd9 with rfl | rfl | rfl | rfl <;> decide
                      refine told_start (some t) F9 N9 ?_ ?_
                      · k_steps
                        · exact ⟨_, _, _, rfl, by rw [show toldOf (some t) = some (fmtT t) from rfl, fmtT_pos (by assumption)]; rfl, by assumption, by assumption⟩
                        · exact ⟨_, _, _, rfl, by rw [show toldOf (some t) = some (fmtT t) from rfl, fmtT_neg (by assumption)]; rfl, by assumption, by assumption⟩
                      · intro h' tk t' F8 N8
                        k_steps
                        exact (by
                          refine unhalt ?_
                          rename Below _ _ _ _ => B9
                          rename News _ _ _ _ => N9
                          rename Fr _ _ _ _ => F9
                          rename Top _ _ _ _ _ _ => T9
                          have htl : t.length ≤ 100 := by rcases hkd9 with rfl | rfl | rfl | rfl <;> decide
                          obtain ⟨led, hled, N7⟩ := tie N9
                          k_dflt (refine' heard_v (toldOf (some t)) led ?q9B ?q9F ?q9X ?q9T ?q9hk ?q9XB ?q9TB ?q9N ?q9hdp ?q9hw ?q9workG ?q9retG)
                          (case q9hk => first | exact rfl | assumption); (case q9B => exact B9); (case q9F => exact F9); (case q9X => exact X9); (case q9T => exact T9); (case q9N => exact N9); (case q9XB => exact X9); (case q9TB => exact T9)
                          (case q9hdp => ((simp only [depth_under_make, depth_under_kw, depth_in1, depth_deeper, depth_caller]); first | decide | ((try dsimp only [ktrTop]); omega)))
                          (case q9hw => k_mem)
                          case q9workG =>
                            intro dp' un' gd' cn' cs' a' ccd' g L' m' h' tk' A' Q' E' hdp' hun' hk' B' F' X' T' N' hQ hE
                            have hrl : 600 < recursionLimit := by decide
                            have hcl : 5000 < cLine := by decide
                            simp only [depth_caller] at hdp'
                            simp only [units_caller] at hun'
                            clear X9
                            revert X'
                            k_fill
                            intro X'
                            ((refine wpAny_call ?_); k_dflt (refine' kla_code ?q9k1 ?q9k2 ?q9k3 ?q9k4 ?q9k5 ?q9kA ?q9kF ?q9kK ?q9k6 ?q9k7 ?q9k8 ?q9k9 ?q9kB ?_ ?q9c2 ?q9c3 ?q9c4 ?q9c5; (case q9kA => exact rfl); (case q9kF => exact rfl); (case q9kK => first | exact rfl | assumption); (case q9k1 => k_asm); (case q9k2 => k_asm); (case q9k3 => k_asm); (case q9k4 => k_asm); (case q9k5 => k_asm); (case q9k6 => k_mem); (case q9k7 => exact codeRec_news (by k_asm) (by k_mem) (by assumption) (by assumption)); (case q9k8 => ((simp only [depth_under_make, depth_under_kw, depth_in1, depth_deeper, depth_caller]); first | decide | ((try dsimp only [ktrTop]); omega))); (case q9k9 => exact rfl); (case q9c5 => decide); (case q9kB => exact locs rfl); (case q9c2 => exact rfl); (case q9c3 => exact rfl); (case q9c4 => exact rfl); k_whole; intro g' L' h' FG' F' N' B' X' T'; (try dsimp only); (try k_fold)))
                            k_steps
                            refine unhalt ?_
                            rename News _ _ _ _ => N5
                            k_dflt (refine' fv_cst ?q9B ?q9F ?q9X ?q9T ?q9hk N5 ?q9hdp ?q9hun (hFr5.mono ?q9hm) ?q9ht htl ?q9gret)
                            (case q9hk => first | exact rfl | assumption); (case q9B => k_asm); (case q9F => k_asm); (case q9X => k_asm); (case q9T => k_asm)
                            (case q9hdp => ((simp only [depth_under_make, depth_under_kw, depth_in1, depth_deeper, depth_caller]); first | decide | ((try dsimp only [ktrTop]); omega)))
                            (case q9hun => ((simp only [units_in1, units_deeper, Around.mark_units, units_caller]); first | decide | ((try dsimp only [ktrTop]); omega)))
                            case q9hm =>
                              intro p hp
                              rcases List.mem_cons.mp hp with rfl | hp
                              · k_mem
                              · exact ((by intro p hp; repeat (first | exact hp | refine List.mem_cons_of_mem _ ?_)) : ∀ p ∈ R5, p ∈ _) p hp
                            (case q9ht => k_mem)
                            case q9gret =>
                              intro t' h' tk' F' N'
                              k_steps
                              rename News _ _ _ _ => kN9
                              exact hQ _ _ _ _ (by assumption) kN9 ⟨⟨t', rfl⟩, hled.symm⟩
                          case q9retG =>
                            intro t' h' tk' F' N'
                            rw [hled] at N'
                            replace N' := newsTail (newsTail N')
                            clear N7 N9 F9 hled
                            repeat (rename ((@LT.lt Addr _ _ _) ∧ _) => hz; clear hz)
                            repeat (rename (@LT.lt Addr _ _ _) => hz; clear hz)
                            k_steps
                            exact (by
                              refine unhalt ?_
                              rename Fr _ _ _ _ => F9
                              dsimp only [toldOf, Option.map, optV] at F9
                              k_dflt (refine' ctl_val ?q9B ?q9F ?q9X ?q9T ?q9hk ?q9N ?q9hdp ?q9hun htl ?q9hvl ?q9hhl ?q9hhp ?q9hfx ?q9hfd ?q9hlo ?q9gret)
                              (case q9hk => first | exact rfl | assumption); (case q9B => k_asm); (case q9F => k_asm); (case q9X => k_asm); (case q9T => k_asm); (case q9N => k_asm)
                              (case q9hdp => ((simp only [depth_under_make, depth_under_kw, depth_in1, depth_deeper, depth_caller]); first | decide | ((try dsimp only [ktrTop]); omega)))
                              (case q9hun => ((simp only [units_in1, units_deeper, Around.mark_units, units_caller]); first | decide | ((try dsimp only [ktrTop]); omega)))
                              (case q9hvl => k_mem)
                              (case q9hhl => k_mem)
                              (case q9hhp => k_mem)
                              (case q9hfx => k_mem)
                              (case q9hfd => assumption)
                              (case q9hlo => assumption)
                              case q9gret =>
                                intro r k ok t' h' tk' F' N' hd1 hk1 hk2 hk3
                                clear hk1 hk2
                                repeat (rename ((@LT.lt Addr _ _ _) ∧ _) => hz; clear hz)
                                repeat (rename (@LT.lt Addr _ _ _) => hz; clear hz)
                                k_steps
                                refine unhalt ?_
                                rename News _ _ _ _ => N5
                                rename Obj.IsDictOf _ _ (strPairs _) => hd9
                                rename ((_ == sysModules) = false) => hlo9
                                k_dflt (refine' tup2_eq (N5 (_, tupO _) (by k_mem)).1 (N5 (_, tupO _) (by k_mem)).1 ?q9u (eqw_dicts N5 (by k_mem) (by k_mem) hd1 hd9 hk3 hlo9 rfl ?q9u2 hits1) eqw_none ?_)
                                (case q9u => ((simp only [units_in1, units_deeper, Around.mark_units, units_caller]); first | decide | ((try dsimp only [ktrTop]); omega)))
                                (case q9u2 => ((simp only [units_in1, units_deeper, Around.mark_units, units_caller]); first | decide | ((try dsimp only [ktrTop]); omega)))
                                k_steps)))
                  · exact (by
                    obtain ⟨nm, u, u2, rs, hnm, hh⟩ := hT5.two hc9
                    k_steps
                    · exact absurd (by simpa using (by assumption : (nm == Str.ofString "const") = true)) hnm
                    exact (by
                      refine unhalt ?_
                      rename Below _ _ _ _ => B9
                      rename News _ _ _ _ => N9
                      rename Fr _ _ _ _ => F9
                      rename Top _ _ _ _ _ _ => T9
                      obtain ⟨led, hled, N8⟩ := tie N9
                      have hmR : ∀ p ∈ R5, p ∈ led := by rw [hled]; exact (by intro p hp; repeat (first | exact hp | refine List.mem_cons_of_mem _ ?_))
                      have hrd9 := hFr5.mono (news' := led) (fun p hp => by
                        rcases List.mem_cons.mp hp with rfl | hp
                        · rw [hled]; k_mem
                        · exact hmR p hp)
                      k_dflt (refine' heard_c (PlR (1 + v1) (1 + v2) kd led R5) (fun nw => ¬ placeOk (1 + v1) kd ∧ nw = led) ?q9B ?q9F ?q9X ?q9T ?q9hk ?q9XB ?q9TB ?q9N ?q9hdp ?q9hw ?q9workA ?q9retA ?q9retX)
                      (case q9hk => first | exact rfl | assumption); (case q9B => exact B9); (case q9F => exact F9); (case q9X => exact X9); (case q9T => exact T9); (case q9N => exact N8); (case q9XB => exact X9); (case q9TB => exact T9)
                      (case q9hdp => ((simp only [depth_under_make, depth_under_kw, depth_in1, depth_deeper, depth_caller]); first | decide | ((try dsimp only [ktrTop]); omega)))
                      (case q9hw => (rw [hled]; k_mem))
                      case q9workA =>
                        intro dp' un' gd' cn' cs' a' ccd' g L' m' h' tk' A' Q' E' hdp' hun' hk' B' F' X' T' N' hQ hE
                        have hrl : 600 < recursionLimit := by decide
                        have hcl : 5000 < cLine := by decide
                        simp only [depth_caller] at hdp'
                        simp only [units_caller] at hun'
                        rw [hled] at N'
                        clear X9
                        revert X'
                        k_fill
                        intro X'
                        ((refine wpAny_call ?_); k_dflt (refine' kla_code ?q9k1 ?q9k2 ?q9k3 ?q9k4 ?q9k5 ?q9kA ?q9kF ?q9kK ?q9k6 ?q9k7 ?q9k8 ?q9k9 ?q9kB ?_ ?q9c2 ?q9c3 ?q9c4 ?q9c5; (case q9kA => exact rfl); (case q9kF => exact rfl); (case q9kK => first | exact rfl | assumption); (case q9k1 => k_asm); (case q9k2 => k_asm); (case q9k3 => k_asm); (case q9k4 => k_asm); (case q9k5 => k_asm); (case q9k6 => k_mem); (case q9k7 => exact codeRec_news (by k_asm) (by k_mem) (by assumption) (by assumption)); (case q9k8 => ((simp only [depth_under_make, depth_under_kw, depth_in1, depth_deeper, depth_caller]); first | decide | ((try dsimp only [ktrTop]); omega))); (case q9k9 => exact rfl); (case q9c5 => decide); (case q9kB => exact locs rfl); (case q9c2 => exact rfl); (case q9c3 => exact rfl); (case q9c4 => exact rfl); k_whole; intro g' L' h' FG' F' N' B' X' T'; (try dsimp only); (try k_fold)))
                        k_steps
                        refine unhalt ?_
                        k_dflt (refine' place_all ?q9B ?q9F ?q9X ?q9T ?q9hk ?q9N ?q9hdp (by rw [hled] at hrd9; exact hrd9) (hT5.mono (by rw [hled] at hmR; exact hmR)) hc9 (by omega) (by omega) (by omega) hPF5 hPG5 ?_ ?_)
                        (case q9hk => first | exact rfl | assumption); (case q9B => k_asm); (case q9F => k_asm); (case q9X => k_asm); (case q9T => k_asm); (case q9N => k_asm); (case q9hdp => ((simp only [depth_under_make, depth_under_kw, depth_in1, depth_deeper, depth_caller]); first | decide | ((try dsimp only [ktrTop]); omega)))
                        · intro hok r ex h' tk' F' N' l1 hP
                          k_steps
                          rename News _ _ _ _ => kN9
                          exact hQ _ _ _ _ (by assumption) kN9 ⟨hok, r, ex, rfl, by rw [hled], by rw [hled]; exact l1, hP⟩
                        · intro hok e g₂ h' tk' F' R' U'
                          k_steps
                          exact hE _ _ _ _ _ (by assumption) (by assumption) (by assumption) ⟨hok, hled.symm⟩
                      case q9retA =>
                        rintro v h' tk' news' F' N' ⟨hok, r, ex, rfl, rfl, l1, hP⟩
                        rw [hled] at N' l1
                        obtain ⟨N6, hoff6⟩ := regU N' l1 hoff5
                        have hm6 : ∀ p ∈ R5, p ∈ ex ++ R5 := fun p hp => List.mem_append_right _ hp
                        replace hFr5 := hFr5.mono (consMono hm6)
                        replace hmac := hm6 _ hmac
                        replace hLim5 := hLim5.mono hm6
                        replace hLim6 := hLim6.mono hm6
                        replace hM5 := hM5.mono hm6
                        replace hsg5 := hm6 _ hsg5
                        replace hT5 := hT5.mono hm6
                        replace hh := hm6 _ hh
                        clear N8 N9 F9 hmR hrd9 l1 N' hoff5 hPF5 hPG5 hled hm6
                        repeat (rename ((@LT.lt Addr _ _ _) ∧ _) => hz; clear hz)
                        repeat (rename (@LT.lt Addr _ _ _) => hz; clear hz)
                        generalize ex ++ R5 = R6 at N6 hoff6 hFr5 hmac hLim5 hLim6 hM5 hsg5 hT5 hh hP
                        exact (by
                          rename Fr _ _ _ _ => F0
                          rw [dueAll_of hc9] at F0
                          k_steps
                          refine unhalt ?_
                          rename Fr _ _ _ _ => F9
                          rename News _ _ _ _ => N9
                          refine told_start (dueOf (1 + v1) (1 + v2) os' kd) F9 N9 ?_ ?_
                          · cases hdd : dueOf (1 + v1) (1 + v2) os' kd with
                            | none =>
                              rw [hdd] at F9
                              dsimp only [optV] at F9
                              k_steps
                              all_goals exact ⟨_, _, 0, rfl, rfl, by assumption, by assumption⟩
                            | some t =>
                              rw [hdd] at F9
                              dsimp only [optV] at F9
                              have htl : t.length ≤ 100 := due_len hs7 (by omega) hdd
                              k_steps
                              · exact ⟨_, _, _, rfl, by rw [show toldOf (some t) = some (fmtT t) from rfl, fmtT_pos (by assumption)]; rfl, by assumption, by assumption⟩
                              · exact ⟨_, _, _, rfl, by rw [show toldOf (some t) = some (fmtT t) from rfl, fmtT_neg (by assumption)]; rfl, by assumption, by assumption⟩
                          · intro h' tk t' F8 N8
                            k_steps
                            exact (by
                              refine unhalt ?_
                              rename Below _ _ _ _ => B9
                              rename News _ _ _ _ => N9
                              rename Fr _ _ _ _ => F9
                              rename Top _ _ _ _ _ _ => T9
                              obtain ⟨led, hled, N7⟩ := tie (newsTail (regV N9))
                              k_dflt (refine' heard_v (toldOf (dueOf (1 + v1) (1 + v2) os' kd)) led ?q9q9B ?q9q9F ?q9q9X ?q9q9T ?q9q9hk ?q9q9XB ?q9q9TB ?q9q9N ?q9q9hdp ?q9q9hw ?q9q9workB ?q9q9retB)
                              (case q9q9hk => first | exact rfl | assumption); (case q9q9B => exact B9); (case q9q9F => exact F9); (case q9q9X => exact X9); (case q9q9T => exact T9); (case q9q9N => exact N9); (case q9q9XB => exact X9); (case q9q9TB => exact T9)
                              (case q9q9hdp => ((simp only [depth_under_make, depth_under_kw, depth_in1, depth_deeper, depth_caller]); first | decide | ((try dsimp only [ktrTop]); omega)))
                              (case q9q9hw => k_mem)
                              case q9q9workB =>
                                intro dp' un' gd' cn' cs' a' ccd' g L' m' h' tk' A' Q' E' hdp' hun' hk' B' F' X' T' N' hQ hE
                                have hrl : 600 < recursionLimit := by decide
                                have hcl : 5000 < cLine := by decide
                                simp only [depth_caller] at hdp'
                                simp only [units_caller] at hun'
                                clear X9
                                revert X'
                                k_fill
                                intro X'
                                ((refine wpAny_call ?_); k_dflt (refine' kla_code ?q9q9k1 ?q9q9k2 ?q9q9k3 ?q9q9k4 ?q9q9k5 ?q9q9kA ?q9q9kF ?q9q9kK ?q9q9k6 ?q9q9k7 ?q9q9k8 ?q9q9k9 ?q9q9kB ?_ ?q9q9c2 ?q9q9c3 ?q9q9c4 ?q9q9c5; (case q9q9kA => exact rfl); (case q9q9kF => exact rfl); (case q9q9kK => first | exact rfl | assumption); (case q9q9k1 => k_asm); (case q9q9k2 => k_asm); (case q9q9k3 => k_asm); (case q9q9k4 => k_asm); (case q9q9k5 => k_asm); (case q9q9k6 => k_mem); (case q9q9k7 => exact codeRec_news (by k_asm) (by k_mem) (by assumption) (by assumption)); (case q9q9k8 => ((simp only [depth_under_make, depth_under_kw, depth_in1, depth_deeper, depth_caller]); first | decide | ((try dsimp only [ktrTop]); omega))); (case q9q9k9 => exact rfl); (case q9q9c5 => decide); (case q9q9kB => exact locs rfl); (case q9q9c2 => exact rfl); (case q9q9c3 => exact rfl); (case q9q9c4 => exact rfl); k_whole; intro g' L' h' FG' F' N' B' X' T'; (try dsimp only); (try k_fold)))
                                k_steps
                                refine unhalt ?_
                                rename News _ _ _ _ => N5
                                replace N5 := regV N5
                                have hrun6 := (List.mem_cons.mp hFr5.h_run).resolve_left (fun q => by cases (Prod.mk.inj q).2)
                                k_dflt (refine' fv_c ?q9q9B ?q9q9F ?q9q9X ?q9q9T ?q9q9hk N5 ?q9q9hne ?q9q9hdp ?q9q9hun (hFr5.mono (consMono ?q9q9hm)) ?q9q9hrun (hLim5.mono ?q9q9hm2) hRD (hM5.mono ?q9q9hm3) hs7 (by omega) (hT5.mono ?q9q9hm4) hc9 (by omega) (by omega) (by omega) (by omega) ?q9q9gret ?q9q9gexc)
                                (case q9q9hk => first | exact rfl | assumption); (case q9q9B => k_asm); (case q9q9F => k_asm); (case q9q9X => k_asm); (case q9q9T => k_asm)
                                (case q9q9hne => k_all)
                                (case q9q9hdp => ((simp only [depth_under_make, depth_under_kw, depth_in1, depth_deeper, depth_caller]); first | decide | ((try dsimp only [ktrTop]); omega)))
                                (case q9q9hun => ((simp only [units_in1, units_deeper, Around.mark_units, units_caller]); first | decide | ((try dsimp only [ktrTop]); omega)))
                                (case q9q9hm => exact (by intro p hp; repeat (first | exact hp | refine List.mem_cons_of_mem _ ?_))); (case q9q9hm2 => exact (by intro p hp; repeat (first | exact hp | refine List.mem_cons_of_mem _ ?_))); (case q9q9hm3 => exact (by intro p hp; repeat (first | exact hp | refine List.mem_cons_of_mem _ ?_))); (case q9q9hm4 => exact (by intro p hp; repeat (first | exact hp | refine List.mem_cons_of_mem _ ?_)))
                                (case q9q9hrun => k_mem)
                                case q9q9gret =>
                                  intro t hdd t' h' tk' F' N'
                                  k_steps
                                  rename News _ _ _ _ => kN9
                                  exact hQ _ _ _ _ (by assumption) kN9 ⟨⟨t', by rw [hdd]; rfl⟩, hled.symm⟩
                                case q9q9gexc =>
                                  intro hdd e g₂ h' tk' F' R' U'
                                  k_steps
                                  exact hE _ _ _ _ _ (by assumption) (by assumption) (by assumption) ⟨by rw [hdd]; rfl, hled.symm⟩
                              case q9q9retB =>
                                intro t h' tk' F' N'
                                rw [hled] at N'
                                replace N' := newsTail (newsTail N')
                                clear N7 N9 F9 hled
                                repeat (rename ((@LT.lt Addr _ _ _) ∧ _) => hz; clear hz)
                                repeat (rename (@LT.lt Addr _ _ _) => hz; clear hz)
                            
                                exact (by
                                  k_steps
                                  exact (by
                                    refine unhalt ?_
                                    rename World => wW
                                    rename Below _ _ _ _ => B9
                                    rename News _ _ _ _ => N9
                                    rename Fr _ _ _ _ => F9
                                    rename Top _ _ _ _ _ _ => T9
                                    obtain ⟨led, hled, N7⟩ := tie (newsTail (newsTail (newsTail N9)))
                                    k_dflt (refine' heard_c (CtlR wW (dueOf (1 + v1) (1 + v2) os' kd) led) (fun nw => dueOf (1 + v1) (1 + v2) os' kd = none ∧ nw = led) ?q9B ?q9F ?q9X ?q9T ?q9hk ?q9XB ?q9TB ?q9N ?q9hdp ?q9hw ?q9workC ?q9retC ?q9retY)
                                    (case q9hk => first | exact rfl | assumption); (case q9B => exact B9); (case q9F => exact F9); (case q9X => exact X9); (case q9T => exact T9); (case q9N => exact N9); (case q9XB => exact X9); (case q9TB => exact T9)
                                    (case q9hdp => ((simp only [depth_under_make, depth_under_kw, depth_in1, depth_deeper, depth_caller]); first | decide | ((try dsimp only [ktrTop]); omega)))
                                    (case q9hw => k_mem)
                                    case q9workC =>
                                      intro dp' un' gd' cn' cs' a' ccd' g L' m' h' tk' A' Q' E' hdp' hun' hk' B' F' X' T' N' hQ hE
                                      have hrl : 600 < recursionLimit := by decide
                                      have hcl : 5000 < cLine := by decide
                                      simp only [depth_caller] at hdp'
                                      simp only [units_caller] at hun'
                                      clear X9
                                      revert X'
                                      k_fill
                                      intro X'
                                      ((refine wpAny_call ?_); k_dflt (refine' kla_code ?q9k1 ?q9k2 ?q9k3 ?q9k4 ?q9k5 ?q9kA ?q9kF ?q9kK ?q9k6 ?q9k7 ?q9k8 ?q9k9 ?q9kB ?_ ?q9c2 ?q9c3 ?q9c4 ?q9c5; (case q9kA => exact rfl); (case q9kF => exact rfl); (case q9kK => first | exact rfl | assumption); (case q9k1 => k_asm); (case q9k2 => k_asm); (case q9k3 => k_asm); (case q9k4 => k_asm); (case q9k5 => k_asm); (case q9k6 => k_mem); (case q9k7 => exact codeRec_news (by k_asm) (by k_mem) (by assumption) (by assumption)); (case q9k8 => ((simp only [depth_under_make, depth_under_kw, depth_in1, depth_deeper, depth_caller]); first | decide | ((try dsimp only [ktrTop]); omega))); (case q9k9 => exact rfl); (case q9c5 => decide); (case q9kB => exact locs rfl); (case q9c2 => exact rfl); (case q9c3 => exact rfl); (case q9c4 => exact rfl); k_whole; intro g' L' h' FG' F' N' B' X' T'; (try dsimp only); (try k_fold)))
                                      k_steps
                                      refine unhalt ?_
                                      rename News _ _ _ _ => N5
                                      rename Obj.IsDictOf _ _ (strPairs [_]) => hfd9
                                      rename (_ == _) = false => hz; clear hz
                                      rename (_ == _) = false => hlo9
                                      replace N5 := regY N5
                                      obtain ⟨b1, b2, b3, b4, b5, b6, b7⟩ := pl_bnd hok (show 1 ≤ 1 + v1 by omega) (by omega) (show 1 ≤ 1 + v2 by omega) (by omega)
                                      k_dflt (refine' ctl_texts ?q9B ?q9F ?q9X ?q9T ?q9hk N5 ?q9hne ?q9hdp ?q9hun ?q9hmac (hLim6.mono ?q9hm2) hMD (hM5.mono ?q9hm3) hs7 (by omega) (hP.mono ?q9hm4) b1 b2 b3 (by omega) b5 (by omega) (by omega) ?q9hvl ?q9hhl ?q9hhp ?q9hfx hfd9 hlo9 ?q9gret ?q9gexc)
                                      (case q9hk => first | exact rfl | assumption); (case q9B => k_asm); (case q9F => k_asm); (case q9X => k_asm); (case q9T => k_asm)
                                      (case q9hne => k_all)
                                      (case q9hdp => ((simp only [depth_under_make, depth_under_kw, depth_in1, depth_deeper, depth_caller]); first | decide | ((try dsimp only [ktrTop]); omega)))
                                      (case q9hun => ((simp only [units_in1, units_deeper, Around.mark_units, units_caller]); first | decide | ((try dsimp only [ktrTop]); omega)))
                                      (case q9hm2 => exact (by intro p hp; repeat (first | exact hp | refine List.mem_cons_of_mem _ ?_))); (case q9hm3 => exact (by intro p hp; repeat (first | exact hp | refine List.mem_cons_of_mem _ ?_))); (case q9hm4 => exact (by intro p hp; repeat (first | exact hp | refine List.mem_cons_of_mem _ ?_)))
                                      (case q9hmac => k_mem)
                                      (case q9hvl => k_mem)
                                      (case q9hhl => k_mem)
                                      (case q9hhp => k_mem)
                                      (case q9hfx => k_mem)
                                      case q9gret =>
                                        intro hfit he r k ok t y1 h' tk' F' N' hd1 hk1 hk2 hk3
                                        have hdd := due_fit hok hc9 (by omega) (by omega) (by omega) (by omega) hs7 hfit he
                                        k_steps
                                        rename News _ _ _ _ => kN9
                                        exact hQ _ _ _ _ (by assumption) (dropY kN9) ⟨r, k, ok, _, t, y1, rfl, by rw [hled], hdd, hd1, hk1, fun p hp => hk2 p (.tail _ (.tail _ (.tail _ (.tail _ (.tail _ (.tail _ (.tail _ (hled ▸ hp)))))))), hk3⟩
                                      case q9gexc =>
                                        intro hq e g₂ h' tk' F' R' U'
                                        have hdd := due_unfit hok hc9 (by omega) (by omega) (by omega) (by omega) hs7 hq
                                        k_steps
                                        exact hE _ _ _ _ led (by assumption) (raisedSub (by assumption) (fun p hp => .tail _ (.tail _ (.tail _ (.tail _ (.tail _ (.tail _ (.tail _ (hled ▸ hp))))))))) (by assumption) ⟨hdd, rfl⟩
                                    case q9retC =>
                                      rintro v h' tk' news' F' N' ⟨r, k, ok, x, t, y1, rfl, rfl, hdd, hd1, hk1, hk2, hk3⟩
                                      rw [hled] at N' hk2
                                      clear N7 N9 F9 hled
                                      repeat (rename ((@LT.lt Addr _ _ _) ∧ _) => hz; clear hz)
                                      exact (by
                                        rename Fr _ _ _ _ => F0
                                        rw [hdd] at F0
                                        dsimp only [toldOf, Option.map, optV] at F0
                                        k_steps
                                        refine unhalt ?_
                                        rename News _ _ _ _ => N5
                                        rename Obj.IsDictOf _ _ (strPairs _) => hd9
                                        rename ((_ == sysModules) = false) => hlo9
                                        k_dflt (refine' tup2_ne (N5 (_, tupO _) (by k_mem)).1 (N5 (_, tupO _) (by k_mem)).1 ?q9u (eqw_dicts N5 (by k_mem) (by k_mem) hd1 hd9 hk3 hlo9 rfl ?q9u2 hits2) eqw_none ?_)
                                        (case q9u => ((simp only [units_in1, units_deeper, Around.mark_units, units_caller]); first | decide | ((try dsimp only [ktrTop]); omega)))
                                        (case q9u2 => ((simp only [units_in1, units_deeper, Around.mark_units, units_caller]); first | decide | ((try dsimp only [ktrTop]); omega)))
                                        replace N5 := newsTail (newsTail (newsTail (newsTail N5)))
                                        clear hd9 hd1 hk1 hk2 hk3 hlo9
                                        repeat (rename ((@LT.lt Addr _ _ _) ∧ _) => hz; clear hz)
                                        repeat (rename (@LT.lt Addr _ _ _) => hz; clear hz)
                                        k_steps
                                        exact (by
                                          refine unhalt ?_
                                          rename World => wW
                                          rename Below _ _ _ _ => B9
                                          rename News _ _ _ _ => N9
                                          rename Fr _ _ _ _ => F9
                                          rename Top _ _ _ _ _ _ => T9
                                          obtain ⟨led, hled, N7⟩ := tie (newsTail (newsTail N9))
                                          k_dflt (refine' heard_v (dueOf (1 + v1) (1 + v2) os' kd) led ?q9q9B ?q9q9F ?q9q9X ?q9q9T ?q9q9hk ?q9q9XB ?q9q9TB ?q9q9N ?q9q9hdp ?q9q9hw ?q9q9workD ?q9q9retD)
                                          (case q9q9hk => first | exact rfl | assumption); (case q9q9B => exact B9); (case q9q9F => exact F9); (case q9q9X => exact X9); (case q9q9T => exact T9); (case q9q9N => exact N9); (case q9q9XB => exact X9); (case q9q9TB => exact T9)
                                          (case q9q9hdp => ((simp only [depth_under_make, depth_under_kw, depth_in1, depth_deeper, depth_caller]); first | decide | ((try dsimp only [ktrTop]); omega)))
                                          (case q9q9hw => k_mem)
                                          case q9q9workD =>
                                            intro dp' un' gd' cn' cs' a' ccd' g L' m' h' tk' A' Q' E' hdp' hun' hk' B' F' X' T' N' hQ hE
                                            have hrl : 600 < recursionLimit := by decide
                                            have hcl : 5000 < cLine := by decide
                                            simp only [depth_caller] at hdp'
                                            simp only [units_caller] at hun'
                                            clear X9
                                            revert X'
                                            k_fill
                                            intro X'
                                            ((refine wpAny_call ?_); k_dflt (refine' kla_code ?q9q9k1 ?q9q9k2 ?q9q9k3 ?q9q9k4 ?q9q9k5 ?q9q9kA ?q9q9kF ?q9q9kK ?q9q9k6 ?q9q9k7 ?q9q9k8 ?q9q9k9 ?q9q9kB ?_ ?q9q9c2 ?q9q9c3 ?q9q9c4 ?q9q9c5; (case q9q9kA => exact rfl); (case q9q9kF => exact rfl); (case q9q9kK => first | exact rfl | assumption); (case q9q9k1 => k_asm); (case q9q9k2 => k_asm); (case q9q9k3 => k_asm); (case q9q9k4 => k_asm); (case q9q9k5 => k_asm); (case q9q9k6 => k_mem); (case q9q9k7 => exact codeRec_news (by k_asm) (by k_mem) (by assumption) (by assumption)); (case q9q9k8 => ((simp only [depth_under_make, depth_under_kw, depth_in1, depth_deeper, depth_caller]); first | decide | ((try dsimp only [ktrTop]); omega))); (case q9q9k9 => exact rfl); (case q9q9c5 => decide); (case q9q9kB => exact locs rfl); (case q9q9c2 => exact rfl); (case q9q9c3 => exact rfl); (case q9q9c4 => exact rfl); k_whole; intro g' L' h' FG' F' N' B' X' T'; (try dsimp only); (try k_fold)))
                                            k_steps
                                            refine unhalt ?_
                                            rename News _ _ _ _ => N5
                                            obtain ⟨b1, b2, b3, b4, b5, b6, b7⟩ := pl_bnd hok (show 1 ≤ 1 + v1 by omega) (by omega) (show 1 ≤ 1 + v2 by omega) (by omega)
                                            obtain ⟨nw, hnw, N4⟩ := tie N5
                                            have hmw : ∀ p ∈ R6, p ∈ nw := by rw [hnw]; exact (by intro p hp; repeat (first | exact hp | refine List.mem_cons_of_mem _ ?_))
                                            have hlw : ∀ p ∈ led, p ∈ nw := by rw [hnw, hled]; exact fun p hp => .tail _ (.tail _ hp)
                                            clear N5
                                            by_cases hfit : plAd (1 + v2) kd + plC (1 + v1) kd * plN (1 + v2) kd ≤ vs'.length
                                            · k_dflt (refine' held_ok ?q9q9B ?q9q9F ?q9q9X ?q9q9T ?q9q9hk N4 ?q9q9hdp (hM5.mono hmw) (by omega) (hP.mono hmw) b1 b2 b3 (by omega) b5 (by omega) hfit ?_)
                                              (case q9q9hk => first | exact rfl | assumption); (case q9q9B => k_asm); (case q9q9F => k_asm); (case q9q9X => k_asm); (case q9q9T => k_asm)
                                              (case q9q9hdp => ((simp only [depth_under_make, depth_under_kw, depth_in1, depth_deeper, depth_caller]); first | decide | ((try dsimp only [ktrTop]); omega)))
                                              intro pl ps c0 ex3 h' tk' F' N' l2 l3 hPl
                                              obtain ⟨md7, es7, nn7, c7, hm1, hm22, hg3, hch⟩ := hM5
                                              have hcc : ((plC (1 + v1) kd).toNat : Int) = plC (1 + v1) kd := Int.toNat_of_nonneg (by omega)
                                              have hm3 : ∀ p ∈ nw, p ∈ (pl, W.listOf ps.toArray c0) :: (ex3 ++ nw) := fun p hp => .tail _ (List.mem_append_right _ hp)
                                              have hPl3 : PlAt ((pl, W.listOf ps.toArray c0) :: (ex3 ++ nw)) ps (plAd (1 + v2) kd) (plN (1 + v2) kd) (plC (1 + v1) kd).toNat := hPl.mono fun p hp => .tail _ (List.mem_append_left _ hp)
                                              have hpl3 : (pl, W.listOf ps.toArray c0) ∈ (pl, W.listOf ps.toArray c0) :: (ex3 ++ nw) := .head _
                                              generalize (pl, W.listOf ps.toArray c0) :: (ex3 ++ nw) = nw3 at N' hm3 hPl3 hpl3
                                              k_steps
                                              refine unhalt ?_
                                              k_dflt (refine' lead1 ?q9q9B ?q9q9F ?q9q9X ?q9q9T ?q9q9hk ?q9q9N ?q9q9hdp ?q9q9hun (hm3 _ (hmw _ hm1)) (hm3 _ (hmw _ hm22)) hg3 (hm3 _ (hmw _ hch)) hs7 (by omega) hpl3 hPl3 b5 (by rw [hcc]; exact hfit) b3 ⟨?_, ?_⟩)
                                              (case q9q9hk => first | exact rfl | assumption); (case q9q9B => k_asm); (case q9q9F => k_asm); (case q9q9X => k_asm); (case q9q9T => k_asm); (case q9q9N => k_asm)
                                              (case q9q9hdp => ((simp only [depth_under_make, depth_under_kw, depth_in1, depth_deeper, depth_caller]); first | decide | ((try dsimp only [ktrTop]); omega)))
                                              (case q9q9hun => ((simp only [units_in1, units_deeper, Around.mark_units, units_caller]); first | decide | ((try dsimp only [ktrTop]); omega)))
                                              · intro he e g₂ h' tk' F' R' U'
                                                have hdn : dueOf (1 + v1) (1 + v2) os' kd = none := due_unfit hok hc9 (by omega) (by omega) (by omega) (by omega) hs7 (fun q => by rw [he] at q; exact Bool.noConfusion q.2)
                                                k_steps
                                                exact hE _ _ _ _ led (by assumption) (raisedSub (by assumption) (fun p hp => hm3 p (hlw p hp))) (by assumption) ⟨hdn, rfl⟩
                                              · intro he t h' tk' F' N'
                                                have hdf : dueOf (1 + v1) (1 + v2) os' kd = _ := due_fit hok hc9 (by omega) (by omega) (by omega) (by omega) hs7 hfit he
                                                k_steps
                                                rename News _ _ _ _ => kN9
                                                exact hQ _ _ _ _ (by assumption) (newsSub kN9 (fun p hp => hm3 p (hlw p hp))) ⟨⟨t, by rw [hdf]; rfl⟩, rfl⟩
                                            · k_dflt (refine' held_bad ?q9q9B ?q9q9F ?q9q9X ?q9q9T ?q9q9hk N4 ?q9q9hdp (hM5.mono hmw) (by omega) (hP.mono hmw) b1 b2 b3 (by omega) b5 (by omega) hfit (by omega) ?_)
                                              (case q9q9hk => first | exact rfl | assumption); (case q9q9B => k_asm); (case q9q9F => k_asm); (case q9q9X => k_asm); (case q9q9T => k_asm)
                                              (case q9q9hdp => ((simp only [depth_under_make, depth_under_kw, depth_in1, depth_deeper, depth_caller]); first | decide | ((try dsimp only [ktrTop]); omega)))
                                              intro e g₂ h' tk' F' R' U'
                                              have hdn : dueOf (1 + v1) (1 + v2) os' kd = none := due_unfit hok hc9 (by omega) (by omega) (by omega) (by omega) hs7 (fun q => hfit q.1)
                                              k_steps
                                              exact hE _ _ _ _ led (by assumption) (raisedSub (by assumption) hlw) (by assumption) ⟨hdn, rfl⟩
                                          case q9q9retD =>
                                            intro t h' tk' F' N'
                                            rw [hled] at N'
                                            rw [hdd]
                                            dsimp only [optV]
                                            clear N7 N9 F9 hled
                                            repeat (rename ((@LT.lt Addr _ _ _) ∧ _) => hz; clear hz)
                                            repeat (rename (@LT.lt Addr _ _ _) => hz; clear hz)
                                            obtain ⟨md7, es7, nn7, c7, hm1, hm22, hg3, hch⟩ := hM5
                                            k_steps))
                                    case q9retY =>
                                      rintro h' tk' news' F' N' ⟨hdd, rfl⟩
                                      rw [hled] at N'
                                      clear N7 N9 F9 hled
                                      repeat (rename ((@LT.lt Addr _ _ _) ∧ _) => hz; clear hz)
                                      repeat (rename (@LT.lt Addr _ _ _) => hz; clear hz)
                                      exact (by
                                        rename Fr _ _ _ _ => F0
                                        rw [hdd] at F0
                                        dsimp only [toldOf, Option.map, optV] at F0
                                        k_steps
                                        exact (by
                                          refine unhalt ?_
                                          rename World => wW
                                          rename Below _ _ _ _ => B9
                                          rename News _ _ _ _ => N9
                                          rename Fr _ _ _ _ => F9
                                          rename Top _ _ _ _ _ _ => T9
                                          obtain ⟨led, hled, N7⟩ := tie (newsTail (newsTail N9))
                                          k_dflt (refine' heard_v (dueOf (1 + v1) (1 + v2) os' kd) led ?q9q9B ?q9q9F ?q9q9X ?q9q9T ?q9q9hk ?q9q9XB ?q9q9TB ?q9q9N ?q9q9hdp ?q9q9hw ?q9q9workD ?q9q9retD)
                                          (case q9q9hk => first | exact rfl | assumption); (case q9q9B => exact B9); (case q9q9F => exact F9); (case q9q9X => exact X9); (case q9q9T => exact T9); (case q9q9N => exact N9); (case q9q9XB => exact X9); (case q9q9TB => exact T9)
                                          (case q9q9hdp => ((simp only [depth_under_make, depth_under_kw, depth_in1, depth_deeper, depth_caller]); first | decide | ((try dsimp only [ktrTop]); omega)))
                                          (case q9q9hw => k_mem)
                                          case q9q9workD =>
                                            intro dp' un' gd' cn' cs' a' ccd' g L' m' h' tk' A' Q' E' hdp' hun' hk' B' F' X' T' N' hQ hE
                                            have hrl : 600 < recursionLimit := by decide
                                            have hcl : 5000 < cLine := by decide
                                            simp only [depth_caller] at hdp'
                                            simp only [units_caller] at hun'
                                            clear X9
                                            revert X'
                                            k_fill
                                            intro X'
                                            ((refine wpAny_call ?_); k_dflt (refine' kla_code ?q9q9k1 ?q9q9k2 ?q9q9k3 ?q9q9k4 ?q9q9k5 ?q9q9kA ?q9q9kF ?q9q9kK ?q9q9k6 ?q9q9k7 ?q9q9k8 ?q9q9k9 ?q9q9kB ?_ ?q9q9c2 ?q9q9c3 ?q9q9c4 ?q9q9c5; (case q9q9kA => exact rfl); (case q9q9kF => exact rfl); (case q9q9kK => first | exact rfl | assumption); (case q9q9k1 => k_asm); (case q9q9k2 => k_asm); (case q9q9k3 => k_asm); (case q9q9k4 => k_asm); (case q9q9k5 => k_asm); (case q9q9k6 => k_mem); (case q9q9k7 => exact codeRec_news (by k_asm) (by k_mem) (by assumption) (by assumption)); (case q9q9k8 => ((simp only [depth_under_make, depth_under_kw, depth_in1, depth_deeper, depth_caller]); first | decide | ((try dsimp only [ktrTop]); omega))); (case q9q9k9 => exact rfl); (case q9q9c5 => decide); (case q9q9kB => exact locs rfl); (case q9q9c2 => exact rfl); (case q9q9c3 => exact rfl); (case q9q9c4 => exact rfl); k_whole; intro g' L' h' FG' F' N' B' X' T'; (try dsimp only); (try k_fold)))
                                            k_steps
                                            refine unhalt ?_
                                            rename News _ _ _ _ => N5
                                            obtain ⟨b1, b2, b3, b4, b5, b6, b7⟩ := pl_bnd hok (show 1 ≤ 1 + v1 by omega) (by omega) (show 1 ≤ 1 + v2 by omega) (by omega)
                                            obtain ⟨nw, hnw, N4⟩ := tie N5
                                            have hmw : ∀ p ∈ R6, p ∈ nw := by rw [hnw]; exact (by intro p hp; repeat (first | exact hp | refine List.mem_cons_of_mem _ ?_))
                                            have hlw : ∀ p ∈ led, p ∈ nw := by rw [hnw, hled]; exact fun p hp => .tail _ (.tail _ hp)
                                            clear N5
                                            by_cases hfit : plAd (1 + v2) kd + plC (1 + v1) kd * plN (1 + v2) kd ≤ vs'.length
                                            · k_dflt (refine' held_ok ?q9q9B ?q9q9F ?q9q9X ?q9q9T ?q9q9hk N4 ?q9q9hdp (hM5.mono hmw) (by omega) (hP.mono hmw) b1 b2 b3 (by omega) b5 (by omega) hfit ?_)
                                              (case q9q9hk => first | exact rfl | assumption); (case q9q9B => k_asm); (case q9q9F => k_asm); (case q9q9X => k_asm); (case q9q9T => k_asm)
                                              (case q9q9hdp => ((simp only [depth_under_make, depth_under_kw, depth_in1, depth_deeper, depth_caller]); first | decide | ((try dsimp only [ktrTop]); omega)))
                                              intro pl ps c0 ex3 h' tk' F' N' l2 l3 hPl
                                              obtain ⟨md7, es7, nn7, c7, hm1, hm22, hg3, hch⟩ := hM5
                                              have hcc : ((plC (1 + v1) kd).toNat : Int) = plC (1 + v1) kd := Int.toNat_of_nonneg (by omega)
                                              have hm3 : ∀ p ∈ nw, p ∈ (pl, W.listOf ps.toArray c0) :: (ex3 ++ nw) := fun p hp => .tail _ (List.mem_append_right _ hp)
                                              have hPl3 : PlAt ((pl, W.listOf ps.toArray c0) :: (ex3 ++ nw)) ps (plAd (1 + v2) kd) (plN (1 + v2) kd) (plC (1 + v1) kd).toNat := hPl.mono fun p hp => .tail _ (List.mem_append_left _ hp)
                                              have hpl3 : (pl, W.listOf ps.toArray c0) ∈ (pl, W.listOf ps.toArray c0) :: (ex3 ++ nw) := .head _
                                              generalize (pl, W.listOf ps.toArray c0) :: (ex3 ++ nw) = nw3 at N' hm3 hPl3 hpl3
                                              k_steps
                                              refine unhalt ?_
                                              k_dflt (refine' lead1 ?q9q9B ?q9q9F ?q9q9X ?q9q9T ?q9q9hk ?q9q9N ?q9q9hdp ?q9q9hun (hm3 _ (hmw _ hm1)) (hm3 _ (hmw _ hm22)) hg3 (hm3 _ (hmw _ hch)) hs7 (by omega) hpl3 hPl3 b5 (by rw [hcc]; exact hfit) b3 ⟨?_, ?_⟩)
                                              (case q9q9hk => first | exact rfl | assumption); (case q9q9B => k_asm); (case q9q9F => k_asm); (case q9q9X => k_asm); (case q9q9T => k_asm); (case q9q9N => k_asm)
                                              (case q9q9hdp => ((simp only [depth_under_make, depth_under_kw, depth_in1, depth_deeper, depth_caller]); first | decide | ((try dsimp only [ktrTop]); omega)))
                                              (case q9q9hun => ((simp only [units_in1, units_deeper, Around.mark_units, units_caller]); first | decide | ((try dsimp only [ktrTop]); omega)))
                                              · intro he e g₂ h' tk' F' R' U'
                                                have hdn : dueOf (1 + v1) (1 + v2) os' kd = none := due_unfit hok hc9 (by omega) (by omega) (by omega) (by omega) hs7 (fun q => by rw [he] at q; exact Bool.noConfusion q.2)
                                                k_steps
                                                exact hE _ _ _ _ led (by assumption) (raisedSub (by assumption) (fun p hp => hm3 p (hlw p hp))) (by assumption) ⟨hdn, rfl⟩
                                              · intro he t h' tk' F' N'
                                                have hdf : dueOf (1 + v1) (1 + v2) os' kd = _ := due_fit hok hc9 (by omega) (by omega) (by omega) (by omega) hs7 hfit he
                                                k_steps
                                                rename News _ _ _ _ => kN9
                                                exact hQ _ _ _ _ (by assumption) (newsSub kN9 (fun p hp => hm3 p (hlw p hp))) ⟨⟨t, by rw [hdf]; rfl⟩, rfl⟩
                                            · k_dflt (refine' held_bad ?q9q9B ?q9q9F ?q9q9X ?q9q9T ?q9q9hk N4 ?q9q9hdp (hM5.mono hmw) (by omega) (hP.mono hmw) b1 b2 b3 (by omega) b5 (by omega) hfit (by omega) ?_)
                                              (case q9q9hk => first | exact rfl | assumption); (case q9q9B => k_asm); (case q9q9F => k_asm); (case q9q9X => k_asm); (case q9q9T => k_asm)
                                              (case q9q9hdp => ((simp only [depth_under_make, depth_under_kw, depth_in1, depth_deeper, depth_caller]); first | decide | ((try dsimp only [ktrTop]); omega)))
                                              intro e g₂ h' tk' F' R' U'
                                              have hdn : dueOf (1 + v1) (1 + v2) os' kd = none := due_unfit hok hc9 (by omega) (by omega) (by omega) (by omega) hs7 (fun q => hfit q.1)
                                              k_steps
                                              exact hE _ _ _ _ led (by assumption) (raisedSub (by assumption) hlw) (by assumption) ⟨hdn, rfl⟩
                                          case q9q9retD =>
                                            intro t h' tk' F' N'
                                            rw [hled] at N'
                                            rw [hdd]
                                            dsimp only [optV]
                                            clear N7 N9 F9 hled
                                            repeat (rename ((@LT.lt Addr _ _ _) ∧ _) => hz; clear hz)
                                            repeat (rename (@LT.lt Addr _ _ _) => hz; clear hz)
                                            obtain ⟨md7, es7, nn7, c7, hm1, hm22, hg3, hch⟩ := hM5
                                            k_steps))))))
                      case q9retX =>
                        rintro h' tk' news' F' N' ⟨hok, rfl⟩
                        rw [hled] at N'
                        replace N' := newsTail (newsTail N')
                        clear N8 N9 F9 hmR hrd9 hPF5 hPG5 hled
                        repeat (rename ((@LT.lt Addr _ _ _) ∧ _) => hz; clear hz)
                        repeat (rename (@LT.lt Addr _ _ _) => hz; clear hz)
                        exact (by
                          rename Fr _ _ _ _ => F0
                          rw [dueAll_of hc9, due_none hok] at F0
                          dsimp only [optV] at F0
                          k_steps
                          refine unhalt ?_
                          rename Fr _ _ _ _ => F9
                          rename News _ _ _ _ => N9
                          refine told_start none F9 N9 ?_ ?_
                          · k_steps
                            all_goals exact ⟨_, _, 0, rfl, rfl, by assumption, by assumption⟩
                          · intro h' tk t' F8 N8
                            dsimp only [toldOf, Option.map, optV]
                            k_steps
                            exact (by
                              refine unhalt ?_
                              rename Below _ _ _ _ => B9
                              rename News _ _ _ _ => N9
                              rename Fr _ _ _ _ => F9
                              rename Top _ _ _ _ _ _ => T9
                              obtain ⟨led, hled, N7⟩ := tie (newsTail (regV N9))
                              k_dflt (refine' heard_v (toldOf (dueOf (1 + v1) (1 + v2) os' kd)) led ?q9q9B ?q9q9F ?q9q9X ?q9q9T ?q9q9hk ?q9q9XB ?q9q9TB ?q9q9N ?q9q9hdp ?q9q9hw ?q9q9workB ?q9q9retB)
                              (case q9q9hk => first | exact rfl | assumption); (case q9q9B => exact B9); (case q9q9F => exact F9); (case q9q9X => exact X9); (case q9q9T => exact T9); (case q9q9N => exact N9); (case q9q9XB => exact X9); (case q9q9TB => exact T9)
                              (case q9q9hdp => ((simp only [depth_under_make, depth_under_kw, depth_in1, depth_deeper, depth_caller]); first | decide | ((try dsimp only [ktrTop]); omega)))
                              (case q9q9hw => k_mem)
                              case q9q9workB =>
                                intro dp' un' gd' cn' cs' a' ccd' g L' m' h' tk' A' Q' E' hdp' hun' hk' B' F' X' T' N' hQ hE
                                have hrl : 600 < recursionLimit := by decide
                                have hcl : 5000 < cLine := by decide
                                simp only [depth_caller] at hdp'
                                simp only [units_caller] at hun'
                                clear X9
                                revert X'
                                k_fill
                                intro X'
                                ((refine wpAny_call ?_); k_dflt (refine' kla_code ?q9q9k1 ?q9q9k2 ?q9q9k3 ?q9q9k4 ?q9q9k5 ?q9q9kA ?q9q9kF ?q9q9kK ?q9q9k6 ?q9q9k7 ?q9q9k8 ?q9q9k9 ?q9q9kB ?_ ?q9q9c2 ?q9q9c3 ?q9q9c4 ?q9q9c5; (case q9q9kA => exact rfl); (case q9q9kF => exact rfl); (case q9q9kK => first | exact rfl | assumption); (case q9q9k1 => k_asm); (case q9q9k2 => k_asm); (case q9q9k3 => k_asm); (case q9q9k4 => k_asm); (case q9q9k5 => k_asm); (case q9q9k6 => k_mem); (case q9q9k7 => exact codeRec_news (by k_asm) (by k_mem) (by assumption) (by assumption)); (case q9q9k8 => ((simp only [depth_under_make, depth_under_kw, depth_in1, depth_deeper, depth_caller]); first | decide | ((try dsimp only [ktrTop]); omega))); (case q9q9k9 => exact rfl); (case q9q9c5 => decide); (case q9q9kB => exact locs rfl); (case q9q9c2 => exact rfl); (case q9q9c3 => exact rfl); (case q9q9c4 => exact rfl); k_whole; intro g' L' h' FG' F' N' B' X' T'; (try dsimp only); (try k_fold)))
                                k_steps
                                refine unhalt ?_
                                rename News _ _ _ _ => N5
                                replace N5 := regV N5
                                have hrun6 := (List.mem_cons.mp hFr5.h_run).resolve_left (fun q => by cases (Prod.mk.inj q).2)
                                k_dflt (refine' fv_c ?q9q9B ?q9q9F ?q9q9X ?q9q9T ?q9q9hk N5 ?q9q9hne ?q9q9hdp ?q9q9hun (hFr5.mono (consMono ?q9q9hm)) ?q9q9hrun (hLim5.mono ?q9q9hm2) hRD (hM5.mono ?q9q9hm3) hs7 (by omega) (hT5.mono ?q9q9hm4) hc9 (by omega) (by omega) (by omega) (by omega) ?q9q9gret ?q9q9gexc)
                                (case q9q9hk => first | exact rfl | assumption); (case q9q9B => k_asm); (case q9q9F => k_asm); (case q9q9X => k_asm); (case q9q9T => k_asm)
                                (case q9q9hne => k_all)
                                (case q9q9hdp => ((simp only [depth_under_make, depth_under_kw, depth_in1, depth_deeper, depth_caller]); first | decide | ((try dsimp only [ktrTop]); omega)))
                                (case q9q9hun => ((simp only [units_in1, units_deeper, Around.mark_units, units_caller]); first | decide | ((try dsimp only [ktrTop]); omega)))
                                (case q9q9hm => exact (by intro p hp; repeat (first | exact hp | refine List.mem_cons_of_mem _ ?_))); (case q9q9hm2 => exact (by intro p hp; repeat (first | exact hp | refine List.mem_cons_of_mem _ ?_))); (case q9q9hm3 => exact (by intro p hp; repeat (first | exact hp | refine List.mem_cons_of_mem _ ?_))); (case q9q9hm4 => exact (by intro p hp; repeat (first | exact hp | refine List.mem_cons_of_mem _ ?_)))
                                (case q9q9hrun => k_mem)
                                case q9q9gret =>
                                  intro t hdd t' h' tk' F' N'
                                  k_steps
                                  rename News _ _ _ _ => kN9
                                  exact hQ _ _ _ _ (by assumption) kN9 ⟨⟨t', by rw [hdd]; rfl⟩, hled.symm⟩
                                case q9q9gexc =>
                                  intro hdd e g₂ h' tk' F' R' U'
                                  k_steps
                                  exact hE _ _ _ _ _ (by assumption) (by assumption) (by assumption) ⟨by rw [hdd]; rfl, hled.symm⟩
                              case q9q9retB =>
                                intro t h' tk' F' N'
                                rw [hled] at N'
                                replace N' := newsTail (newsTail N')
                                clear N7 N9 F9 hled
                                repeat (rename ((@LT.lt Addr _ _ _) ∧ _) => hz; clear hz)
                                repeat (rename (@LT.lt Addr _ _ _) => hz; clear hz)
                            
                                rw [due_none hok]
                                dsimp only [toldOf, Option.map, optV]
                                k_steps)))))))))))
end
end
end Mine
set_option maxRecDepth 100000 in
set_option maxHeartbeats 8000000 in
theorem PySem.Challenge.cw_rh0120_01_holds : PySem.Challenge.rw_rh0120_01.Holds := by
  exact Mine.law0
