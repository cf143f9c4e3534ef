import PyProof.Rows.All
import Wide.All
import OpenK.AllK
import Wide.FinOn
import Lean
import PySem.Challenge.RW_nu0185_01
open PySem PySem.W PyProof.Rows PySem.Challenge
set_option Elab.async false
set_option maxRecDepth 100000
set_option maxHeartbeats 8000000
set_option linter.all false
namespace Mine
section
local macro_rules | `(tactic| o_head $_:term)=>`(tactic| skip)
theorem hd (h : rw_nu0185_01.row.Holds) : rw_nu0185_01.row.Holds:=by
 k_head
 exact h
end
section NZ
section
variable {x v a b c d e M : Nat}
theorem zr0 (h : x + d < M) : x < M:=Nat.lt_of_le_of_lt (Nat.le_add_right _ _) h
theorem zr1 (h : x + d < M) (q : Nat.ble a d = true) : x + a < M:=Nat.lt_of_le_of_lt (Nat.add_le_add_left (Nat.le_of_ble_eq_true q) x) h
theorem zr2 (h : x + d < M) (q : Nat.ble (a + b) d = true) : x + a + b < M:=by rw [Nat.add_assoc];exact zr1 h q
theorem zr3 (h : x + d < M) (q : Nat.ble (a + b + c) d = true) : x + a + b + c < M:=by rw [Nat.add_assoc x];exact zr2 h q
theorem zlt (h : v < a) (q : Nat.ble a b = true) : v < b:=Nat.lt_of_lt_of_le h (Nat.le_of_ble_eq_true q)
theorem zle (h : v < a) (q : Nat.ble a (b + 1) = true) : v ≤ b:=Nat.le_of_lt_succ (zlt h q)
theorem zlt' (h : v ≤ a) (q : Nat.ble (a + 1) b = true) : v < b:=zlt (Nat.lt_succ_of_le h) q
theorem zle' (h : v ≤ a) (q : Nat.ble a b = true) : v ≤ b:=Nat.le_trans h (Nat.le_of_ble_eq_true q)
theorem zal (h : v < a) (q : Nat.ble (a + c) b = true) : v + c < b:=Nat.lt_of_lt_of_le (Nat.add_lt_add_right h c) (Nat.le_of_ble_eq_true q)
theorem zae (h : v < a) (q : Nat.ble (a + c) (b + 1) = true) : v + c ≤ b:=Nat.le_of_lt_succ (zal h q)
theorem zt (h2 : c < b) (h1 : a < c) : a < b:=Nat.lt_trans h1 h2
theorem zn (h : a < b) : a ≠ b:=Nat.ne_of_lt h
theorem zm (h : b < a) : a ≠ b:=Nat.ne_of_gt h
end
section
variable {x v a b c : Int}
theorem zilt (h : v < a) (q : decide (a ≤ b) = true) : v < b:=Int.lt_of_lt_of_le h (of_decide_eq_true q)
theorem zi2 (h : 0 ≤ v∧v < a) (q : decide (a ≤ b) = true) : v < b:=Int.lt_of_lt_of_le h.2 (of_decide_eq_true q)
theorem zip {n : Nat} (h : 0 ≤ v) : 0 ≤ v + (@OfNat.ofNat Int n _):=Int.add_nonneg h (Int.natCast_nonneg n)
theorem zip2 {n k : Nat} (h : 0 ≤ v) : 0 ≤ v + (@OfNat.ofNat Int n _) + (@OfNat.ofNat Int k _):=zip (zip h)
end
section
variable {p a1 a2 a3 a4 a5 a6 a7 a8 a9 a10 a11 : Prop}
theorem zq0 (h : p∧a1) : p:=h.1
theorem zq1 (h : a1∧p∧a2) : p:=h.2.1
theorem zq2 (h : a1∧a2∧p∧a3) : p:=h.2.2.1
theorem zq3 (h : a1∧a2∧a3∧p∧a4) : p:=h.2.2.2.1
theorem zq4 (h : a1∧a2∧a3∧a4∧p∧a5) : p:=h.2.2.2.2.1
theorem zq5 (h : a1∧a2∧a3∧a4∧a5∧p∧a6) : p:=h.2.2.2.2.2.1
theorem zq6 (h : a1∧a2∧a3∧a4∧a5∧a6∧p∧a7) : p:=h.2.2.2.2.2.2.1
theorem zq7 (h : a1∧a2∧a3∧a4∧a5∧a6∧a7∧p∧a8) : p:=h.2.2.2.2.2.2.2.1
theorem zq8 (h : a1∧a2∧a3∧a4∧a5∧a6∧a7∧a8∧p∧a9) : p:=h.2.2.2.2.2.2.2.2.1
theorem zq9 (h : a1∧a2∧a3∧a4∧a5∧a6∧a7∧a8∧a9∧p∧a10) : p:=h.2.2.2.2.2.2.2.2.2.1
theorem zt1 (h : a1∧p) : p:=h.2
theorem zt2 (h : a1∧a2∧p) : p:=h.2.2
theorem zt3 (h : a1∧a2∧a3∧p) : p:=h.2.2.2
theorem zt4 (h : a1∧a2∧a3∧a4∧p) : p:=h.2.2.2.2
theorem zt5 (h : a1∧a2∧a3∧a4∧a5∧p) : p:=h.2.2.2.2.2
theorem zt6 (h : a1∧a2∧a3∧a4∧a5∧a6∧p) : p:=h.2.2.2.2.2.2
theorem zt7 (h : a1∧a2∧a3∧a4∧a5∧a6∧a7∧p) : p:=h.2.2.2.2.2.2.2
theorem zu00 (h : (p∧a1)∧a2) : p:=h.1.1
theorem zu01 (h : (a1∧p)∧a2) : p:=h.1.2
theorem zu02 (h : (a1∧p∧a3)∧a2) : p:=h.1.2.1
theorem zu03 (h : (a1∧a3∧p)∧a2) : p:=h.1.2.2
theorem zu10 (h : a1∧(p∧a2)∧a3) : p:=h.2.1.1
theorem zu11 (h : a1∧(a2∧p)∧a3) : p:=h.2.1.2
theorem zu12 (h : a1∧(a2∧p∧a4)∧a3) : p:=h.2.1.2.1
theorem zu13 (h : a1∧(a2∧a4∧p)∧a3) : p:=h.2.1.2.2
end
theorem two_of {α : Type} {l : List α} (h : l.length = 2) : ∃ a b,l = [a,b]:=by
 cases l with
 | nil=>exact absurd h (by simp)
 | cons a l=>cases l with
  | nil=>exact absurd h (by simp)
  | cons b l=>cases l with
   | nil=>exact ⟨a,b,rfl⟩
   | cons c l=>exact absurd h (by simp)
section
universe u
variable {C : Prop}
theorem ex1 {α1 : Sort u1} {P : α1→Prop} (h : ∃ a1,P a1) (k : ∀ a1,P a1→C) : C:=by
 obtain ⟨a1,h⟩:=h
 exact k a1 h
theorem ex2 {α1 : Sort u1} {α2 : Sort u2} {P : α1→α2→Prop} (h : ∃ a1 a2,P a1 a2) (k : ∀ a1 a2,P a1 a2→C) : C:=by
 obtain ⟨a1,a2,h⟩:=h
 exact k a1 a2 h
theorem ex3 {α1 : Sort u1} {α2 : Sort u2} {α3 : Sort u3} {P : α1→α2→α3→Prop} (h : ∃ a1 a2 a3,P a1 a2 a3) (k : ∀ a1 a2 a3,P a1 a2 a3→C) : C:=by
 obtain ⟨a1,a2,a3,h⟩:=h
 exact k a1 a2 a3 h
theorem ex4 {α1 : Sort u1} {α2 : Sort u2} {α3 : Sort u3} {α4 : Sort u4} {P : α1→α2→α3→α4→Prop} (h : ∃ a1 a2 a3 a4,P a1 a2 a3 a4) (k : ∀ a1 a2 a3 a4,P a1 a2 a3 a4→C) : C:=by
 obtain ⟨a1,a2,a3,a4,h⟩:=h
 exact k a1 a2 a3 a4 h
theorem ex5 {α1 : Sort u1} {α2 : Sort u2} {α3 : Sort u3} {α4 : Sort u4} {α5 : Sort u5} {P : α1→α2→α3→α4→α5→Prop} (h : ∃ a1 a2 a3 a4 a5,P a1 a2 a3 a4 a5) (k : ∀ a1 a2 a3 a4 a5,P a1 a2 a3 a4 a5→C) : C:=by
 obtain ⟨a1,a2,a3,a4,a5,h⟩:=h
 exact k a1 a2 a3 a4 a5 h
theorem ex6 {α1 : Sort u1} {α2 : Sort u2} {α3 : Sort u3} {α4 : Sort u4} {α5 : Sort u5} {α6 : Sort u6} {P : α1→α2→α3→α4→α5→α6→Prop} (h : ∃ a1 a2 a3 a4 a5 a6,P a1 a2 a3 a4 a5 a6) (k : ∀ a1 a2 a3 a4 a5 a6,P a1 a2 a3 a4 a5 a6→C) : C:=by
 obtain ⟨a1,a2,a3,a4,a5,a6,h⟩:=h
 exact k a1 a2 a3 a4 a5 a6 h
theorem ex7 {α1 : Sort u1} {α2 : Sort u2} {α3 : Sort u3} {α4 : Sort u4} {α5 : Sort u5} {α6 : Sort u6} {α7 : Sort u7} {P : α1→α2→α3→α4→α5→α6→α7→Prop} (h : ∃ a1 a2 a3 a4 a5 a6 a7,P a1 a2 a3 a4 a5 a6 a7) (k : ∀ a1 a2 a3 a4 a5 a6 a7,P a1 a2 a3 a4 a5 a6 a7→C) : C:=by
 obtain ⟨a1,a2,a3,a4,a5,a6,a7,h⟩:=h
 exact k a1 a2 a3 a4 a5 a6 a7 h
theorem ex8 {α1 : Sort u1} {α2 : Sort u2} {α3 : Sort u3} {α4 : Sort u4} {α5 : Sort u5} {α6 : Sort u6} {α7 : Sort u7} {α8 : Sort u8} {P : α1→α2→α3→α4→α5→α6→α7→α8→Prop} (h : ∃ a1 a2 a3 a4 a5 a6 a7 a8,P a1 a2 a3 a4 a5 a6 a7 a8) (k : ∀ a1 a2 a3 a4 a5 a6 a7 a8,P a1 a2 a3 a4 a5 a6 a7 a8→C) : C:=by
 obtain ⟨a1,a2,a3,a4,a5,a6,a7,a8,h⟩:=h
 exact k a1 a2 a3 a4 a5 a6 a7 a8 h
theorem ex9 {α1 : Sort u1} {α2 : Sort u2} {α3 : Sort u3} {α4 : Sort u4} {α5 : Sort u5} {α6 : Sort u6} {α7 : Sort u7} {α8 : Sort u8} {α9 : Sort u9} {P : α1→α2→α3→α4→α5→α6→α7→α8→α9→Prop} (h : ∃ a1 a2 a3 a4 a5 a6 a7 a8 a9,P a1 a2 a3 a4 a5 a6 a7 a8 a9) (k : ∀ a1 a2 a3 a4 a5 a6 a7 a8 a9,P a1 a2 a3 a4 a5 a6 a7 a8 a9→C) : C:=by
 obtain ⟨a1,a2,a3,a4,a5,a6,a7,a8,a9,h⟩:=h
 exact k a1 a2 a3 a4 a5 a6 a7 a8 a9 h
theorem ex10 {α1 : Sort u1} {α2 : Sort u2} {α3 : Sort u3} {α4 : Sort u4} {α5 : Sort u5} {α6 : Sort u6} {α7 : Sort u7} {α8 : Sort u8} {α9 : Sort u9} {α10 : Sort u10} {P : α1→α2→α3→α4→α5→α6→α7→α8→α9→α10→Prop} (h : ∃ a1 a2 a3 a4 a5 a6 a7 a8 a9 a10,P a1 a2 a3 a4 a5 a6 a7 a8 a9 a10) (k : ∀ a1 a2 a3 a4 a5 a6 a7 a8 a9 a10,P a1 a2 a3 a4 a5 a6 a7 a8 a9 a10→C) : C:=by
 obtain ⟨a1,a2,a3,a4,a5,a6,a7,a8,a9,a10,h⟩:=h
 exact k a1 a2 a3 a4 a5 a6 a7 a8 a9 a10 h
theorem ei2 {α1 : Sort u1} {α2 : Sort u2} {P : α1→α2→Prop} (a1 : α1) (a2 : α2) (h : P a1 a2) : ∃ a1 a2,P a1 a2:=⟨a1,a2,h⟩
theorem ei3 {α1 : Sort u1} {α2 : Sort u2} {α3 : Sort u3} {P : α1→α2→α3→Prop} (a1 : α1) (a2 : α2) (a3 : α3) (h : P a1 a2 a3) : ∃ a1 a2 a3,P a1 a2 a3:=⟨a1,a2,a3,h⟩
theorem ei4 {α1 : Sort u1} {α2 : Sort u2} {α3 : Sort u3} {α4 : Sort u4} {P : α1→α2→α3→α4→Prop} (a1 : α1) (a2 : α2) (a3 : α3) (a4 : α4) (h : P a1 a2 a3 a4) : ∃ a1 a2 a3 a4,P a1 a2 a3 a4:=⟨a1,a2,a3,a4,h⟩
theorem ei5 {α1 : Sort u1} {α2 : Sort u2} {α3 : Sort u3} {α4 : Sort u4} {α5 : Sort u5} {P : α1→α2→α3→α4→α5→Prop} (a1 : α1) (a2 : α2) (a3 : α3) (a4 : α4) (a5 : α5) (h : P a1 a2 a3 a4 a5) : ∃ a1 a2 a3 a4 a5,P a1 a2 a3 a4 a5:=⟨a1,a2,a3,a4,a5,h⟩
theorem ei6 {α1 : Sort u1} {α2 : Sort u2} {α3 : Sort u3} {α4 : Sort u4} {α5 : Sort u5} {α6 : Sort u6} {P : α1→α2→α3→α4→α5→α6→Prop} (a1 : α1) (a2 : α2) (a3 : α3) (a4 : α4) (a5 : α5) (a6 : α6) (h : P a1 a2 a3 a4 a5 a6) : ∃ a1 a2 a3 a4 a5 a6,P a1 a2 a3 a4 a5 a6:=⟨a1,a2,a3,a4,a5,a6,h⟩
theorem ei7 {α1 : Sort u1} {α2 : Sort u2} {α3 : Sort u3} {α4 : Sort u4} {α5 : Sort u5} {α6 : Sort u6} {α7 : Sort u7} {P : α1→α2→α3→α4→α5→α6→α7→Prop} (a1 : α1) (a2 : α2) (a3 : α3) (a4 : α4) (a5 : α5) (a6 : α6) (a7 : α7) (h : P a1 a2 a3 a4 a5 a6 a7) : ∃ a1 a2 a3 a4 a5 a6 a7,P a1 a2 a3 a4 a5 a6 a7:=⟨a1,a2,a3,a4,a5,a6,a7,h⟩
theorem ei8 {α1 : Sort u1} {α2 : Sort u2} {α3 : Sort u3} {α4 : Sort u4} {α5 : Sort u5} {α6 : Sort u6} {α7 : Sort u7} {α8 : Sort u8} {P : α1→α2→α3→α4→α5→α6→α7→α8→Prop} (a1 : α1) (a2 : α2) (a3 : α3) (a4 : α4) (a5 : α5) (a6 : α6) (a7 : α7) (a8 : α8) (h : P a1 a2 a3 a4 a5 a6 a7 a8) : ∃ a1 a2 a3 a4 a5 a6 a7 a8,P a1 a2 a3 a4 a5 a6 a7 a8:=⟨a1,a2,a3,a4,a5,a6,a7,a8,h⟩
theorem ei9 {α1 : Sort u1} {α2 : Sort u2} {α3 : Sort u3} {α4 : Sort u4} {α5 : Sort u5} {α6 : Sort u6} {α7 : Sort u7} {α8 : Sort u8} {α9 : Sort u9} {P : α1→α2→α3→α4→α5→α6→α7→α8→α9→Prop} (a1 : α1) (a2 : α2) (a3 : α3) (a4 : α4) (a5 : α5) (a6 : α6) (a7 : α7) (a8 : α8) (a9 : α9) (h : P a1 a2 a3 a4 a5 a6 a7 a8 a9) : ∃ a1 a2 a3 a4 a5 a6 a7 a8 a9,P a1 a2 a3 a4 a5 a6 a7 a8 a9:=⟨a1,a2,a3,a4,a5,a6,a7,a8,a9,h⟩
theorem ei10 {α1 : Sort u1} {α2 : Sort u2} {α3 : Sort u3} {α4 : Sort u4} {α5 : Sort u5} {α6 : Sort u6} {α7 : Sort u7} {α8 : Sort u8} {α9 : Sort u9} {α10 : Sort u10} {P : α1→α2→α3→α4→α5→α6→α7→α8→α9→α10→Prop} (a1 : α1) (a2 : α2) (a3 : α3) (a4 : α4) (a5 : α5) (a6 : α6) (a7 : α7) (a8 : α8) (a9 : α9) (a10 : α10) (h : P a1 a2 a3 a4 a5 a6 a7 a8 a9 a10) : ∃ a1 a2 a3 a4 a5 a6 a7 a8 a9 a10,P a1 a2 a3 a4 a5 a6 a7 a8 a9 a10:=⟨a1,a2,a3,a4,a5,a6,a7,a8,a9,a10,h⟩
theorem an2 {p1 p2 : Prop} (h : p1∧p2) (k : p1→p2→C) : C:=by
 obtain ⟨h1,h2⟩:=h
 exact k h1 h2
theorem an3 {p1 p2 p3 : Prop} (h : p1∧p2∧p3) (k : p1→p2→p3→C) : C:=by
 obtain ⟨h1,h2,h3⟩:=h
 exact k h1 h2 h3
theorem an4 {p1 p2 p3 p4 : Prop} (h : p1∧p2∧p3∧p4) (k : p1→p2→p3→p4→C) : C:=by
 obtain ⟨h1,h2,h3,h4⟩:=h
 exact k h1 h2 h3 h4
theorem an5 {p1 p2 p3 p4 p5 : Prop} (h : p1∧p2∧p3∧p4∧p5) (k : p1→p2→p3→p4→p5→C) : C:=by
 obtain ⟨h1,h2,h3,h4,h5⟩:=h
 exact k h1 h2 h3 h4 h5
theorem an6 {p1 p2 p3 p4 p5 p6 : Prop} (h : p1∧p2∧p3∧p4∧p5∧p6) (k : p1→p2→p3→p4→p5→p6→C) : C:=by
 obtain ⟨h1,h2,h3,h4,h5,h6⟩:=h
 exact k h1 h2 h3 h4 h5 h6
theorem an7 {p1 p2 p3 p4 p5 p6 p7 : Prop} (h : p1∧p2∧p3∧p4∧p5∧p6∧p7) (k : p1→p2→p3→p4→p5→p6→p7→C) : C:=by
 obtain ⟨h1,h2,h3,h4,h5,h6,h7⟩:=h
 exact k h1 h2 h3 h4 h5 h6 h7
theorem an8 {p1 p2 p3 p4 p5 p6 p7 p8 : Prop} (h : p1∧p2∧p3∧p4∧p5∧p6∧p7∧p8) (k : p1→p2→p3→p4→p5→p6→p7→p8→C) : C:=by
 obtain ⟨h1,h2,h3,h4,h5,h6,h7,h8⟩:=h
 exact k h1 h2 h3 h4 h5 h6 h7 h8
theorem an9 {p1 p2 p3 p4 p5 p6 p7 p8 p9 : Prop} (h : p1∧p2∧p3∧p4∧p5∧p6∧p7∧p8∧p9) (k : p1→p2→p3→p4→p5→p6→p7→p8→p9→C) : C:=by
 obtain ⟨h1,h2,h3,h4,h5,h6,h7,h8,h9⟩:=h
 exact k h1 h2 h3 h4 h5 h6 h7 h8 h9
theorem an10 {p1 p2 p3 p4 p5 p6 p7 p8 p9 p10 : Prop} (h : p1∧p2∧p3∧p4∧p5∧p6∧p7∧p8∧p9∧p10) (k : p1→p2→p3→p4→p5→p6→p7→p8→p9→p10→C) : C:=by
 obtain ⟨h1,h2,h3,h4,h5,h6,h7,h8,h9,h10⟩:=h
 exact k h1 h2 h3 h4 h5 h6 h7 h8 h9 h10
theorem an11 {p1 p2 p3 p4 p5 p6 p7 p8 p9 p10 p11 : Prop} (h : p1∧p2∧p3∧p4∧p5∧p6∧p7∧p8∧p9∧p10∧p11) (k : p1→p2→p3→p4→p5→p6→p7→p8→p9→p10→p11→C) : C:=by
 obtain ⟨h1,h2,h3,h4,h5,h6,h7,h8,h9,h10,h11⟩:=h
 exact k h1 h2 h3 h4 h5 h6 h7 h8 h9 h10 h11
theorem an12 {p1 p2 p3 p4 p5 p6 p7 p8 p9 p10 p11 p12 : Prop} (h : p1∧p2∧p3∧p4∧p5∧p6∧p7∧p8∧p9∧p10∧p11∧p12) (k : p1→p2→p3→p4→p5→p6→p7→p8→p9→p10→p11→p12→C) : C:=by
 obtain ⟨h1,h2,h3,h4,h5,h6,h7,h8,h9,h10,h11,h12⟩:=h
 exact k h1 h2 h3 h4 h5 h6 h7 h8 h9 h10 h11 h12
end
theorem byG {T : Prop} (h : ∀ G : Prop,(T→G)→G) : T:=h T id
end NZ
section vNB
open PySem.Calls
noncomputable def Kp (keys : List Addr) (h h' : Heap) : Prop:=∀ b o,h.get? b = some o→b ∉ keys→h'.get? b = some o
end vNB
section vNX1
open PySem.Calls Sem
noncomputable def excMro : List Value:=[.ref 48,.type "Exception",.type "BaseException",.type "object"]
end vNX1
section vNX2
open PySem.Calls
noncomputable abbrev excObj (t : Addr) : Obj:={ cls:=.ref 61,data:=.fields #[.ref t,.none,.none,.none,.bool false,.none]}
end vNX2
section vNX4
open PySem.Calls
noncomputable abbrev mwObj (x : Addr) : Obj:={ cls:=.type "method-wrapper",data:=.fields #[.builtin "Exception.__init__",.ref x]}
end vNX4
section vNX5
open PySem.Calls
noncomputable abbrev excObjD (t dx : Addr) : Obj:={ cls:=.ref 61,dict:=some dx,data:=.fields #[.ref t,.none,.none,.none,.bool false,.none]}
end vNX5
section vNX6
open PySem.Calls
noncomputable def RaisableX (E : Value→Shared→Prop) (v : Value) (s₁ : Shared) : Prop :=
 ∃ a t dx,v = .ref a∧(∃ nm q k0 k1 k2 k3 k5,s₁.heap.get? 61 = some (excClassObj nm q 61 60 [.ref 48] excMro true [] [] false none none k0 k1 k2 k3 k5 "Exception.__new__"))∧s₁.heap.get? a = some (excObjD t dx)∧E (.ref a) s₁
end vNX6
section vNX7
open PySem.Calls
noncomputable abbrev flObj (dx : Addr) (vs : Array Value) (sl : Array (Option Value)) : Obj:=⟨.ref 61,some dx,.fields vs,sl⟩
noncomputable def Tr (h base : Heap) (e dx : Addr) (fl : Value) : Prop :=
 ∃ vs sl T oT ts,h.get? e = some (flObj dx vs sl)∧vs[1]? = some (.ref T)∧base.get? T = none∧T ≠ e∧h.get? T = some oT∧oT.data = .fields ts∧ts[3]? = some fl
noncomputable def Fly (base : Heap) (l : List Env) (e dx : Addr) (fl : Value) (h : Heap) : Prop:=base.StaysIn h∧base.get? e = none∧h.FunFrames base l∧Tr h base e dx fl
end vNX7
section vNX8
open PySem.Calls
noncomputable def Us (keys : List Addr) (G h : Heap) : Prop:=∀ b o,G.get? b = some o→b ∉ keys→(∀ vs,o.data ≠ .fields vs)→∃ sl,h.get? b = some { o with slots:=sl}
noncomputable def AtIs (es : List DictEntry) (at_ : Int) : Prop:=(∃ t,getL "at" es = some (some (.int at_ t)))∧(∃ x t,getL "what" es = some (some (.str x t)))∧getL "told" es = some none
noncomputable def Rz (base G : Heap) (keys : List Addr) (l : List Env) (at_ : Int) (e : Addr) (h : Heap) : Prop :=
 ∃ Bs dx es n,base.StaysIn Bs∧(∀ b o,G.get? b = some o→b ∉ keys→b ∉ l.filterMap (·.frame)→Bs.get? b = some o)∧Fly Bs l e dx .none h∧Bs.get? dx = some (dictOf es n)∧AtIs es at_∧Us keys G h∧(dx ∉ keys→G.get? dx = none)
end vNX8
section vNC3
noncomputable abbrev inDict (w : World) (b : Array UInt8) (tb k1 k2 : Tok) (at_ : Int) (ta : Tok) : Obj:=dictOf [⟨PyData.keyHash w.params "data",.str "data" k1,.bytes b tb⟩,⟨PyData.keyHash w.params "at",.str "at" k2,.int at_ ta⟩] 2
end vNC3
section vND1
noncomputable def u16v (ks : List Int) (at_ : Int) : Int:=256 * ks.getD at_.toNat 0 + ks.getD (at_.toNat + 1) 0
noncomputable def s16 (n : Int) : Int:=if 32768 ≤ n then n - 65536 else n
noncomputable def Bytes (ks : List Int) : Prop:=∀ k ∈ ks,0 ≤ k∧k < 256
end vND1
section vNL
open PySem.Spec
noncomputable def TurnT (h₀ : Heap) (L I : Addr) (x : Str) (stored : List Str) (m₀ : Str→Option Value) (J : List (Addr × Obj)→Prop) (own : List (Addr × Obj)) (s₁ s₂ : Shared) : Prop :=
 ∃ h' tk m' news' all,s₂ = { s₁ with heap:=h',toks:=tk}∧Fr h₀ L h' m'∧News h₀ L h' all∧(∀ p ∈ news',p ∈ all)∧(∀ p ∈ own,p ∈ all)∧(∀ p ∈ news',p.1 ≠ I)∧(∀ y,y ≠ x→stored.contains y = false→m' y = m₀ y)∧J news'
noncomputable def TurnP (h₀ : Heap) (L I : Addr) (x : Str) (stored : List Str) (m₀ : Str→Option Value) (J : List (Addr × Obj)→Prop) (own : List (Addr × Obj)) (s₁ : Shared) (Q : Flow→Shared→Prop) (f : Flow) (s₂ : Shared) : Prop :=
 match f with
 | .ret v=>Q (.ret v) s₂
 | .brk=>Q .next s₂
 | _=>TurnT h₀ L I x stored m₀ J own s₁ s₂
noncomputable def Stop (p : Prop) : Prop:=p
end vNL
section vND4
noncomputable def rdAnchor (ks : List Int) (at_ : Int) : Except Int (Int × Int) :=
 if ks.length < at_ + 2 then .error at_
 else if u16v ks at_ < 1 ∨ 3 < u16v ks at_ then .error at_
 else if ks.length < at_ + 4 then .error (at_ + 2)
 else if ks.length < at_ + 6 then .error (at_ + 4)
 else if ks.length < at_ + 6 + 2 * (u16v ks at_ - 1) then .error (at_ + 6)
 else .ok (s16 (u16v ks (at_ + 2)),s16 (u16v ks (at_ + 4)))
noncomputable abbrev ancDict (w : World) (x y : Int) (k1 k2 t1 t2 : Tok) : Obj:=dictOf [⟨PyData.keyHash w.params "x",.str "x" k1,.int x t1⟩,⟨PyData.keyHash w.params "y",.str "y" k2,.int y t2⟩] 2
end vND4
section vND8a
noncomputable abbrev Pt:=Int × Int
noncomputable abbrev Row:=Int × Option Pt × Option Pt
noncomputable def AncV (w : World) (l : List (Addr × Obj)) (v : Value) : Option Pt→Prop
 | none=>v = .none
 | some z=>∃ r d k1 k2 t1 t2,v = .ref r∧(r,instObj 394 d) ∈ l∧(d,ancDict w z.1 z.2 k1 k2 t1 t2) ∈ l
noncomputable def EndV (w : World) (l : List (Addr × Obj)) (v : Value) (o : Option Pt × Option Pt) : Prop :=
 ∃ r n v1 v2,v = .ref r∧(r,({ cls:=.type "tuple",data:=.seq #[v1,v2] n} : Obj)) ∈ l∧AncV w l v1 o.1∧AncV w l v2 o.2
noncomputable def RowsV (w : World) (l : List (Addr × Obj)) : List (Int × Value)→List Row→Prop
 | [],[]=>True
 | kv :: kvs,r :: rs=>kv.1 = r.1∧EndV w l kv.2 r.2∧RowsV w l kvs rs
 | _,_=>False
noncomputable def rdBehind (ks : List Int) (beg off : Int) : Except Int (Option Pt) :=
 if off = 0 then .ok none else match rdAnchor ks (beg + off) with
  | .ok z=>.ok (some z)
  | .error e=>.error e
noncomputable def rdTwo (ks : List Int) (beg spot : Int) : Except Int (Option Pt × Option Pt) :=
 if ks.length < spot + 2 then .error spot
 else match rdBehind ks beg (u16v ks spot) with
  | .error e=>.error e
  | .ok a=>if ks.length < spot + 4 then .error (spot + 2)
   else match rdBehind ks beg (u16v ks (spot + 2)) with
    | .error e=>.error e
    | .ok c=>.ok (a,c)
noncomputable def rdEnds (ks : List Int) (beg : Int) : List Int→Int→Except Int (List Row)
 | [],_=>.ok []
 | g :: gs,spot=>match rdTwo ks beg spot with
  | .error e=>.error e
  | .ok o=>match rdEnds ks beg gs (spot + 4) with
   | .error e=>.error e
   | .ok rs=>.ok ((g,o) :: rs)
noncomputable def catR (rows : List Row) : Except Int (List Row)→Except Int (List Row)
 | .ok rs=>.ok (rows ++ rs)
 | .error e=>.error e
noncomputable def rdCur (ks : List Int) (at_ : Int) (gs : List Int) : Except Int (List Row) :=
 if u16v ks at_ ≠ 1 then .error at_
 else if u16v ks (at_ + 4) ≠ gs.length then .error (at_ + 4)
 else rdEnds ks at_ gs (at_ + 6)
end vND8a
section vND7
structure CovAt (ks : List Int) (p : Int) (gs : List Int) : Prop where
 form : u16v ks p = 1
 count : u16v ks (p + 2) = gs.length
 room : p + 4 + 2 * (gs.length : Int) ≤ ks.length
 item : ∀ (i : Nat) (h : i < gs.length),u16v ks (p + 4 + 2 * (i : Int)) = gs[i]
end vND7
section vND8
noncomputable def PreOff (D x dx : Addr) (σ : List (Addr × Obj)) : List (Addr × Obj)→Prop
 | []=>True
 | q :: l=>(@Ne Nat q.1 D∧@Ne Nat q.1 x∧@Ne Nat q.1 dx∧LCg.Off1 q.1 σ)∧PreOff D x dx σ l
end vND8
section vNG
open PySem.Calls
noncomputable def isDec : Code→Bool
 | .builtin id _=>Builtin.Bytes.decodersThatHold.contains id
 | _=>false
noncomputable def NoDec (l : List (Code × Pos)) : Prop:=∀ x ∈ l,isDec x.1 = false
noncomputable def wpG {α : Type} (M : Model) (A : Around) (t : Sem α) (Q : α→Shared→Prop) (s : Shared) : Prop :=
 ∀ Γ p,Γ.In A→isDec Γ.code = false→NoDec Γ.below→Sem.wp M Γ t (fun a _ s'=>Q a s') (fun _ _ _=>False) p s
noncomputable def codeG (M : Model) (A : Around) (c : Code) (R : Result→Shared→Prop) (s : Shared) : Prop :=
 ∀ Γ p,Γ.code = c→Γ.Below A→NoDec Γ.below→wpCode M Γ R p s
noncomputable abbrev noE : Value→Shared→Prop:=fun _ _=>False
noncomputable def RetG (Q : Value→Shared→Prop) (r : Result) (s' : Shared) : Prop:=match r with
 | .ok (.ret v)=>Q v s'
 | _=>False
noncomputable def OkG (Q : Flow→Shared→Prop) (r : Result) (s' : Shared) : Prop:=match r with
 | .ok f=>Q f s'
 | .error _=>False
end vNG
section vNG3
open PySem.Calls
noncomputable def InitG (x : Addr) (R : Result→Shared→Prop) (r : Result) (s' : Shared) : Prop:=match r with
 | .ok (.ret v)=>v = .none∧R (.ok (.ret (.ref x))) s'
 | _=>False
end vNG3
section vNG5
open PySem.Calls
noncomputable abbrev baObj (b : Array UInt8) : Obj:={ cls:=.type "bytearray",data:=.bytearray b}
end vNG5
section vNHd
open PySem.Calls
noncomputable abbrev WalkG (q : Program) (loose : List Str) (XP : (Str→Option Value)→Heap→Prop) (YP : World→Heap→Prop) (r : RowW) (d : DefRec) (kwd : List (Str × Expr)) : Prop :=
 ∀ (w : World) (s₀ s₁ : Shared) (mg mb : Str→Option Value),Ground q loose r.records XP w s₀ mg mb s₁.heap→YP w s₁.heap→∀ (a : Addr) (o : Obj) (pm cd doc dV kV : Value),s₁.heap.get? a = some o →
  o.data = .func { docDef d.name d.params d.body d.scope pm cd doc with defaults:=dV,kwdefaults:=kV}→s₁.heap.CodeRec cd d.name→Dflts mg s₁.heap d.params kwd dV kV→mg d.name = some (.ref a)→s₁.gens = #[] →
  ∀ (args : List WData) (vals : List Value) (as : List Addr),r.claim.pre args = true→WData.layableAll args = true→ReadsAllW r.records (classAt s₀.heap) s₁.heap vals args as→WellAll w.params s₁.heap vals args→(∀ a ∈ as,(a == sysModules) = false) →
   wpG (model r.prog w) callerA (PySem.call (.ref a) vals) (fun v s'=>GoodWG r.claim (classAt s₀.heap) (ExcName.means s₀.heap) args s₁ (.ok (.ret v)) s') s₁
end vNHd
section vNK
open PySem.Spec LCg LCt
noncomputable def CompSrcD (prog : Program) (w : World) (A : Around) (h₀ : Heap) (L : Addr) (m : Str→Option Value) (env : Env) (elt : Expr) (x : Str) (scope : Scope) (cl : List (Str × Addr)) (Fin : Shared→List Value→List (Addr × Obj)→Prop) (xv : Value) (s₁ : Shared) : Prop :=
 ∃ r a b c t u v n news,xv = .ref r∧A.handled = none∧Fr h₀ L s₁.heap m∧News h₀ L s₁.heap news∧IsRange s₁.heap r a b c t u v∧Builtin.Range.small a b c = true∧Builtin.Range.rangeSize a b c = ((n : Nat) : Int)∧n ≤ sizeLine ∧
  ∀ s₂ : Shared,(∃ h,s₂ = { s₁ with heap:=h})→CompRest prog w A h₀ L m env elt x scope cl s₂ (fun _=>True) (fun i v=>∃ t,v = .int (a + (i : Nat) * c) t) (Fin s₂) n 0 [] news
end vNK
section vNW9
noncomputable def datO : Option Pt→Dat
 | none=>.none
 | some z=>.tuple [.int z.1,.int z.2]
end vNW9
section vNW10
noncomputable def hasEnd (r : Row) : Bool:=r.2.1.isSome || r.2.2.isSome
noncomputable def keysE (rows : List Row) : List Int:=(rows.filter hasEnd).map (·.1)
end vNW10
section vNW11
noncomputable def datR (r : Row) : Dat:=.tuple [.int r.1,datO r.2.1,datO r.2.2]
end vNW11
section vNW2
noncomputable abbrev outDict (w : World) (k : Tok) (ma : Addr) : Obj:=dictOf [⟨PyData.keyHash w.params "made",.str "made" k,.ref ma⟩] 1
end vNW2
section vNW5
noncomputable def anc8 (z : Int × Int) : List Int:=[0,1,z.1 % 65536 / 256,z.1 % 65536 % 256,z.2 % 65536 / 256,z.2 % 65536 % 256]
end vNW5
section vNW7
noncomputable def NoRun (gs : List Int) : Prop:=∀ i : Nat,i + 2 < gs.length→gs.getD (i + 1) 0 = gs.getD i 0 + 1→gs.getD (i + 2) 0 ≠ gs.getD (i + 1) 0 + 1
noncomputable def RunI (gs : List Int) (i : Nat) (vs : List Value) (τ : List (Addr × Obj)) : Prop :=
 (i = 0∧vs = []) ∨ ∃ ws t a n ta tb,vs = ws ++ [Value.ref t]∧(t,({ cls:=.type "tuple",data:=.seq #[.int a ta,.int (gs.getD (i - 1) 0) tb] n} : Obj)) ∈ τ∧1 ≤ i∧i ≤ 2 * vs.length∧vs.length ≤ i∧(i + 1 ≤ 2 * vs.length ∨ (2 ≤ i∧gs.getD (i - 1) 0 = gs.getD (i - 2) 0 + 1))
end vNW7
section vNW8
noncomputable def b16 (n : Int) : List Int:=[n / 256,n % 256]
noncomputable def cov8 (gs : List Int) : List Int:=[0,1] ++ b16 gs.length ++ gs.flatMap b16
end vNW8
section vNW13
noncomputable def PartV (v : Value) : Option (Array UInt8)→Prop
 | none=>v = .none
 | some b=>∃ t,v = .bytes b t
noncomputable def PtOk (z : Pt) : Prop:=-32768 ≤ z.1∧z.1 < 32768∧-32768 ≤ z.2∧z.2 < 32768
noncomputable def PtsOk : Option Pt→Prop
 | none=>True
 | some z=>PtOk z
noncomputable def EndB (o : Option Pt) (p : Option (Array UInt8)) : Prop :=
 match o,p with
 | none,none=>True
 | some z,some b=>KBw.bInts b = anc8 z
 | _,_=>False
end vNW13
section vNW14
inductive PartsV : List Value→List (Option (Array UInt8))→Prop
 | nil : PartsV [] []
 | cons {v : Value} {p : Option (Array UInt8)} {vs : List Value} {ps : List (Option (Array UInt8))} : PartV v p→PartsV vs ps→PartsV (v :: vs) (p :: ps)
structure LaidS where
 offs : List Int
 out : Array UInt8
 at_ : List UInt8→Option Int
noncomputable def laidStep (beg : Int) (st : LaidS) : Option (Array UInt8)→LaidS
 | none=>⟨st.offs ++ [0],st.out,st.at_⟩
 | some b=>match st.at_ b.toList with
  | some n=>⟨st.offs ++ [n],st.out,st.at_⟩
  | none=>⟨st.offs ++ [beg + st.out.size],st.out ++ b,fun k=>if k = b.toList then some (beg + st.out.size) else st.at_ k⟩
noncomputable def laidF (beg : Int) (ps : List (Option (Array UInt8))) : LaidS:=ps.foldl (laidStep beg) ⟨[],#[],fun _=>none⟩
noncomputable def PlacesV (kvs : List (List UInt8 × Value)) (f : List UInt8→Option Int) : Prop:=∀ k,(valueAt kvs k = none∧f k = none) ∨ ∃ n t,valueAt kvs k = some (.int n t)∧f k = some n
end vNW14
section vNW15
inductive EndsB : List Row→List (Option (Array UInt8))→Prop
 | nil : EndsB [] []
 | snoc {rs : List Row} {ps : List (Option (Array UInt8))} {r : Row} {q1 q2 : Option (Array UInt8)} : EndsB rs ps→EndB r.2.1 q1→EndB r.2.2 q2→EndsB (rs ++ [r]) (ps ++ [q1,q2])
structure LaidOk (beg : Int) (k : Nat) (st : LaidS) : Prop where
 len : st.offs.length = k
 sz : st.out.size ≤ 20 * k
 bd : ∀ n ∈ st.offs,0 ≤ n∧n ≤ beg + st.out.size
 at_ : ∀ x n,st.at_ x = some n→0 ≤ n∧n ≤ beg + st.out.size
end vNW15
section vNW16
noncomputable abbrev srcObj (C : Addr) (k : Int) (t : Tok) (c : Nat) : Obj:=listOf #[.ref C,.int k t] c
end vNW16
section vNLaw
noncomputable def noArgs : Arguments:={ posonlyargs:=[],args:=[],vararg:=none,kwonlyargs:=[],kw_defaults:=[],kwarg:=none,defaults:=[]}
noncomputable def selS (st : Stmt) : List Stmt × Option Expr × Arguments × Option Scope:=by
 cases st
 case FunctionDef n a b d r t sc ts bi p=>exact (b,none,a,some sc)
 case For t i b o p=>exact (b,none,noArgs,none)
 case If t b o p=>exact ([],some t,noArgs,none)
 case Assign t v p=>exact ([],some v,noArgs,none)
 case Return v p=>exact ([],v,noArgs,none)
 all_goals exact ([],none,noArgs,none)
noncomputable def selE (e : Expr) : List Expr × Option (Arguments × Expr × Scope × Pos):=by
 cases e
 case Call f as k p=>exact (f :: as,none)
 case Compare l o c p=>exact (l :: c,none)
 case Lambda a b sc p=>exact ([],some (a,b,sc,p))
 all_goals exact ([],none)
noncomputable def lawFD : List Stmt × Option Expr × Arguments × Option Scope:=selS (pw_nu0185_01.main.body.getLast?.getD (.Pass default))
noncomputable def lawBody : List Stmt:=lawFD.1
noncomputable def lawParams : Arguments:=lawFD.2.2.1
noncomputable def lawScope : Scope:=lawFD.2.2.2.getD { kind:=.function,names:=[],isGenerator:=false,isCoroutine:=false}
noncomputable def lawSt (k : Nat) : Stmt:=(lawBody.drop k).headD (.Pass default)
noncomputable def bodySt (j k : Nat) : Stmt:=((selS (lawSt j)).1.drop k).headD (.Pass default)
noncomputable def nthE (e : Option Expr) (k : Nat) : Option Expr:=e.bind fun x=>((selE x).1.drop k).head?
noncomputable def lamAt (k : Nat) : Option Expr :=
 ([nthE (nthE (selS (lawSt 12)).2.1 0) 1,nthE (selS (lawSt 23)).2.1 1,nthE (nthE (selS (lawSt 24)).2.1 1) 1].drop k).head?.getD none
noncomputable def lamT (k : Nat) : Arguments × Expr × Scope × Pos:=((lamAt k).bind fun e=>(selE e).2).getD (noArgs,.Constant .none 0 default,lawScope,default)
noncomputable def lamP (k : Nat) : Arguments:=(lamT k).1
noncomputable def lamB (k : Nat) : Expr:=(lamT k).2.1
noncomputable def lamS (k : Nat) : Scope:=(lamT k).2.2.1
noncomputable def lamPos (k : Nat) : Pos:=(lamT k).2.2.2
end vNLaw
section vNW21
noncomputable def PtIn (z : Pt) : Prop:=-3 ≤ z.1∧z.1 ≤ 3∧-32768 ≤ z.2∧z.2 ≤ 32767
end vNW21
section vNW22
noncomputable def AllOff (σ : List (Addr × Obj)) : List (Addr × Obj)→Prop
 | []=>True
 | p :: r=>LCg.Off1 p.1 σ∧AllOff σ r
noncomputable def AncEnd (w : World) (h₀ : Heap) (L : Addr) (m : Str→Option Value) (rest : List (Addr × Obj)) (o : Option Pt) (s : Shared) (v : Value) (s' : Shared) : Prop:=∃ l h' tk',s' = { s with heap:=h',toks:=tk'}∧AncV w l v o∧Fr h₀ L h' m∧News h₀ L h' (rest ++ l)∧∀ p ∈ l,LCg.Off1 p.1 rest
end vNW22
section vNW23
noncomputable def LtB (v b : Int) : Prop:=v < b
noncomputable def PtsIn : Option Pt→Prop
 | none=>True
 | some z=>PtIn z
noncomputable def LawRows (rows : List Row) : Prop:=(∀ (j : Nat) (r : Row),rows[j]? = some r→4 * (j : Int) ≤ r.1∧r.1 < 4 * (j : Int) + 4)∧∀ r ∈ rows,PtsIn r.2.1∧PtsIn r.2.2
noncomputable def LoopN : List Str:=["glyph", "way", "points", "one", "two"]
noncomputable def LoopJ (w : World) (c1 : Addr) (o1 : Obj) (S C : Addr) (cvs : List Value) (cc : Nat) (D du : Addr) (σ : List (Addr × Obj)) (k : Int) (i : Nat) (nl : List (Addr × Obj)) : Prop :=
 ∃ k' t' c' oD kvs dvs n τ rows,nl = (c1,o1) :: (S,srcObj C k' t' c') :: (C,listOf cvs.toArray cc) :: (D,oD) :: (du,listOf dvs.toArray n) :: (τ ++ σ)∧oD.IsDictOf (intKind pw_nu0185_01 w) kvs∧RowsV w τ kvs rows∧DatAll τ dvs ((rows.filter hasEnd).map datR)∧rows.length = i∧LawRows rows∧k' = k + 6 * (i : Int)∧LCg.Off1 S τ∧LCg.Off1 D τ∧LCg.Off1 du τ∧(∀ p ∈ τ,LCg.Off1 p.1 σ)
end vNW23
section vNX20
noncomputable def pickL (is : List Nat) (n : Nat) (l : List (Addr × Obj)) : List (Addr × Obj):=is.filterMap (fun i=>l[i]?) ++ l.drop n
noncomputable def keyL (c1 c2 c3 c4 c5 S C : Addr) (i : Nat) : Addr:=([S,C,534,c1,c2,c3,c4,c5] : List Addr).getD i 534
noncomputable def SepS (c1 c2 c3 c4 c5 S C : Addr) : Prop:=List.Pairwise (fun a b : Nat=>a ≠ b) [S,C,534,c1,c2,c3,c4,c5]
noncomputable def updI : Nat→Bool
 | 0=>true
 | 2=>true
 | 4=>true
 | 5=>true
 | 6=>true
 | 7=>true
 | _=>false
noncomputable def SepR (c1 c2 c3 c4 c5 S C : Addr) (ρ : List (Addr × Obj)) : Prop:=∀ i,updI i = true→LCg.Off1 (keyL c1 c2 c3 c4 c5 S C i) ρ
noncomputable abbrev Led (c1 c2 c3 c4 c5 S C : Addr) (o1 o2 o3 o4 o5 tab : Obj) (k : Int) (t : Tok) (c : Nat) (cvs : List Value) (cc : Nat) (ρ : List (Addr × Obj)) : List (Addr × Obj) :=
 (c1,o1) :: (S,srcObj C k t c) :: (C,listOf cvs.toArray cc) :: (c2,o2) :: (c3,o3) :: (c4,o4) :: (c5,o5) :: (534,tab) :: ρ
end vNX20
section vNX12
open PySem.Calls
noncomputable abbrev comp2 (elt t1 t2 it1 it2 c : Expr) (scope : Scope) (pos : Pos) : Expr:=.ListComp elt [⟨t1,it1,[],0⟩,⟨t2,it2,[c],0⟩] scope pos
end vNX12
section vNX13
open PySem.Calls LCg
noncomputable def OptV (v : Value) : Prop:=v = .none ∨ ∃ q,v = .ref q
noncomputable def notNone : Value→Bool
 | .none=>false
 | _=>true
noncomputable def selV (p : Value × Value) : List Value:=[p.1,p.2].filter notNone
noncomputable def Step2 (prog : Program) (w : World) (A : Around) (h₀ : Heap) (L : Addr) (m : Str→Option Value) (env : Env) (it2 : Expr) (x : Str) (scope : Scope) (cl : List (Str × Addr)) (s : Shared) (news : List (Addr × Obj)) (v a b : Value) : Prop :=
 ∀ I oI C oC D ys m₂ h tk (Q : Value→Shared→Prop),NsObj oC m₂→m₂ x = some v→Fr h₀ L h m→News h₀ L h ((I,oI) :: (C,oC) :: (D,lst ys) :: news) →
  (∀ T2 n h' tk',Fr h₀ L h' m→News h₀ L h' ((T2,({ cls:=.type "tuple",data:=.seq #[a,b] n} : Obj)) :: (I,oI) :: (C,oC) :: (D,lst ys) :: news)→(∀ p ∈ (I,oI) :: (C,oC) :: (D,lst ys) :: news,p.1 < T2)→Q (.ref T2) { s with heap:=h',toks:=tk'}) →
  wpAny (model prog w) A (eval it2 (compEnvC scope cl C env)) Q noE { s with heap:=h,toks:=tk}
end vNX13
section vNW25
noncomputable def datP (z : Pt) : Dat:=datO (some z)
noncomputable def ptsOf (rows : List Row) : List Pt:=rows.flatMap fun r=>[r.2.1,r.2.2].filterMap id
end vNW25
section vNX14
open PySem.Calls
noncomputable def keyB : Value→List UInt8
 | .bytes b _=>b.toList
 | _=>[]
noncomputable def byText (w : World) : Bool:=w.params.followText "set-order"
structure BSet (prog : Program) (w : World) (o : Obj) (D : List (List UInt8)) : Prop where
 ex : ∃ es ep t,o.ExactSet∧o.data = .set es ep t∧ElemsOf (bytesKind prog w) es.toList∧(es.toList.map fun e=>keyB e.2).Perm D∧t.fits es.size = true∧t.led = !byText w∧(es.size = 0 ∨ t.plain = false)
 nodup : D.Nodup
 few : D.length < 1000
noncomputable abbrev bset0 (w : World) : Obj:={ cls:=.type "set",dict:=none,data:=.set #[] 0 (.fresh 0 0 (!byText w))}
noncomputable def addD (D : List (List UInt8)) (k : List UInt8) : List (List UInt8):=if k ∈ D then D else D ++ [k]
end vNX14
section vNX15
open PySem.Calls
noncomputable def foldD (ks : List (List UInt8)) : List (List UInt8):=ks.foldl addD []
end vNX15
section vNW26
open LCg LCp
noncomputable def ptB (z : Pt) : List Int:=[0,1,(z.1.fmod 65536).fdiv 256,z.1.fmod 256,(z.2.fmod 65536).fdiv 256,z.2.fmod 256]
noncomputable def keyI (ks : List Int) : List UInt8:=(byteArr ks).toList
end vNW26
section vNX9
open PySem.Calls
noncomputable def RzN (base G : Heap) (ns : List (Addr × Obj)) (l : List Env) (at_ : Int) (e : Addr) (h : Heap) : Prop :=
 ∃ Bs dx es n,base.StaysIn Bs∧(∀ b o,G.get? b = some o→b ∉ l.filterMap (·.frame)→Bs.get? b = some o)∧(∀ q ∈ ns,Bs.get? q.1 = some q.2)∧Fly Bs l e dx .none h∧Bs.get? dx = some (dictOf es n)∧AtIs es at_∧Us [] G h∧Us [] Bs h∧G.get? dx = none∧(∀ q ∈ ns,dx ≠ q.1)
noncomputable def KeepIt (h : Heap) (ns : List (Addr × Obj)) : Prop:=∀ q ∈ ns,h.get? q.1 = some q.2
end vNX9
section vNW17
noncomputable def IntEnd (n : Int) (s : Shared) (v : Value) (s' : Shared) : Prop:=∃ t k,v = Value.int n t∧s' = { s with toks:=k}
end vNW17
section vNW18
open Classical
noncomputable def rdOne (ks : List Int) (beg spot : Int) : Except Int (Option Pt):=if ks.length < spot + 2 then .error spot else rdBehind ks beg (u16v ks spot)
noncomputable def OnesOk (ks : List Int) (beg spot : Int) (j : Nat) (os : List (Option Pt)) : Prop:=os.length = j∧∀ (k : Nat) (o : Option Pt),os[k]? = some o→rdOne ks beg (spot + 2 * (k : Int)) = .ok o
end vNW18
section vNW19
noncomputable def WorkC (w : World) (p : Program) (loose : List Str) (mean : ExcName→Option Value) (mg mb : Str→Option Value) (law : Env) (f : Addr) (rest : List (Addr × Obj)) (res : Except Int Dat) (D U : Nat) : Prop :=
 ∀ {dp un : Nat} {gd : Option (List Code)} {cn : Str} {cs : Scope} {a : Addr} {ccd : Value} {cl : List (Str × Addr)} {A₀ : Around} {base h₀ : Heap} {L : Addr} {m : Str→Option Value} {s : Shared} {Q E : Value→Shared→Prop},
  Below A₀ base [law] h₀→Fr h₀ L s.heap m→(hd.heap_1 w.params).In h₀→Top p loose mean mg mb h₀→cs.kind = .function→News h₀ L s.heap rest→dp + D < recursionLimit→un + U < cLine →
  (∀ d,res = .ok d→∀ v τ h' tk',DatIn τ v d→Fr h₀ L h' m→News h₀ L h' (τ ++ rest)→Q v { s with heap:=h',toks:=tk'}) →
  (∀ z,res = .error z→∀ e h' tk',Rz base s.heap [] [envX cn cs L a ccd cl,law] z e h'→E (.ref e) { s with heap:=h',toks:=tk'}) →
  wpAny (model pw_nu0185_01 w) (ktrTop dp un gd cn cs L a ccd cl [law]) (call (.ref f) []) Q E s
end vNW19
section vNW20
noncomputable def toldRes (ks : List Int) (at_ : Int) (gs : List Int) : Except Int Dat:=match rdCur ks at_ gs with
 | .ok rows=>.ok (.tuple ((rows.filter hasEnd).map datR))
 | .error z=>.error z
end vNW20
section vNX16
open PySem.Calls
noncomputable abbrev itObj (first : Value) (i : Nat) (a : Addr) (n ep : Nat) : Obj:={ cls:=.type "set_iterator",dict:=none,data:=.fields #[first,.int i 0,.ref a,.int n 0,.int ep 0],slots:=#[]}
end vNX16
section vNW29
open LCg
open LCg in
noncomputable def SrcSet (prog : Program) (w : World) (A : Around) (h₀ : Heap) (L : Addr) (m : Str→Option Value) (env : Env) (elt : Expr) (x : Str) (scope : Scope) (cl : List (Str × Addr)) (Fin : Shared→List Value→List (Addr × Obj)→Prop) (xv : Value) (s₁ : Shared) : Prop :=
 ∃ a oS D news,xv = .ref a∧A.handled = none∧Fr h₀ L s₁.heap m∧News h₀ L s₁.heap news∧(a,oS) ∈ news∧BSet prog w oS D ∧
  ∀ (vs : List Value) (extra : List (Addr × Obj)) (s₂ : Shared),(∃ h d,s₂ = { s₁ with heap:=h,drawn:=d})→(vs.map keyB).Perm D→(∀ v ∈ vs,∃ (k : List UInt8) (t : Tok),v = .bytes k.toArray t) →
   CompRest prog w A h₀ L m env elt x scope cl s₂ (fun nw=>(a,oS) ∈ nw∧∀ p ∈ extra,p ∈ nw) (fun i v=>vs[i]? = some v) (Fin s₂) vs.length 0 [] (extra ++ news)
end vNW29
section vNP4
noncomputable def Sits (ks : List Int) (p : Nat) (bs : List Int) : Prop:=∃ a c,ks = a ++ (bs ++ c)∧a.length = p
noncomputable def kI (k : List UInt8) : List Int:=k.map fun c=>(c.toNat : Int)
noncomputable def sumL (D : List (List UInt8)) : Int:=(D.map fun k=>(k.length : Int)).sum
structure LInv (beg : Int) (ps : List (Option (Array UInt8))) (D : List (List UInt8)) (st : LaidS) : Prop where
 len : st.offs.length = ps.length
 off : ∀ (i : Nat) (p : Option (Array UInt8)),ps[i]? = some p→(p = none∧st.offs[i]? = some 0) ∨ ∃ b pos,p = some b∧st.offs[i]? = some (beg + ((pos : Nat) : Int))∧Sits (kI st.out.toList) pos (kI b.toList)
 at_ : ∀ k,(st.at_ k = none∧k ∉ D) ∨ (k ∈ D∧∃ pos : Nat,st.at_ k = some (beg + (pos : Int))∧Sits (kI st.out.toList) pos (kI k))
 sz : (st.out.size : Int) = sumL D
noncomputable def partD (D : List (List UInt8)) : Option (Array UInt8)→List (List UInt8)
 | none=>D
 | some b=>addD D b.toList
end vNP4
section vNP5
noncomputable def Blk (gs : List Int) (lo : Nat) : Prop:=∃ js : List Nat,js.Pairwise (· < ·)∧(∀ j ∈ js,lo ≤ j)∧js.length = gs.length∧∀ (i : Nat) (g : Int) (j : Nat),gs[i]? = some g→js[i]? = some j→4 * (j : Int) ≤ g∧g < 4 * (j : Int) + 4
end vNP5
section vNP6
noncomputable def tabB (gs : List Int) (o : LaidS) : List Int:=[0,1] ++ b16 (o.offs.getD 0 0) ++ b16 gs.length ++ (o.offs.drop 1).flatMap b16 ++ KBw.bInts o.out
end vNP6
section vNP7
noncomputable def gs2 (v : Int) : List Int:=([2,3,9] : List Int).take v.toNat
noncomputable def made (v f u : Int) (os es : List Int) : List Int:=[0,f,0,6 + 4 * v,0,u] ++ os ++ cov8 (gs2 v) ++ es
end vNP7
section vNP8
noncomputable abbrev partsD (rows : List Row) (b : List UInt8) : List (List UInt8):=addD (foldD ((ptsOf (rows.filter hasEnd)).map fun z=>keyI (ptB z))) b
end vNP8
section vNX18
open PySem.Spec
noncomputable def TurnM (h₀ : Heap) (L I : Addr) (x : Str) (stored : List Str) (m₀ : Str→Option Value) (J : (Str→Option Value)→List (Addr × Obj)→Prop) (own : List (Addr × Obj)) (s₁ : Shared) (Q : Flow→Shared→Prop) (f : Flow) (s₂ : Shared) : Prop :=
 match f with
 | .ret v=>Q (.ret v) s₂
 | .brk=>Q .next s₂
 | _=>∃ h' tk m' news' all,s₂ = { s₁ with heap:=h',toks:=tk}∧Fr h₀ L h' m'∧News h₀ L h' all∧(∀ p ∈ news',p ∈ all)∧(∀ p ∈ own,p ∈ all)∧(∀ p ∈ news',p.1 ≠ I)∧(∀ y,y ≠ x→stored.contains y = false→m' y = m₀ y)∧J m' news'
end vNX18
section vNX19
open PySem.Spec
noncomputable def ByteAt (b : Array UInt8) (i : Nat) (v : Value) : Prop:=∃ c u,b[i]? = some c∧v = .int (c.toNat : Int) u
end vNX19
section vNW33
noncomputable def OffN : List Str:=["offset", "made"]
noncomputable def MadeJ (c1 : Addr) (o1 : Obj) (S C : Addr) (cvs : List Value) (cc : Nat) (σ : List (Addr × Obj)) (k q e : Int) (ks0 : List Int) (i : Nat) (m' : Str→Option Value) (nl : List (Addr × Obj)) : Prop :=
 ∃ t' c' M mvs mc ks,nl = (c1,o1) :: (S,srcObj C (k + q * (i : Int)) t' c') :: (C,listOf cvs.toArray cc) :: ((M,listOf mvs.toArray mc) :: σ)∧m' "made" = some (.ref M)∧IntsAre mvs (ks0 ++ ks)∧(ks.length : Int) = e * i∧KBa.In ks∧@Ne Nat S M
end vNW33
section vNW34
noncomputable def MadeN : List Str:=["made"]
end vNW34
section vNW35
noncomputable def resD (ks : List Int) (at_ : Int) (gs : List Int) : Dat:=match toldRes ks at_ gs with
 | .ok d=>d
 | .error z=>.tuple [.str "fault",.int z]
end vNW35
theorem lnH : True:=by
 k_with "H1" => (refine ∀ (B : Below A₀ base outer h₀) (F : Fr h₀ L s.heap m) (X : (hd.heap_1 w.params).In h₀) (T : Top p loose mean mg mb h₀) (hk : cs.kind = .function),?_)
 k_with "H2" => (refine ∀ (B : Below A₀ base [] h₀) (F : Fr h₀ L s.heap m) (X : (hd.heap_1 w.params).In h₀) (T : Top p loose mean mg mb h₀) (hd : dp + 40 < recursionLimit) (hu : un + 400 < cLine),?_)
 k_with "H3" => (refine ∀ (B : Below A₀ base [] h₀) (F : Fr h₀ L s.heap m) (X : (hd.heap_1 w.params).In h₀) (T : Top p loose mean mg mb h₀),?_)
 k_with "G1" => (refine wpAny (model pw_nu0185_01 w) (ktrTop dp un gd cn cs L a ccd cl outer) ?_ QX1 E s)
 k_with "G2" => (refine wpAny (model pw_nu0185_01 w) (ktrTop dp un (some []) "law" lawScope L a (.ref 536) [("octets",c5),("glyphs",c4),("data",c3),("ahead",c2),("source",c1)] []) ?_ QX2 E s)
 k_with "G3" => (refine wpAny (model pw_nu0185_01 w) (ktrTop dp un (some []) "law" lawScope L a (.ref 536) [("octets",c5),("glyphs",c4),("data",c3),("ahead",c2),("source",c1)] []) ?_ QX2 noE s)
 exact True.intro
section
variable (A : Around) (E : Value→Shared→Prop) (h : Heap) (nm : Str) (q : Str) (rest : List Value) (Q : Unit→Shared→Prop) (prog : Program) (w : World) (R : Result→Shared→Prop) (so : Addr) (x : Addr) (ox : Obj) (tk : Tok) (tup : Addr) (name : Str) (v : Value) (p : Program) (loose : List Str) (mean : ExcName→Option Value) (mg : Str→Option Value) (mb : Str→Option Value) (dp : Nat) (un : Nat) (gd : Option (List Code)) (cn : Str) (cs : Scope) (a : Addr) (ccd : Value) (cl : List (Str × Addr)) (outer : List Env) (A₀ : Around) (base : Heap) (h₀ : Heap) (L : Addr) (m : Str→Option Value) (restX1 : List (Addr × Obj)) (s : Shared) (QX1 : Value→Shared→Prop) (xX1 : Str) (t1 : Tok) (t2 : Tok) (t3 : Tok) (dx : Addr) (gU : Obj→List (Addr × Obj)) (tb : Tok) (k1 : Tok) (k2 : Tok) (ta : Tok) (env : Env) (body : List Stmt) (QX2 : Flow→Shared→Prop) (I : Addr) (fp : List Addr) (P : Nat→Value→Prop) (m₀ : Str→Option Value) (news : List (Addr × Obj)) (storedX1 : List Str) (J : Nat→List (Addr × Obj)→Prop) (tx : Tok) (ty : Tok) (px : Pos) (C : Addr) (kw : List (Str × Value)) (init : Value) (elt : Expr) (iter : Expr) (scope : Scope) (pos : Pos) (r : Addr) (dr : Addr) (d : Addr) (D : Addr) (k : Tok) (oD : Obj) (t9 : Tok) (ma : Addr) (l : Addr) (vs : List Value) (c : Addr) (t : Addr) (S : Addr) (cvs : List Value) (tX1 : Tok) (tl : Tok) (sc : Addr) (c1 : Addr) (c2 : Addr) (c3 : Addr) (c4 : Addr) (c5 : Addr) (o1 : Obj) (σ : List (Addr × Obj)) (PX1 : Addr) (v0 : Value) (v1 : Value) (tw : Tok) (tg : Tok) (v2 : Value) (du : Addr) (dvs : List Value) (τx : List (Addr × Obj)) (ti : Tok) (o2 : Obj) (o3 : Obj) (o4 : Obj) (o5 : Obj) (restX2 : List Stmt) (t1X1 : Expr) (it1 : Expr) (it2 : Expr) (y : Str) (py : Pos) (pe : Pos) (pn : Pos) (pc : Pos) (pk : Pos) (I2 : Addr) (T2 : Addr) (aX1 : Value) (b : Value) (ys : List Value) (m' : Str→Option Value) (s₂ : Shared) (ax : Addr) (its : Array Value) (o : Obj) (items : Array Value) (x₂ : Str) (SX1 : List (Addr × Obj)→Prop) (news₀ : List (Addr × Obj)) (pvs : List Value) (oS : Obj) (s' : Shared) (g : Heap) (G : Heap) (e : Addr) (cd : Value) (n : Str) (suite : List Stmt) (np : Pos) (bX : Heap) (gl : Addr) (gvs : List Value) (es : List DictEntry) (vsX1 : Array Value) (sl : Array (Option Value)) (f : Addr) (oc : Value) (od : Option Addr) (fsl : Array (Option Value)) (kt : Tok) (t5 : Tok) (τ : List (Addr × Obj)) (Sp : Addr) (oP : Obj) (oSp : Obj) (tv : Tok) (t₀ : Tok) (u₀ : Tok) (v₀ : Tok) (tu : Tok) (tf : Tok) (M : Addr) (mvs : List Value) (x9 : Value) (x8 : Value) (x9X1 : Addr) (ρ : List (Addr × Obj)) (tn : Tok)
open PySem.Calls Sem in
noncomputable def s_0 : Prop:=∀ {g : Array GenState} {d : Drawn} {t : Nat} {os : OsState} {k0 : Option Value} {k1 : Option Value} {k2 : Option Value} {k3 : Option Value} {k5 : Option Value} {M : Model} (hC : h.get? 61 = some (excClassObj nm q 61 60 [.ref 48] excMro true [] [] false none none k0 k1 k2 k3 k5 "Exception.__new__")) (hq : Q () ⟨h,g,d,t,os⟩),
 wpAny M A (checkBuiltinCall "Exception.__new__" ⟨.ref 61 :: rest,[]⟩) Q E ⟨h,g,d,t,os⟩
open PySem.Calls in
noncomputable def s_1 : Prop:=∀ {g : Array GenState} {d : Drawn} {t : Nat} {os : OsState} (X : (hd.heap_1 w.params).In h) (hrest : rest.length ≤ sizeLine) (hq : codeAny (model prog w) (A.under (.builtin "type.__call__" ⟨.ref 61 :: rest,[]⟩)) (.call (.ref 38) ⟨.ref (h.objs.size + 1) :: rest,[]⟩) (InitBack (h.objs.size + 1) R)
   ⟨(h.push { cls:=.type "tuple",data:=.seq rest.toArray}).push (excObj h.objs.size),g,d,t,os⟩),
 codeAny (model prog w) A (.call (.ref 61) ⟨rest,[]⟩) R ⟨h,g,d,t,os⟩
open PySem.Calls in
noncomputable def s_2 : Prop:=∀ {g : Array GenState} {d : Drawn} {t : Nat} {os : OsState} {Q : PySem.Fin→Shared→Prop} (X : (hd.heap_1 w.params).In h) (hso : h.get? so = some (ks_superObj 48 x 61)) (hx : h.get? x = some ox) (hc : ox.cls = .ref 61) (hxC : x ≠ 61) (hq : Q (.done (.ret (.ref h.objs.size))) ⟨h.push (mwObj x),g,d,t,os⟩),
 wpAny (model prog w) A (Builtin.«super.__getattribute__» ⟨[.ref so,.str "__init__" tk],[]⟩) Q E ⟨h,g,d,t,os⟩
open PySem.Calls in
noncomputable def s_3 : Prop:=∀ {g : Array GenState} {d : Drawn} {t : Nat} {os : OsState} (X : (hd.heap_1 w.params).In h) (hx : h.get? x = some (excObj tup)) (ht : findIn (hd.heap_1 w.params) (.ref 61) name = some none) (hq : ∀ h',Kp [x] h h'→h'.get? x = some (excObjD tup h.objs.size)→h'.get? h.objs.size = some (dictOf [⟨PyData.keyHash w.params name,.str name (t + 1),v⟩] 1)→Q () ⟨h',g,d,t + 2,os⟩),
 wpAny (model prog w) A (setAttr (.ref x) name v) Q E ⟨h,g,d,t,os⟩
open PySem.Calls in
noncomputable def s_4 : Prop:=by k_extra "H1";refine ∀ (N : News h₀ L s.heap restX1) (hx : xX1.length < 1000) (at_ : Int) (hd : dp + 3 < recursionLimit) (hu : un + 24 < cLine) (hret : ∀ e dx tup tk1 tk2 h' tk',Fr h₀ L h' m→News h₀ L h' ((e,excObjD tup dx) :: (dx,dictOf [⟨PyData.keyHash w.params "what",.str "what" tk1,.str xX1 t1⟩,⟨PyData.keyHash w.params "at",.str "at" tk2,.int at_ t2⟩] 2) :: restX1)→e ≠ dx→(∀ p ∈ restX1,p.1 < e)→(∀ p ∈ restX1,p.1 < dx)→QX1 (.ref e) { s with heap:=h',toks:=tk'}),?_;k_extra "G1";exact (call (.ref 61) [.str xX1 t1,.int at_ t2])
noncomputable def s_5 : Prop:=by k_extra "H1";refine ∀ (N : News h₀ L s.heap restX1) (b : Array UInt8) (ks : List Int) (hks : KBw.bInts b = ks) (at_ : Int) (count : Int) (h0 : 0 ≤ at_) (h1 : at_ < 2^40) (h2 : 0 ≤ count) (h3 : count < 2^40) (hb : ks.length < 2^20) (hd : dp + 4 < recursionLimit) (hu : un + 32 < cLine) (hret : at_ + count ≤ ks.length→∀ h' tk',Fr h₀ L h' m→News h₀ L h' restX1→QX1 .none { s with heap:=h',toks:=tk'}) (hE : ks.length < at_ + count→∀ e h' tk',Rz base s.heap [] (envX cn cs L a ccd cl :: outer) at_ e h'→E (.ref e) { s with heap:=h',toks:=tk'}),?_;k_extra "G1";exact (call (.ref 70) [.bytes b t1,.int at_ t2,.int count t3])
noncomputable def s_6 : Prop:=by k_extra "H1";refine ∀ (N : News h₀ L s.heap restX1) (b : Array UInt8) (ks : List Int) (hks : KBw.bInts b = ks) (at_ : Int) (h0 : 0 ≤ at_) (h1 : at_ < 2^40) (hb : ks.length < 2^20) (hd : dp + 5 < recursionLimit) (hu : un + 40 < cLine) (hret : at_ + 2 ≤ ks.length→∀ t h' tk',Fr h₀ L h' m→News h₀ L h' restX1→QX1 (.int (256 * ks.getD at_.toNat 0 + ks.getD (at_.toNat + 1) 0) t) { s with heap:=h',toks:=tk'}) (hE : ks.length < at_ + 2→∀ e h' tk',Rz base s.heap [] (envX cn cs L a ccd cl :: outer) at_ e h'→E (.ref e) { s with heap:=h',toks:=tk'}),?_;k_extra "G1";exact (call (.ref 77) [.bytes b t1,.int at_ t2,.int 2 t3])
noncomputable def s_7 : Prop:=by k_extra "H1";refine ∀ (N : News h₀ L s.heap restX1) {at_ : Int} {b : Array UInt8} (hx : (x,instObj 170 dx) ∈ restX1) (U : UpdF dx (inDict w b tb k1 k2 at_ ta) restX1 gU) (ks : List Int) (hks : KBw.bInts b = ks) (h0 : 0 ≤ at_) (h1 : at_ < 2^40) (hb : ks.length < 2^20) (hne : x ≠ dx) (hd : dp + 6 < recursionLimit) (hu : un + 48 < cLine) (hret : at_ + 2 ≤ ks.length→∀ t ta' h' tk',Fr h₀ L h' m→News h₀ L h' (gU (inDict w b tb k1 k2 (at_ + 2) ta'))→QX1 (.int (256 * ks.getD at_.toNat 0 + ks.getD (at_.toNat + 1) 0) t) { s with heap:=h',toks:=tk'}) (hE : ks.length < at_ + 2→∀ e h' tk',Rz base s.heap [x,dx] (envX cn cs L a ccd cl :: outer) at_ e h'→E (.ref e) { s with heap:=h',toks:=tk'}),?_;k_extra "G1";exact (call (.ref 113) [.ref x,.int 2 t2])
noncomputable def s_8 : Prop:=by k_extra "H1";refine ∀ (N : News h₀ L s.heap restX1) {at_ : Int} {b : Array UInt8} (hx : (x,instObj 170 dx) ∈ restX1) (U : UpdF dx (inDict w b tb k1 k2 at_ ta) restX1 gU) (ks : List Int) (hks : KBw.bInts b = ks) (h0 : 0 ≤ at_) (h1 : at_ < 2^40) (hb : ks.length < 2^20) (hne : x ≠ dx) (hd : dp + 7 < recursionLimit) (hu : un + 56 < cLine) (hret : at_ + 2 ≤ ks.length→∀ v t ta' h' tk',v = u16v ks at_→0 ≤ v→v < 65536→Fr h₀ L h' m→News h₀ L h' (gU (inDict w b tb k1 k2 (at_ + 2) ta'))→QX1 (.int v t) { s with heap:=h',toks:=tk'}) (hE : ks.length < at_ + 2→∀ e h' tk',Rz base s.heap [x,dx] (envX cn cs L a ccd cl :: outer) at_ e h'→E (.ref e) { s with heap:=h',toks:=tk'}),?_;k_extra "G1";exact (call (.ref 127) [.ref x])
noncomputable def s_9 : Prop:=by k_extra "H1";refine ∀ (N : News h₀ L s.heap restX1) (n : Int) (h0 : 0 ≤ n) (h1 : n < 65536) (hd : dp + 4 < recursionLimit) (hu : un + 32 < cLine) (hret : ∀ v t h' tk',v = s16 n→-32768 ≤ v→v ≤ 32767→Fr h₀ L h' m→News h₀ L h' restX1→QX1 (.int v t) { s with heap:=h',toks:=tk'}),?_;k_extra "G1";exact (call (.ref 84) [.int n t1,.int 16 t2])
noncomputable def s_10 : Prop:=by k_extra "H1";refine ∀ (N : News h₀ L s.heap restX1) {at_ : Int} {b : Array UInt8} (hx : (x,instObj 170 dx) ∈ restX1) (U : UpdF dx (inDict w b tb k1 k2 at_ ta) restX1 gU) (ks : List Int) (hks : KBw.bInts b = ks) (h0 : 0 ≤ at_) (h1 : at_ < 2^40) (hb : ks.length < 2^20) (hne : x ≠ dx) (count : Int) (c0 : 0 ≤ count) (c1 : count < 2^40) (hd : dp + 7 < recursionLimit) (hu : un + 56 < cLine) (hret : at_ + count ≤ ks.length→∀ h' tk',Fr h₀ L h' m→News h₀ L h' restX1→QX1 .none { s with heap:=h',toks:=tk'}) (hE : ks.length < at_ + count→∀ e h' tk',Rz base s.heap [x,dx] (envX cn cs L a ccd cl :: outer) at_ e h'→E (.ref e) { s with heap:=h',toks:=tk'}),?_;k_extra "G1";exact (call (.ref 106) [.ref x,.int count t2])
open PySem.Spec in
noncomputable def s_11 : Prop:=∀ {n : Nat} {St : Nat→Heap→Prop} (W : Walks prog w A I fp [I] n P St) (hIo : ∀ i h,St i h→∃ o,h.get? I = some o) (hLf : env.locals ∉ fp) (hI : h₀.get? I = none) (hnw : ∀ p ∈ news,p.1 ≠ I) (hst : St 0 s.heap) (F : Fr h₀ env.locals s.heap m₀) (N : News h₀ env.locals s.heap news) (hj : J 0 news) (turn : ∀ i v (u : Str→Option Value) news₁ own h tk,i < n→P i v→J i news₁→(∀ p ∈ own,p.1 ∈ fp)→(∃ o,(I,o) ∈ own)→(∀ p ∈ news₁,p.1 ≠ I) →
   Fr h₀ env.locals h (fun y=>if y = xX1 then some v else if storedX1.contains y then u y else m₀ y)→News h₀ env.locals h (news₁ ++ own) →
   wpAny (model prog w) A (execs body env) (TurnP h₀ env.locals I xX1 storedX1 m₀ (J (i + 1)) own { s with heap:=h,toks:=tk} QX2) E { s with heap:=h,toks:=tk}) (done : ∀ (u : Str→Option Value) news₁ h tk,J n news₁→Fr h₀ env.locals h (fun y=>if y = xX1 then u y else if storedX1.contains y then u y else m₀ y)→News h₀ env.locals h news₁→QX2 .next { s with heap:=h,toks:=tk}),
 LoopAtV prog w A h₀ env xX1 body QX2 E (.ref I) s
noncomputable def s_12 : Prop:=by k_extra "H1";refine ∀ (N : News h₀ L s.heap restX1) {at_ : Int} {b : Array UInt8} (hx : (x,instObj 170 dx) ∈ restX1) (U : UpdF dx (inDict w b tb k1 k2 at_ ta) restX1 gU) (ks : List Int) (hks : KBw.bInts b = ks) (h0 : 0 ≤ at_) (h1 : at_ < 2^40) (hb : ks.length < 2^20) (hne : x ≠ dx) (hd : dp + 7 < recursionLimit) (hu : un + 56 < cLine) (hret : at_ + 2 ≤ ks.length→∀ v t ta' h' tk',v = s16 (u16v ks at_)→-32768 ≤ v→v ≤ 32767→Fr h₀ L h' m→News h₀ L h' (gU (inDict w b tb k1 k2 (at_ + 2) ta'))→QX1 (.int v t) { s with heap:=h',toks:=tk'}) (hE : ks.length < at_ + 2→∀ e h' tk',Rz base s.heap [x,dx] (envX cn cs L a ccd cl :: outer) at_ e h'→E (.ref e) { s with heap:=h',toks:=tk'}),?_;k_extra "G1";exact (call (.ref 134) [.ref x])
noncomputable def s_13 : Prop:=by k_extra "H1";refine ∀ (N : News h₀ L s.heap restX1) {at_ : Int} {b : Array UInt8} (hx : (x,instObj 170 dx) ∈ restX1) (U : UpdF dx (inDict w b tb k1 k2 at_ ta) restX1 gU) (ks : List Int) (hks : KBw.bInts b = ks) (h0 : 0 ≤ at_) (h1 : at_ < 2^40) (hb : ks.length < 2^20) (hne : x ≠ dx) (count : Int) (c0 : 0 ≤ count) (c1 : count ≤ 2) (hd : dp + 9 < recursionLimit) (hu : un + 80 < cLine) (hret : at_ + 2 * count ≤ ks.length→∀ z l ta' h' tk',z = at_ + 2 * count→Fr h₀ L h' m→News h₀ L h' (gU (inDict w b tb k1 k2 z ta'))→QX1 (.ref l) { s with heap:=h',toks:=tk'}) (hE : ks.length < at_ + 2 * count→∀ e h' tk',Rz base s.heap [x,dx] (envX cn cs L a ccd cl :: outer) at_ e h'→E (.ref e) { s with heap:=h',toks:=tk'}),?_;k_extra "G1";exact (call (.ref 160) [.ref x,.int count t2])
noncomputable def s_14 : Prop:=by k_extra "H1";refine ∀ (N : News h₀ L s.heap restX1) (b : Array UInt8) (at_ : Int) (hd : dp + 4 < recursionLimit) (hu : un + 32 < cLine) (hret : ∀ x dx k1 k2 h' tk',Fr h₀ L h' m→News h₀ L h' ((x,instObj 170 dx) :: (dx,dictOf [⟨PyData.keyHash w.params "data",.str "data" k1,.bytes b tb⟩,⟨PyData.keyHash w.params "at",.str "at" k2,.int at_ ta⟩] 2) :: restX1)→(∀ p ∈ restX1,p.1 < dx)→dx < x→QX1 (.ref x) { s with heap:=h',toks:=tk'}),?_;k_extra "G1";exact (call (.ref 170) [.bytes b tb,.int at_ ta])
noncomputable def s_15 : Prop:=by k_extra "H1";refine ∀ (N : News h₀ L s.heap restX1) (vx : Int) (vy : Int) (hd : dp + 4 < recursionLimit) (hu : un + 32 < cLine) (hret : ∀ x dx k1 k2 h' tk',Fr h₀ L h' m→News h₀ L h' ((x,instObj 394 dx) :: (dx,dictOf [⟨PyData.keyHash w.params "x",.str "x" k1,.int vx tx⟩,⟨PyData.keyHash w.params "y",.str "y" k2,.int vy ty⟩] 2) :: restX1)→(∀ p ∈ restX1,p.1 < dx)→dx < x→QX1 (.ref x) { s with heap:=h',toks:=tk'}),?_;k_extra "G1";exact (call (.ref 394) [.int vx tx,.int vy ty])
noncomputable def s_16 : Prop:=by k_extra "H1";refine ∀ (N : News h₀ L s.heap restX1) (b : Array UInt8) (ks : List Int) (hks : KBw.bInts b = ks) (at_ : Int) (h0 : 0 ≤ at_) (h1 : at_ < 2^39) (hb : ks.length < 2^20) (hd : dp + 12 < recursionLimit) (hu : un + 120 < cLine) (hret : ∀ vx vy,rdAnchor ks at_ = .ok (vx,vy)→∀ r d k1 k2 tx ty h' tk',Fr h₀ L h' m→News h₀ L h' ((r,instObj 394 d) :: (d,ancDict w vx vy k1 k2 tx ty) :: restX1)→LCg.Off1 r restX1→LCg.Off1 d restX1→@Ne Nat r d→QX1 (.ref r) { s with heap:=h',toks:=tk'}) (hE : ∀ z,rdAnchor ks at_ = .error z→∀ e h' tk',Rz base s.heap [] (envX cn cs L a ccd cl :: outer) z e h'→E (.ref e) { s with heap:=h',toks:=tk'}),?_;k_extra "G1";exact (call (.ref 412) [.bytes b t1,.int at_ t2])
noncomputable def s_17 : Prop:=by k_extra "H1";refine ∀ (N : News h₀ L s.heap restX1) (b : Array UInt8) (ks : List Int) (hks : KBw.bInts b = ks) (beg : Int) (off : Int) (h0 : 0 ≤ beg) (h1 : beg < 2^38) (g0 : 0 ≤ off) (g1 : off < 2^38) (hb : ks.length < 2^20) (hd : dp + 14 < recursionLimit) (hu : un + 140 < cLine) (hnone : off = 0→∀ h' tk',Fr h₀ L h' m→News h₀ L h' restX1→QX1 .none { s with heap:=h',toks:=tk'}) (hret : off ≠ 0→∀ vx vy,rdAnchor ks (beg + off) = .ok (vx,vy)→∀ r d k1 k2 tx ty h' tk',Fr h₀ L h' m→News h₀ L h' ((r,instObj 394 d) :: (d,ancDict w vx vy k1 k2 tx ty) :: restX1)→LCg.Off1 r restX1→LCg.Off1 d restX1→@Ne Nat r d→QX1 (.ref r) { s with heap:=h',toks:=tk'}) (hE : off ≠ 0→∀ z,rdAnchor ks (beg + off) = .error z→∀ e h' tk',Rz base s.heap [] (envX cn cs L a ccd cl :: outer) z e h'→E (.ref e) { s with heap:=h',toks:=tk'}),?_;k_extra "G1";exact (call (.ref 433) [.bytes b t1,.int beg t2,.int off t3])
noncomputable def s_18 : Prop:=by k_extra "H1";refine ∀ (N : News h₀ L s.heap restX1) {at_ : Int} {b : Array UInt8} (hx : (x,instObj 170 dx) ∈ restX1) (U : UpdF dx (inDict w b tb k1 k2 at_ ta) restX1 gU) (ks : List Int) (hks : KBw.bInts b = ks) (h0 : 0 ≤ at_) (h1 : at_ < 2^40) (hb : ks.length < 2^20) (hne : x ≠ dx) {gs : List Int} (hn : u16v ks at_ = gs.length) (hroom : at_ + 2 + 2 * (gs.length : Int) ≤ ks.length) (hv : ∀ (i : Nat) (g : Int),gs[i]? = some g→u16v ks (at_ + 2 + 2 * (i : Int)) = g) (hasc : gs.Pairwise (· < ·)) (hl : gs.length < 60) (hd : dp + 10 < recursionLimit) (hu : un + 100 < cLine) (hret : ∀ l vs nn z ta' h' tk',IntsAre vs gs→z = at_ + 2 + 2 * (gs.length : Int)→Fr h₀ L h' m→News h₀ L h' ((l,listOf vs.toArray nn) :: gU (inDict w b tb k1 k2 z ta'))→QX1 (.ref l) { s with heap:=h',toks:=tk'}),?_;k_extra "G1";exact (call (.ref 341) [.ref x])
noncomputable def s_19 : Prop:=by k_extra "H1";refine ∀ (N : News h₀ L s.heap restX1) (b : Array UInt8) (ks : List Int) (hks : KBw.bInts b = ks) (at_ : Int) (h0 : 0 ≤ at_) (h1 : at_ < 2^39) (hb : ks.length < 2^20) (gs : List Int) (hl : gs.length ≤ 5) (hc : CovAt ks at_ gs) (hasc : gs.Pairwise (· < ·)) (hd : dp + 12 < recursionLimit) (hu : un + 120 < cLine) (hret : ∀ c d k t vs nn h' tk',IntsAre vs gs→Fr h₀ L h' m→News h₀ L h' ((c,instObj 316 d) :: (d,dictOf [⟨PyData.keyHash w.params "glyphs",.str "glyphs" k,.ref t⟩] 1) :: (t,{ cls:=.type "tuple",data:=.seq vs.toArray nn}) :: restX1)→LCg.Off1 c restX1→LCg.Off1 d restX1→LCg.Off1 t restX1→@Ne Nat c d→@Ne Nat c t→@Ne Nat d t→QX1 (.ref c) { s with heap:=h',toks:=tk'}),?_;k_extra "G1";exact (call (.ref 362) [.bytes b t1,.int at_ t2])
noncomputable def s_20 : Prop:=by k_extra "H1";refine ∀ (N : News h₀ L s.heap restX1) (b : Array UInt8) (ks : List Int) (hks : KBw.bInts b = ks) (at_ : Int) (h0 : 0 ≤ at_) (h1 : at_ < 2^30) (hb : ks.length < 2^20) (gs : List Int) (hl : gs.length ≤ 5) (hroom : at_ + 6 ≤ ks.length) (hc : CovAt ks (at_ + u16v ks (at_ + 2)) gs) (hasc : gs.Pairwise (· < ·)) (hd : dp + 18 < recursionLimit) (hu : un + 200 < cLine) (hret : ∀ rows,rdCur ks at_ gs = .ok rows→∀ c d k D oD kvs tl h' tk',oD.IsDictOf (intKind pw_nu0185_01 w) kvs→RowsV w tl kvs rows→Fr h₀ L h' m→News h₀ L h' ((c,instObj 474 d) :: (d,dictOf [⟨PyData.keyHash w.params "ends",.str "ends" k,.ref D⟩] 1) :: (D,oD) :: (tl ++ restX1))→(D == sysModules) = false→QX1 (.ref c) { s with heap:=h',toks:=tk'}) (hE : ∀ z,rdCur ks at_ gs = .error z→∀ e h' tk',Rz base s.heap [] (envX cn cs L a ccd cl :: outer) z e h'→E (.ref e) { s with heap:=h',toks:=tk'}),?_;k_extra "G1";exact (call (.ref 485) [.bytes b t1,.int at_ t2])
open PySem.Calls in
noncomputable def s_21 : Prop:=∀ {n : Nat} {St : Nat→Heap→Prop} (hx : env.kindOf xX1 = some .local) (hp : (env.scope.kind == .class || (env.scope.kind == .module && env.locals != env.globals)) = false) (W : Walks prog w A I fp [I] n P St) (hIo : ∀ i h,St i h→∃ o,h.get? I = some o) (hLf : env.locals ∉ fp) (hI : h₀.get? I = none) (hnw : ∀ p ∈ news,p.1 ≠ I) (hst : St 0 s.heap) (F : Fr h₀ env.locals s.heap m₀) (N : News h₀ env.locals s.heap news) (hj : J 0 news) (turn : ∀ i v (u : Str→Option Value) news₁ own h tk,i < n→P i v→J i news₁→(∀ p ∈ own,p.1 ∈ fp)→(∃ o,(I,o) ∈ own)→(∀ p ∈ news₁,p.1 ≠ I) →
   Fr h₀ env.locals h (fun y=>if y = xX1 then some v else if storedX1.contains y then u y else m₀ y)→News h₀ env.locals h (news₁ ++ own) →
   wpG (model prog w) A (execs body env) (TurnP h₀ env.locals I xX1 storedX1 m₀ (J (i + 1)) own { s with heap:=h,toks:=tk} QX2) { s with heap:=h,toks:=tk}) (done : ∀ (u : Str→Option Value) news₁ h tk,J n news₁→Fr h₀ env.locals h (fun y=>if y = xX1 then u y else if storedX1.contains y then u y else m₀ y)→News h₀ env.locals h news₁→QX2 .next { s with heap:=h,toks:=tk}),
 codeG (model prog w) A (.forLoop (.Name xX1 px) (.ref I) body [] env) (OkG QX2) s
open PySem.Calls in
noncomputable def s_22 : Prop:=∀ {g : Array GenState} {d : Drawn} {t : Nat} {os : OsState} (Y : Makes (model prog w) h C) (hi : Looks (model prog w) h (typeLookup (.ref C) "__init__") (some init)) (hb : ∀ self,Looks (model prog w) h (bindSpecial init self) (init,[self])) (hne : (some init != some (Value.builtin "object.__init__")) = true) (hq : codeG (model prog w) (A.under (.builtin "type.__call__" ⟨.ref C :: rest,kw⟩)) (.call init ⟨.ref (h.objs.size + 1) :: rest,kw⟩) (InitG (h.objs.size + 1) R) ⟨(h.push emptyDict).push (instObj C h.objs.size),g,d,t,os⟩),
 codeG (model prog w) A (.call (.ref C) ⟨rest,kw⟩) R ⟨h,g,d,t,os⟩
open PySem.Spec LCg LCt in
noncomputable def s_23 : Prop:=∀ (F₀ : Fr h₀ L s.heap m) (hclos : closureFor scope env = pure cl) (hcell : ∀ y ∈ scope.names,y.2 ≠ .cell) (hkind : scope.kind = .function) (hnames : ∀ y ∈ scope.names,y.2 = .local→scope.names.lookup y.1 = some .local) (hx : scope.names.lookup xX1 = some .local) (h : wpAny (model prog w) A (eval iter env) (CompSrcD prog w A h₀ L m env elt xX1 scope cl (fun s₂=>FinE h₀ L m s₂ QX1)) E s) (hs : ∀ xX1,foldedSetIterable iter env xX1 = pure xX1),
 wpAny (model prog w) A (eval (.ListComp elt [⟨.Name xX1 px,iter,[],0⟩] scope pos) env) QX1 E s
noncomputable def s_24 : Prop:=by k_extra "H1";refine ∀ (N : News h₀ L s.heap restX1) {z : Pt} (m1 : (r,instObj 394 dr) ∈ restX1) (m2 : (dr,ancDict w z.1 z.2 k1 k2 tx ty) ∈ restX1) (hd : dp + 4 < recursionLimit) (hu : un + 32 < cLine) (hret : ∀ t h' tk',Fr h₀ L h' m→News h₀ L h' (restX1 ++ [(t,({ cls:=.type "tuple",data:=.seq #[.int z.1 tx,.int z.2 ty]} : Obj))])→LCg.Off1 t restX1→QX1 (.ref t) { s with heap:=h',toks:=tk'}),?_;k_extra "G1";exact (call (.ref 391) [.ref r])
noncomputable def s_25 : Prop:=by k_extra "H1";refine ∀ (N : News h₀ L s.heap restX1) {v : Value} {o : Option Pt} (hv : AncV w restX1 v o) (hd : dp + 8 < recursionLimit) (hu : un + 64 < cLine) (hret : ∀ v' (l : List (Addr × Obj)) h' tk',DatIn l v' (datO o)→Fr h₀ L h' m→News h₀ L h' (restX1 ++ l)→(∀ p ∈ l,LCg.Off1 p.1 restX1)→QX1 v' { s with heap:=h',toks:=tk'}),?_;k_extra "G1";exact (call (.ref 405) [v])
noncomputable def s_26 : Prop:=by k_extra "H1";refine ∀ (sel : Bool) (fa : Addr) (hsel : fa = if sel then 454 else 461) (N : News h₀ L s.heap restX1) {kvs : List (Int × Value)} {rows : List Row} (hx : (x,instObj 474 d) ∈ restX1) (hdd : (d,dictOf [⟨PyData.keyHash w.params "ends",.str "ends" k,.ref D⟩] 1) ∈ restX1) (hD : (D,oD) ∈ restX1) (hi : oD.IsDictOf (intKind pw_nu0185_01 w) kvs) (hlo : (D == sysModules) = false) (hR : RowsV w restX1 kvs rows) (hasc : (rows.map (·.1)).Pairwise (· < ·)) {g : Int} {o : Option Pt × Option Pt} (hg : (g,o) ∈ rows) (hd : dp + 4 < recursionLimit) (hu : un + 32 < cLine) (hret : ∀ v' h' tk',AncV w restX1 v' (if sel then o.1 else o.2)→Fr h₀ L h' m→News h₀ L h' restX1→QX1 v' { s with heap:=h',toks:=tk'}),?_;k_extra "G1";exact (call (.ref fa) [.ref x,.int g t9])
noncomputable def s_27 : Prop:=by k_extra "H1";refine ∀ (N : News h₀ L s.heap restX1) {kvs : List (Int × Value)} {rows : List Row} (hx : (x,instObj 474 d) ∈ restX1) (hdd : (d,dictOf [⟨PyData.keyHash w.params "ends",.str "ends" k,.ref D⟩] 1) ∈ restX1) (hD : (D,oD) ∈ restX1) (hi : oD.IsDictOf (intKind pw_nu0185_01 w) kvs) (hlo : (D == sysModules) = false) (hR : RowsV w restX1 kvs rows) (hasc : (rows.map (·.1)).Pairwise (· < ·)) (hn : rows.length < 60) (hd : dp + 12 < recursionLimit) (hu : un + 120 < cLine) (hret : ∀ l (vs : List Value) c h' tk',IntsAre vs (keysE rows)→Fr h₀ L h' m→News h₀ L h' ((l,listOf vs.toArray c) :: restX1)→LCg.Off1 l restX1→QX1 (.ref l) { s with heap:=h',toks:=tk'}),?_;k_extra "G1";exact (call (.ref 466) [.ref x])
noncomputable def s_28 : Prop:=by k_extra "H1";refine ∀ (N : News h₀ L s.heap restX1) {kvs : List (Int × Value)} {rows : List Row} (hx : (x,instObj 474 d) ∈ restX1) (hdd : (d,dictOf [⟨PyData.keyHash w.params "ends",.str "ends" k,.ref D⟩] 1) ∈ restX1) (hD : (D,oD) ∈ restX1) (hi : oD.IsDictOf (intKind pw_nu0185_01 w) kvs) (hlo : (D == sysModules) = false) (hR : RowsV w restX1 kvs rows) (hasc : (rows.map (·.1)).Pairwise (· < ·)) (hn : rows.length < 60) (hd : dp + 16 < recursionLimit) (hu : un + 160 < cLine) (hret : ∀ v τ h' tk',DatIn τ v (.tuple ((rows.filter hasEnd).map datR))→Fr h₀ L h' m→News h₀ L h' (τ ++ restX1)→QX1 v { s with heap:=h',toks:=tk'}),?_;k_extra "G1";exact (call (.ref 471) [.ref x])
noncomputable def s_29 : Prop:=by k_extra "H1";refine ∀ (N : News h₀ L s.heap restX1) (n : Int) (h0 : 0 ≤ n) (h1 : n < 65536) (hd : dp + 4 < recursionLimit) (hu : un + 32 < cLine) (hret : ∀ b t h' tk',KBw.bInts b = [n / 256,n % 256]→Fr h₀ L h' m→News h₀ L h' restX1→QX1 (.bytes b t) { s with heap:=h',toks:=tk'}),?_;k_extra "G1";exact (call (.ref 179) [.int n t1,.int 2 t2])
noncomputable def s_30 : Prop:=by k_extra "H1";exact ∀ (N : News h₀ L s.heap restX1) {b : Array UInt8} (hx : (x,instObj 266 dx) ∈ restX1) (hdx : (dx,outDict w k ma) ∈ restX1) (U : UpdF ma (baObj b) restX1 gU) (hn1 : x ≠ dx) (hn2 : x ≠ ma) (hn3 : dx ≠ ma) (hb : b.size < 2^19) (n : Int) (c0 : 0 ≤ n) (c1 : n < 65536) (hd : dp + 7 < recursionLimit) (hu : un + 56 < cLine) (hret : ∀ b' h' tk',KBw.bInts b' = KBw.bInts b ++ [n / 256,n % 256]→b'.size = b.size + 2→Fr h₀ L h' m→News h₀ L h' (gU (baObj b'))→QX1 .none { s with heap:=h',toks:=tk'}),wpG (model pw_nu0185_01 w) (ktrTop dp un (some []) cn cs L a ccd cl outer) (call (.ref 207) [.ref x,.int n t2]) QX1 s
noncomputable def s_31 : Prop:=by k_extra "H1";exact ∀ (N : News h₀ L s.heap restX1) {b : Array UInt8} (hx : (x,instObj 266 dx) ∈ restX1) (hdx : (dx,outDict w k ma) ∈ restX1) (U : UpdF ma (baObj b) restX1 gU) (hn1 : x ≠ dx) (hn2 : x ≠ ma) (hn3 : dx ≠ ma) (hb : b.size < 2^19) (n : Int) (c0 : -32768 ≤ n) (c1 : n < 32768) (hd : dp + 7 < recursionLimit) (hu : un + 56 < cLine) (hret : ∀ b' h' tk',KBw.bInts b' = KBw.bInts b ++ [n % 65536 / 256,n % 65536 % 256]→b'.size = b.size + 2→Fr h₀ L h' m→News h₀ L h' (gU (baObj b'))→QX1 .none { s with heap:=h',toks:=tk'}),wpG (model pw_nu0185_01 w) (ktrTop dp un (some []) cn cs L a ccd cl outer) (call (.ref 214) [.ref x,.int n t2]) QX1 s
noncomputable def s_32 : Prop:=by k_extra "H1";exact ∀ (N : News h₀ L s.heap restX1) {b : Array UInt8} (hx : (x,instObj 266 dx) ∈ restX1) (hdx : (dx,outDict w k ma) ∈ restX1) (U : UpdF ma (baObj b) restX1 gU) (hn1 : x ≠ dx) (hn2 : x ≠ ma) (hn3 : dx ≠ ma) (hb : b.size < 2^19) (c : Array UInt8) (hc : c.size < 2^19) (hd : dp + 7 < recursionLimit) (hu : un + 56 < cLine) (hret : ∀ b' h' tk',KBw.bInts b' = KBw.bInts b ++ KBw.bInts c→b'.size = b.size + c.size→Fr h₀ L h' m→News h₀ L h' (gU (baObj b'))→QX1 .none { s with heap:=h',toks:=tk'}),wpG (model pw_nu0185_01 w) (ktrTop dp un (some []) cn cs L a ccd cl outer) (call (.ref 249) [.ref x,.bytes c t2]) QX1 s
noncomputable def s_33 : Prop:=by k_extra "H1";exact ∀ (N : News h₀ L s.heap restX1) {z : Int × Int} (hr : (r,instObj 394 d) ∈ restX1) (hdd : (d,ancDict w z.1 z.2 k1 k2 tx ty) ∈ restX1) (z1 : -32768 ≤ z.1) (z2 : z.1 < 32768) (z3 : -32768 ≤ z.2) (z4 : z.2 < 32768) (hd : dp + 12 < recursionLimit) (hu : un + 120 < cLine) (hret : ∀ b t h' tk',KBw.bInts b = anc8 z→b.size = 6→Fr h₀ L h' m→News h₀ L h' restX1→QX1 (.bytes b t) { s with heap:=h',toks:=tk'}),wpG (model pw_nu0185_01 w) (ktrTop dp un (some []) cn cs L a ccd cl outer) (call (.ref 419) [.ref r]) QX1 s
noncomputable def s_34 : Prop:=by k_extra "H1";refine ∀ (N : News h₀ L s.heap restX1) {c0 : Nat} {gs : List Int} (hl : (l,({ cls:=.type "tuple",data:=.seq vs.toArray c0} : Obj)) ∈ restX1) (hi : IntsAre vs gs) (hrun : NoRun gs) (hn : gs.length < 60) (hd : dp + 8 < recursionLimit) (hu : un + 64 < cLine) (hret : ∀ (r : Addr) (ws : List Value) (c : Nat) h' tk',gs.length ≤ 2 * ws.length→ws.length ≤ gs.length→Fr h₀ L h' m→News h₀ L h' ((r,listOf ws.toArray c) :: restX1)→LCg.Off1 r restX1→QX1 (.ref r) { s with heap:=h',toks:=tk'}),?_;k_extra "G1";exact (call (.ref 334) [.ref l])
noncomputable def s_35 : Prop:=by k_extra "H1";exact ∀ (N : News h₀ L s.heap restX1) {n' : Nat} {gs : List Int} (hc : (c,instObj 316 d) ∈ restX1) (hdd : (d,dictOf [⟨PyData.keyHash w.params "glyphs",.str "glyphs" k,.ref t⟩] 1) ∈ restX1) (htt : (t,({ cls:=.type "tuple",data:=.seq vs.toArray n'} : Obj)) ∈ restX1) (hi : IntsAre vs gs) (hrun : NoRun gs) (hn : gs.length < 60) (hb : ∀ g ∈ gs,0 ≤ g∧g < 65536) (hd : dp + 20 < recursionLimit) (hu : un + 200 < cLine) (hret : ∀ b t h' tk',KBw.bInts b = cov8 gs→b.size = 4 + 2 * gs.length→Fr h₀ L h' m→News h₀ L h' restX1→QX1 (.bytes b t) { s with heap:=h',toks:=tk'}),wpG (model pw_nu0185_01 w) (ktrTop dp un (some []) cn cs L a ccd cl outer) (call (.ref 370) [.ref c]) QX1 s
noncomputable def s_36 : Prop:=by k_extra "H1";exact ∀ (N : News h₀ L s.heap restX1) {b : Array UInt8} (hx : (x,instObj 266 dx) ∈ restX1) (hdx : (dx,outDict w k ma) ∈ restX1) (U : UpdF ma (baObj b) restX1 gU) (hn1 : x ≠ dx) (hn2 : x ≠ ma) (hn3 : dx ≠ ma) (hb : b.size < 2^19) {c0 : Nat} {ns : List Int} (hl : (l,listOf vs.toArray c0) ∈ restX1) (hi : IntsAre vs ns) (hbd : ∀ n ∈ ns,0 ≤ n∧n < 65536) (hnn : ns.length < 60) (hb3 : b.size < 2^18) (hn4 : l ≠ ma) (hd : dp + 12 < recursionLimit) (hu : un + 120 < cLine) (hret : ∀ b' h' tk',KBw.bInts b' = KBw.bInts b ++ ns.flatMap b16→b'.size = b.size + 2 * ns.length→Fr h₀ L h' m→News h₀ L h' (gU (baObj b'))→QX1 .none { s with heap:=h',toks:=tk'}),wpG (model pw_nu0185_01 w) (ktrTop dp un (some []) cn cs L a ccd cl outer) (call (.ref 242) [.ref x,.ref l]) QX1 s
noncomputable def s_37 : Prop:=by k_extra "H1";exact ∀ (N : News h₀ L s.heap restX1) {v : Value} {o : Option Pt} (hv : AncV w restX1 v o) (hz : PtsOk o) (hd : dp + 16 < recursionLimit) (hu : un + 160 < cLine) (hret : ∀ v' q h' tk',PartV v' q→EndB o q→Fr h₀ L h' m→News h₀ L h' restX1→QX1 v' { s with heap:=h',toks:=tk'}),wpG (model pw_nu0185_01 w) (ktrTop dp un (some []) cn cs L a ccd cl outer) (call (.ref 426) [v]) QX1 s
noncomputable def s_38 : Prop:=by k_extra "H1";refine ∀ (N : News h₀ L s.heap restX1) {c0 : Nat} {gs : List Int} (hl : (l,listOf vs.toArray c0) ∈ restX1) (hi : IntsAre vs gs) (hasc : gs.Pairwise (· < ·)) (hn : gs.length < 60) (hd : dp + 8 < recursionLimit) (hu : un + 64 < cLine) (hret : ∀ c d k t vs' n' h' tk',IntsAre vs' gs→Fr h₀ L h' m→News h₀ L h' ((c,instObj 316 d) :: (d,dictOf [⟨PyData.keyHash w.params "glyphs",.str "glyphs" k,.ref t⟩] 1) :: (t,{ cls:=.type "tuple",data:=.seq vs'.toArray n'}) :: restX1)→LCg.Off1 c restX1→LCg.Off1 d restX1→LCg.Off1 t restX1→@Ne Nat c d→@Ne Nat c t→@Ne Nat d t→QX1 (.ref c) { s with heap:=h',toks:=tk'}),?_;k_extra "G1";exact (call (.ref 327) [.ref l])
noncomputable def s_39 : Prop:=by k_extra "H1";exact ∀ (N : News h₀ L s.heap restX1) {c0 : Nat} {ps : List (Option (Array UInt8))} {beg : Int} (hl : (l,listOf vs.toArray c0) ∈ restX1) (hi : PartsV vs ps) (hsz : ∀ b,some b ∈ ps→b.size ≤ 20) (hnn : ps.length < 60) (h0 : 0 ≤ beg) (h1 : beg < 1000) (hd : dp + 12 < recursionLimit) (hu : un + 120 < cLine) (hret : ∀ T ob ovs c t n h' tk',IntsAre ovs (laidF beg ps).offs→Fr h₀ L h' m→News h₀ L h' ((T,({ cls:=.type "tuple",data:=.seq #[.ref ob,.bytes (laidF beg ps).out t] n} : Obj)) :: (ob,listOf ovs.toArray c) :: restX1)→LCg.Off1 T restX1→LCg.Off1 ob restX1→@Ne Nat T ob→QX1 (.ref T) { s with heap:=h',toks:=tk'}),wpG (model pw_nu0185_01 w) (ktrTop dp un (some []) cn cs L a ccd cl outer) (call (.ref 278) [.int beg tb,.ref l]) QX1 s
noncomputable def s_40 : Prop:=by k_extra "H1";exact ∀ (N : News h₀ L s.heap restX1) {kvs : List (Int × Value)} {rows : List Row} (hx : (x,instObj 474 d) ∈ restX1) (hdd : (d,dictOf [⟨PyData.keyHash w.params "ends",.str "ends" k,.ref D⟩] 1) ∈ restX1) (hD : (D,oD) ∈ restX1) (hi : oD.IsDictOf (intKind pw_nu0185_01 w) kvs) (hlo : (D == sysModules) = false) (hR : RowsV w restX1 kvs rows) (hasc : (rows.map (·.1)).Pairwise (· < ·)) (hn : rows.length ≤ 8) (hrun : NoRun (keysE rows)) (hgb : ∀ g ∈ keysE rows,0 ≤ g∧g < 65536) (hpt : ∀ r ∈ rows,PtsOk r.2.1∧PtsOk r.2.2) (hd : dp + 30 < recursionLimit) (hu : un + 300 < cLine) (hret : ∀ b t cov ps h' tk',KBw.bInts cov = cov8 (keysE rows)→EndsB (rows.filter hasEnd) ps→KBw.bInts b = [0,1] ++ b16 ((laidF (6 + 4 * (keysE rows).length) (some cov :: ps)).offs.getD 0 0) ++ b16 (keysE rows).length ++ ((laidF (6 + 4 * (keysE rows).length) (some cov :: ps)).offs.drop 1).flatMap b16 ++ KBw.bInts (laidF (6 + 4 * (keysE rows).length) (some cov :: ps)).out→Fr h₀ L h' m→News h₀ L h' restX1→QX1 (.bytes b t) { s with heap:=h',toks:=tk'}),wpG (model pw_nu0185_01 w) (ktrTop dp un (some []) cn cs L a ccd cl outer) (call (.ref 492) [.ref x]) QX1 s
noncomputable def s_41 : Prop:=by k_extra "H1";refine ∀ (N : News h₀ L s.heap restX1) {cc : Nat} {c : Nat} {cl9 : List Int} {k : Int} {lim : Int} (hC : (C,listOf cvs.toArray cc) ∈ restX1) (U : UpdF S (srcObj C k tX1 c) restX1 gU) (hne : S ≠ C) (hi : IntsAre cvs cl9) (h1 : 0 < cl9.length) (h2 : cl9.length < 100) (k0 : 0 ≤ k) (k1 : k < 2^20) (l0 : 0 < lim) (l1 : lim < 2^20) (hd : dp + 4 < recursionLimit) (hu : un + 32 < cLine) (hret : ∀ v t1 t2 c' h' tk',0 ≤ v→v < lim→Fr h₀ L h' m→News h₀ L h' (gU (srcObj C (k + 1) t2 c'))→QX1 (.int v t1) { s with heap:=h',toks:=tk'}),?_;k_extra "G1";exact (call (.ref 499) [.ref S,.int lim tl])
noncomputable def s_42 : Prop:=by k_extra "H1";refine ∀ (N : News h₀ L s.heap restX1) {ns : List Int} (hs : h₀.IsList sc vs.toArray) (hi : IntsAre vs ns) (hn : ns.length ≤ 63) (hd : dp + 4 < recursionLimit) (hu : un + 32 < cLine) (hret : ∀ S C cvs cc c t cs9 h' tk',IntsAre cvs cs9→0 < cs9.length→cs9.length < 100→Fr h₀ L h' m→News h₀ L h' ((S,srcObj C 0 t c) :: (C,listOf cvs.toArray cc) :: restX1)→@Ne Nat S C→LCg.Off1 S restX1→LCg.Off1 C restX1→QX1 (.ref S) { s with heap:=h',toks:=tk'}),?_;k_extra "G1";exact (call (.ref 504) [.ref sc])
noncomputable def s_43 : Prop:=by k_extra "H2";refine ∀ {cc : Nat} {c : Nat} {cl9 : List Int} {k : Int} (d1 : o1.data = .cell (some (.ref S))) (hi : IntsAre cvs cl9) (h1 : 0 < cl9.length) (h2 : cl9.length < 100) (k0 : 0 ≤ k) (k1 : k < 1000) (e1 : @Ne Nat S C) (e2 : @Ne Nat S c1) (e3 : @Ne Nat C c1) (w1 : LCg.Off1 S σ) (N : News h₀ L s.heap ((c1,o1) :: (S,srcObj C k tX1 c) :: (C,listOf cvs.toArray cc) :: σ)) (hret : ∀ P v0 v1 z0 z1 τ t' c' h' tk',PtIn z0→PtIn z1→DatIn τ v0 (datO (some z0))→DatIn τ v1 (datO (some z1))→Fr h₀ L h' (fun y=>if y = "points" then some (.ref P) else m y) →
   News h₀ L h' ((P,listOf #[v0,v1] 2) :: (c1,o1) :: (S,srcObj C (k + 4) t' c') :: (C,listOf cvs.toArray cc) :: (τ ++ σ))→LCg.Off1 S τ→(∀ p ∈ τ,LCg.Off1 p.1 σ)→LCg.Off1 P ((c1,o1) :: (S,srcObj C (k + 4) t' c') :: (C,listOf cvs.toArray cc) :: (τ ++ σ))→QX2 .next { s with heap:=h',toks:=tk'}),?_;k_extra "G2";exact (exec (bodySt 3 2) (envX "law" lawScope L a (.ref 536) [("octets",c5),("glyphs",c4),("data",c3),("ahead",c2),("source",c1)]))
noncomputable def s_44 : Prop:=by k_extra "H2";refine ∀ {way : Int} (hP : m "points" = some (.ref PX1)) (hw : m "way" = some (.int way tw)) (N : News h₀ L s.heap ((PX1,listOf #[v0,v1] 2) :: σ)) (hret : ∀ v h' tk',v = (if way.fmod 2 = 1 then v0 else .none)→Fr h₀ L h' (fun y=>if y = "one" then some v else m y)→News h₀ L h' ((PX1,listOf #[v0,v1] 2) :: σ)→QX2 .next { s with heap:=h',toks:=tk'}),?_;k_extra "G2";exact (exec (bodySt 3 3) (envX "law" lawScope L a (.ref 536) [("octets",c5),("glyphs",c4),("data",c3),("ahead",c2),("source",c1)]))
noncomputable def s_45 : Prop:=by k_extra "H2";refine ∀ {way : Int} (hP : m "points" = some (.ref PX1)) (hw : m "way" = some (.int way tw)) (N : News h₀ L s.heap ((PX1,listOf #[v0,v1] 2) :: σ)) (hret : ∀ v h' tk',v = (if way > 1 then v1 else .none)→Fr h₀ L h' (fun y=>if y = "two" then some v else m y)→News h₀ L h' ((PX1,listOf #[v0,v1] 2) :: σ)→QX2 .next { s with heap:=h',toks:=tk'}),?_;k_extra "G2";exact (exec (bodySt 3 4) (envX "law" lawScope L a (.ref 536) [("octets",c5),("glyphs",c4),("data",c3),("ahead",c2),("source",c1)]))
noncomputable def s_46 : Prop:=by k_extra "H2";refine ∀ {v1 : Value} {v2 : Value} {o1 : Option Pt} {o2 : Option Pt} {g : Int} {kvs : List (Int × Value)} (hv1 : m "one" = some v1) (hv2 : m "two" = some v2) (hg : m "glyph" = some (.int g tg)) (hE : m "ends" = some (.ref D)) (N : News h₀ L s.heap ((D,oD) :: σ)) (dv1 : DatIn σ v1 (datO o1)) (dv2 : DatIn σ v2 (datO o2)) (hi : oD.IsDictOf (intKind pw_nu0185_01 w) kvs) (hkl : kvs.length ≤ 8) (wD : LCg.Off1 D σ) (hlo : (D == sysModules) = false) (hret : ∀ oD' r μ h' tk',oD'.IsDictOf (intKind pw_nu0185_01 w) (stored kvs g (.ref r))→EndV w μ (.ref r) (o1,o2)→Fr h₀ L h' m→News h₀ L h' ((D,oD') :: (μ ++ σ))→(∀ p ∈ μ,LCg.Off1 p.1 σ)→LCg.Off1 D μ→QX2 .next { s with heap:=h',toks:=tk'}),?_;k_extra "G2";exact (exec (bodySt 3 5) (envX "law" lawScope L a (.ref 536) [("octets",c5),("glyphs",c4),("data",c3),("ahead",c2),("source",c1)]))
noncomputable def s_47 : Prop:=by k_extra "H2";refine ∀ {o1 : Option Pt} {o2 : Option Pt} {g : Int} {way : Int} {n : Nat} (hv1 : m "one" = some v1) (hv2 : m "two" = some v2) (hg : m "glyph" = some (.int g tg)) (hw : m "way" = some (.int way tw)) (hdu : m "due" = some (.ref du)) (N : News h₀ L s.heap ((du,listOf dvs.toArray n) :: σ)) (dv1 : DatIn τx v1 (datO o1)) (dv2 : DatIn τx v2 (datO o2)) (hdl : dvs.length < 100) (wD : LCg.Off1 du σ) (hret : ∀ dvs' n' μ h' tk',(0 < way→∃ v,dvs' = dvs ++ [v]∧DatIn (μ ++ τx) v (.tuple [.int g,datO o1,datO o2]))→(¬ 0 < way→dvs' = dvs)→Fr h₀ L h' m→News h₀ L h' ((du,listOf dvs'.toArray n') :: (μ ++ σ))→(∀ p ∈ μ,LCg.Off1 p.1 σ)→LCg.Off1 du μ→QX2 .next { s with heap:=h',toks:=tk'}),?_;k_extra "G2";exact (exec (bodySt 3 6) (envX "law" lawScope L a (.ref 536) [("octets",c5),("glyphs",c4),("data",c3),("ahead",c2),("source",c1)]))
noncomputable def s_48 : Prop:=by k_extra "H2";refine ∀ {cc : Nat} {c : Nat} {cl9 : List Int} {k : Int} (d1 : o1.data = .cell (some (.ref S))) (hi : IntsAre cvs cl9) (h1 : 0 < cl9.length) (h2 : cl9.length < 100) {i : Int} (hti : m "turn" = some (.int i ti)) (k0 : 0 ≤ k) (k1 : k < 1000) (e1 : @Ne Nat S C) (e2 : @Ne Nat S c1) (w1 : LCg.Off1 S σ) (N : News h₀ L s.heap ((c1,o1) :: (S,srcObj C k tX1 c) :: (C,listOf cvs.toArray cc) :: σ)) (hret : ∀ v tg t' c' h' tk',0 ≤ v→v < 4→Fr h₀ L h' (fun y=>if y = "glyph" then some (.int (4 * i + v) tg) else m y)→News h₀ L h' ((c1,o1) :: (S,srcObj C (k + 1) t' c') :: (C,listOf cvs.toArray cc) :: σ)→QX2 .next { s with heap:=h',toks:=tk'}),?_;k_extra "G2";exact (exec (bodySt 3 0) (envX "law" lawScope L a (.ref 536) [("octets",c5),("glyphs",c4),("data",c3),("ahead",c2),("source",c1)]))
noncomputable def s_49 : Prop:=by k_extra "H2";refine ∀ {cc : Nat} {c : Nat} {cl9 : List Int} {k : Int} (d1 : o1.data = .cell (some (.ref S))) (hi : IntsAre cvs cl9) (h1 : 0 < cl9.length) (h2 : cl9.length < 100) {n0 : Nat} (k0 : 0 ≤ k) (k1 : k < 100) (e1 : @Ne Nat S C) (e2 : @Ne Nat S c1) (e3 : @Ne Nat C c1) (e4 : @Ne Nat D c1) (e5 : @Ne Nat D S) (e6 : @Ne Nat D C) (e7 : @Ne Nat du c1) (e8 : @Ne Nat du S) (e9 : @Ne Nat du C) (e0 : @Ne Nat du D) (w1 : LCg.Off1 S σ) (w2 : LCg.Off1 D σ) (w3 : LCg.Off1 du σ) (hlo : (D == sysModules) = false) (hE : m "ends" = some (.ref D)) (hdu : m "due" = some (.ref du)) (hdi : oD.IsDictOf (intKind pw_nu0185_01 w) []) (N : News h₀ L s.heap ((c1,o1) :: (S,srcObj C k tX1 c) :: (C,listOf cvs.toArray cc) :: (D,oD) :: (du,listOf #[] n0) :: σ)) (hret : ∀ m' h' tk' n nl,n < 6→(∀ y : Str,y ≠ "turn" → LoopN.contains y = false→m' y = m y)→LoopJ w c1 o1 S C cvs cc D du σ (k + 1) n nl→Fr h₀ L h' m'→News h₀ L h' nl→QX2 .next { s with heap:=h',toks:=tk'}),?_;k_extra "G3";exact (exec (lawSt 3) (envX "law" lawScope L a (.ref 536) [("octets",c5),("glyphs",c4),("data",c3),("ahead",c2),("source",c1)]))
noncomputable def s_50 : Prop:=by k_extra "H2";refine ∀ {cc : Nat} {c : Nat} {cl9 : List Int} {k : Int} (d1 : o1.data = .cell (some (.ref S))) (hi : IntsAre cvs cl9) (h1 : 0 < cl9.length) (h2 : cl9.length < 100) (d2 : o2.data = .cell none) (k0 : 0 ≤ k) (k1 : k < 1000) (e1 : @Ne Nat S C) (e2 : @Ne Nat S c1) (f1 : @Ne Nat c2 c1) (f2 : @Ne Nat c2 S) (f3 : @Ne Nat c2 C) (w1 : LCg.Off1 S σ) (w2 : LCg.Off1 c2 σ) (N : News h₀ L s.heap ((c1,o1) :: (S,srcObj C k tX1 c) :: (C,listOf cvs.toArray cc) :: (c2,o2) :: σ)) (hret : ∀ b tb v t' c' o2' h' tk',v < 3→KBw.bInts b = List.replicate v 9→o2'.data = .cell (some (.bytes b tb))→Fr h₀ L h' m→News h₀ L h' ((c1,o1) :: (S,srcObj C (k + 1) t' c') :: (C,listOf cvs.toArray cc) :: (c2,o2') :: σ)→QX2 .next { s with heap:=h',toks:=tk'}),?_;k_extra "G2";exact (exec (lawSt 6) (envX "law" lawScope L a (.ref 536) [("octets",c5),("glyphs",c4),("data",c3),("ahead",c2),("source",c1)]))
noncomputable def s_51 : Prop:=by k_extra "H2";exact ∀ {ns : List Int} (hm : m "script" = some (.ref sc)) (hs : h₀.IsList sc vs.toArray) (hi : IntsAre vs ns) (hn : ns.length ≤ 63) (d1 : o1.data = .cell none) (a1 : @LT.lt Nat _ 534 c1) (a2 : @LT.lt Nat _ c1 c2) (a3 : @LT.lt Nat _ c2 c3) (a4 : @LT.lt Nat _ c3 c4) (a5 : @LT.lt Nat _ c4 c5) (N : News h₀ L s.heap [(c1,o1),(c2,o2),(c3,o3),(c4,o4),(c5,o5),(534,tabObj #[])]) (hret : ∀ (m' : Str→Option Value) (h' : Heap) (tk' : Tok) (S C : Addr) (cvs : List Value) (cc : Nat) (cl9 : List Int) (o1' : Obj) (k : Int) (t : Tok) (c : Nat) (D : Addr) (oD : Obj) (du : Addr) (kvs : List (Int × Value)) (dvs : List Value) (n : Nat) (τ : List (Addr × Obj)) (rows : List Row),
   SepS c1 c2 c3 c4 c5 S C→SepR c1 c2 c3 c4 c5 S C ((D,oD) :: (du,listOf dvs.toArray n) :: τ)→IntsAre cvs cl9→0 < cl9.length→cl9.length < 100→o1'.data = .cell (some (.ref S))→0 ≤ k→k < 60→m' "ends" = some (.ref D)→m' "due" = some (.ref du) →
   oD.IsDictOf (intKind pw_nu0185_01 w) kvs→(D == sysModules) = false→RowsV w τ kvs rows→DatAll τ dvs ((rows.filter hasEnd).map datR)→rows.length < 6→LawRows rows→Fr h₀ L h' m' →
   News h₀ L h' (Led c1 c2 c3 c4 c5 S C o1' o2 o3 o4 o5 (tabObj #[]) (k) t c cvs cc ((D,oD) :: (du,listOf dvs.toArray n) :: τ))→wpG (model pw_nu0185_01 w) (ktrTop dp un (some []) "law" lawScope L a (.ref 536) [("octets",c5),("glyphs",c4),("data",c3),("ahead",c2),("source",c1)] []) (execs restX2 (envX "law" lawScope L a (.ref 536) [("octets",c5),("glyphs",c4),("data",c3),("ahead",c2),("source",c1)])) QX2 { s with heap:=h',toks:=tk'}),wpG (model pw_nu0185_01 w) (ktrTop dp un (some []) "law" lawScope L a (.ref 536) [("octets",c5),("glyphs",c4),("data",c3),("ahead",c2),("source",c1)] []) (execs (lawSt 0 :: lawSt 1 :: lawSt 2 :: lawSt 3 :: restX2) (envX "law" lawScope L a (.ref 536) [("octets",c5),("glyphs",c4),("data",c3),("ahead",c2),("source",c1)])) QX2 s
open PySem.Calls LCg in
noncomputable def s_52 : Prop:=∀ {kk : Nat} {tk : Nat} (helt : elt = .Name y pe) (hh : A.handled = none) (hkind : scope.kind = .function) (hy : scope.names.lookup y = some .local) (hyd : (y == ("__debug__" : Str)) = false) (ha : OptV aX1) (hb : OptV b) (hit : h.IsTupleIter I2 T2 0) (htup : h.IsTuple T2 #[aX1,b]) (n1 : @Ne Nat T2 I2) (n2 : @Ne Nat C I2) (n3 : @Ne Nat D I2) (n4 : @Ne Nat C T2) (n5 : @Ne Nat D T2) (n6 : @Ne Nat D C) (hn : h.Ns C m') (hD : h.get? D = some (lst ys)) (hyl : ys.length < 100) (hR : ∀ h' tk' m'',h'.Ns C m''→h'.get? D = some (lst (ys ++ selV (aX1,b)))→(∀ x o,x ≠ I2→x ≠ C→x ≠ D→h.get? x = some o→h'.get? x = some o)→R (.ok .next) { s with heap:=h',toks:=tk'}),
 codeAny (model prog w) A (.compStart (comp2 elt t1X1 (.Name y py) it1 it2 (.Compare (.Name y pn) [.IsNot] [.Constant .none kk pk] pc) scope pos) 1 (.ref I2) (.ref D) (compEnvC scope cl C env)) R { s with heap:=h,toks:=tk}
open PySem.Calls LCg in
noncomputable def s_53 : Prop:=∀ {kk : Nat} {ab : List (Value × Value)} {RR : Value→Addr→Result→Shared→Prop} (helt : elt = .Name y pe) (hh : A.handled = none) (hsz : its.size < 40) (hab : ab.length = its.size) (hcell : ∀ y ∈ scope.names,y.2 ≠ .cell) (hkind : scope.kind = .function) (hx : scope.names.lookup xX1 = some .local) (hy : scope.names.lookup y = some .local) (hyd : (y == ("__debug__" : Str)) = false) (hI : s₂.heap.IsListIter I ax 0) (hl : s₂.heap.IsList ax its) (hne : @Ne Nat ax I) (F : Fr h₀ L s₂.heap m) (N : News h₀ L s₂.heap news) (hIL : L ≠ I) (hI₀ : h₀.get? I = none) (off : ∀ p ∈ news,p.1 ≠ I) (hax : ∃ o,(ax,o) ∈ news) (hopt : ∀ p ∈ ab,OptV p.1∧OptV p.2) (step : ∀ (i : Nat) v p,its[i]? = some v→ab[i]? = some p→Step2 prog w A h₀ L m env it2 xX1 scope cl s₂ news v p.1 p.2) (hf : ∀ xX1,foldedSetIterable it2 (compEnvC scope cl (s₂.heap.objs.size + 1) env) xX1 = pure xX1) (hRR : ∀ D C h tk m',Fr h₀ L h m→News h₀ L h ((D,lst (ab.flatMap selV)) :: news)→Off1 D news→h.Ns C m'→h₀.get? C = none→h₀.get? D = none→C ≠ L→D ≠ L→C ≠ D→(∀ p ∈ news,p.1 ≠ C)→RR (.ref D) C (.ok .next) { s₂ with heap:=h,toks:=tk}),
 wpAny (model prog w) A (newList []) (fun acc s₃=>wpAny (model prog w) A (newFunctionEnv scope env.globals cl [] env.qual none .none (some env)) (fun cenv s₄ =>
   codeAny (model prog w) A (.compStart (comp2 elt (.Name xX1 px) (.Name y py) it1 it2 (.Compare (.Name y pn) [.IsNot] [.Constant .none kk pk] pc) scope pos) 0 (.ref I) acc { cenv with scope:=relabel scope env}) (RR acc cenv.locals) s₄) noE s₃) noE s₂
noncomputable def s_54 : Prop:=by k_extra "H2";exact ∀ {n : Nat} {rows : List Row} (hdu : m "due" = some (.ref du)) (N : News h₀ L s.heap σ) (hm : (du,listOf dvs.toArray n) ∈ σ) (hda : DatAll σ dvs (rows.map datR)) (hl : rows.length < 40) (hret : ∀ P ys c h' tk',DatAll σ ys ((ptsOf rows).map datP)→Fr h₀ L h' (fun y=>if y = "points" then some (.ref P) else m y)→News h₀ L h' ((P,listOf ys.toArray c) :: σ)→LCg.Off1 P σ→QX2 .next { s with heap:=h',toks:=tk'}),wpAny (model pw_nu0185_01 w) (ktrTop dp un (some []) "law" lawScope L a (.ref 536) [("octets",c5),("glyphs",c4),("data",c3),("ahead",c2),("source",c1)] []) (exec (lawSt 7) (envX "law" lawScope L a (.ref 536) [("octets",c5),("glyphs",c4),("data",c3),("ahead",c2),("source",c1)])) QX2 Mine.noE s
open PySem.Calls in
noncomputable def s_55 : Prop:=∀ {D : List (List UInt8)} {k : List UInt8} {Q : Bool→Shared→Prop} (ho : s.heap.get? a = some o) (hS : BSet prog w o D) (hroom : D.length + 1 < 1000) (h : ∀ h' o' r,Heap.SameBut a s.heap h'→h'.get? a = some o'→BSet prog w o' (addD D k)→Q r { s with heap:=h'}),
 wpAny (model prog w) A (setAddHashed a (.bytes k.toArray tx) ((bytesKind prog w).hash k)) Q E s
open PySem.Calls in
noncomputable def s_56 : Prop:=∀ {ks : List (List UInt8)} (hh : A.handled = none) (hl : s.heap.IsList l items) (hkl : ks.length = items.size) (hi : ∀ (i : Nat) v,items[i]? = some v→∃ t k,ks[i]? = some k∧v = .bytes k.toArray t) (hb : items.size < 500) (h : ∀ (h' : Heap) (tk : Nat) o,h'.get? s.heap.objs.size = some o→BSet prog w o (foldD ks)→(∀ b o,b < s.heap.objs.size→s.heap.get? b = some o→h'.get? b = some o)→QX1 (.ref s.heap.objs.size) { s with heap:=h',toks:=tk}),
 wpAny (model prog w) A (call (.type "set") [.ref l]) QX1 E s
open LCg LCp in
noncomputable def s_57 : Prop:=∀ {Fin : List Value→List (Addr × Obj)→Prop} {n : Nat} (J : Nat→List Value→List (Addr × Obj)→Prop) (h0 : J 0 [] news₀) (fin : ∀ ys news,J n ys news→Fin ys news) (step : ∀ i ys news v,i < n→J i ys news→P i v→∃ (t : Addr) (ot : Obj) (v₁ v₂ : Value) (nt : Nat),v = .ref t∧(t,ot) ∈ news∧ot.cls = .type "tuple" ∧ ot.data = .seq #[v₁,v₂] nt ∧
   ∀ I oI C oC D m₂ h tk (E' : Value→Shared→Prop),NsObj oC m₂→m₂ xX1 = some v₁→m₂ x₂ = some v₂→Fr h₀ L h m→News h₀ L h ((I,oI) :: (C,oC) :: (D,lst ys) :: news)→Off3 I C D news→((@Ne Nat I C)∧(@Ne Nat I D)∧(@Ne Nat C D)) →
   wpAny (model prog w) A (eval elt (compEnvC scope cl C env)) (CompEnd h₀ L m { s with heap:=h,toks:=tk} I oI C oC D (lst ys) SX1 (fun y news'=>J (i + 1) (ys ++ [y]) news')) E' { s with heap:=h,toks:=tk}),
 CompRestP prog w A h₀ L m env elt xX1 x₂ scope cl s SX1 P Fin n 0 [] news₀
open LCg LCp in
noncomputable def s_58 : Prop:=by k_extra "H2";exact ∀ {n : Nat} {zs : List Pt} {σ : List (Addr × Obj)} (hp : m "points" = some (.ref PX1)) (N : News h₀ L s.heap σ) (hm : (PX1,listOf pvs.toArray n) ∈ σ) (hda : DatAll σ pvs (zs.map datP)) (hl : zs.length < 60) (hret : ∀ S o h' tk',BSet pw_nu0185_01 w o (foldD (zs.map fun z=>keyI (ptB z)))→Fr h₀ L h' (fun y=>if y = "parts" then some (.ref S) else m y)→News h₀ L h' ((S,o) :: σ)→LCg.Off1 S σ→QX2 .next { s with heap:=h',toks:=tk'}),wpAny (model pw_nu0185_01 w) (ktrTop dp un (some []) "law" lawScope L a (.ref 536) [("octets",c5),("glyphs",c4),("data",c3),("ahead",c2),("source",c1)] []) (exec (lawSt 8) (envX "law" lawScope L a (.ref 536) [("octets",c5),("glyphs",c4),("data",c3),("ahead",c2),("source",c1)])) QX2 Mine.noE s
noncomputable def s_59 : Prop:=by k_extra "H2";exact ∀ {n : Nat} {rows : List Row} {D : List (List UInt8)} (hS : m "parts" = some (.ref S)) (hdu : m "due" = some (.ref du)) (N : News h₀ L s.heap ((S,oS) :: σ)) (wS : LCg.Off1 S σ) (hm : (du,listOf dvs.toArray n) ∈ σ) (hda : DatAll σ dvs (rows.map datR)) (hl : rows.length < 60) (hB : BSet pw_nu0185_01 w oS D) (hDl : D.length < 100) (hasc : (rows.map (·.1)).Pairwise (· < ·)) (hrun : NoRun (rows.map (·.1))) (hgb : ∀ g ∈ rows.map (·.1),0 ≤ g∧g < 65536) (hret : ∀ b o' h' tk',KBw.bInts b = cov8 (rows.map (·.1))→b.size = 4 + 2 * rows.length→BSet pw_nu0185_01 w o' (addD D b.toList)→Fr h₀ L h' m→News h₀ L h' ((S,o') :: σ)→QX2 .next { s with heap:=h',toks:=tk'}),wpG (model pw_nu0185_01 w) (ktrTop dp un (some []) "law" lawScope L a (.ref 536) [("octets",c5),("glyphs",c4),("data",c3),("ahead",c2),("source",c1)] []) (exec (lawSt 9) (envX "law" lawScope L a (.ref 536) [("octets",c5),("glyphs",c4),("data",c3),("ahead",c2),("source",c1)])) QX2 s
open PySem.Calls in
noncomputable def s_60 : Prop:=∀ {b₀ : Stmt} {rest : List ExceptHandler} {KF : Frag} {at_ : Int} (R : Rz base G [] (envOf name scope L a cd :: outer) at_ e s'.heap) (F : Fr g L G m) (K : Below A₀ base outer g) (N : News g L G news) (XB : KF.In bX) (TB : Top p loose mean mg mb bX) (hh : ∀ b o,bX.get? b = some o→g.get? b = some o∧b ∉ outer.filterMap (·.frame)) (ex : nsIn KF mainGlobals xX1 = some (some (.ref 61))) (q : ktsIn KF 61 "BaseException" = true) (k : ∀ h' g' dx es kn vs sl tk,Fr g' L h' (fun y=>if y = n then some (.ref e) else m y)→News g' L h' ((e,flObj dx vs sl) :: (dx,dictOf es kn) :: news)→AtIs es at_→KtsTurn (outer.filterMap (·.frame)) g g'→Below A₀ base outer g'→KF.In g'→Top p loose mean mg mb g' →
   wpAny (model prog w) ((A₀.deeper (envOf name scope L a cd)).mark (some (.ref e))) (execs (b₀ :: suite) (envOf name scope L a cd))
    (fun f s₄=>wpAny (model prog w) (A₀.deeper (envOf name scope L a cd)) (do bindName (envOf name scope L a cd) n .none;unbindBehindTheSuite (envOf name scope L a cd) n pos) (fun _ s₅=>QX2 f s₅) E s₄)
    (AsSuiteRaised (model prog w) ((A₀.deeper (envOf name scope L a cd)).mark (some (.ref e))) (envOf name scope L a cd) n pos (notedBy (model prog w) ((A₀.deeper (envOf name scope L a cd)).mark (some (.ref e))) (envOf name scope L a cd) (cameBackBy (model prog w) (A₀.deeper (envOf name scope L a cd)) (envOf name scope L a cd) E)))
    { s' with heap:=h',toks:=tk}) (hk : scope.kind = .function) (hlo : (envOf name scope L a cd).kindOf n = some .local) (hx : (envOf name scope L a cd).kindOf xX1 = some .globalImplicit) (hd : (xX1 == ("__debug__" : Str)) = false),
 wpAny (model prog w) (A₀.deeper (envOf name scope L a cd)) (noteFrame (.ref e) (envOf name scope L a cd))
   (fun _ s₂=>wpAny (model prog w) (A₀.deeper (envOf name scope L a cd)) (setFlight (.ref e) none) (fun _ s₃ =>
    wpAny (model prog w) (A₀.deeper (envOf name scope L a cd)) (handleBy (.ref e) (envOf name scope L a cd) (.ExceptHandler (some (.Name xX1 np)) (some n) (b₀ :: suite) pos :: rest)) QX2 E s₃) E s₂) E s'
noncomputable def s_61 : Prop:=by k_extra "H1";refine ∀ (N : News h₀ L s.heap restX1) (b : Array UInt8) (ks : List Int) (hks : KBw.bInts b = ks) (at_ : Int) (h0 : 0 ≤ at_) (h1 : at_ < 2^40) (hb : ks.length < 2^20) (hd : dp + 5 < recursionLimit) (hu : un + 40 < cLine) (hret : at_ + 2 ≤ ks.length→∀ v t h' tk',v = u16v ks at_→0 ≤ v→v < 65536→Fr h₀ L h' m→News h₀ L h' restX1→QX1 (.int v t) { s with heap:=h',toks:=tk'}) (hE : ks.length < at_ + 2→∀ e h' tk',Rz base s.heap [] (envX cn cs L a ccd cl :: outer) at_ e h'→E (.ref e) { s with heap:=h',toks:=tk'}),?_;k_extra "G1";exact (call (.ref 511) [.bytes b t1,.int at_ t2])
noncomputable def s_62 : Prop:=by k_extra "H1";refine ∀ (N : News h₀ L s.heap restX1) (b : Array UInt8) (ks : List Int) (hks : KBw.bInts b = ks) (at_ : Int) (h0 : 0 ≤ at_) (h1 : at_ < 2^39) (hb : ks.length < 2^20) (hd : dp + 12 < recursionLimit) (hu : un + 120 < cLine) (hret : ∀ vx vy,rdAnchor ks at_ = .ok (vx,vy)→∀ r tx ty h' tk',Fr h₀ L h' m→News h₀ L h' ((r,({ cls:=.type "tuple",data:=.seq #[.int vx tx,.int vy ty]} : Obj)) :: restX1)→LCg.Off1 r restX1→QX1 (.ref r) { s with heap:=h',toks:=tk'}) (hE : ∀ z,rdAnchor ks at_ = .error z→∀ e h' tk',Rz base s.heap [] (envX cn cs L a ccd cl :: outer) z e h'→E (.ref e) { s with heap:=h',toks:=tk'}),?_;k_extra "G1";exact (call (.ref 518) [.bytes b t1,.int at_ t2])
open Classical in
noncomputable def s_63 : Prop:=by k_extra "H1";refine ∀ (N : News h₀ L s.heap restX1) {gc : Nat} {gs : List Int} (hg : (gl,listOf gvs.toArray gc) ∈ restX1) (hi : IntsAre gvs gs) (hl : gs.length < 60) (b : Array UInt8) (ks : List Int) (hks : KBw.bInts b = ks) (at_ : Int) (h0 : 0 ≤ at_) (h1 : at_ < 2^30) (hb : ks.length < 2^20) (hroom : at_ + 6 ≤ ks.length) (hd : dp + 18 < recursionLimit) (hu : un + 200 < cLine) (hret : ∀ rows,rdCur ks at_ gs = .ok rows→∀ v τ h' tk',DatIn τ v (.tuple ((rows.filter hasEnd).map datR))→Fr h₀ L h' m→News h₀ L h' (τ ++ restX1)→QX1 v { s with heap:=h',toks:=tk'}) (hE : ∀ z,rdCur ks at_ gs = .error z→∀ e h' tk',Rz base s.heap [] (envX cn cs L a ccd cl :: outer) z e h'→E (.ref e) { s with heap:=h',toks:=tk'}),?_;k_extra "G1";exact (call (.ref 525) [.bytes b t1,.int at_ t2,.ref gl])
noncomputable def s_64 : Prop:=∀ {n : Nat} {at_ : Int} (B : Below A₀ base outer h₀) (F : Fr h₀ L s.heap m) (X : (hd.heap_1 w.params).In h₀) (T : Top p loose mean mg mb h₀) (hA : A.frames = some (env :: outer)) (hf : env.frame = some L) (hke : env.scope.kind = .function) (N : News h₀ L s.heap ((e,flObj dx vsX1 sl) :: (dx,dictOf es n) :: restX1)) (hat : AtIs es at_) (hroom : A.depth < recursionLimit) (hret : ∀ t x tx ti h' tk',Fr h₀ L h' m→News h₀ L h' ((t,({ cls:=.type "tuple",data:=.seq #[.str x tx,.int at_ ti]} : Obj)) :: (e,flObj dx vsX1 sl) :: (dx,dictOf es n) :: restX1)→QX1 (.ref t) { s with heap:=h',toks:=tk'}),
 wpAny (model pw_nu0185_01 w) A (call (.ref 45) [.ref e]) QX1 E s
noncomputable def s_65 : Prop:=∀ {n : Nat} {at_ : Int} {pl : Sem Bool} {Q : Value × List Value→Shared→Prop} (F : Fr g L s.heap m) (X : (hd.heap_1 w.params).In g) (N : News g L s.heap ((e,flObj dx vsX1 sl) :: (dx,dictOf es n) :: news)) (A' : AtIs es at_) (h : Q (.ref 45,[.ref e]) s),
 wpAny (model pw_nu0185_01 w) A (getMethod (.ref e) "told" pl) Q E s
noncomputable def s_66 : Prop:=by k_extra "H3";exact ∀ (hk : cs.kind = .function) (N : News h₀ L s.heap restX1) {fd : FuncData} (hfn : (f,(⟨oc,od,.func fd,fsl⟩ : Obj)) ∈ restX1) {res : Except Int Dat} {D : Nat} {U : Nat} (hW : WorkC w p loose mean mg mb (envX cn cs L a ccd cl) f restX1 res D U) (hd : dp + D + 3 < recursionLimit) (hu : un + U + 20 < cLine) (hret : ∀ v τ h' tk',DatIn τ v (match res with | .ok d=>d | .error z=>.tuple [.str "fault",.int z])→Fr h₀ L h' m→News h₀ L h' (τ ++ restX1)→QX1 v { s with heap:=h',toks:=tk'}),wpAny (model pw_nu0185_01 w) (ktrTop dp un gd cn cs L a ccd cl []) (call (.ref 532) [.ref f]) QX1 E s
noncomputable def s_67 : Prop:=by k_extra "H2";refine ∀ {kvs : List (Int × Value)} {n : Nat} {rows9 : List Row} {rows : List Row} (hT : m "table" = some (.ref x)) (hdu : m "due" = some (.ref du)) (N : News h₀ L s.heap σ) (hm : (du,listOf dvs.toArray n) ∈ σ) (hx : (x,instObj 474 dx) ∈ σ) (hdd : (dx,dictOf [⟨PyData.keyHash w.params "ends",.str "ends" kt,.ref D⟩] 1) ∈ σ) (hD : (D,oD) ∈ σ) (hi : oD.IsDictOf (intKind pw_nu0185_01 w) kvs) (hlo : (D == sysModules) = false) (hR : RowsV w σ kvs rows9) (hasc9 : (rows9.map (·.1)).Pairwise (· < ·)) (hn9 : rows9.length < 50) (hrw : rows9.filter hasEnd = rows) (hda : DatAll σ dvs (rows.map datR)) (hret : ∀ h' tk',Fr h₀ L h' m→News h₀ L h' σ→QX2 .next { s with heap:=h',toks:=tk'}),?_;k_extra "G2";exact (exec (lawSt 10) (envX "law" lawScope L a (.ref 536) [("octets",c5),("glyphs",c4),("data",c3),("ahead",c2),("source",c1)]))
open LCg in
noncomputable def s_68 : Prop:=∀ (F₀ : Fr h₀ L s.heap m) (hclos : closureFor scope env = pure cl) (hcell : ∀ y ∈ scope.names,y.2 ≠ .cell) (hkind : scope.kind = .function) (hnames : ∀ y ∈ scope.names,y.2 = .local→scope.names.lookup y.1 = some .local) (hx : scope.names.lookup xX1 = some .local) (h : wpAny (model prog w) A (eval iter env) (SrcSet prog w A h₀ L m env elt xX1 scope cl (fun s₂=>FinE h₀ L m s₂ QX1)) E s) (hs : ∀ xX1,foldedSetIterable iter env xX1 = pure xX1),
 wpAny (model prog w) A (eval (.ListComp elt [⟨.Name xX1 px,iter,[],0⟩] scope pos) env) QX1 E s
open LCg in
noncomputable def s_69 : Prop:=by k_extra "H2";refine ∀ {b5 : Array UInt8} {ks : List Int} {n : Nat} {D : List (List UInt8)} (hS : m "parts" = some (.ref S)) (hdu : m "due" = some (.ref du)) (N : News h₀ L s.heap σ) (hm : (du,listOf dvs.toArray n) ∈ σ) (hdl : dvs.length < 60) (hm5 : (c5,o5) ∈ σ) (d5 : o5.data = .cell (some (.bytes b5 t5))) (hks : KBw.bInts b5 = ks) (hkl : ks.length < 100000) (hmS : (S,oS) ∈ σ) (hB : BSet pw_nu0185_01 w oS D) (hDl : D.length < 100) (heq : (ks.length : Int) = 6 + 4 * (dvs.length : Int) + (D.map fun k=>(k.length : Int)).sum) (hDs : ∀ k ∈ D,k.length < 10000) (hret : ∀ h' tk' d,Fr h₀ L h' m→News h₀ L h' σ→QX2 .next { s with heap:=h',toks:=tk',drawn:=d}),?_;k_extra "G2";exact (exec (lawSt 11) (envX "law" lawScope L a (.ref 536) [("octets",c5),("glyphs",c4),("data",c3),("ahead",c2),("source",c1)]))
noncomputable def s_70 : Prop:=by k_extra "H2";refine ∀ (CH : CodeHd h₀ 536 534) (w9 : LCg.Off1 534 σ) {b2 : Array UInt8} {b5 : Array UInt8} {ka : List Int} {ko : List Int} {n : Nat} {rows : List Row} {gs : List Int} (hdu : m "due" = some (.ref du)) (N : News h₀ L s.heap ((534,tabObj #[]) :: σ)) (hm : (du,listOf dvs.toArray n) ∈ σ) (hda : DatAll σ dvs (rows.map datR)) (hl : rows.length < 60) (m2 : (c2,o2) ∈ σ) (d2 : o2.data = .cell (some (.bytes b2 t2))) (m5 : (c5,o5) ∈ σ) (d5 : o5.data = .cell (some (.bytes b5 t5))) (hka : KBw.bInts b2 = ka) (hko : KBw.bInts b5 = ko) (za : ka.length < 2^18) (zo : ko.length < 2^18) (hb : (ka ++ ko).length < 2^20) (hgl : gs.length ≤ 5) (hroom : (ka.length : Int) + 6 ≤ (ka ++ ko).length) (hcov : CovAt (ka ++ ko) ((ka.length : Int) + u16v (ka ++ ko) ((ka.length : Int) + 2)) gs) (hasc : gs.Pairwise (· < ·)) (hres : toldRes (ka ++ ko) ka.length gs = .ok (.tuple (rows.map datR))) (hret : ∀ c' h' tk',Fr h₀ L h' m→News h₀ L h' ((534,tabObj (#[] ++ #[rawInt (lamPos 0).line,rawInt (lamPos 0).col,.ref c'])) :: σ)→QX2 .next { s with heap:=h',toks:=tk'}),?_;k_extra "G2";exact (exec (lawSt 12) (envX "law" lawScope L a (.ref 536) [("octets",c5),("glyphs",c4),("data",c3),("ahead",c2),("source",c1)]))
noncomputable def s_71 : Prop:=by k_extra "H2";exact ∀ {cc : Nat} {c : Nat} {cl9 : List Int} {k : Int} {kvs : List (Int × Value)} {n : Nat} {rows : List Row} (Z : SepS c1 c2 c3 c4 c5 S C) (d1 : o1.data = .cell (some (.ref S))) (hi : IntsAre cvs cl9) (h1 : 0 < cl9.length) (h2 : cl9.length < 100) (R : SepR c1 c2 c3 c4 c5 S C ((D,oD) :: (du,listOf dvs.toArray n) :: τ)) (k0 : 0 ≤ k) (k1 : k < 60) (hE : m "ends" = some (.ref D)) (hdi : oD.IsDictOf (intKind pw_nu0185_01 w) kvs) (hlo : (D == sysModules) = false) (hR : RowsV w τ kvs rows) (hda : DatAll τ dvs ((rows.filter hasEnd).map datR)) (hrl : rows.length < 6) (hL : LawRows rows) (d5 : o5.data = .cell none) (d2 : o2.data = .cell none) (N : News h₀ L s.heap (Led c1 c2 c3 c4 c5 S C o1 o2 o3 o4 o5 (tabObj #[]) (k) tX1 c cvs cc ((D,oD) :: (du,listOf dvs.toArray n) :: τ))) (hret : ∀ (m' : Str→Option Value) (h' : Heap) (tk' : Tok) (x dx : Addr) (kt : Tok) (b5 : Array UInt8) (t5 : Tok) (cov : Array UInt8) (ps : List (Option (Array UInt8))) (o5' : Obj) (b2 : Array UInt8) (t2 : Tok) (v2 : Nat) (o2' : Obj) (t' : Tok) (c' : Nat),
   SepR c1 c2 c3 c4 c5 S C ((x,instObj 474 dx) :: (dx,dictOf [⟨PyData.keyHash w.params "ends",.str "ends" kt,.ref D⟩] 1) :: (D,oD) :: (du,listOf dvs.toArray n) :: τ)→m' "table" = some (.ref x)→m' "due" = m "due" → KBw.bInts cov = cov8 (keysE rows)→EndsB (rows.filter hasEnd) ps→KBw.bInts b5 = tabB (keysE rows) (laidF (6 + 4 * (keysE rows).length) (some cov :: ps))→o5'.data = .cell (some (.bytes b5 t5))→v2 < 3→KBw.bInts b2 = List.replicate v2 9→o2'.data = .cell (some (.bytes b2 t2))→Fr h₀ L h' m' →
   News h₀ L h' (Led c1 c2 c3 c4 c5 S C o1 o2' o3 o4 o5' (tabObj #[]) (k + 1) t' c' cvs cc ((x,instObj 474 dx) :: (dx,dictOf [⟨PyData.keyHash w.params "ends",.str "ends" kt,.ref D⟩] 1) :: (D,oD) :: (du,listOf dvs.toArray n) :: τ))→wpG (model pw_nu0185_01 w) (ktrTop dp un (some []) "law" lawScope L a (.ref 536) [("octets",c5),("glyphs",c4),("data",c3),("ahead",c2),("source",c1)] []) (execs restX2 (envX "law" lawScope L a (.ref 536) [("octets",c5),("glyphs",c4),("data",c3),("ahead",c2),("source",c1)])) QX2 { s with heap:=h',toks:=tk'}),wpG (model pw_nu0185_01 w) (ktrTop dp un (some []) "law" lawScope L a (.ref 536) [("octets",c5),("glyphs",c4),("data",c3),("ahead",c2),("source",c1)] []) (execs (lawSt 4 :: lawSt 5 :: lawSt 6 :: restX2) (envX "law" lawScope L a (.ref 536) [("octets",c5),("glyphs",c4),("data",c3),("ahead",c2),("source",c1)])) QX2 s
noncomputable def s_72 : Prop:=by k_extra "H2";exact ∀ {cc : Nat} {c : Nat} {cl9 : List Int} {k : Int} {kvs : List (Int × Value)} {n : Nat} {rows : List Row} (R : SepR c1 c2 c3 c4 c5 S C ((x,instObj 474 dx) :: (dx,dictOf [⟨PyData.keyHash w.params "ends",.str "ends" kt,.ref D⟩] 1) :: (D,oD) :: (du,listOf dvs.toArray n) :: τ)) (hE : m "due" = some (.ref du)) (hda : DatAll τ dvs ((rows.filter hasEnd).map datR)) (hrl : rows.length < 6) (hL : LawRows rows) (N : News h₀ L s.heap (Led c1 c2 c3 c4 c5 S C o1 o2 o3 o4 o5 (tabObj #[]) (k) tX1 c cvs cc ((x,instObj 474 dx) :: (dx,dictOf [⟨PyData.keyHash w.params "ends",.str "ends" kt,.ref D⟩] 1) :: (D,oD) :: (du,listOf dvs.toArray n) :: τ))) (hret : ∀ (m' : Str→Option Value) (h' : Heap) (tk' : Tok) (P Sp : Addr) (oP oSp : Obj) (b9 : Array UInt8),
   SepR c1 c2 c3 c4 c5 S C ((P,oP) :: (x,instObj 474 dx) :: (dx,dictOf [⟨PyData.keyHash w.params "ends",.str "ends" kt,.ref D⟩] 1) :: (D,oD) :: (du,listOf dvs.toArray n) :: τ)→m' "table" = m "table" → m' "due" = m "due" → m' "parts" = some (.ref Sp)→KBw.bInts b9 = cov8 (keysE rows)→BSet pw_nu0185_01 w oSp (addD (foldD ((ptsOf (rows.filter hasEnd)).map fun z=>keyI (ptB z))) b9.toList)→Fr h₀ L h' m' →
   News h₀ L h' ((Sp,oSp) :: Led c1 c2 c3 c4 c5 S C o1 o2 o3 o4 o5 (tabObj #[]) (k) tX1 c cvs cc ((P,oP) :: (x,instObj 474 dx) :: (dx,dictOf [⟨PyData.keyHash w.params "ends",.str "ends" kt,.ref D⟩] 1) :: (D,oD) :: (du,listOf dvs.toArray n) :: τ))→wpG (model pw_nu0185_01 w) (ktrTop dp un (some []) "law" lawScope L a (.ref 536) [("octets",c5),("glyphs",c4),("data",c3),("ahead",c2),("source",c1)] []) (execs restX2 (envX "law" lawScope L a (.ref 536) [("octets",c5),("glyphs",c4),("data",c3),("ahead",c2),("source",c1)])) QX2 { s with heap:=h',toks:=tk'}),wpG (model pw_nu0185_01 w) (ktrTop dp un (some []) "law" lawScope L a (.ref 536) [("octets",c5),("glyphs",c4),("data",c3),("ahead",c2),("source",c1)] []) (execs (lawSt 7 :: lawSt 8 :: lawSt 9 :: restX2) (envX "law" lawScope L a (.ref 536) [("octets",c5),("glyphs",c4),("data",c3),("ahead",c2),("source",c1)])) QX2 s
noncomputable def s_73 : Prop:=by k_extra "H2";exact ∀ {cc : Nat} {c : Nat} {cl9 : List Int} {k : Int} {kvs : List (Int × Value)} {n : Nat} {rows : List Row} {b2 : Array UInt8} {b5 : Array UInt8} {b9 : Array UInt8} {cov : Array UInt8} {v2 : Nat} {ps : List (Option (Array UInt8))} (Z : SepS c1 c2 c3 c4 c5 S C) (CH : CodeHd h₀ 536 534) (R : SepR c1 c2 c3 c4 c5 S C ((PX1,oP) :: (x,instObj 474 dx) :: (dx,dictOf [⟨PyData.keyHash w.params "ends",.str "ends" kt,.ref D⟩] 1) :: (D,oD) :: (du,listOf dvs.toArray n) :: τ)) (hT : m "table" = some (.ref x)) (hE : m "due" = some (.ref du)) (hS : m "parts" = some (.ref Sp)) (hdi : oD.IsDictOf (intKind pw_nu0185_01 w) kvs) (hlo : (D == sysModules) = false) (hR : RowsV w τ kvs rows) (hda : DatAll τ dvs ((rows.filter hasEnd).map datR)) (hrl : rows.length < 6) (hL : LawRows rows) (hb9 : KBw.bInts b9 = cov8 (keysE rows)) (hB9 : BSet pw_nu0185_01 w oSp (addD (foldD ((ptsOf (rows.filter hasEnd)).map fun z=>keyI (ptB z))) b9.toList)) (hcov : KBw.bInts cov = cov8 (keysE rows)) (hEb : EndsB (rows.filter hasEnd) ps) (htab : KBw.bInts b5 = tabB (keysE rows) (laidF (6 + 4 * (keysE rows).length) (some cov :: ps))) (d5 : o5.data = .cell (some (.bytes b5 t5))) (hv2 : v2 < 3) (hb2 : KBw.bInts b2 = List.replicate v2 9) (d2 : o2.data = .cell (some (.bytes b2 t2))) (N : News h₀ L s.heap ((Sp,oSp) :: Led c1 c2 c3 c4 c5 S C o1 o2 o3 o4 o5 (tabObj #[]) (k) tX1 c cvs cc ((PX1,oP) :: (x,instObj 474 dx) :: (dx,dictOf [⟨PyData.keyHash w.params "ends",.str "ends" kt,.ref D⟩] 1) :: (D,oD) :: (du,listOf dvs.toArray n) :: τ))) (hret : ∀ (h' : Heap) (tk' : Tok) (d : Drawn) (x9 : Addr),Fr h₀ L h' m→News h₀ L h' (Led c1 c2 c3 c4 c5 S C o1 o2 o3 o4 o5 (tabObj (#[] ++ #[rawInt (lamPos 0).line,rawInt (lamPos 0).col,.ref x9])) (k) tX1 c cvs cc ((PX1,oP) :: (x,instObj 474 dx) :: (dx,dictOf [⟨PyData.keyHash w.params "ends",.str "ends" kt,.ref D⟩] 1) :: (D,oD) :: (du,listOf dvs.toArray n) :: τ))→wpG (model pw_nu0185_01 w) (ktrTop dp un (some []) "law" lawScope L a (.ref 536) [("octets",c5),("glyphs",c4),("data",c3),("ahead",c2),("source",c1)] []) (execs restX2 (envX "law" lawScope L a (.ref 536) [("octets",c5),("glyphs",c4),("data",c3),("ahead",c2),("source",c1)])) QX2 { s with heap:=h',toks:=tk',drawn:=d}),wpG (model pw_nu0185_01 w) (ktrTop dp un (some []) "law" lawScope L a (.ref 536) [("octets",c5),("glyphs",c4),("data",c3),("ahead",c2),("source",c1)] []) (execs (lawSt 10 :: lawSt 11 :: lawSt 12 :: restX2) (envX "law" lawScope L a (.ref 536) [("octets",c5),("glyphs",c4),("data",c3),("ahead",c2),("source",c1)])) QX2 s
noncomputable def s_74 : Prop:=by k_extra "H2";refine ∀ {v : Int} (hv : m "count" = some (.int v tv)) (v0 : 0 ≤ v) (v4 : v < 4) (d4 : o4.data = .cell none) (w4 : LCg.Off1 c4 σ) (N : News h₀ L s.heap ((c4,o4) :: σ)) (hret : ∀ gl gvs gc o4' h' tk',IntsAre gvs (([2,3,9] : List Int).take v.toNat)→o4'.data = .cell (some (.ref gl))→Fr h₀ L h' m→News h₀ L h' ((gl,listOf gvs.toArray gc) :: (c4,o4') :: σ)→LCg.Off1 gl ((c4,o4') :: σ)→QX2 .next { s with heap:=h',toks:=tk'}),?_;k_extra "G2";exact (exec (lawSt 14) (envX "law" lawScope L a (.ref 536) [("octets",c5),("glyphs",c4),("data",c3),("ahead",c2),("source",c1)]))
noncomputable def s_75 : Prop:=by k_extra "H2";refine ∀ {cc : Nat} {c : Nat} {cl9 : List Int} {k : Int} (d1 : o1.data = .cell (some (.ref S))) (hi : IntsAre cvs cl9) (h1 : 0 < cl9.length) (h2 : cl9.length < 100) {v : Int} (hv : m "count" = some (.int v tv)) (v0 : 0 ≤ v) (v4 : v < 4) (k0 : 0 ≤ k) (k1 : k < 1000) (e1 : @Ne Nat S C) (e2 : @Ne Nat S c1) (w1 : LCg.Off1 S σ) (N : News h₀ L s.heap ((c1,o1) :: (S,srcObj C k tX1 c) :: (C,listOf cvs.toArray cc) :: σ)) (hret : ∀ u tg t' c' h' tk',(u = v ∨ u = v + 1)→Fr h₀ L h' (fun y=>if y = "told_count" then some (.int u tg) else m y)→News h₀ L h' ((c1,o1) :: (S,srcObj C (k + 1) t' c') :: (C,listOf cvs.toArray cc) :: σ)→QX2 .next { s with heap:=h',toks:=tk'}),?_;k_extra "G2";exact (exec (lawSt 15) (envX "law" lawScope L a (.ref 536) [("octets",c5),("glyphs",c4),("data",c3),("ahead",c2),("source",c1)]))
noncomputable def s_76 : Prop:=by k_extra "H2";refine ∀ {v : Int} {b : Array UInt8} {ks : List Int} (hv : m "count" = some (.int v tv)) (hb : m "cover" = some (.bytes b tb)) (hks : KBw.bInts b = ks) (hl : ks.length < 100000) (N : News h₀ L s.heap σ) (v0 : 0 ≤ v) (v4 : v < 4) (hret : ∀ tg h' tk',Fr h₀ L h' (fun y=>if y = "begin" then some (.int (6 + 4 * v + ks.length) tg) else m y)→News h₀ L h' σ→QX2 .next { s with heap:=h',toks:=tk'}),?_;k_extra "G2";exact (exec (lawSt 17) (envX "law" lawScope L a (.ref 536) [("octets",c5),("glyphs",c4),("data",c3),("ahead",c2),("source",c1)]))
noncomputable def s_77 : Prop:=by k_extra "H2";exact ∀ {gc : Nat} {gs : List Int} (m4 : (c4,o4) ∈ σ) (d4 : o4.data = .cell (some (.ref gl))) (hgl : (gl,listOf gvs.toArray gc) ∈ σ) (hi : IntsAre gvs gs) (hgn : gs.length < 60) (hasc : gs.Pairwise (· < ·)) (hrun : NoRun gs) (hgb : ∀ g ∈ gs,0 ≤ g∧g < 65536) (N : News h₀ L s.heap σ) (hret : ∀ b tb h' tk',KBw.bInts b = cov8 gs→b.size = 4 + 2 * gs.length→Fr h₀ L h' (fun y=>if y = "cover" then some (.bytes b tb) else m y)→News h₀ L h' σ→QX2 .next { s with heap:=h',toks:=tk'}),wpG (model pw_nu0185_01 w) (ktrTop dp un (some []) "law" lawScope L a (.ref 536) [("octets",c5),("glyphs",c4),("data",c3),("ahead",c2),("source",c1)] []) (exec (lawSt 16) (envX "law" lawScope L a (.ref 536) [("octets",c5),("glyphs",c4),("data",c3),("ahead",c2),("source",c1)])) QX2 s
open PySem.Spec in
noncomputable def s_78 : Prop:=∀ {a₀ : Int} {b₀ : Int} {n : Nat} (J : Nat→(Str→Option Value)→List (Addr × Obj)→Prop) (hh : A.handled = none) (hr : IsRange s.heap r a₀ b₀ 1 t₀ u₀ v₀) (hsmall : Builtin.Range.small a₀ b₀ 1 = true) (hn : Builtin.Range.rangeSize a₀ b₀ 1 = (n : Int)) (F : Fr h₀ env.locals s.heap m₀) (N : News h₀ env.locals s.heap news) (hj : J 0 m₀ news) (turn : ∀ (i : Nat) (t : Tok) (m₁ : Str→Option Value) I news₁ own h tk,i < n→(∀ y,y ≠ xX1→storedX1.contains y = false→m₁ y = m₀ y)→J i m₁ news₁→(∀ p ∈ own,p.1 = I)→(∃ o,(I,o) ∈ own)→(∀ p ∈ news₁,p.1 ≠ I) →
   Fr h₀ env.locals h (fun y=>if y = xX1 then some (.int (a₀ + (i : Int)) t) else m₁ y)→News h₀ env.locals h (news₁ ++ own) →
   wpAny (model prog w) A (execs body env) (TurnM h₀ env.locals I xX1 storedX1 m₀ (J (i + 1)) own { s with heap:=h,toks:=tk} QX2) E { s with heap:=h,toks:=tk}) (done : ∀ (m' : Str→Option Value) news₁ h tk,(∀ y,y ≠ xX1→storedX1.contains y = false→m' y = m₀ y)→J n m' news₁→Fr h₀ env.locals h m'→News h₀ env.locals h news₁→QX2 .next { s with heap:=h,toks:=tk}),
 wpAny (model prog w) A (pyIter (.ref r)) (fun it s₂=>LoopAtV prog w A h₀ env xX1 body QX2 E it s₂) E s
noncomputable def s_79 : Prop:=by k_extra "H2";refine ∀ {cc : Nat} {c : Nat} {cl9 : List Int} {k : Int} (d1 : o1.data = .cell (some (.ref S))) (hi : IntsAre cvs cl9) (h1 : 0 < cl9.length) (h2 : cl9.length < 100) {v : Int} {u : Int} (hv : m "count" = some (.int v tv)) (hu9 : m "told_count" = some (.int u tu)) (v0 : 0 ≤ v) (v4 : v < 4) (u0 : 0 ≤ u) (u4 : u < 5) (k0 : 0 ≤ k) (k1 : k < 1000) (e1 : @Ne Nat S C) (e2 : @Ne Nat S c1) (w1 : LCg.Off1 S σ) (N : News h₀ L s.heap ((c1,o1) :: (S,srcObj C k tX1 c) :: (C,listOf cvs.toArray cc) :: σ)) (hret : ∀ f M mvs mc t' c' h' tk',(f = 1 ∨ f = 2)→IntsAre mvs [0,f,0,6 + 4 * v,0,u]→Fr h₀ L h' (fun y=>if y = "made" then some (.ref M) else m y)→News h₀ L h' ((M,listOf mvs.toArray mc) :: (c1,o1) :: (S,srcObj C (k + 1) t' c') :: (C,listOf cvs.toArray cc) :: σ)→LCg.Off1 M ((c1,o1) :: (S,srcObj C (k + 1) t' c') :: (C,listOf cvs.toArray cc) :: σ)→QX2 .next { s with heap:=h',toks:=tk'}),?_;k_extra "G2";exact (exec (lawSt 18) (envX "law" lawScope L a (.ref 536) [("octets",c5),("glyphs",c4),("data",c3),("ahead",c2),("source",c1)]))
noncomputable def s_80 : Prop:=by k_extra "H2";refine ∀ {cc : Nat} {c : Nat} {cl9 : List Int} {k : Int} (d1 : o1.data = .cell (some (.ref S))) (hi : IntsAre cvs cl9) (h1 : 0 < cl9.length) (h2 : cl9.length < 100) {bg : Int} (hb : m "begin" = some (.int bg tb)) (b0 : 0 ≤ bg) (b1 : bg < 100) (k0 : 0 ≤ k) (k1 : k < 1000) (e1 : @Ne Nat S C) (e2 : @Ne Nat S c1) (w1 : LCg.Off1 S σ) (N : News h₀ L s.heap ((c1,o1) :: (S,srcObj C k tX1 c) :: (C,listOf cvs.toArray cc) :: σ)) (hret : ∀ f tf t' c' h' tk',0 ≤ f→f < 400→Fr h₀ L h' (fun y=>if y = "offset" then some (.int f tf) else m y)→News h₀ L h' ((c1,o1) :: (S,srcObj C (k + 1) t' c') :: (C,listOf cvs.toArray cc) :: σ)→QX2 .next { s with heap:=h',toks:=tk'}),?_;k_extra "G2";exact (exec (bodySt 19 0) (envX "law" lawScope L a (.ref 536) [("octets",c5),("glyphs",c4),("data",c3),("ahead",c2),("source",c1)]))
noncomputable def s_81 : Prop:=by k_extra "H2";refine ∀ {f : Int} {mc : Nat} {ks : List Int} (hf : m "offset" = some (.int f tf)) (f0 : 0 ≤ f) (f1 : f < 400) (hM : m "made" = some (.ref M)) (hm : (M,listOf mvs.toArray mc) ∈ σ) (hi : IntsAre mvs ks) (hl : ks.length < 200) (N : News h₀ L s.heap σ) (hret : ∀ M' mvs' mc' h' tk',IntsAre mvs' (ks ++ [f.fdiv 256,f.fmod 256])→Fr h₀ L h' (fun y=>if y = "made" then some (.ref M') else m y)→News h₀ L h' ((M',listOf mvs'.toArray mc') :: σ)→LCg.Off1 M' σ→QX2 .next { s with heap:=h',toks:=tk'}),?_;k_extra "G2";exact (exec (bodySt 19 1) (envX "law" lawScope L a (.ref 536) [("octets",c5),("glyphs",c4),("data",c3),("ahead",c2),("source",c1)]))
noncomputable def s_82 : Prop:=by k_extra "H2";refine ∀ {cc : Nat} {c : Nat} {cl9 : List Int} {k : Int} (d1 : o1.data = .cell (some (.ref S))) (hi : IntsAre cvs cl9) (h1 : 0 < cl9.length) (h2 : cl9.length < 100) {v : Int} {bg : Int} {mc : Nat} {ks0 : List Int} (hv : m "count" = some (.int v tv)) (v0 : 0 ≤ v) (v4 : v < 4) (hb : m "begin" = some (.int bg tb)) (b0 : 0 ≤ bg) (b1 : bg < 100) (hM : m "made" = some (.ref M)) (hmi : IntsAre mvs ks0) (hml : ks0.length < 100) (sM : @Ne Nat S M) (k0 : 0 ≤ k) (k1 : k < 500) (e1 : @Ne Nat S C) (e2 : @Ne Nat S c1) (w1 : LCg.Off1 S σ) (N : News h₀ L s.heap ((c1,o1) :: (S,srcObj C k tX1 c) :: (C,listOf cvs.toArray cc) :: ((M,listOf mvs.toArray mc) :: σ))) (hret : ∀ m' h' tk' nl,(∀ y : Str,y ≠ "number" → OffN.contains y = false→m' y = m y)→MadeJ c1 o1 S C cvs cc σ k 1 2 ks0 (2 * v).toNat m' nl→Fr h₀ L h' m'→News h₀ L h' nl→QX2 .next { s with heap:=h',toks:=tk'}),?_;k_extra "G3";exact (exec (lawSt 19) (envX "law" lawScope L a (.ref 536) [("octets",c5),("glyphs",c4),("data",c3),("ahead",c2),("source",c1)]))
noncomputable def s_83 : Prop:=by k_extra "H2";refine ∀ {cc : Nat} {c : Nat} {cl9 : List Int} {k : Int} (d1 : o1.data = .cell (some (.ref S))) (hi : IntsAre cvs cl9) (h1 : 0 < cl9.length) (h2 : cl9.length < 100) {mc : Nat} {ks : List Int} (hM : m "made" = some (.ref M)) (hmi : IntsAre mvs ks) (hml : ks.length < 100) (hmm : (M,listOf mvs.toArray mc) ∈ σ) (k0 : 0 ≤ k) (k1 : k < 500) (e1 : @Ne Nat S C) (e2 : @Ne Nat S c1) (w1 : LCg.Off1 S σ) (e3 : @Ne Nat C c1) (N : News h₀ L s.heap ((c1,o1) :: (S,srcObj C k tX1 c) :: (C,listOf cvs.toArray cc) :: σ)) (hret : ∀ M' mvs' mc' es t' c' h' tk',IntsAre mvs' (ks ++ es)→es.length = 10→KBa.In es→Fr h₀ L h' (fun y=>if y = "made" then some (.ref M') else m y)→News h₀ L h' ((M',listOf mvs'.toArray mc') :: (c1,o1) :: (S,srcObj C (k + 9) t' c') :: (C,listOf cvs.toArray cc) :: σ)→LCg.Off1 M' ((c1,o1) :: (S,srcObj C (k + 9) t' c') :: (C,listOf cvs.toArray cc) :: σ)→QX2 .next { s with heap:=h',toks:=tk'}),?_;k_extra "G2";exact (exec (bodySt 21 0) (envX "law" lawScope L a (.ref 536) [("octets",c5),("glyphs",c4),("data",c3),("ahead",c2),("source",c1)]))
noncomputable def s_84 : Prop:=by k_extra "H2";refine ∀ {cc : Nat} {c : Nat} {cl9 : List Int} {k : Int} (d1 : o1.data = .cell (some (.ref S))) (hi : IntsAre cvs cl9) (h1 : 0 < cl9.length) (h2 : cl9.length < 100) {mc : Nat} {ks0 : List Int} (hM : m "made" = some (.ref M)) (hmi : IntsAre mvs ks0) (hml : ks0.length < 80) (sM : @Ne Nat S M) (k0 : 0 ≤ k) (k1 : k < 400) (e1 : @Ne Nat S C) (e2 : @Ne Nat S c1) (w1 : LCg.Off1 S σ) (e3 : @Ne Nat C c1) (N : News h₀ L s.heap ((c1,o1) :: (S,srcObj C k tX1 c) :: (C,listOf cvs.toArray cc) :: ((M,listOf mvs.toArray mc) :: σ))) (hret : ∀ m' h' tk' nl,(∀ y : Str,y ≠ "turn" → MadeN.contains y = false→m' y = m y)→MadeJ c1 o1 S C cvs cc σ k 9 10 ks0 2 m' nl→Fr h₀ L h' m'→News h₀ L h' nl→QX2 .next { s with heap:=h',toks:=tk'}),?_;k_extra "G3";exact (exec (lawSt 21) (envX "law" lawScope L a (.ref 536) [("octets",c5),("glyphs",c4),("data",c3),("ahead",c2),("source",c1)]))
noncomputable def s_85 : Prop:=by k_extra "H2";refine ∀ {cc : Nat} {c : Nat} {cl9 : List Int} {k : Int} (d1 : o1.data = .cell (some (.ref S))) (hi : IntsAre cvs cl9) (h1 : 0 < cl9.length) (h2 : cl9.length < 100) {b2 : Array UInt8} {ka : List Int} {M : Addr} {mvs : List Value} {mc : Nat} {ks : List Int} (hM : m "made" = some (.ref M)) (hmi : IntsAre mvs ks) (hml : ks.length < 120) (hm20 : 20 ≤ ks.length) (hkin : KBa.In ks) (d2 : o2.data = .cell (some (.bytes b2 t2))) (hka : KBw.bInts b2 = ka) (za : ka.length < 1000) (d3 : o3.data = .cell none) (w3 : LCg.Off1 c3 σ) (f1 : @Ne Nat c3 c1) (f2 : @Ne Nat c3 S) (f3 : @Ne Nat c3 C) (y2 : @Ne Nat c3 c2) (yM : @Ne Nat c3 M) (x3 : @Ne Nat S c3) (x2 : @Ne Nat S c2) (xM : @Ne Nat S M) (k0 : 0 ≤ k) (k1 : k < 900) (e1 : @Ne Nat S C) (e2 : @Ne Nat S c1) (w1 : LCg.Off1 S σ) (N : News h₀ L s.heap ((c1,o1) :: (S,srcObj C k tX1 c) :: (C,listOf cvs.toArray cc) :: (c3,o3) :: (c2,o2) :: (M,listOf mvs.toArray mc) :: σ)) (hret : ∀ cut b tb k' t' c' o3' h' tk',cut < 20→KBw.bInts b = ka ++ ks.take (ks.length - cut)→o3'.data = .cell (some (.bytes b tb))→Fr h₀ L h' m→News h₀ L h' ((c1,o1) :: (S,srcObj C k' t' c') :: (C,listOf cvs.toArray cc) :: (c3,o3') :: (c2,o2) :: (M,listOf mvs.toArray mc) :: σ)→QX2 .next { s with heap:=h',toks:=tk'}),?_;k_extra "G2";exact (exec (lawSt 22) (envX "law" lawScope L a (.ref 536) [("octets",c5),("glyphs",c4),("data",c3),("ahead",c2),("source",c1)]))
noncomputable def s_86 : Prop:=by k_extra "H2";refine ∀ (CH : CodeHd h₀ 536 534) (w9 : LCg.Off1 534 σ) {b2 : Array UInt8} {b3 : Array UInt8} {ka : List Int} {ko : List Int} {gs : List Int} (N : News h₀ L s.heap ((534,tabObj (#[] ++ #[rawInt (lamPos 0).line,rawInt (lamPos 0).col,x9])) :: σ)) (m2 : (c2,o2) ∈ σ) (d2 : o2.data = .cell (some (.bytes b2 t2))) (m3 : (c3,o3) ∈ σ) (d3 : o3.data = .cell (some (.bytes b3 t3))) (hka : KBw.bInts b2 = ka) (hko : KBw.bInts b3 = ko) (za : ka.length < 2^18) (hb : ko.length < 2^20) (hgl : gs.length ≤ 5) (hroom : (ka.length : Int) + 6 ≤ ko.length) (hcov : CovAt ko ((ka.length : Int) + u16v ko ((ka.length : Int) + 2)) gs) (hasc : gs.Pairwise (· < ·)) (hret : ∀ v τ c' h' tk',DatIn τ v (resD ko ka.length gs)→LCg.Off1 534 τ→Fr h₀ L h' (fun y=>if y = "read" then some v else m y)→News h₀ L h' ((534,tabObj (#[] ++ #[rawInt (lamPos 0).line,rawInt (lamPos 0).col,x9] ++ #[rawInt (lamPos 1).line,rawInt (lamPos 1).col,.ref c'])) :: (τ ++ σ))→QX2 .next { s with heap:=h',toks:=tk'}),?_;k_extra "G2";exact (exec (lawSt 23) (envX "law" lawScope L a (.ref 536) [("octets",c5),("glyphs",c4),("data",c3),("ahead",c2),("source",c1)]))
noncomputable def s_87 : Prop:=by k_extra "H2";refine ∀ (CH : CodeHd h₀ 536 534) (w9 : LCg.Off1 534 σ) {b2 : Array UInt8} {b3 : Array UInt8} {ka : List Int} {ko : List Int} {gs : List Int} {gc : Nat} (hr : m "read" = some v) (dv : DatIn τ v (resD ko ka.length gs)) (hτ : ∀ p ∈ τ,p ∈ σ) (N : News h₀ L s.heap ((534,tabObj (#[] ++ #[rawInt (lamPos 0).line,rawInt (lamPos 0).col,x9] ++ #[rawInt (lamPos 1).line,rawInt (lamPos 1).col,x8])) :: σ)) (m2 : (c2,o2) ∈ σ) (d2 : o2.data = .cell (some (.bytes b2 t2))) (m3 : (c3,o3) ∈ σ) (d3 : o3.data = .cell (some (.bytes b3 t3))) (m4 : (c4,o4) ∈ σ) (d4 : o4.data = .cell (some (.ref gl))) (hgl : (gl,listOf gvs.toArray gc) ∈ σ) (hi : IntsAre gvs gs) (hka : KBw.bInts b2 = ka) (hko : KBw.bInts b3 = ko) (za : ka.length < 2^18) (hb : ko.length < 2^20) (hl : gs.length < 60) (hroom : (ka.length : Int) + 6 ≤ ko.length) (hret : ∀ h' tk',Fr h₀ L h' m→GrownAt 534 h'→QX2 (.ret (.bool true)) { s with heap:=h',toks:=tk'}),?_;k_extra "G2";exact (exec (lawSt 24) (envX "law" lawScope L a (.ref 536) [("octets",c5),("glyphs",c4),("data",c3),("ahead",c2),("source",c1)]))
noncomputable def s_88 : Prop:=by k_extra "H2";exact ∀ {cc : Nat} {c : Nat} {cl9 : List Int} {k : Int} (Z : SepS c1 c2 c3 c4 c5 S C) (d1 : o1.data = .cell (some (.ref S))) (hi : IntsAre cvs cl9) (h1 : 0 < cl9.length) (h2 : cl9.length < 100) (R : SepR c1 c2 c3 c4 c5 S C ρ) (k0 : 0 ≤ k) (k1 : k < 100) (d4 : o4.data = .cell none) (N : News h₀ L s.heap (Led c1 c2 c3 c4 c5 S C o1 o2 o3 o4 o5 (tabObj (#[] ++ #[rawInt (lamPos 0).line,rawInt (lamPos 0).col,.ref x9X1])) (k) tX1 c cvs cc (ρ))) (hret : ∀ (m' : Str→Option Value) (h' : Heap) (tk' : Tok) (v u : Int) (tg tu tb tn : Tok) (gl : Addr) (gvs : List Value) (gc : Nat) (o4' : Obj) (b : Array UInt8) (t' : Tok) (c' : Nat),
   SepR c1 c2 c3 c4 c5 S C ((gl,listOf gvs.toArray gc) :: ρ)→0 ≤ v→v < 4→0 ≤ u→u < 5→IntsAre gvs (gs2 v)→o4'.data = .cell (some (.ref gl))→m' "count" = some (.int v tg)→m' "told_count" = some (.int u tu)→m' "cover" = some (.bytes b tb)→KBw.bInts b = cov8 (gs2 v)→m' "begin" = some (.int (6 + 4 * v + (cov8 (gs2 v)).length) tn)→Fr h₀ L h' m' →
   News h₀ L h' (Led c1 c2 c3 c4 c5 S C o1 o2 o3 o4' o5 (tabObj (#[] ++ #[rawInt (lamPos 0).line,rawInt (lamPos 0).col,.ref x9X1])) (k + 1 + 1) t' c' cvs cc ((gl,listOf gvs.toArray gc) :: ρ))→wpG (model pw_nu0185_01 w) (ktrTop dp un (some []) "law" lawScope L a (.ref 536) [("octets",c5),("glyphs",c4),("data",c3),("ahead",c2),("source",c1)] []) (execs restX2 (envX "law" lawScope L a (.ref 536) [("octets",c5),("glyphs",c4),("data",c3),("ahead",c2),("source",c1)])) QX2 { s with heap:=h',toks:=tk'}),wpG (model pw_nu0185_01 w) (ktrTop dp un (some []) "law" lawScope L a (.ref 536) [("octets",c5),("glyphs",c4),("data",c3),("ahead",c2),("source",c1)] []) (execs (lawSt 13 :: lawSt 14 :: lawSt 15 :: lawSt 16 :: lawSt 17 :: restX2) (envX "law" lawScope L a (.ref 536) [("octets",c5),("glyphs",c4),("data",c3),("ahead",c2),("source",c1)])) QX2 s
noncomputable def s_89 : Prop:=by k_extra "H2";exact ∀ {cc : Nat} {c : Nat} {cl9 : List Int} {k : Int} {v : Int} {u : Int} {bg : Int} {b : Array UInt8} {b2 : Array UInt8} {v2 : Nat} (Z : SepS c1 c2 c3 c4 c5 S C) (d1 : o1.data = .cell (some (.ref S))) (hi : IntsAre cvs cl9) (h1 : 0 < cl9.length) (h2 : cl9.length < 100) (R : SepR c1 c2 c3 c4 c5 S C ρ) (k0 : 0 ≤ k) (k1 : k < 200) (v0 : 0 ≤ v) (v4 : v < 4) (u0 : 0 ≤ u) (u5 : u < 5) (hc : m "count" = some (.int v tg)) (ht : m "told_count" = some (.int u tu)) (hcv : m "cover" = some (.bytes b tb)) (hb : KBw.bInts b = cov8 (gs2 v)) (hbg : m "begin" = some (.int bg tn)) (ebg : bg = 6 + 4 * v + (cov8 (gs2 v)).length) (d2 : o2.data = .cell (some (.bytes b2 t2))) (hv2 : v2 < 3) (hb2 : KBw.bInts b2 = List.replicate v2 9) (d3 : o3.data = .cell none) (N : News h₀ L s.heap (Led c1 c2 c3 c4 c5 S C o1 o2 o3 o4 o5 (tabObj (#[] ++ #[rawInt (lamPos 0).line,rawInt (lamPos 0).col,.ref x9X1])) (k) tX1 c cvs cc (ρ))) (hret : ∀ (m' : Str→Option Value) (h' : Heap) (tk' : Tok) (f : Int) (os es : List Int) (cut : Nat) (b3 : Array UInt8) (t3 : Tok) (o3' : Obj),(os.length : Int) = 4 * v→es.length = 20→cut < 20→KBw.bInts b3 = List.replicate v2 9 ++ (made v f u os es).take ((made v f u os es).length - cut)→o3'.data = .cell (some (.bytes b3 t3))→Fr h₀ L h' m' →
   News h₀ L h' ((534,tabObj (#[] ++ #[rawInt (lamPos 0).line,rawInt (lamPos 0).col,.ref x9X1])) :: (c2,o2) :: (c3,o3') :: (c4,o4) :: ρ)→wpG (model pw_nu0185_01 w) (ktrTop dp un (some []) "law" lawScope L a (.ref 536) [("octets",c5),("glyphs",c4),("data",c3),("ahead",c2),("source",c1)] []) (execs restX2 (envX "law" lawScope L a (.ref 536) [("octets",c5),("glyphs",c4),("data",c3),("ahead",c2),("source",c1)])) QX2 { s with heap:=h',toks:=tk'}),wpG (model pw_nu0185_01 w) (ktrTop dp un (some []) "law" lawScope L a (.ref 536) [("octets",c5),("glyphs",c4),("data",c3),("ahead",c2),("source",c1)] []) (execs (lawSt 18 :: lawSt 19 :: lawSt 20 :: lawSt 21 :: lawSt 22 :: restX2) (envX "law" lawScope L a (.ref 536) [("octets",c5),("glyphs",c4),("data",c3),("ahead",c2),("source",c1)])) QX2 s
noncomputable def fam : List Prop :=
 [s_0 A E h nm q rest Q,
  s_1 A h rest prog w R,
  s_2 A E h prog w so x ox tk,
  s_3 A E h Q prog w x tup name v,
  s_4 E w p loose mean mg mb dp un gd cn cs a ccd cl outer A₀ base h₀ L m restX1 s QX1 xX1 t1 t2,
  s_5 E w p loose mean mg mb dp un gd cn cs a ccd cl outer A₀ base h₀ L m restX1 s QX1 t1 t2 t3,
  s_6 E w p loose mean mg mb dp un gd cn cs a ccd cl outer A₀ base h₀ L m restX1 s QX1 t1 t2 t3,
  s_7 E w x p loose mean mg mb dp un gd cn cs a ccd cl outer A₀ base h₀ L m restX1 s QX1 t2 dx gU tb k1 k2 ta,
  s_8 E w x p loose mean mg mb dp un gd cn cs a ccd cl outer A₀ base h₀ L m restX1 s QX1 dx gU tb k1 k2 ta,
  s_9 E w p loose mean mg mb dp un gd cn cs a ccd cl outer A₀ base h₀ L m restX1 s QX1 t1 t2,
  s_10 E w x p loose mean mg mb dp un gd cn cs a ccd cl outer A₀ base h₀ L m restX1 s QX1 t2 dx gU tb k1 k2 ta,
  s_11 A E prog w h₀ s xX1 env body QX2 I fp P m₀ news storedX1 J,
  s_12 E w x p loose mean mg mb dp un gd cn cs a ccd cl outer A₀ base h₀ L m restX1 s QX1 dx gU tb k1 k2 ta,
  s_13 E w x p loose mean mg mb dp un gd cn cs a ccd cl outer A₀ base h₀ L m restX1 s QX1 t2 dx gU tb k1 k2 ta,
  s_14 E w p loose mean mg mb dp un gd cn cs a ccd cl outer A₀ base h₀ L m restX1 s QX1 tb ta,
  s_15 E w p loose mean mg mb dp un gd cn cs a ccd cl outer A₀ base h₀ L m restX1 s QX1 tx ty,
  s_16 E w p loose mean mg mb dp un gd cn cs a ccd cl outer A₀ base h₀ L m restX1 s QX1 t1 t2,
  s_17 E w p loose mean mg mb dp un gd cn cs a ccd cl outer A₀ base h₀ L m restX1 s QX1 t1 t2 t3,
  s_18 E w x p loose mean mg mb dp un gd cn cs a ccd cl outer A₀ base h₀ L m restX1 s QX1 dx gU tb k1 k2 ta,
  s_19 E w p loose mean mg mb dp un gd cn cs a ccd cl outer A₀ base h₀ L m restX1 s QX1 t1 t2,
  s_20 E w p loose mean mg mb dp un gd cn cs a ccd cl outer A₀ base h₀ L m restX1 s QX1 t1 t2,
  s_21 A prog w h₀ s xX1 env body QX2 I fp P m₀ news storedX1 J px,
  s_22 A h rest prog w R C kw init,
  s_23 A E prog w cl h₀ L m s QX1 xX1 env px elt iter scope pos,
  s_24 E w p loose mean mg mb dp un gd cn cs a ccd cl outer A₀ base h₀ L m restX1 s QX1 k1 k2 tx ty r dr,
  s_25 E w p loose mean mg mb dp un gd cn cs a ccd cl outer A₀ base h₀ L m restX1 s QX1,
  s_26 E w x p loose mean mg mb dp un gd cn cs a ccd cl outer A₀ base h₀ L m restX1 s QX1 d D k oD t9,
  s_27 E w x p loose mean mg mb dp un gd cn cs a ccd cl outer A₀ base h₀ L m restX1 s QX1 d D k oD,
  s_28 E w x p loose mean mg mb dp un gd cn cs a ccd cl outer A₀ base h₀ L m restX1 s QX1 d D k oD,
  s_29 E w p loose mean mg mb dp un gd cn cs a ccd cl outer A₀ base h₀ L m restX1 s QX1 t1 t2,
  s_30 w x p loose mean mg mb dp un cn cs a ccd cl outer A₀ base h₀ L m restX1 s QX1 t2 dx gU k ma,
  s_31 w x p loose mean mg mb dp un cn cs a ccd cl outer A₀ base h₀ L m restX1 s QX1 t2 dx gU k ma,
  s_32 w x p loose mean mg mb dp un cn cs a ccd cl outer A₀ base h₀ L m restX1 s QX1 t2 dx gU k ma,
  s_33 w p loose mean mg mb dp un cn cs a ccd cl outer A₀ base h₀ L m restX1 s QX1 k1 k2 tx ty r d,
  s_34 E w p loose mean mg mb dp un gd cn cs a ccd cl outer A₀ base h₀ L m restX1 s QX1 l vs,
  s_35 w p loose mean mg mb dp un cn cs a ccd cl outer A₀ base h₀ L m restX1 s QX1 d k vs c t,
  s_36 w x p loose mean mg mb dp un cn cs a ccd cl outer A₀ base h₀ L m restX1 s QX1 dx gU k ma l vs,
  s_37 w p loose mean mg mb dp un cn cs a ccd cl outer A₀ base h₀ L m restX1 s QX1,
  s_38 E w p loose mean mg mb dp un gd cn cs a ccd cl outer A₀ base h₀ L m restX1 s QX1 l vs,
  s_39 w p loose mean mg mb dp un cn cs a ccd cl outer A₀ base h₀ L m restX1 s QX1 tb l vs,
  s_40 w x p loose mean mg mb dp un cn cs a ccd cl outer A₀ base h₀ L m restX1 s QX1 d D k oD,
  s_41 E w p loose mean mg mb dp un gd cn cs a ccd cl outer A₀ base h₀ L m restX1 s QX1 gU C S cvs tX1 tl,
  s_42 E w p loose mean mg mb dp un gd cn cs a ccd cl outer A₀ base h₀ L m restX1 s QX1 vs sc,
  s_43 E w p loose mean mg mb dp un a A₀ base h₀ L m s QX2 C S cvs tX1 c1 c2 c3 c4 c5 o1 σ,
  s_44 E w p loose mean mg mb dp un a A₀ base h₀ L m s QX2 c1 c2 c3 c4 c5 σ PX1 v0 v1 tw,
  s_45 E w p loose mean mg mb dp un a A₀ base h₀ L m s QX2 c1 c2 c3 c4 c5 σ PX1 v0 v1 tw,
  s_46 E w p loose mean mg mb dp un a A₀ base h₀ L m s QX2 D oD c1 c2 c3 c4 c5 σ tg,
  s_47 E w p loose mean mg mb dp un a A₀ base h₀ L m s QX2 c1 c2 c3 c4 c5 σ v1 tw tg v2 du dvs τx,
  s_48 E w p loose mean mg mb dp un a A₀ base h₀ L m s QX2 C S cvs tX1 c1 c2 c3 c4 c5 o1 σ ti,
  s_49 w p loose mean mg mb dp un a A₀ base h₀ L m s QX2 C D oD S cvs tX1 c1 c2 c3 c4 c5 o1 σ du,
  s_50 E w p loose mean mg mb dp un a A₀ base h₀ L m s QX2 C S cvs tX1 c1 c2 c3 c4 c5 o1 σ o2,
  s_51 w p loose mean mg mb dp un a A₀ base h₀ L m s QX2 vs sc c1 c2 c3 c4 c5 o1 o2 o3 o4 o5 restX2,
  s_52 A h prog w R cl s env C elt scope pos D t1X1 it1 it2 y py pe pn pc pk I2 T2 aX1 b ys m',
  s_53 A prog w cl h₀ L m xX1 env I news px elt scope pos it1 it2 y py pe pn pc pk s₂ ax its,
  s_54 w p loose mean mg mb dp un a A₀ base h₀ L m s QX2 c1 c2 c3 c4 c5 σ du dvs,
  s_55 A E prog w a s tx o,
  s_56 A E prog w s QX1 l items,
  s_57 A prog w cl h₀ L m s xX1 env P elt scope x₂ SX1 news₀,
  s_58 w p loose mean mg mb dp un a A₀ base h₀ L m s QX2 c1 c2 c3 c4 c5 PX1 pvs,
  s_59 w p loose mean mg mb dp un a A₀ base h₀ L m s QX2 S c1 c2 c3 c4 c5 σ du dvs oS,
  s_60 E prog w name p loose mean mg mb a outer A₀ base L m xX1 QX2 news scope pos s' g G e cd n suite np bX,
  s_61 E w p loose mean mg mb dp un gd cn cs a ccd cl outer A₀ base h₀ L m restX1 s QX1 t1 t2,
  s_62 E w p loose mean mg mb dp un gd cn cs a ccd cl outer A₀ base h₀ L m restX1 s QX1 t1 t2,
  s_63 E w p loose mean mg mb dp un gd cn cs a ccd cl outer A₀ base h₀ L m restX1 s QX1 t1 t2 gl gvs,
  s_64 A E w p loose mean mg mb outer A₀ base h₀ L m restX1 s QX1 dx env e es vsX1 sl,
  s_65 A E w L m s dx news g e es vsX1 sl,
  s_66 E w p loose mean mg mb dp un gd cn cs a ccd cl A₀ base h₀ L m restX1 s QX1 f oc od fsl,
  s_67 E w x p loose mean mg mb dp un a A₀ base h₀ L m s dx QX2 D oD c1 c2 c3 c4 c5 σ du dvs kt,
  s_68 A E prog w cl h₀ L m s QX1 xX1 env px elt iter scope pos,
  s_69 E w p loose mean mg mb dp un a A₀ base h₀ L m s QX2 S c1 c2 c3 c4 c5 σ du dvs o5 oS t5,
  s_70 E w p loose mean mg mb dp un a A₀ base h₀ L m s t2 QX2 c1 c2 c3 c4 c5 σ du dvs o2 o5 t5,
  s_71 w p loose mean mg mb dp un a A₀ base h₀ L m s QX2 C D oD S cvs tX1 c1 c2 c3 c4 c5 o1 du dvs o2 o3 o4 o5 restX2 τ,
  s_72 w x p loose mean mg mb dp un a A₀ base h₀ L m s dx QX2 C D oD S cvs tX1 c1 c2 c3 c4 c5 o1 du dvs o2 o3 o4 o5 restX2 kt τ,
  s_73 w x p loose mean mg mb dp un a A₀ base h₀ L m s t2 dx QX2 C D oD S cvs tX1 c1 c2 c3 c4 c5 o1 PX1 du dvs o2 o3 o4 o5 restX2 kt t5 τ Sp oP oSp,
  s_74 E w p loose mean mg mb dp un a A₀ base h₀ L m s QX2 c1 c2 c3 c4 c5 σ o4 tv,
  s_75 E w p loose mean mg mb dp un a A₀ base h₀ L m s QX2 C S cvs tX1 c1 c2 c3 c4 c5 o1 σ tv,
  s_76 E w p loose mean mg mb dp un a A₀ base h₀ L m s tb QX2 c1 c2 c3 c4 c5 σ tv,
  s_77 w p loose mean mg mb dp un a A₀ base h₀ L m s QX2 c1 c2 c3 c4 c5 σ o4 gl gvs,
  s_78 A E prog w h₀ s xX1 env body QX2 m₀ news storedX1 r t₀ u₀ v₀,
  s_79 E w p loose mean mg mb dp un a A₀ base h₀ L m s QX2 C S cvs tX1 c1 c2 c3 c4 c5 o1 σ tv tu,
  s_80 E w p loose mean mg mb dp un a A₀ base h₀ L m s tb QX2 C S cvs tX1 c1 c2 c3 c4 c5 o1 σ,
  s_81 E w p loose mean mg mb dp un a A₀ base h₀ L m s QX2 c1 c2 c3 c4 c5 σ tf M mvs,
  s_82 w p loose mean mg mb dp un a A₀ base h₀ L m s tb QX2 C S cvs tX1 c1 c2 c3 c4 c5 o1 σ tv M mvs,
  s_83 E w p loose mean mg mb dp un a A₀ base h₀ L m s QX2 C S cvs tX1 c1 c2 c3 c4 c5 o1 σ M mvs,
  s_84 w p loose mean mg mb dp un a A₀ base h₀ L m s QX2 C S cvs tX1 c1 c2 c3 c4 c5 o1 σ M mvs,
  s_85 E w p loose mean mg mb dp un a A₀ base h₀ L m s t2 QX2 C S cvs tX1 c1 c2 c3 c4 c5 o1 σ o2 o3,
  s_86 E w p loose mean mg mb dp un a A₀ base h₀ L m s t2 t3 QX2 c1 c2 c3 c4 c5 σ o2 o3 x9,
  s_87 E w v p loose mean mg mb dp un a A₀ base h₀ L m s t2 t3 QX2 c1 c2 c3 c4 c5 σ o2 o3 o4 gl gvs τ x9 x8,
  s_88 w p loose mean mg mb dp un a A₀ base h₀ L m s QX2 C S cvs tX1 c1 c2 c3 c4 c5 o1 o2 o3 o4 o5 restX2 x9X1 ρ,
  s_89 w p loose mean mg mb dp un a A₀ base h₀ L m s t2 tb QX2 C S cvs tX1 c1 c2 c3 c4 c5 o1 tg o2 o3 o4 o5 restX2 tu x9X1 ρ tn]
end
noncomputable abbrev Cx0:=(Around) × (Value→Shared→Prop) × (Heap) × (Str) × (Str) × (List Value) × (Unit→Shared→Prop) × (Program) × (World) × (Result→Shared→Prop)
noncomputable abbrev Cx1:=(Addr) × (Addr) × (Obj) × (Tok) × (Addr) × (Str) × (Value) × (Program) × (List Str) × (ExcName→Option Value)
noncomputable abbrev Cx2:=(Str→Option Value) × (Str→Option Value) × (Nat) × (Nat) × (Option (List Code)) × (Str) × (Scope) × (Addr) × (Value) × (List (Str × Addr))
noncomputable abbrev Cx3:=(List Env) × (Around) × (Heap) × (Heap) × (Addr) × (Str→Option Value) × (List (Addr × Obj)) × (Shared) × (Value→Shared→Prop) × (Str)
noncomputable abbrev Cx4:=(Tok) × (Tok) × (Tok) × (Addr) × (Obj→List (Addr × Obj)) × (Tok) × (Tok) × (Tok) × (Tok) × (Env)
noncomputable abbrev Cx5:=(List Stmt) × (Flow→Shared→Prop) × (Addr) × (List Addr) × (Nat→Value→Prop) × (Str→Option Value) × (List (Addr × Obj)) × (List Str) × (Nat→List (Addr × Obj)→Prop) × (Tok)
noncomputable abbrev Cx6:=(Tok) × (Pos) × (Addr) × (List (Str × Value)) × (Value) × (Expr) × (Expr) × (Scope) × (Pos) × (Addr)
noncomputable abbrev Cx7:=(Addr) × (Addr) × (Addr) × (Tok) × (Obj) × (Tok) × (Addr) × (Addr) × (List Value) × (Addr)
noncomputable abbrev Cx8:=(Addr) × (Addr) × (List Value) × (Tok) × (Tok) × (Addr) × (Addr) × (Addr) × (Addr) × (Addr)
noncomputable abbrev Cx9:=(Addr) × (Obj) × (List (Addr × Obj)) × (Addr) × (Value) × (Value) × (Tok) × (Tok) × (Value) × (Addr)
noncomputable abbrev Cx10:=(List Value) × (List (Addr × Obj)) × (Tok) × (Obj) × (Obj) × (Obj) × (Obj) × (List Stmt) × (Expr) × (Expr)
noncomputable abbrev Cx11:=(Expr) × (Str) × (Pos) × (Pos) × (Pos) × (Pos) × (Pos) × (Addr) × (Addr) × (Value)
noncomputable abbrev Cx12:=(Value) × (List Value) × (Str→Option Value) × (Shared) × (Addr) × (Array Value) × (Obj) × (Array Value) × (Str) × (List (Addr × Obj)→Prop)
noncomputable abbrev Cx13:=(List (Addr × Obj)) × (List Value) × (Obj) × (Shared) × (Heap) × (Heap) × (Addr) × (Value) × (Str) × (List Stmt)
noncomputable abbrev Cx14:=(Pos) × (Heap) × (Addr) × (List Value) × (List DictEntry) × (Array Value) × (Array (Option Value)) × (Addr) × (Value) × (Option Addr)
noncomputable abbrev Cx15:=(Array (Option Value)) × (Tok) × (Tok) × (List (Addr × Obj)) × (Addr) × (Obj) × (Obj) × (Tok) × (Tok) × (Tok)
noncomputable abbrev Cx16:=(Tok) × (Tok) × (Tok) × (Addr) × (List Value) × (Value) × (Value) × (Addr) × (List (Addr × Obj)) × (Tok)
noncomputable abbrev Cx:=Cx0 × Cx1 × Cx2 × Cx3 × Cx4 × Cx5 × Cx6 × Cx7 × Cx8 × Cx9 × Cx10 × Cx11 × Cx12 × Cx13 × Cx14 × Cx15 × Cx16
noncomputable def famC (c : Cx) : List Prop:=fam c.1.1 c.1.2.1 c.1.2.2.1 c.1.2.2.2.1 c.1.2.2.2.2.1 c.1.2.2.2.2.2.1 c.1.2.2.2.2.2.2.1 c.1.2.2.2.2.2.2.2.1 c.1.2.2.2.2.2.2.2.2.1 c.1.2.2.2.2.2.2.2.2.2 c.2.1.1 c.2.1.2.1 c.2.1.2.2.1 c.2.1.2.2.2.1 c.2.1.2.2.2.2.1 c.2.1.2.2.2.2.2.1 c.2.1.2.2.2.2.2.2.1 c.2.1.2.2.2.2.2.2.2.1 c.2.1.2.2.2.2.2.2.2.2.1 c.2.1.2.2.2.2.2.2.2.2.2 c.2.2.1.1 c.2.2.1.2.1 c.2.2.1.2.2.1 c.2.2.1.2.2.2.1 c.2.2.1.2.2.2.2.1 c.2.2.1.2.2.2.2.2.1 c.2.2.1.2.2.2.2.2.2.1 c.2.2.1.2.2.2.2.2.2.2.1 c.2.2.1.2.2.2.2.2.2.2.2.1 c.2.2.1.2.2.2.2.2.2.2.2.2 c.2.2.2.1.1 c.2.2.2.1.2.1 c.2.2.2.1.2.2.1 c.2.2.2.1.2.2.2.1 c.2.2.2.1.2.2.2.2.1 c.2.2.2.1.2.2.2.2.2.1 c.2.2.2.1.2.2.2.2.2.2.1 c.2.2.2.1.2.2.2.2.2.2.2.1 c.2.2.2.1.2.2.2.2.2.2.2.2.1 c.2.2.2.1.2.2.2.2.2.2.2.2.2 c.2.2.2.2.1.1 c.2.2.2.2.1.2.1 c.2.2.2.2.1.2.2.1 c.2.2.2.2.1.2.2.2.1 c.2.2.2.2.1.2.2.2.2.1 c.2.2.2.2.1.2.2.2.2.2.1 c.2.2.2.2.1.2.2.2.2.2.2.1 c.2.2.2.2.1.2.2.2.2.2.2.2.1 c.2.2.2.2.1.2.2.2.2.2.2.2.2.1 c.2.2.2.2.1.2.2.2.2.2.2.2.2.2 c.2.2.2.2.2.1.1 c.2.2.2.2.2.1.2.1 c.2.2.2.2.2.1.2.2.1 c.2.2.2.2.2.1.2.2.2.1 c.2.2.2.2.2.1.2.2.2.2.1 c.2.2.2.2.2.1.2.2.2.2.2.1 c.2.2.2.2.2.1.2.2.2.2.2.2.1 c.2.2.2.2.2.1.2.2.2.2.2.2.2.1 c.2.2.2.2.2.1.2.2.2.2.2.2.2.2.1 c.2.2.2.2.2.1.2.2.2.2.2.2.2.2.2 c.2.2.2.2.2.2.1.1 c.2.2.2.2.2.2.1.2.1 c.2.2.2.2.2.2.1.2.2.1 c.2.2.2.2.2.2.1.2.2.2.1 c.2.2.2.2.2.2.1.2.2.2.2.1 c.2.2.2.2.2.2.1.2.2.2.2.2.1 c.2.2.2.2.2.2.1.2.2.2.2.2.2.1 c.2.2.2.2.2.2.1.2.2.2.2.2.2.2.1 c.2.2.2.2.2.2.1.2.2.2.2.2.2.2.2.1 c.2.2.2.2.2.2.1.2.2.2.2.2.2.2.2.2 c.2.2.2.2.2.2.2.1.1 c.2.2.2.2.2.2.2.1.2.1 c.2.2.2.2.2.2.2.1.2.2.1 c.2.2.2.2.2.2.2.1.2.2.2.1 c.2.2.2.2.2.2.2.1.2.2.2.2.1 c.2.2.2.2.2.2.2.1.2.2.2.2.2.1 c.2.2.2.2.2.2.2.1.2.2.2.2.2.2.1 c.2.2.2.2.2.2.2.1.2.2.2.2.2.2.2.1 c.2.2.2.2.2.2.2.1.2.2.2.2.2.2.2.2.1 c.2.2.2.2.2.2.2.1.2.2.2.2.2.2.2.2.2 c.2.2.2.2.2.2.2.2.1.1 c.2.2.2.2.2.2.2.2.1.2.1 c.2.2.2.2.2.2.2.2.1.2.2.1 c.2.2.2.2.2.2.2.2.1.2.2.2.1 c.2.2.2.2.2.2.2.2.1.2.2.2.2.1 c.2.2.2.2.2.2.2.2.1.2.2.2.2.2.1 c.2.2.2.2.2.2.2.2.1.2.2.2.2.2.2.1 c.2.2.2.2.2.2.2.2.1.2.2.2.2.2.2.2.1 c.2.2.2.2.2.2.2.2.1.2.2.2.2.2.2.2.2.1 c.2.2.2.2.2.2.2.2.1.2.2.2.2.2.2.2.2.2 c.2.2.2.2.2.2.2.2.2.1.1 c.2.2.2.2.2.2.2.2.2.1.2.1 c.2.2.2.2.2.2.2.2.2.1.2.2.1 c.2.2.2.2.2.2.2.2.2.1.2.2.2.1 c.2.2.2.2.2.2.2.2.2.1.2.2.2.2.1 c.2.2.2.2.2.2.2.2.2.1.2.2.2.2.2.1 c.2.2.2.2.2.2.2.2.2.1.2.2.2.2.2.2.1 c.2.2.2.2.2.2.2.2.2.1.2.2.2.2.2.2.2.1 c.2.2.2.2.2.2.2.2.2.1.2.2.2.2.2.2.2.2.1 c.2.2.2.2.2.2.2.2.2.1.2.2.2.2.2.2.2.2.2 c.2.2.2.2.2.2.2.2.2.2.1.1 c.2.2.2.2.2.2.2.2.2.2.1.2.1 c.2.2.2.2.2.2.2.2.2.2.1.2.2.1 c.2.2.2.2.2.2.2.2.2.2.1.2.2.2.1 c.2.2.2.2.2.2.2.2.2.2.1.2.2.2.2.1 c.2.2.2.2.2.2.2.2.2.2.1.2.2.2.2.2.1 c.2.2.2.2.2.2.2.2.2.2.1.2.2.2.2.2.2.1 c.2.2.2.2.2.2.2.2.2.2.1.2.2.2.2.2.2.2.1 c.2.2.2.2.2.2.2.2.2.2.1.2.2.2.2.2.2.2.2.1 c.2.2.2.2.2.2.2.2.2.2.1.2.2.2.2.2.2.2.2.2 c.2.2.2.2.2.2.2.2.2.2.2.1.1 c.2.2.2.2.2.2.2.2.2.2.2.1.2.1 c.2.2.2.2.2.2.2.2.2.2.2.1.2.2.1 c.2.2.2.2.2.2.2.2.2.2.2.1.2.2.2.1 c.2.2.2.2.2.2.2.2.2.2.2.1.2.2.2.2.1 c.2.2.2.2.2.2.2.2.2.2.2.1.2.2.2.2.2.1 c.2.2.2.2.2.2.2.2.2.2.2.1.2.2.2.2.2.2.1 c.2.2.2.2.2.2.2.2.2.2.2.1.2.2.2.2.2.2.2.1 c.2.2.2.2.2.2.2.2.2.2.2.1.2.2.2.2.2.2.2.2.1 c.2.2.2.2.2.2.2.2.2.2.2.1.2.2.2.2.2.2.2.2.2 c.2.2.2.2.2.2.2.2.2.2.2.2.1.1 c.2.2.2.2.2.2.2.2.2.2.2.2.1.2.1 c.2.2.2.2.2.2.2.2.2.2.2.2.1.2.2.1 c.2.2.2.2.2.2.2.2.2.2.2.2.1.2.2.2.1 c.2.2.2.2.2.2.2.2.2.2.2.2.1.2.2.2.2.1 c.2.2.2.2.2.2.2.2.2.2.2.2.1.2.2.2.2.2.1 c.2.2.2.2.2.2.2.2.2.2.2.2.1.2.2.2.2.2.2.1 c.2.2.2.2.2.2.2.2.2.2.2.2.1.2.2.2.2.2.2.2.1 c.2.2.2.2.2.2.2.2.2.2.2.2.1.2.2.2.2.2.2.2.2.1 c.2.2.2.2.2.2.2.2.2.2.2.2.1.2.2.2.2.2.2.2.2.2 c.2.2.2.2.2.2.2.2.2.2.2.2.2.1.1 c.2.2.2.2.2.2.2.2.2.2.2.2.2.1.2.1 c.2.2.2.2.2.2.2.2.2.2.2.2.2.1.2.2.1 c.2.2.2.2.2.2.2.2.2.2.2.2.2.1.2.2.2.1 c.2.2.2.2.2.2.2.2.2.2.2.2.2.1.2.2.2.2.1 c.2.2.2.2.2.2.2.2.2.2.2.2.2.1.2.2.2.2.2.1 c.2.2.2.2.2.2.2.2.2.2.2.2.2.1.2.2.2.2.2.2.1 c.2.2.2.2.2.2.2.2.2.2.2.2.2.1.2.2.2.2.2.2.2.1 c.2.2.2.2.2.2.2.2.2.2.2.2.2.1.2.2.2.2.2.2.2.2.1 c.2.2.2.2.2.2.2.2.2.2.2.2.2.1.2.2.2.2.2.2.2.2.2 c.2.2.2.2.2.2.2.2.2.2.2.2.2.2.1.1 c.2.2.2.2.2.2.2.2.2.2.2.2.2.2.1.2.1 c.2.2.2.2.2.2.2.2.2.2.2.2.2.2.1.2.2.1 c.2.2.2.2.2.2.2.2.2.2.2.2.2.2.1.2.2.2.1 c.2.2.2.2.2.2.2.2.2.2.2.2.2.2.1.2.2.2.2.1 c.2.2.2.2.2.2.2.2.2.2.2.2.2.2.1.2.2.2.2.2.1 c.2.2.2.2.2.2.2.2.2.2.2.2.2.2.1.2.2.2.2.2.2.1 c.2.2.2.2.2.2.2.2.2.2.2.2.2.2.1.2.2.2.2.2.2.2.1 c.2.2.2.2.2.2.2.2.2.2.2.2.2.2.1.2.2.2.2.2.2.2.2.1 c.2.2.2.2.2.2.2.2.2.2.2.2.2.2.1.2.2.2.2.2.2.2.2.2 c.2.2.2.2.2.2.2.2.2.2.2.2.2.2.2.1.1 c.2.2.2.2.2.2.2.2.2.2.2.2.2.2.2.1.2.1 c.2.2.2.2.2.2.2.2.2.2.2.2.2.2.2.1.2.2.1 c.2.2.2.2.2.2.2.2.2.2.2.2.2.2.2.1.2.2.2.1 c.2.2.2.2.2.2.2.2.2.2.2.2.2.2.2.1.2.2.2.2.1 c.2.2.2.2.2.2.2.2.2.2.2.2.2.2.2.1.2.2.2.2.2.1 c.2.2.2.2.2.2.2.2.2.2.2.2.2.2.2.1.2.2.2.2.2.2.1 c.2.2.2.2.2.2.2.2.2.2.2.2.2.2.2.1.2.2.2.2.2.2.2.1 c.2.2.2.2.2.2.2.2.2.2.2.2.2.2.2.1.2.2.2.2.2.2.2.2.1 c.2.2.2.2.2.2.2.2.2.2.2.2.2.2.2.1.2.2.2.2.2.2.2.2.2 c.2.2.2.2.2.2.2.2.2.2.2.2.2.2.2.2.1 c.2.2.2.2.2.2.2.2.2.2.2.2.2.2.2.2.2.1 c.2.2.2.2.2.2.2.2.2.2.2.2.2.2.2.2.2.2.1 c.2.2.2.2.2.2.2.2.2.2.2.2.2.2.2.2.2.2.2.1 c.2.2.2.2.2.2.2.2.2.2.2.2.2.2.2.2.2.2.2.2.1 c.2.2.2.2.2.2.2.2.2.2.2.2.2.2.2.2.2.2.2.2.2.1 c.2.2.2.2.2.2.2.2.2.2.2.2.2.2.2.2.2.2.2.2.2.2.1 c.2.2.2.2.2.2.2.2.2.2.2.2.2.2.2.2.2.2.2.2.2.2.2.1 c.2.2.2.2.2.2.2.2.2.2.2.2.2.2.2.2.2.2.2.2.2.2.2.2.1 c.2.2.2.2.2.2.2.2.2.2.2.2.2.2.2.2.2.2.2.2.2.2.2.2.2
noncomputable def okI (i : Nat) : Prop:=∀ c P,(famC c)[i]? = some P→P
set_option synthInstance.maxSize 100000 in
set_option synthInstance.maxHeartbeats 0 in
theorem neCx : Nonempty Cx:=by
 haveI : Nonempty Around:=⟨callerA⟩
 haveI : Nonempty Shared:=⟨{}⟩
 haveI : Nonempty World:=⟨⟨fun _ _=>0,{ strHash:=fun _=>0,shareClass:=fun _=>0,mergeTok:=id,idOf:=fun _=>0,idOfShared:=fun _ _=>0,followText:=fun _=>false,idOfImm:=fun _=>0}⟩⟩
 infer_instance
noncomputable def hkC : Cx:=@Classical.epsilon Cx neCx fun c=>∃ i,(∀ j,j < i→okI j)∧∃ P,(famC c)[i]? = some P∧¬ P
theorem hk {i : Nat} {P : Prop} (hP : P) (h : ∀ j,j < i→okI j) (e : (famC hkC)[i]? = some P) : ∀ j,j < i + 1→okI j:=by
 intro j hj
 rcases Nat.lt_succ_iff_lt_or_eq.mp hj with hj | rfl
 ·exact h j hj
 ·refine Classical.byContradiction fun hn=>?_
  have ex : ∃ c,∃ i,(∀ j,j < i→okI j)∧∃ P,(famC c)[i]? = some P∧¬ P:=by
   refine Classical.byContradiction fun hx=>hn fun c P' e'=>Classical.byContradiction fun hp=>hx ⟨c,j,h,P',e',hp⟩
  obtain ⟨i',h',P',e',n'⟩ : ∃ i,(∀ j,j < i→okI j)∧∃ P,(famC hkC)[i]? = some P∧¬ P:=@Classical.epsilon_spec Cx _ ex
  rcases Nat.lt_trichotomy i' j with hlt | rfl | hlt
  ·exact n' (h i' hlt _ _ e')
  ·rw [e] at e';exact n' (Option.some.inj e' ▸ hP)
  ·exact hn (h' j hlt)
noncomputable def upto (i : Nat) : Prop:=∀ j,j < i→okI j
theorem u0 : upto 0:=fun j h=>absurd h (Nat.not_lt_zero j)
theorem hkT {i : Nat} (u : upto (i + 1)) (c : Cx) {P : Prop} (e : (famC c)[i]? = some P) : P:=u i (Nat.lt_succ_self i) c P e
@[irreducible] noncomputable def kc.A : Around:=hkC.1.1
@[irreducible] noncomputable def kc.E : Value→Shared→Prop:=hkC.1.2.1
@[irreducible] noncomputable def kc.h : Heap:=hkC.1.2.2.1
@[irreducible] noncomputable def kc.nm : Str:=hkC.1.2.2.2.1
@[irreducible] noncomputable def kc.q : Str:=hkC.1.2.2.2.2.1
@[irreducible] noncomputable def kc.rest : List Value:=hkC.1.2.2.2.2.2.1
@[irreducible] noncomputable def kc.Q : Unit→Shared→Prop:=hkC.1.2.2.2.2.2.2.1
@[irreducible] noncomputable def kc.prog : Program:=hkC.1.2.2.2.2.2.2.2.1
@[irreducible] noncomputable def kc.w : World:=hkC.1.2.2.2.2.2.2.2.2.1
@[irreducible] noncomputable def kc.R : Result→Shared→Prop:=hkC.1.2.2.2.2.2.2.2.2.2
@[irreducible] noncomputable def kc.so : Addr:=hkC.2.1.1
@[irreducible] noncomputable def kc.x : Addr:=hkC.2.1.2.1
@[irreducible] noncomputable def kc.ox : Obj:=hkC.2.1.2.2.1
@[irreducible] noncomputable def kc.tk : Tok:=hkC.2.1.2.2.2.1
@[irreducible] noncomputable def kc.tup : Addr:=hkC.2.1.2.2.2.2.1
@[irreducible] noncomputable def kc.name : Str:=hkC.2.1.2.2.2.2.2.1
@[irreducible] noncomputable def kc.v : Value:=hkC.2.1.2.2.2.2.2.2.1
@[irreducible] noncomputable def kc.p : Program:=hkC.2.1.2.2.2.2.2.2.2.1
@[irreducible] noncomputable def kc.loose : List Str:=hkC.2.1.2.2.2.2.2.2.2.2.1
@[irreducible] noncomputable def kc.mean : ExcName→Option Value:=hkC.2.1.2.2.2.2.2.2.2.2.2
@[irreducible] noncomputable def kc.mg : Str→Option Value:=hkC.2.2.1.1
@[irreducible] noncomputable def kc.mb : Str→Option Value:=hkC.2.2.1.2.1
@[irreducible] noncomputable def kc.dp : Nat:=hkC.2.2.1.2.2.1
@[irreducible] noncomputable def kc.un : Nat:=hkC.2.2.1.2.2.2.1
@[irreducible] noncomputable def kc.gd : Option (List Code):=hkC.2.2.1.2.2.2.2.1
@[irreducible] noncomputable def kc.cn : Str:=hkC.2.2.1.2.2.2.2.2.1
@[irreducible] noncomputable def kc.cs : Scope:=hkC.2.2.1.2.2.2.2.2.2.1
@[irreducible] noncomputable def kc.a : Addr:=hkC.2.2.1.2.2.2.2.2.2.2.1
@[irreducible] noncomputable def kc.ccd : Value:=hkC.2.2.1.2.2.2.2.2.2.2.2.1
@[irreducible] noncomputable def kc.cl : List (Str × Addr):=hkC.2.2.1.2.2.2.2.2.2.2.2.2
@[irreducible] noncomputable def kc.outer : List Env:=hkC.2.2.2.1.1
@[irreducible] noncomputable def kc.A₀ : Around:=hkC.2.2.2.1.2.1
@[irreducible] noncomputable def kc.base : Heap:=hkC.2.2.2.1.2.2.1
@[irreducible] noncomputable def kc.h₀ : Heap:=hkC.2.2.2.1.2.2.2.1
@[irreducible] noncomputable def kc.L : Addr:=hkC.2.2.2.1.2.2.2.2.1
@[irreducible] noncomputable def kc.m : Str→Option Value:=hkC.2.2.2.1.2.2.2.2.2.1
@[irreducible] noncomputable def kc.restX1 : List (Addr × Obj):=hkC.2.2.2.1.2.2.2.2.2.2.1
@[irreducible] noncomputable def kc.s : Shared:=hkC.2.2.2.1.2.2.2.2.2.2.2.1
@[irreducible] noncomputable def kc.QX1 : Value→Shared→Prop:=hkC.2.2.2.1.2.2.2.2.2.2.2.2.1
@[irreducible] noncomputable def kc.xX1 : Str:=hkC.2.2.2.1.2.2.2.2.2.2.2.2.2
@[irreducible] noncomputable def kc.t1 : Tok:=hkC.2.2.2.2.1.1
@[irreducible] noncomputable def kc.t2 : Tok:=hkC.2.2.2.2.1.2.1
@[irreducible] noncomputable def kc.t3 : Tok:=hkC.2.2.2.2.1.2.2.1
@[irreducible] noncomputable def kc.dx : Addr:=hkC.2.2.2.2.1.2.2.2.1
@[irreducible] noncomputable def kc.gU : Obj→List (Addr × Obj):=hkC.2.2.2.2.1.2.2.2.2.1
@[irreducible] noncomputable def kc.tb : Tok:=hkC.2.2.2.2.1.2.2.2.2.2.1
@[irreducible] noncomputable def kc.k1 : Tok:=hkC.2.2.2.2.1.2.2.2.2.2.2.1
@[irreducible] noncomputable def kc.k2 : Tok:=hkC.2.2.2.2.1.2.2.2.2.2.2.2.1
@[irreducible] noncomputable def kc.ta : Tok:=hkC.2.2.2.2.1.2.2.2.2.2.2.2.2.1
@[irreducible] noncomputable def kc.env : Env:=hkC.2.2.2.2.1.2.2.2.2.2.2.2.2.2
@[irreducible] noncomputable def kc.body : List Stmt:=hkC.2.2.2.2.2.1.1
@[irreducible] noncomputable def kc.QX2 : Flow→Shared→Prop:=hkC.2.2.2.2.2.1.2.1
@[irreducible] noncomputable def kc.I : Addr:=hkC.2.2.2.2.2.1.2.2.1
@[irreducible] noncomputable def kc.fp : List Addr:=hkC.2.2.2.2.2.1.2.2.2.1
@[irreducible] noncomputable def kc.P : Nat→Value→Prop:=hkC.2.2.2.2.2.1.2.2.2.2.1
@[irreducible] noncomputable def kc.m₀ : Str→Option Value:=hkC.2.2.2.2.2.1.2.2.2.2.2.1
@[irreducible] noncomputable def kc.news : List (Addr × Obj):=hkC.2.2.2.2.2.1.2.2.2.2.2.2.1
@[irreducible] noncomputable def kc.storedX1 : List Str:=hkC.2.2.2.2.2.1.2.2.2.2.2.2.2.1
@[irreducible] noncomputable def kc.J : Nat→List (Addr × Obj)→Prop:=hkC.2.2.2.2.2.1.2.2.2.2.2.2.2.2.1
@[irreducible] noncomputable def kc.tx : Tok:=hkC.2.2.2.2.2.1.2.2.2.2.2.2.2.2.2
@[irreducible] noncomputable def kc.ty : Tok:=hkC.2.2.2.2.2.2.1.1
@[irreducible] noncomputable def kc.px : Pos:=hkC.2.2.2.2.2.2.1.2.1
@[irreducible] noncomputable def kc.C : Addr:=hkC.2.2.2.2.2.2.1.2.2.1
@[irreducible] noncomputable def kc.kw : List (Str × Value):=hkC.2.2.2.2.2.2.1.2.2.2.1
@[irreducible] noncomputable def kc.init : Value:=hkC.2.2.2.2.2.2.1.2.2.2.2.1
@[irreducible] noncomputable def kc.elt : Expr:=hkC.2.2.2.2.2.2.1.2.2.2.2.2.1
@[irreducible] noncomputable def kc.iter : Expr:=hkC.2.2.2.2.2.2.1.2.2.2.2.2.2.1
@[irreducible] noncomputable def kc.scope : Scope:=hkC.2.2.2.2.2.2.1.2.2.2.2.2.2.2.1
@[irreducible] noncomputable def kc.pos : Pos:=hkC.2.2.2.2.2.2.1.2.2.2.2.2.2.2.2.1
@[irreducible] noncomputable def kc.r : Addr:=hkC.2.2.2.2.2.2.1.2.2.2.2.2.2.2.2.2
@[irreducible] noncomputable def kc.dr : Addr:=hkC.2.2.2.2.2.2.2.1.1
@[irreducible] noncomputable def kc.d : Addr:=hkC.2.2.2.2.2.2.2.1.2.1
@[irreducible] noncomputable def kc.D : Addr:=hkC.2.2.2.2.2.2.2.1.2.2.1
@[irreducible] noncomputable def kc.k : Tok:=hkC.2.2.2.2.2.2.2.1.2.2.2.1
@[irreducible] noncomputable def kc.oD : Obj:=hkC.2.2.2.2.2.2.2.1.2.2.2.2.1
@[irreducible] noncomputable def kc.t9 : Tok:=hkC.2.2.2.2.2.2.2.1.2.2.2.2.2.1
@[irreducible] noncomputable def kc.ma : Addr:=hkC.2.2.2.2.2.2.2.1.2.2.2.2.2.2.1
@[irreducible] noncomputable def kc.l : Addr:=hkC.2.2.2.2.2.2.2.1.2.2.2.2.2.2.2.1
@[irreducible] noncomputable def kc.vs : List Value:=hkC.2.2.2.2.2.2.2.1.2.2.2.2.2.2.2.2.1
@[irreducible] noncomputable def kc.c : Addr:=hkC.2.2.2.2.2.2.2.1.2.2.2.2.2.2.2.2.2
@[irreducible] noncomputable def kc.t : Addr:=hkC.2.2.2.2.2.2.2.2.1.1
@[irreducible] noncomputable def kc.S : Addr:=hkC.2.2.2.2.2.2.2.2.1.2.1
@[irreducible] noncomputable def kc.cvs : List Value:=hkC.2.2.2.2.2.2.2.2.1.2.2.1
@[irreducible] noncomputable def kc.tX1 : Tok:=hkC.2.2.2.2.2.2.2.2.1.2.2.2.1
@[irreducible] noncomputable def kc.tl : Tok:=hkC.2.2.2.2.2.2.2.2.1.2.2.2.2.1
@[irreducible] noncomputable def kc.sc : Addr:=hkC.2.2.2.2.2.2.2.2.1.2.2.2.2.2.1
@[irreducible] noncomputable def kc.c1 : Addr:=hkC.2.2.2.2.2.2.2.2.1.2.2.2.2.2.2.1
@[irreducible] noncomputable def kc.c2 : Addr:=hkC.2.2.2.2.2.2.2.2.1.2.2.2.2.2.2.2.1
@[irreducible] noncomputable def kc.c3 : Addr:=hkC.2.2.2.2.2.2.2.2.1.2.2.2.2.2.2.2.2.1
@[irreducible] noncomputable def kc.c4 : Addr:=hkC.2.2.2.2.2.2.2.2.1.2.2.2.2.2.2.2.2.2
@[irreducible] noncomputable def kc.c5 : Addr:=hkC.2.2.2.2.2.2.2.2.2.1.1
@[irreducible] noncomputable def kc.o1 : Obj:=hkC.2.2.2.2.2.2.2.2.2.1.2.1
@[irreducible] noncomputable def kc.σ : List (Addr × Obj):=hkC.2.2.2.2.2.2.2.2.2.1.2.2.1
@[irreducible] noncomputable def kc.PX1 : Addr:=hkC.2.2.2.2.2.2.2.2.2.1.2.2.2.1
@[irreducible] noncomputable def kc.v0 : Value:=hkC.2.2.2.2.2.2.2.2.2.1.2.2.2.2.1
@[irreducible] noncomputable def kc.v1 : Value:=hkC.2.2.2.2.2.2.2.2.2.1.2.2.2.2.2.1
@[irreducible] noncomputable def kc.tw : Tok:=hkC.2.2.2.2.2.2.2.2.2.1.2.2.2.2.2.2.1
@[irreducible] noncomputable def kc.tg : Tok:=hkC.2.2.2.2.2.2.2.2.2.1.2.2.2.2.2.2.2.1
@[irreducible] noncomputable def kc.v2 : Value:=hkC.2.2.2.2.2.2.2.2.2.1.2.2.2.2.2.2.2.2.1
@[irreducible] noncomputable def kc.du : Addr:=hkC.2.2.2.2.2.2.2.2.2.1.2.2.2.2.2.2.2.2.2
@[irreducible] noncomputable def kc.dvs : List Value:=hkC.2.2.2.2.2.2.2.2.2.2.1.1
@[irreducible] noncomputable def kc.τx : List (Addr × Obj):=hkC.2.2.2.2.2.2.2.2.2.2.1.2.1
@[irreducible] noncomputable def kc.ti : Tok:=hkC.2.2.2.2.2.2.2.2.2.2.1.2.2.1
@[irreducible] noncomputable def kc.o2 : Obj:=hkC.2.2.2.2.2.2.2.2.2.2.1.2.2.2.1
@[irreducible] noncomputable def kc.o3 : Obj:=hkC.2.2.2.2.2.2.2.2.2.2.1.2.2.2.2.1
@[irreducible] noncomputable def kc.o4 : Obj:=hkC.2.2.2.2.2.2.2.2.2.2.1.2.2.2.2.2.1
@[irreducible] noncomputable def kc.o5 : Obj:=hkC.2.2.2.2.2.2.2.2.2.2.1.2.2.2.2.2.2.1
@[irreducible] noncomputable def kc.restX2 : List Stmt:=hkC.2.2.2.2.2.2.2.2.2.2.1.2.2.2.2.2.2.2.1
@[irreducible] noncomputable def kc.t1X1 : Expr:=hkC.2.2.2.2.2.2.2.2.2.2.1.2.2.2.2.2.2.2.2.1
@[irreducible] noncomputable def kc.it1 : Expr:=hkC.2.2.2.2.2.2.2.2.2.2.1.2.2.2.2.2.2.2.2.2
@[irreducible] noncomputable def kc.it2 : Expr:=hkC.2.2.2.2.2.2.2.2.2.2.2.1.1
@[irreducible] noncomputable def kc.y : Str:=hkC.2.2.2.2.2.2.2.2.2.2.2.1.2.1
@[irreducible] noncomputable def kc.py : Pos:=hkC.2.2.2.2.2.2.2.2.2.2.2.1.2.2.1
@[irreducible] noncomputable def kc.pe : Pos:=hkC.2.2.2.2.2.2.2.2.2.2.2.1.2.2.2.1
@[irreducible] noncomputable def kc.pn : Pos:=hkC.2.2.2.2.2.2.2.2.2.2.2.1.2.2.2.2.1
@[irreducible] noncomputable def kc.pc : Pos:=hkC.2.2.2.2.2.2.2.2.2.2.2.1.2.2.2.2.2.1
@[irreducible] noncomputable def kc.pk : Pos:=hkC.2.2.2.2.2.2.2.2.2.2.2.1.2.2.2.2.2.2.1
@[irreducible] noncomputable def kc.I2 : Addr:=hkC.2.2.2.2.2.2.2.2.2.2.2.1.2.2.2.2.2.2.2.1
@[irreducible] noncomputable def kc.T2 : Addr:=hkC.2.2.2.2.2.2.2.2.2.2.2.1.2.2.2.2.2.2.2.2.1
@[irreducible] noncomputable def kc.aX1 : Value:=hkC.2.2.2.2.2.2.2.2.2.2.2.1.2.2.2.2.2.2.2.2.2
@[irreducible] noncomputable def kc.b : Value:=hkC.2.2.2.2.2.2.2.2.2.2.2.2.1.1
@[irreducible] noncomputable def kc.ys : List Value:=hkC.2.2.2.2.2.2.2.2.2.2.2.2.1.2.1
@[irreducible] noncomputable def kc.m' : Str→Option Value:=hkC.2.2.2.2.2.2.2.2.2.2.2.2.1.2.2.1
@[irreducible] noncomputable def kc.s₂ : Shared:=hkC.2.2.2.2.2.2.2.2.2.2.2.2.1.2.2.2.1
@[irreducible] noncomputable def kc.ax : Addr:=hkC.2.2.2.2.2.2.2.2.2.2.2.2.1.2.2.2.2.1
@[irreducible] noncomputable def kc.its : Array Value:=hkC.2.2.2.2.2.2.2.2.2.2.2.2.1.2.2.2.2.2.1
@[irreducible] noncomputable def kc.o : Obj:=hkC.2.2.2.2.2.2.2.2.2.2.2.2.1.2.2.2.2.2.2.1
@[irreducible] noncomputable def kc.items : Array Value:=hkC.2.2.2.2.2.2.2.2.2.2.2.2.1.2.2.2.2.2.2.2.1
@[irreducible] noncomputable def kc.x₂ : Str:=hkC.2.2.2.2.2.2.2.2.2.2.2.2.1.2.2.2.2.2.2.2.2.1
@[irreducible] noncomputable def kc.SX1 : List (Addr × Obj)→Prop:=hkC.2.2.2.2.2.2.2.2.2.2.2.2.1.2.2.2.2.2.2.2.2.2
@[irreducible] noncomputable def kc.news₀ : List (Addr × Obj):=hkC.2.2.2.2.2.2.2.2.2.2.2.2.2.1.1
@[irreducible] noncomputable def kc.pvs : List Value:=hkC.2.2.2.2.2.2.2.2.2.2.2.2.2.1.2.1
@[irreducible] noncomputable def kc.oS : Obj:=hkC.2.2.2.2.2.2.2.2.2.2.2.2.2.1.2.2.1
@[irreducible] noncomputable def kc.s' : Shared:=hkC.2.2.2.2.2.2.2.2.2.2.2.2.2.1.2.2.2.1
@[irreducible] noncomputable def kc.g : Heap:=hkC.2.2.2.2.2.2.2.2.2.2.2.2.2.1.2.2.2.2.1
@[irreducible] noncomputable def kc.G : Heap:=hkC.2.2.2.2.2.2.2.2.2.2.2.2.2.1.2.2.2.2.2.1
@[irreducible] noncomputable def kc.e : Addr:=hkC.2.2.2.2.2.2.2.2.2.2.2.2.2.1.2.2.2.2.2.2.1
@[irreducible] noncomputable def kc.cd : Value:=hkC.2.2.2.2.2.2.2.2.2.2.2.2.2.1.2.2.2.2.2.2.2.1
@[irreducible] noncomputable def kc.n : Str:=hkC.2.2.2.2.2.2.2.2.2.2.2.2.2.1.2.2.2.2.2.2.2.2.1
@[irreducible] noncomputable def kc.suite : List Stmt:=hkC.2.2.2.2.2.2.2.2.2.2.2.2.2.1.2.2.2.2.2.2.2.2.2
@[irreducible] noncomputable def kc.np : Pos:=hkC.2.2.2.2.2.2.2.2.2.2.2.2.2.2.1.1
@[irreducible] noncomputable def kc.bX : Heap:=hkC.2.2.2.2.2.2.2.2.2.2.2.2.2.2.1.2.1
@[irreducible] noncomputable def kc.gl : Addr:=hkC.2.2.2.2.2.2.2.2.2.2.2.2.2.2.1.2.2.1
@[irreducible] noncomputable def kc.gvs : List Value:=hkC.2.2.2.2.2.2.2.2.2.2.2.2.2.2.1.2.2.2.1
@[irreducible] noncomputable def kc.es : List DictEntry:=hkC.2.2.2.2.2.2.2.2.2.2.2.2.2.2.1.2.2.2.2.1
@[irreducible] noncomputable def kc.vsX1 : Array Value:=hkC.2.2.2.2.2.2.2.2.2.2.2.2.2.2.1.2.2.2.2.2.1
@[irreducible] noncomputable def kc.sl : Array (Option Value):=hkC.2.2.2.2.2.2.2.2.2.2.2.2.2.2.1.2.2.2.2.2.2.1
@[irreducible] noncomputable def kc.f : Addr:=hkC.2.2.2.2.2.2.2.2.2.2.2.2.2.2.1.2.2.2.2.2.2.2.1
@[irreducible] noncomputable def kc.oc : Value:=hkC.2.2.2.2.2.2.2.2.2.2.2.2.2.2.1.2.2.2.2.2.2.2.2.1
@[irreducible] noncomputable def kc.od : Option Addr:=hkC.2.2.2.2.2.2.2.2.2.2.2.2.2.2.1.2.2.2.2.2.2.2.2.2
@[irreducible] noncomputable def kc.fsl : Array (Option Value):=hkC.2.2.2.2.2.2.2.2.2.2.2.2.2.2.2.1.1
@[irreducible] noncomputable def kc.kt : Tok:=hkC.2.2.2.2.2.2.2.2.2.2.2.2.2.2.2.1.2.1
@[irreducible] noncomputable def kc.t5 : Tok:=hkC.2.2.2.2.2.2.2.2.2.2.2.2.2.2.2.1.2.2.1
@[irreducible] noncomputable def kc.τ : List (Addr × Obj):=hkC.2.2.2.2.2.2.2.2.2.2.2.2.2.2.2.1.2.2.2.1
@[irreducible] noncomputable def kc.Sp : Addr:=hkC.2.2.2.2.2.2.2.2.2.2.2.2.2.2.2.1.2.2.2.2.1
@[irreducible] noncomputable def kc.oP : Obj:=hkC.2.2.2.2.2.2.2.2.2.2.2.2.2.2.2.1.2.2.2.2.2.1
@[irreducible] noncomputable def kc.oSp : Obj:=hkC.2.2.2.2.2.2.2.2.2.2.2.2.2.2.2.1.2.2.2.2.2.2.1
@[irreducible] noncomputable def kc.tv : Tok:=hkC.2.2.2.2.2.2.2.2.2.2.2.2.2.2.2.1.2.2.2.2.2.2.2.1
@[irreducible] noncomputable def kc.t₀ : Tok:=hkC.2.2.2.2.2.2.2.2.2.2.2.2.2.2.2.1.2.2.2.2.2.2.2.2.1
@[irreducible] noncomputable def kc.u₀ : Tok:=hkC.2.2.2.2.2.2.2.2.2.2.2.2.2.2.2.1.2.2.2.2.2.2.2.2.2
@[irreducible] noncomputable def kc.v₀ : Tok:=hkC.2.2.2.2.2.2.2.2.2.2.2.2.2.2.2.2.1
@[irreducible] noncomputable def kc.tu : Tok:=hkC.2.2.2.2.2.2.2.2.2.2.2.2.2.2.2.2.2.1
@[irreducible] noncomputable def kc.tf : Tok:=hkC.2.2.2.2.2.2.2.2.2.2.2.2.2.2.2.2.2.2.1
@[irreducible] noncomputable def kc.M : Addr:=hkC.2.2.2.2.2.2.2.2.2.2.2.2.2.2.2.2.2.2.2.1
@[irreducible] noncomputable def kc.mvs : List Value:=hkC.2.2.2.2.2.2.2.2.2.2.2.2.2.2.2.2.2.2.2.2.1
@[irreducible] noncomputable def kc.x9 : Value:=hkC.2.2.2.2.2.2.2.2.2.2.2.2.2.2.2.2.2.2.2.2.2.1
@[irreducible] noncomputable def kc.x8 : Value:=hkC.2.2.2.2.2.2.2.2.2.2.2.2.2.2.2.2.2.2.2.2.2.2.1
@[irreducible] noncomputable def kc.x9X1 : Addr:=hkC.2.2.2.2.2.2.2.2.2.2.2.2.2.2.2.2.2.2.2.2.2.2.2.1
@[irreducible] noncomputable def kc.ρ : List (Addr × Obj):=hkC.2.2.2.2.2.2.2.2.2.2.2.2.2.2.2.2.2.2.2.2.2.2.2.2.1
@[irreducible] noncomputable def kc.tn : Tok:=hkC.2.2.2.2.2.2.2.2.2.2.2.2.2.2.2.2.2.2.2.2.2.2.2.2.2
theorem lnT : True:=by
 k_with "T" => (exact ((A,E,h,nm,q,rest,Q,prog,w,R),(so,x,ox,tk,tup,name,v,p,loose,mean),(mg,mb,dp,un,gd,cn,cs,a,ccd,cl),(outer,A₀,base,h₀,L,m,restX1,s,QX1,xX1),(t1,t2,t3,dx,gU,tb,k1,k2,ta,env),(body,QX2,I,fp,P,m₀,news,storedX1,J,tx),(ty,px,C,kw,init,elt,iter,scope,pos,r),(dr,d,D,k,oD,t9,ma,l,vs,c),(t,S,cvs,tX1,tl,sc,c1,c2,c3,c4),(c5,o1,σ,PX1,v0,v1,tw,tg,v2,du),(dvs,τx,ti,o2,o3,o4,o5,restX2,t1X1,it1),(it2,y,py,pe,pn,pc,pk,I2,T2,aX1),(b,ys,m',s₂,ax,its,o,items,x₂,SX1),(news₀,pvs,oS,s',g,G,e,cd,n,suite),(np,bX,gl,gvs,es,vsX1,sl,f,oc,od),(fsl,kt,t5,τ,Sp,oP,oSp,tv,t₀,u₀),(v₀,tu,tf,M,mvs,x9,x8,x9X1,ρ,tn)))
 exact True.intro
local macro_rules | `(tactic| walk_at $s:str)=>`(tactic| k_extra $s)
local macro_rules | `(tactic| omega)=>`(tactic| k_extra "O")
local macro_rules | `(tactic| ktr_room)=>`(tactic| k_extra "R")
local macro_rules | `(tactic| ktr_units)=>`(tactic| k_extra "R")
local macro_rules | `(tactic| k_ne)=>`(tactic| k_extra "N")
local macro_rules | `(tactic| k_all)=>`(tactic| k_extra "A")
theorem lnA : True:=by
 k_with "Q" => ((case zB=>k_asm);(case zF=>k_asm);(case zX=>k_asm);(case zT=>k_asm);(case zhk=>first | exact rfl | assumption);(case zN=>k_asm))
 k_with "V" => ((case zhd=>ktr_room);(case zhu=>ktr_units))
 k_with "C" => (first | with_reducible assumption | exact zq0 (by with_reducible assumption) | exact zt1 (by with_reducible assumption) | exact zq1 (by with_reducible assumption) | exact zq2 (by with_reducible assumption) | exact zq3 (by with_reducible assumption) | exact zq4 (by with_reducible assumption) | exact zq5 (by with_reducible assumption) | exact zq6 (by with_reducible assumption) | exact zq7 (by with_reducible assumption) | exact zq8 (by with_reducible assumption) | exact zq9 (by with_reducible assumption) | exact zt2 (by with_reducible assumption) | exact zt3 (by with_reducible assumption) | exact zt4 (by with_reducible assumption) | exact zt5 (by with_reducible assumption) | exact zt6 (by with_reducible assumption) | exact zt7 (by with_reducible assumption) | exact zu00 (by with_reducible assumption) | exact zu01 (by with_reducible assumption) | exact zu02 (by with_reducible assumption) | exact zu03 (by with_reducible assumption) | exact zu10 (by with_reducible assumption) | exact zu11 (by with_reducible assumption) | exact zu12 (by with_reducible assumption) | exact zu13 (by with_reducible assumption) | fail)
 k_with "N" => (refine neN ?_;(try dsimp only);first | with_reducible assumption | exact Ne.symm (by with_reducible assumption) | exact zn (by k_extra "C") | exact zm (by k_extra "C") | exact (by k_extra "C") | exact Ne.symm (by k_extra "C") | exact zn (zt (by with_reducible assumption) (by k_extra "C")) | exact zm (zt (by with_reducible assumption) (by k_extra "C")) | exact zn (zt (by with_reducible assumption) (zt (by with_reducible assumption) (by k_extra "C"))) | exact zm (zt (by with_reducible assumption) (zt (by with_reducible assumption) (by k_extra "C"))) | fail)
 k_with "R" => (first | exact zr2 hd rfl | exact zr2 hu rfl | exact zr1 hd rfl | exact zr1 hu rfl | exact zr0 hd | exact zr0 hu | exact zr3 hd rfl | exact zr3 hu rfl | fail)
 k_with "O" => (first | with_reducible assumption | lia)
 k_with "S1" => (repeat' (first | (k_unfold;(try dsimp only)) | walk1 | (dsimp only;walk1) | fail "no step"))
 k_with "S2" => (repeat' (first | (k_unfold;(try dsimp only)) | walk1 | (dsimp only;walk1) | (leave1;walk_say "STEP leave1";try dsimp only) | fail "no step"))
 k_with "nu_enter" => (((case kA=>exact rfl);(case kF=>exact rfl);(case kK=>first | exact rfl | assumption);(case k1=>k_asm);(case k2=>k_asm);(case k3=>k_asm);(case k4=>k_asm);(case k5=>k_asm);(case k6=>k_is);(case k7=>k_is);(case k8=>ktr_room);(case k9=>first | exact BindsTo.of_eq rfl | exact binds_K (by k_in) rfl (by k_is) rfl rfl rfl);(case c5=>decide);(case kB=>exact locs rfl);(case c2=>exact rfl);(case c3=>exact rfl);(case c4=>exact rfl);k_whole))
 k_with "exec Raise some none" => ((k_here;refine Raise_fault rfl ?_))
 k_with "call ref" => ((k_here;(with_reducible show wpAny _ _ (call (Value.ref 61) [Value.str _ _,Value.int _ _]) _ _ _);k_dflt (refine' fault_call ?zB ?zF ?zX ?zT ?zhk ?zN ?zhx _ ?zhd ?zhu ?_;k_extra "Q";(case zhx=>decide);k_extra "V");intro _ _ _ _ _ _ _ _ N' ne' l1' l2';refine ⟨_,_,_,rfl,fault_cls (by k_in),(N' _ (.head _)).1,?_⟩;(try (revert N';intro _));(try (revert ne';intro _));(try (revert l1';intro _));(try (revert l2';intro _))))
 k_with "leaving ref" => ((k_here;k_dflt (refine' rz_first ?zK ?zF ?zN ?zne ?zaa ?_ ?zhk;(case zK=>k_asm);(case zF=>k_asm);(case zN=>k_asm);(case zne=>assumption);(case zaa=>exact ⟨⟨_,rfl⟩,⟨_,_,rfl⟩,rfl⟩);(case zhk=>exact rfl));intro _ _))
 k_with "leaving ref" => ((k_here;(rename Rz _ _ _ _ _ _ _=>rzR);k_dflt (refine' rz_next ?zK ?zF ?zk ?zhh rzR ?_;(case zK=>k_asm);(case zk=>exact fun b o e _=>Fr.keep (by assumption) b o e);(case zF=>k_asm);(case zhh=>first | exact fun _ _ _=>List.not_mem_nil | exact off2 (by assumption) (by k_mem) (by k_mem) | exact off1 (by assumption) (by k_mem)));clear rzR;intro _ _))
 k_with "nu_enterC" => (((case kA=>exact rfl);(case kF=>exact rfl);(case kK=>first | exact rfl | assumption);(case k1=>k_asm);(case k2=>k_asm);(case k3=>k_asm);(case k4=>k_asm);(case k5=>k_asm);(case k6=>k_is);(case k7=>k_is);(case k8=>ktr_room);(case k9=>first | exact BindsTo.of_eq rfl | exact binds_K (by k_in) rfl (by k_is) rfl rfl rfl);(case kB=>exact rfl);(case kD=>decide +kernel);(case c2=>exact rfl);(case c3=>exact rfl);(case c4=>exact rfl);k_whole))
 exact True.intro
section NB
open PySem.Calls
theorem Kp.of_keep {keys : List Addr} {h g h' : Heap} (x : Kp keys h g) (y : ∀ b o,g.get? b = some o→h'.get? b = some o) : Kp keys h h':=fun b o e n=>y b o (x b o e n)
theorem news_sub {h₀ h : Heap} {L : Addr} {l l' : List (Addr × Obj)} (N : News h₀ L h l) (hs : ∀ p ∈ l',p ∈ l) : News h₀ L h l':=fun p hp=>N p (hs p hp)
theorem news_kp {h₀ h h' : Heap} {L : Addr} {keys : List Addr} {rest : List (Addr × Obj)} (N : News h₀ L h rest) (k : Kp keys h h') (hne : ∀ p ∈ rest,p.1 ∉ keys) : News h₀ L h' rest :=
 fun p hp=>⟨k _ _ (N p hp).1 (hne p hp),(N p hp).2⟩
theorem news_app {h₀ h : Heap} {L : Addr} {l l' : List (Addr × Obj)} (N : News h₀ L h l) (N' : News h₀ L h l') : News h₀ L h (l ++ l') :=
 fun p hp=>(List.mem_append.mp hp).elim (N p) (N' p)
theorem news_split {h₀ h : Heap} {L : Addr} {mu rest : List (Addr × Obj)} (N : News h₀ L h (mu ++ rest)) (hne : ∀ p ∈ rest,p.1 ∉ mu.map (·.1)) :
  News h₀ L h mu∧∀ h',Kp (mu.map (·.1)) h h'→News h₀ L h' rest :=
 ⟨news_sub N fun _ hp=>List.mem_append_left _ hp,fun _ k=>news_kp (news_sub N fun _ hp=>List.mem_append_right _ hp) k hne⟩
theorem news_split0 {h₀ h : Heap} {L : Addr} {rest : List (Addr × Obj)} (N : News h₀ L h rest) :
  News h₀ L h []∧∀ h',Kp [] h h'→News h₀ L h' rest:=news_split (mu:=[]) N fun _ _ q=>(List.not_mem_nil q).elim
section
variable {prog : Program} {w : World} {A A₀ : Around} {E : Value→Shared→Prop} {s : Shared} {K : Frag} {L : Addr} {h₀ base : Heap} {m mg mb : Str→Option Value} {news : List (Addr × Obj)} {p : Program} {loose : List Str} {mean : ExcName→Option Value}
theorem code_defH {env : Env} {outer : List Env} {R : Result→Shared→Prop} {name qual : Str} {params : Arguments} {body : List Stmt} {scope : Scope} {dV kV doc pm cdv ct oc : Value} {an od : Option Addr} {osl : Array (Option Value)} {f : Addr} {args : Args} (binds : List (Str × Value))
  (B : Below A₀ base outer h₀) (F : Fr h₀ L s.heap m) (X₀ : K.In h₀) (N : News h₀ L s.heap news) (T : Top p loose mean mg mb h₀) (hA : A.frames = some (env :: outer)) (hf : env.frame = some L) (hke : env.scope.kind = .function)
  (ho : K.lookup f = some ⟨oc,od,.func (fnOf name qual params body scope dV kV doc pm an cdv ct),osl⟩) (hcd : codeIn K cdv qual = true) (hroom : A.depth < recursionLimit)
  (hbind : BindsTo s (fnOf name qual params body scope dV kV doc pm an cdv ct) args binds) (hloc : ∀ y ∈ binds,scope.names.lookup y.1 = some .local)
  (h : ∀ g L' h₁,Fr h₀ L g m→Fr g L' h₁ (fun y=>binds.reverse.lookup y)→News g L' h₁ news→Below A base (env :: outer) g→K.In g→Top p loose mean mg mb g→Kp (news.map (·.1)) s.heap g →
   wpAny (model prog w) (A.deeper (envOf qual scope L' f cdv)) (execs body (envOf qual scope L' f cdv))
    (fun fl s'=>LeaveK h₀ L m g R (match fl with | .ret v=>v | _=>.none) s')
    (fun e s'=>wpAny (model prog w) (A.deeper (envOf qual scope L' f cdv)) (leaving (envOf qual scope L' f cdv) e) (fun _ s''=>R (.error e) s'') (fun e' s''=>R (.error e') s'') s')
    { s with heap:=h₁,toks:=s.toks + binds.length})
  (hco : scope.isCoroutine = false) (hgen : scope.isGenerator = false) (hk : scope.kind = .function)
  (hcell : ∀ x ∈ scope.names,x.2 ≠ .cell) : codeAny (model prog w) A (.call (.ref f) args) R s:=by
 refine an4 (groundX (R:=R) B F N hA hf hke) fun FG BG st lv=>?_
 have X:=X₀.keeps F.keep
 refine codeAny_call_def (fd:=fnOf name qual params body scope dV kV doc pm an cdv ct) (body:=body) (binds:=binds) hroom (X _ _ ho) rfl (T.nolimit.keeps F.keep) (codeRec_of X hcd) rfl hbind hcell hloc (fun h₁ hns hk₁=>?_) hco hgen hk
 refine wpAny_mono (h _ s.heap.objs.size h₁ FG ⟨hns,fun b o e=>hk₁ b o (of_hideAll _ e),Nat.le_of_eq (hideAll_size _ _)⟩
  (fun q hq=>⟨hk₁ _ _ (N q hq).1,Nat.ne_of_lt (Heap.lt_size (N q hq).1),hideAll_none _ (List.mem_map_of_mem hq)⟩) BG (X₀.keeps st) (T.keeps st) (fun b o e n=>hideAll_get _ e n)) (fun fl s' hl=>lv _ _ hl) fun _ _ y=>y
theorem code_defHC {env : Env} {outer : List Env} {R : Result→Shared→Prop} {name qual : Str} {params : Arguments} {body : List Stmt} {scope : Scope} {dV kV doc pm cdv ct oc : Value} {an od : Option Addr} {osl : Array (Option Value)} {f : Addr} {args : Args} (binds : List (Str × Value))
  (B : Below A₀ base outer h₀) (F : Fr h₀ L s.heap m) (X₀ : K.In h₀) (N : News h₀ L s.heap news) (T : Top p loose mean mg mb h₀) (hA : A.frames = some (env :: outer)) (hf : env.frame = some L) (hke : env.scope.kind = .function)
  (ho : K.lookup f = some ⟨oc,od,.func (fnOf name qual params body scope dV kV doc pm an cdv ct),osl⟩) (hcd : codeIn K cdv qual = true) (hroom : A.depth < recursionLimit)
  (hbind : BindsTo s (fnOf name qual params body scope dV kV doc pm an cdv ct) args binds) (hkind : (binds.all fun y=>scope.names.lookup y.1 == some .local || scope.names.lookup y.1 == some .cell) = true)
  (hnd : ((cellsFrom 0 scope.names []).map (·.1)).Nodup)
  (h : ∀ g L' h₁ tk cells,Fr h₀ L g m→Fr g L' h₁ (bindL (envOfC qual scope L' f cdv).kindOf binds fun _=>none)→News g L' h₁ (cells ++ news) →
   CellsAre (bindC (envOfC qual scope L' f cdv).kindOf binds fun _=>none) (cellsFrom (L' + 1) scope.names []) cells→Below A base (env :: outer) g→K.In g→Top p loose mean mg mb g→(∀ q ∈ news,q.1 < L')→Kp (news.map (·.1)) s.heap g →
   wpAny (model prog w) (A.deeper (envOfC qual scope L' f cdv)) (execs body (envOfC qual scope L' f cdv))
    (fun fl s'=>LeaveK h₀ L m g R (match fl with | .ret v=>v | _=>.none) s')
    (fun e s'=>wpAny (model prog w) (A.deeper (envOfC qual scope L' f cdv)) (leaving (envOfC qual scope L' f cdv) e) (fun _ s''=>R (.error e) s'') (fun e' s''=>R (.error e') s'') s')
    { s with heap:=h₁,toks:=tk})
  (hco : scope.isCoroutine = false) (hgen : scope.isGenerator = false) (hk : scope.kind = .function) : codeAny (model prog w) A (.call (.ref f) args) R s:=by
 refine an4 (groundX (R:=R) B F N hA hf hke) fun FG BG st lv=>?_
 have X:=X₀.keeps F.keep
 have hkd:=kindsX hkind
 refine codeAny_call_function hroom (X _ _ ho) rfl hco hgen rfl (codeRec_of X hcd) (hbind _ _ _ _ ?_)
 refine wpAny_newFunctionEnv_cells hk (hkd _) fun env' he s' x=>?_
 subst he
 refine ⟨(T.nolimit.keeps F.keep).keeps x.toInCall.keep,codeAny_func ?_⟩
 refine ex2 (x.done) fun h₁ tk q9=>an2 q9 fun e92 _=>?_
 clear q9
 subst e92
 have up:=x.toInCall.keep
 have look : ∀ n c,(n,c) ∈ cellsFrom (s.heap.objs.size + 1) scope.names []→(cellsFrom (s.heap.objs.size + 1) scope.names []).lookup n = some c:=fun n c hm =>
  lookup_of_mem_nodup (cellsFrom_names scope.names 0 (s.heap.objs.size + 1) [] [] rfl ▸ hnd) hm
 refine ex1 (Cl.news (h₀:=s.heap) (Nat.le_refl _) fun n c hm=>⟨x.cell n c (look n c hm),x.above n c hm⟩) fun cells q9=>an2 q9 fun NC Y=>?_
 clear q9
 have F1 : Fr (hideAll s.heap (news.map (·.1))) s.heap.objs.size h₁ _:=⟨x.toInCall.ns,fun b o e=>up b o (of_hideAll _ e),Nat.le_of_eq (hideAll_size _ _)⟩
 have N1 : News (hideAll s.heap (news.map (·.1))) s.heap.objs.size h₁ (cells ++ news):=fun q hq=>by
  rcases List.mem_append.mp hq with hq | hq
  ·refine an3 (NC q hq) fun c1 c2 c3=>?_
   refine ⟨c1,c2,?_⟩
   cases z : (hideAll s.heap (news.map (·.1))).get? q.1 with
   | none=>rfl
   | some o=>rw [of_hideAll _ z] at c3;cases c3
  ·exact ⟨up _ _ (N q hq).1,Nat.ne_of_lt (Heap.lt_size (N q hq).1),hideAll_none _ (List.mem_map_of_mem hq)⟩
 exact wpAny_mono (h _ s.heap.objs.size h₁ tk cells FG F1 N1 Y BG (X₀.keeps st) (T.keeps st) (fun q hq=>Heap.lt_size (N q hq).1) (fun b o e n=>hideAll_get _ e n)) (fun fl s' hl=>lv _ _ hl) fun _ _ y=>y
end
theorem lnNB_1 : True:=by
 k_with "L0" => (((case kA=>exact rfl);(case kF=>exact rfl);(case kK=>first | exact rfl | assumption);(case k1=>k_asm);(case k2=>k_asm);(case k3=>k_asm);(case k4=>k_asm);(case k5=>k_asm);(case k6=>k_is);(case k7=>k_is);(case k8=>ktr_room);(case k9=>exact BindsTo.of_eq rfl);(case c5=>decide);(case kB=>exact locs rfl);(case c2=>exact rfl);(case c3=>exact rfl);(case c4=>exact rfl);k_whole))
 k_with "nu_enter" => ((fail_if_success have:=dNB);first | k_extra "L0" | fail)
 exact True.intro
end NB
theorem dNB : True:=trivial
section NX1
open PySem.Calls Sem
theorem fault_cls {w : World} {h : Heap} (X : (hd.heap_1 w.params).In h) : ∃ nm q k0 k1 k2 k3 k5,h.get? 61 = some (excClassObj nm q 61 60 [.ref 48] excMro true [] [] false none none k0 k1 k2 k3 k5 "Exception.__new__") :=
 ⟨_,_,_,_,_,_,_,X 61 _ rfl⟩
section
variable {prog : Program} {w : World} {A : Around} {R : Result→Shared→Prop} {E : Value→Shared→Prop} {h : Heap} {g : Array GenState} {d : Drawn} {t : Nat} {os : OsState}
variable {nm q : Str} {k0 k1 k2 k3 k5 : Option Value}
end
open kc in
theorem c_0 : s_0 A E h nm q rest Q:=by
 intro g d t os k0 k1 k2 k3 k5 M hC hq
 have F:=PySem.F.excBase_Exception
 have hcont : (Value.ref 61 :: excMro).contains (.type "Exception") = true:=by decide +kernel
 have hstar:=F.noStar
 unfold checkBuiltinCall
 rw [F.newKind,F.newSplit,F.newRow]
 repeat (first | refine wpAny_loadPart_at hC ?_ | (refine wpAny_isSubtype_exc hC ?_;rw [hcont]) | refine wpAny_staticBase_exc hC ?_ | refine wpAny_madeBy_exc hC ?_ | simp only [bne_self_eq_false,Bool.false_eq_true,if_false] | wp_step)
 exact hq
theorem u1 : upto 1:=hk @c_0 u0 (by with_unfolding_all exact rfl)
open kc in
theorem fault_check_new {A E h nm q rest Q} : s_0 A E h nm q rest Q:=@hkT _ u1 (by k_extra "T") _ (by exact rfl)
section
variable {prog : Program} {w : World} {A : Around} {R : Result→Shared→Prop} {E : Value→Shared→Prop} {h : Heap} {g : Array GenState} {d : Drawn} {t : Nat} {os : OsState}
variable {nm q : Str} {k0 k1 k2 k3 k5 : Option Value}
theorem fault_new {rest : List Value} (hC : h.get? 61 = some (excClassObj nm q 61 60 [.ref 48] excMro true [] [] false none none k0 k1 k2 k3 k5 "Exception.__new__"))
  (hq : R (.ok (.ret (.ref (h.objs.size + 1)))) ⟨(h.push { cls:=.type "tuple",data:=.seq rest.toArray}).push
   { cls:=.ref 61,data:=.fields #[.ref h.objs.size,.none,.none,.none,.bool false,.none]},g,d,t,os⟩) (hrest : rest.length ≤ sizeLine) :
  codeAny (model prog w) A (.builtin "Exception.__new__" ⟨.ref 61 :: rest,[]⟩) R ⟨h,g,d,t,os⟩:=by
 have F:=PySem.F.excBase_Exception
 have hends:=F.ends
 have hcB : (Value.ref 61 :: excMro).contains (.type "Exception") = true:=by decide +kernel
 have hcA : (Value.ref 61 :: excMro).contains (.type "AttributeError") = false:=by decide +kernel
 have hcN : (Value.ref 61 :: excMro).contains (.type "NameError") = false:=by decide +kernel
 refine codeAny_builtinAt F.entry ?_
 unfold Builtin.«BaseException.__new__»
 refine _root_.PySem.wpAt_bind ?_
 show _root_.PySem.wpAt _ _ _ (stack >>= _) _ _ _
 refine _root_.PySem.wpAt_bind (_root_.PySem.wpAt_stack fun p below=>_root_.PySem.wpAt_of_wpAny ?_)
 wp_walk
 refine _root_.PySem.wpAt_of_wpAny ?_
 rw [F.owner]
 repeat (first | with_reducible refine wpAny_madeHere_exc F.canon hC ?_ | with_reducible refine wpAny_loadPart_at hC ?_ | (with_reducible refine wpAny_isSubtype_exc hC ?_;first | rw [hcB] | rw [hcA] | rw [hcN]) | wp_step)
 show R _ _
 rw [Heap.size_push]
 exact hq
end
end NX1
section NX2
open PySem.Calls
section
variable {prog : Program} {w : World} {A : Around} {R : Result→Shared→Prop} {E : Value→Shared→Prop} {h : Heap} {g : Array GenState} {d : Drawn} {t : Nat} {os : OsState}
end
open kc in
theorem c_1 : s_1 A h rest prog w R:=by
 intro g d t os X hrest hq
 refine ex7 (fault_cls X) fun nm q k0 k1 k2 k3 k5 hC=>?_
 have call : Looks (model prog w) h (specialOf (.ref 61) "__call__") (some (.builtin "type.__call__")):=looks_specialIn X (by k_is)
 refine codeAny_of_tree ?_
 show wpAny _ _ (callAny (.ref 61) _) _ _ _
 refine nd_load hC ?_
 show wpAny _ _ (callAny.viaDunder (.ref 61) _) _ _ _
 unfold callAny.viaDunder
 refine wpAny_bind (call.at ?_)
 dsimp only
 rw [tc_bind]
 refine wpAny_bind (wpAny_pure (wpAny_bind (wpAny_pure ?_)))
 refine wpAny_pure (a:=Fin.again (.call (.builtin "type.__call__") ⟨.ref 61 :: rest,[]⟩)) (And.intro rfl ?_)
 refine codeAny_call_builtin_at (Code.quiet_builtin _ (by decide +kernel)) entry_typeCall (wpAny_check_type_call_sub hC ?_)
 unfold Builtin.«type.__call__»
 have made : Looks (model prog w) h (Bind.madeBy (.ref 61)) (some "Exception.__new__"):=fun A Q E s k q=>wpAny_madeBy_exc (k _ _ hC) q
 have hm : Looks (model prog w) h (mroOf (.ref 61)) (.ref 61 :: excMro):=fun A Q E s k q=>wpAny_mroOf_exc (k _ _ hC) q
 have he : (Value.ref 61 :: excMro).isEmpty = false:=rfl
 repeat (first | simp only [he,Bool.false_eq_true,if_false] | with_reducible refine wpAny_call ?_ | lk)
 refine codeAny_call_builtin_code (Code.quiet_builtin _ PySem.F.excBase_Exception.quiet) (fault_check_new hC ?_)
 refine fault_new hC ?_ hrest
 have k : ∀ b o,h.get? b = some o→((h.push { cls:=.type "tuple",data:=.seq rest.toArray}).push (excObj h.objs.size)).get? b = some o:=fun b o e=>Heap.get?_push_of_some _ (Heap.get?_push_of_some _ e)
 have hx : ((h.push { cls:=.type "tuple",data:=.seq rest.toArray}).push (excObj h.objs.size)).get? (h.objs.size + 1) = some (excObj h.objs.size):=by heap_get
 have t1 : Looks (model prog w) ((h.push { cls:=.type "tuple",data:=.seq rest.toArray}).push (excObj h.objs.size)) (typeOf (.ref (h.objs.size + 1))) (.ref 61):=(Looks.ld hx).andThen .now
 have s1 : Looks (model prog w) ((h.push { cls:=.type "tuple",data:=.seq rest.toArray}).push (excObj h.objs.size)) (isSubtype (.ref 61) (.ref 61)) true:=looks_mroIn (X.keeps k) (by k_is)
 have i1 : Looks (model prog w) ((h.push { cls:=.type "tuple",data:=.seq rest.toArray}).push (excObj h.objs.size)) (typeLookup (.ref 61) "__init__") (some (.ref 38)):=looks_findIn (X.keeps k) (by k_is)
 have b1 : Looks (model prog w) ((h.push { cls:=.type "tuple",data:=.seq rest.toArray}).push (excObj h.objs.size)) (bindSpecial (.ref 38) (.ref (h.objs.size + 1))) (.ref 38,[.ref (h.objs.size + 1)]):=bind_fn (X.keeps k) _ (by k_is)
 show wpAny _ _ _ _ _ _
 unfold isInstance callSpecial? specialOf
 repeat (first | with_reducible refine wpAny_call ?_ | lk)
 refine codeAny_mono hq fun r s' z=>?_
 rcases r with e | (v | _ | _ | _) <;> first | exact z | exact z.elim | skip
 obtain ⟨rfl,z⟩:=z
 exact wpAny_pure (wpAny_pure z)
theorem u2 : upto 2:=hk @c_1 u1 (by with_unfolding_all exact rfl)
open kc in
theorem fault_core {A h rest prog w R} : s_1 A h rest prog w R:=@hkT _ u2 (by k_extra "T") _ (by exact rfl)
section
variable {prog : Program} {w : World} {A : Around} {R : Result→Shared→Prop} {E : Value→Shared→Prop} {h : Heap} {g : Array GenState} {d : Drawn} {t : Nat} {os : OsState}
end
end NX2
section NX4
open PySem.Calls
theorem sw_slot_get : Slot "wrapper_descriptor" "__get__" "wrapper_descriptor.__get__" := .of (owner := "wrapper_descriptor") (n := "__get__") (by rw [typeLookup_type,builtinLookup_eq_fast];kernel_rfl) (by decide +kernel) (by decide +kernel) (by decide +kernel)
 (.inl (by decide +kernel)) (by rw [isSubtype_type];kernel_rfl)
theorem sw_entry_get : entryFor table "wrapper_descriptor.__get__" = some Builtin.«wrapper_descriptor.__get__»:=entryFor_of_tree (by kernel_rfl)
theorem sw_args_get (a b c : Value) : argsOk "wrapper_descriptor.__get__" ⟨[a,b,c],[]⟩:=by unfold argsOk;kernel_rfl
theorem sw_type : typeOf (.builtin "Exception.__init__") = pure (.type "wrapper_descriptor"):=by
 exact of_pureOf (by kernel_rfl)
section
variable {prog : Program} {w : World} {A : Around} {R : Result→Shared→Prop} {E : Value→Shared→Prop} {h : Heap} {g : Array GenState} {d : Drawn} {t : Nat} {os : OsState}
end
open kc in
theorem c_2 : s_2 A E h prog w so x ox tk:=by
 intro g d t os Q X hso hx hc hxC hq
 have hno : Looks (model prog w) h (opaqueClassAbove (.ref 61)) none:=looks_opaque X (by k_is)
 refine ex7 (fault_cls X) fun nm q k0 k1 k2 k3 k5 hC=>?_
 have hm : Looks (model prog w) h (mroOf (.ref 61)) (.ref 61 :: excMro):=fun A Q E s k q=>wpAny_mroOf_exc (k _ _ hC) q
 have hl : (((Value.ref 61 :: excMro).dropWhile (· != .ref 48)).drop 1) = [.type "Exception",.type "BaseException",.type "object"]:=by decide +kernel
 have hf : alongIn (hd.heap_1 w.params) "__init__" [.type "Exception",.type "BaseException",.type "object"] = some (some (.builtin "Exception.__init__")):=by kernel_rfl
 have hlk:=sw_slot_get.lookup
 have hne : (Value.ref x == Value.ref 61) = false:=by simp [hxC]
 have hn : (("__init__" : Str) == ("__class__" : Str)) = false:=by decide +kernel
 have hty:=sw_type
 have hTf : (⟨h,g,d,t,os⟩ : Shared).TypeIs (.builtin "Exception.__init__") "wrapper_descriptor" := sw_type
 have t1 : Looks (model prog w) h (typeOf (.ref x)) (.ref 61):=(Looks.ld hx).andThen (by rw [hc];exact .now)
 have i1 : Looks (model prog w) h (isInstance (.ref x) (.type "Exception")) true:=t1.andThen (looks_mroIn X (by k_is))
 have hdt : (ks_superObj 48 x 61 : Obj).data = .fields #[.ref 48,.ref x,.ref 61]:=rfl
 have f0 : (#[.ref 48,.ref x,.ref 61] : Array Value)[0]? = some (.ref 48):=rfl
 have f1 : (#[.ref 48,.ref x,.ref 61] : Array Value)[1]? = some (.ref x):=rfl
 have f2 : (#[.ref 48,.ref x,.ref 61] : Array Value)[2]? = some (.ref 61):=rfl
 unfold Builtin.«super.__getattribute__»
 iterate 22 (first
  | (with_reducible refine wpAny_field hso hdt f0 ?_) | (with_reducible refine wpAny_field hso hdt f1 ?_) | (with_reducible refine wpAny_field hso hdt f2 ?_)
  | (with_reducible refine ks_wpAny_notOpaque hno ?_)
  | (with_reducible refine Looks.at hm ?_;rw [hl])
  | (simp only [hn,hne,Bool.or_false,Bool.false_eq_true,if_false])
  | wp_step
  | dsimp only)
 refine wpAny_bind ?_
 refine ks_forIn_along (name := "__init__") (v:=.builtin "Exception.__init__") (K:=hd.heap_1 w.params) (k:=?k) (init:=(none,())) X ?hb ?hk ?hq hf
 case hb=>intro c r;rfl
 case hk=>rfl
 refine wpAny_bind (wpAny_of_eq hty ?_)
 refine wpAny_bind (wpAny_of_eq hlk ?_)
 dsimp only
 with_reducible refine wpAny_bind ?_
 with_reducible refine wpAny_holding ?_
 refine wpAny_call_entry sw_slot_get hTf sw_entry_get ?_ (sw_args_get _ _ _)
 unfold Builtin.«wrapper_descriptor.__get__»
 repeat (first
  | (with_reducible refine Looks.at i1 ?_)
  | (refine wpAny_of_eq (a:=((Str.ofString "__init__",Value.type "Exception") : Str × Value)) (by kernel_rfl) ?_)
  | (with_reducible refine ⟨_,rfl,?_⟩)
  | wp_step)
 all_goals exact hq
theorem u3 : upto 3:=hk @c_2 u2 (by with_unfolding_all exact rfl)
open kc in
theorem super_ga {A E h prog w so x ox tk} : s_2 A E h prog w so x ox tk:=@hkT _ u3 (by k_extra "T") _ (by exact rfl)
section
variable {prog : Program} {w : World} {A : Around} {R : Result→Shared→Prop} {E : Value→Shared→Prop} {h : Heap} {g : Array GenState} {d : Drawn} {t : Nat} {os : OsState}
theorem super_getMethod {so x : Addr} {ox : Obj} {pl : Sem Bool} {Q : Value × List Value→Shared→Prop} (X : (hd.heap_1 w.params).In h)
  (hso : h.get? so = some (ks_superObj 48 x 61)) (hx : h.get? x = some ox) (hc : ox.cls = .ref 61) (hxC : x ≠ 61)
  (hq : Q (.ref h.objs.size,[]) ⟨h.push (mwObj x),g,d,t + 1,os⟩) :
  wpAny (model prog w) A (getMethod (.ref so) "__init__" pl) Q E ⟨h,g,d,t,os⟩:=by
 have hlk:=F.ks_slot_super_ga.lookup
 have hT : ∀ t',(⟨h,g,d,t',os⟩ : Shared).TypeIs (.ref so) "super" := fun _=>⟨_,hso,rfl⟩
 unfold getMethod
 refine wpAny_bind (wpAny_specialOf (hT _) hlk ?_)
 show wpAny _ _ (if (Manifest.canonical "super.__getattribute__" != "object.__getattribute__") = true then _ else _) _ _ _
 rw [if_pos F.ks_canon_super_ga]
 unfold getAttr getAttrBy
 refine wpAny_bind (wpAny_bind (wpAny_mkText (wpAny_holding (wpAny_bind (wpAny_typeOf (hT _) (wpAny_bind (wpAny_of_eq hlk ?_)))))))
 show wpAny _ _ (getAttrByItsOwn (.ref so) (.str "__init__" t) (.type "super") (.builtin "super.__getattribute__") true false) _ _ _
 unfold getAttrByItsOwn hookBefore callGetattribute boundAndCalled
 refine wpAny_bind (wpAny_of_eq (show (if onTheHeap (.type "super") then typeLookup (.type "super") "__getattr__" else pure none) = pure none from rfl) ?_)
 refine wpAny_bind (wpAny_attempt (wpAny_holding ?_))
 show wpAny _ _ (bindSpecial (.builtin "super.__getattribute__") (.ref so) >>= _) _ _ _
 refine wpAny_bind (wpAny_of_eq (F.ks_slot_super_ga.bind _) ?_)
 refine wpAny_mono (Q:=fun v s'=>v = .ref h.objs.size∧s' = ⟨h.push (mwObj x),g,d,t + 1,os⟩) (E:=fun _ _=>False)
  (wpAny_call_entry F.ks_slot_super_ga (hT _) F.ks_entry_super_ga (super_ga X hso hx hc hxC ⟨_,rfl,rfl,rfl⟩) (F.ks_gaArgs_super _ _)) (fun v s' hv=>?_) fun _ _ z=>z.elim
 refine an2 hv fun e90 e91=>?_
 clear hv
 subst e90
 subst e91
 exact wpAny_pure (wpAny_pure hq)
theorem mw_call {b e tup : Addr} {arg : Value} {Q : Value→Shared→Prop} (X : (hd.heap_1 w.params).In h) (hb : h.get? b = some (mwObj e)) (he : h.get? e = some (excObj tup))
  (hq : Q .none ⟨(h.push { cls:=.type "tuple",data:=.seq #[arg]}).update e (Obj.mapFields (·.setIfInBounds 0 (Value.ref h.objs.size))),g,d,t,os⟩) :
  wpAny (model prog w) A (call (.ref b) [arg]) Q E ⟨h,g,d,t,os⟩:=by
 refine ex7 (fault_cls X) fun nm q k0 k1 k2 k3 k5 hC=>?_
 refine wpAny_call (codeAny_of_tree ?_)
 show wpAny _ A.in1 (callAny (.ref b) _) _ _ _
 unfold callAny
 refine wpAny_bind (wpAny_load hb ?_)
 show wpAny _ A.in1 (checkBoundCall "Exception.__init__" ⟨[.ref e,arg],[]⟩ >>= fun _=>again (.builtin "Exception.__init__" ⟨[.ref e,arg],[]⟩)) _ _ _
 refine wpAny_bind ?_
 unfold checkBoundCall
 repeat (first | with_reducible refine fault_check_init hC he rfl ?_ | wp_step)
 refine And.intro (Code.quiet_builtin _ (by decide +kernel)) ?_
 refine codeAny_builtin PySem.F.excBase_Exception.initEntry ?_
 unfold Builtin.«BaseException.__init__»
 wp_walk
 all_goals exact hq
end
end NX4
section NX5
open PySem.Calls
section
variable {prog : Program} {w : World} {A : Around} {R : Result→Shared→Prop} {E : Value→Shared→Prop} {h : Heap} {g : Array GenState} {d : Drawn} {t : Nat} {os : OsState}
theorem exc_open {x : Addr} {ox : Obj} {name : Str} {tk : Tok} {v : Value} (X : (hd.heap_1 w.params).In h) (hx : h.get? x = some ox) (hc : ox.cls = .ref 61)
  (ht : findIn (hd.heap_1 w.params) (.ref 61) name = some none)
  (hq : wpAny (model prog w) A.in1 (PySem.Builtin.ObjectAttr.storeInOwnDict (.ref x) (.ref 61) (.str name tk) name v false)
   (fun fin s'=>match fin with | .done f=>R (.ok f) s' | .again c'=>c'.quiet = true∧codeAny (model prog w) A c' R s') (fun e s'=>R (.error e) s') ⟨h,g,d,t,os⟩) :
  codeAny (model prog w) A (.call (.builtin "object.__setattr__") ⟨[.ref x,.str name tk,v],[]⟩) R ⟨h,g,d,t,os⟩:=by
 have SF:=PySem.F.store_object
 have t1 : Looks (model prog w) h (typeOf (.ref x)) (.ref 61):=(Looks.ld hx).andThen (by rw [hc];exact .now)
 have sub : Looks (model prog w) h (isInstance (.ref x) (.type "object")) true:=t1.andThen (looks_mroIn X (by k_is))
 refine ex7 (fault_cls X) fun nm q k0 k1 k2 k3 k5 hC=>?_
 have hm : Looks (model prog w) h (mroOf (.ref 61)) (.ref 61 :: excMro):=fun A Q E s k q=>wpAny_mroOf_exc (k _ _ hC) q
 refine codeAny_call_builtin SF.slot.plain SF.entry (@check_slot (model prog w) _ _ ⟨h,g,d,t,os⟩ "object.__setattr__" "object" "__setattr__" (.ref x) [.str name tk,v] [] _ SF.kind SF.split sub (SF.args (.ref x) (.str name tk) v) ?_)
 rw [osa_eq,refuse_eq]
 refine wpAny_bind (wpAny_bind (t1.at (wpAny_bind (hm.at ?_))))
 rw [show refuseLoop (.ref x) "__setattr__" (.ref 61 :: excMro) = pure () from by
  rw [refuseLoop_ref];unfold excMro;rw [refuseLoop_ref];exact PySem.F.store_Exception.passes _]
 refine wpAny_pure (wpAny_bind (t1.at (wpAny_bind ((looks_findIn X ht).at (wpAny_bind ?_)))))
 exact wpAny_pure hq
end
open kc in
theorem c_3 : s_3 A E h Q prog w x tup name v:=by
 intro g d t os X hx ht hq
 refine ex7 (fault_cls X) fun nm q k0 k1 k2 k3 k5 hC=>?_
 have t1 : Looks (model prog w) h (typeOf (.ref x)) (.ref 61):=(Looks.ld hx).andThen .now
 have hs : findIn (hd.heap_1 w.params) (.ref 61) "__setattr__" = some (some (.builtin "object.__setattr__")):=by k_is
 refine wpAny_bind (wpAny_mkText (wpAny_bind (wpAny_bind (wpAny_bind (t1 _ _ _ _ (fun _ _ e=>e) (looks_findIn X hs _ _ _ _ (fun _ _ e=>e) (wpAny_holding ?_)))))))
 rw [PySem.F.store_object.slot.bind]
 refine wpAny_bind (wpAny_pure (wpAny_bind (wpAny_call (codeAny_mono (exc_open (R:=fun r s'=>match r with | .ok (.ret _)=>Q () s' | .ok _=>False | .error e=>E e s') X hx rfl ht ?_) fun r s' z=>?_))))
 ·have hxC : x ≠ 61:=fun e=>by rw [e,hC] at hx;cases hx
  have hcd : Looks (model prog w) h (classData 61) _:=looks_clsIn X (by rfl)
  have hsz:=Heap.lt_size hx
  have hx2 : (h.push emptyDict).get? x = some (excObj tup):=Heap.get?_push_of_some _ hx
  have hd2 : (h.push emptyDict).get? h.objs.size = some emptyDict:=Heap.get?_push_size _ rfl
  have hd3 : ((h.push emptyDict).update x fun o=>{ o with dict:=some h.objs.size}).get? h.objs.size = some emptyDict:=(Heap.get?_update_other _ _ (Nat.ne_of_lt hsz)).trans hd2
  have hx3 : ((h.push emptyDict).update x fun o=>{ o with dict:=some h.objs.size}).get? x = some (excObjD tup h.objs.size):=Heap.get?_update_self _ hx2 rfl
  refine wpAny_bind (wpAny_pure (wpAny_bind (wpAny_bind (wpAny_loadPart hx (wpAny_bind (hcd.at ?_))))))
  refine wpAny_bind (wpAny_alloc (wpAny_bind (wpAny_update hx2 ?_)))
  refine wpAny_pure (a:=some h.objs.size) (wpAny_bind (wpAny_pure (wpAny_bind ?_)))
  unfold nsSet
  refine wpAny_bind (wpAny_bind (wpAny_askSetting (wpAny_pure (wpAny_bind (wpAny_mkText (wpAny_bind (wpAny_loadPart hd3 ?_)))))))
  dsimp only
  rw [show aRefKeyMayBeTheName name #[] = false from rfl]
  refine wpAny_updatePart hd3 ?_
  have hp : Obj.putName name (PyData.keyHash w.params name) (.str name (t + 1)) v emptyDict = dictOf [⟨PyData.keyHash w.params name,.str name (t + 1),v⟩] 1:=by rw [putName_dict];rfl
  have hd4:=Heap.get?_update_self (Obj.putName name (PyData.keyHash w.params name) (.str name (t + 1)) v) hd3 (by rw [hp];rfl)
  rw [hp] at hd4
  refine wpAny_bind (wpAny_lookBehind hd4 (pastItsLine_dict (by simp [sizeLine_eq])) ?_)
  refine wpAny_pure (hq _ (fun b o e n=>?_) ?_ hd4)
  ·have hb : b ≠ x:=fun z=>n (by simp [z])
   rw [Heap.get?_update_other _ _ (Nat.ne_of_gt (Heap.lt_size e)),Heap.get?_update_other _ _ (Ne.symm hb)]
   exact Heap.get?_push_of_some _ e
  ·exact (Heap.get?_update_other _ _ (Nat.ne_of_gt hsz)).trans hx3
 ·rcases r with e | (v | _ | _ | _) <;> first | exact z | exact wpAny_pure (wpAny_pure z)
theorem u4 : upto 4:=hk @c_3 u3 (by with_unfolding_all exact rfl)
open kc in
theorem exc_set0 {A E h Q prog w x tup name v} : s_3 A E h Q prog w x tup name v:=@hkT _ u4 (by k_extra "T") _ (by exact rfl)
section
variable {prog : Program} {w : World} {A : Around} {R : Result→Shared→Prop} {E : Value→Shared→Prop} {h : Heap} {g : Array GenState} {d : Drawn} {t : Nat} {os : OsState}
theorem exc_set1 {x dx tup : Addr} {name : Str} {v : Value} {es : List DictEntry} {n : Nat} {Q : Unit→Shared→Prop} (X : (hd.heap_1 w.params).In h) (hx : h.get? x = some (excObjD tup dx))
  (hdx : h.get? dx = some (dictOf es n)) (hne : x ≠ dx) (ht : findIn (hd.heap_1 w.params) (.ref 61) name = some none) (hr : aRefKeyMayBeTheName name es.toArray = false) (es' : List DictEntry) (n' : Nat)
  (hput : Obj.putName name (PyData.keyHash w.params name) (.str name (t + 1)) v (dictOf es n) = dictOf es' n') (hz : es'.length ≤ 1000)
  (hq : ∀ h',Kp [dx] h h'→h'.get? dx = some (dictOf es' n')→Q () ⟨h',g,d,t + 2,os⟩) :
  wpAny (model prog w) A (setAttr (.ref x) name v) Q E ⟨h,g,d,t,os⟩:=by
 refine ex7 (fault_cls X) fun nm q k0 k1 k2 k3 k5 hC=>?_
 have t1 : Looks (model prog w) h (typeOf (.ref x)) (.ref 61):=(Looks.ld hx).andThen .now
 have hs : findIn (hd.heap_1 w.params) (.ref 61) "__setattr__" = some (some (.builtin "object.__setattr__")):=by k_is
 refine wpAny_bind (wpAny_mkText (wpAny_bind (wpAny_bind (wpAny_bind (t1 _ _ _ _ (fun _ _ e=>e) (looks_findIn X hs _ _ _ _ (fun _ _ e=>e) (wpAny_holding ?_)))))))
 rw [PySem.F.store_object.slot.bind]
 refine wpAny_bind (wpAny_pure (wpAny_bind (wpAny_call (codeAny_mono (exc_open (R:=fun r s'=>match r with | .ok (.ret _)=>Q () s' | .ok _=>False | .error e=>E e s') X hx rfl ht ?_) fun r s' z=>?_))))
 ·have hcd : Looks (model prog w) h (classData 61) _:=looks_clsIn X (by rfl)
  unfold PySem.Builtin.ObjectAttr.storeInOwnDict
  refine wpAny_bind (wpAny_pure (wpAny_bind (wpAny_bind (wpAny_loadPart hx (wpAny_bind (hcd.at ?_))))))
  refine wpAny_pure (a:=some dx) (wpAny_bind (wpAny_pure (wpAny_bind ?_)))
  unfold nsSet
  refine wpAny_bind (wpAny_bind (wpAny_askSetting (wpAny_pure (wpAny_bind (wpAny_mkText (wpAny_bind (wpAny_loadPart hdx ?_)))))))
  dsimp only
  rw [hr]
  refine wpAny_updatePart hdx ?_
  have hd4:=Heap.get?_update_self (Obj.putName name (PyData.keyHash w.params name) (.str name (t + 1)) v) hdx (by rw [hput];rfl)
  rw [hput] at hd4
  refine wpAny_bind (wpAny_lookBehind hd4 (pastItsLine_dict (by rw [List.size_toArray,sizeLine_eq];omega)) ?_)
  refine wpAny_pure (hq _ (fun b o e n=>?_) hd4)
  have hb : b ≠ dx:=fun z=>n (by simp [z])
  rw [Heap.get?_update_other _ _ (Ne.symm hb)]
  exact e
 ·rcases r with e | (v | _ | _ | _) <;> first | exact z | exact wpAny_pure (wpAny_pure z)
end
end NX5
section NX3
open PySem.Calls
theorem fr_kp {keys : List Addr} {h₀ h h' : Heap} {L : Addr} {m : Str→Option Value} (F : Fr h₀ L h m) (k : Kp keys h h') (hL : L ∉ keys) (h0 : ∀ b ∈ keys,h₀.get? b = none) : Fr h₀ L h' m:=by
 obtain ⟨⟨oL,es,ep,hl,r⟩,kp,ab⟩:=F
 refine ⟨(ei3 oL es ep ⟨k _ _ hl hL,r⟩),fun b o e=>k _ _ (kp b o e) fun hm=>?_,ab⟩
 rw [h0 b hm] at e;cases e
theorem callWith_P {M : Model} {A : Around} {E : Value→Shared→Prop} {s : Shared} {env : Env} {pos : Pos} {f : Value} {first : List Value} {Q : Value→Shared→Prop} {P : Heap→Prop} {e : Expr} {rest : List Expr}
  (hk : ∀ h,P h→∃ k,(k = Keeper.frame ∨ k = Keeper.machine ∨ k = Keeper.boundFrame)∧Looks M h (keeperOf f) k)
  (h : wpAny M A (spliced (backTo pos (starEach (e :: rest) env))) (fun vs s₁=>P s₁.heap∧wpAny M A (call f (first ++ vs)) Q E s₁) E s)
  (he : starEach (e :: rest) env = (false,eval e env) :: starEach rest env) (hplain : (backTo pos (starEach rest env)).any (·.1) = false) :
  wpAny M A (callWith pos f first (backTo pos (starEach (e :: rest) env)) []) Q E s:=by
 rw [he] at h ⊢
 exact callWith_of (by show ((false || (backTo pos (starEach rest env)).any (·.1)) || false) = false;rw [hplain];rfl) hk (evalArgs_plain h)
theorem mw_heap {h : Heap} {e tup : Addr} {o : Obj} (he : h.get? e = some (excObj tup)) :
  Kp [e] h ((h.push o).update e (Obj.mapFields (·.setIfInBounds 0 (Value.ref h.objs.size))))∧((h.push o).update e (Obj.mapFields (·.setIfInBounds 0 (Value.ref h.objs.size)))).get? e = some (excObj h.objs.size):=by
 refine ⟨fun b ob q n=>?_,?_⟩
 ·rw [Heap.get?_update_other _ _ (fun z : e = b=>n (by rw [z];exact .head _))]
  exact Heap.get?_push_of_some _ q
 ·rw [Heap.get?_update_self _ (Heap.get?_push_of_some _ he) rfl]
  rfl
theorem inst_exc {h : Heap} {x tup : Addr} (hx : h.get? x = some (excObj tup)) : InstAt h x (excObj tup) 61 none:=⟨hx,rfl,rfl,trivial⟩
open kc in
theorem c_4 : s_4 E w p loose mean mg mb dp un gd cn cs a ccd cl outer A₀ base h₀ L m restX1 s QX1 xX1 t1 t2:=by
 intro B F X T hk N hx at_ hd hu hret
 refine wpAny_call (fault_core (X.keeps F.keep) (Nat.le_of_ble_eq_true rfl) ?_)
 have N1:=(N.push F { cls:=.type "tuple",data:=.seq [Value.str xX1 t1,Value.int at_ t2].toArray}).push (F.push _) (excObj s.heap.objs.size)
 have F1:=(F.push { cls:=.type "tuple",data:=.seq [Value.str xX1 t1,Value.int at_ t2].toArray}).push (excObj s.heap.objs.size)
 rw [Heap.size_push] at N1
 have hrl : ∀ p ∈ restX1,p.1 < s.heap.objs.size:=fun p hp=>Heap.lt_size (N p hp).1
 clear N F
 refine' ks_code_super (binds:=[("self",.ref (s.heap.objs.size + 1)),("what",.str xX1 t1),("at",.int at_ t2)]) ?k1 ?k2 ?k3 ?k4 ?k5 ?kA ?kF ?kK ?k6 ?k7 ?k8 ?k9 ?kB ?_ ?c1 ?c2 ?c3 ?c4
 (case kA=>exact rfl)
 (case kF=>exact rfl)
 (case kK=>first | exact rfl | assumption)
 (case k1=>k_asm)
 (case k2=>exact F1)
 (case k3=>k_asm)
 (case k4=>exact N1)
 (case k5=>k_asm)
 (case k6=>k_is)
 (case k7=>k_is)
 (case k8=>ktr_room)
 (case k9=>first | exact BindsTo.of_eq rfl | exact binds_K (X.keeps F1.keep) rfl (by k_is) rfl rfl rfl)
 (case kB=>exact locs rfl)
 (case c1=>decide)
 (case c2=>exact rfl)
 (case c3=>exact rfl)
 (case c4=>exact rfl)
 intro g' L' h' FG' F' N' B' X' T' l1
 (try dsimp only)
 walk1
 walk1
 walk1
 refine ks_node F' X' N' T' (by k_is) rfl rfl (inst_exc (N' _ (.head _)).1) (by k_is) rfl (by decide +kernel) (by k_is) (by k_is) (by k_is) (by k_is) (by decide +kernel) (by decide +kernel) (by decide +kernel) (by decide +kernel) rfl (by decide +kernel) (by first | boot_by_name | rfl | kernel_rfl) ?_
 intro so h1 F1' N1' l2
 have hxC : s.heap.objs.size + 1 ≠ 61:=fun e=>by
  have:=(N' _ (.head _)).2.2
  rw [e,X' 61 _ rfl] at this
  cases this
 refine super_getMethod (X'.keeps F1'.keep) (N1' _ (.head _)).1 (N1' _ (.tail _ (.head _))).1 rfl hxC ?_
 have F2:=F1'.push (mwObj (s.heap.objs.size + 1))
 have N2:=N1'.push F1' (mwObj (s.heap.objs.size + 1))
 clear F' N' N1 F1
 generalize hmw : h1.objs.size = mw at *
 refine callWith_P (P:=fun h=>h.get? mw = some (mwObj (s.heap.objs.size + 1))) (fun h hp=>⟨.machine,.inr (.inl rfl),(Looks.ld (part:=none) hp).andThen .now⟩) ?_ rfl rfl
 repeat' walk1
 ·exact (N2 _ (.head _)).1
 refine mw_call (tup:=s.heap.objs.size) (X'.keeps F2.keep) (N2 _ (.head _)).1 (N2 _ (.tail _ (.tail _ (.head _)))).1 ?_
 refine an2 (mw_heap (o:={ cls:=.type "tuple",data:=.seq #[Value.str xX1 t1]}) (N2 _ (.tail _ (.tail _ (.head _)))).1) fun K3 he3=>?_
 have hxg : g'.get? (s.heap.objs.size + 1) = none:=(N2 _ (.tail _ (.tail _ (.head _)))).2.2
 have hxL : s.heap.objs.size + 1 ≠ L':=(N2 _ (.tail _ (.tail _ (.head _)))).2.1
 have F3:=fr_kp F2 K3 (fun z=>hxL (List.mem_singleton.mp z).symm) (fun b hb=>by rw [List.mem_singleton.mp hb];exact hxg)
 generalize hsx : s.heap.objs.size + 1 = ex at *
 have hrx : ∀ p ∈ restX1,p.1 < ex:=fun p hp=>Nat.lt_trans (hrl p hp) (by rw [← hsx];exact Nat.lt_succ_self _)
 have N3:=news_kp (news_sub N2 fun p hp=>.tail _ (.tail _ (.tail _ (.tail _ hp)))) K3 (fun p hp z=>Nat.ne_of_lt (hrx p hp) (List.mem_singleton.mp z))
 clear K3 N2 F2 N1' F1'
 revert F3 he3 N3
 generalize ((Heap.push _ _).update ex _) = h3
 generalize (Heap.push _ _).objs.size = t3
 intro he3 F3 N3
 (try dsimp only)
 repeat' walk1
 refine exc_set0 (X'.keeps F3.keep) he3 (by k_is) ?_
 intro h4 K4 he4 hd4
 have F4:=fr_kp F3 K4 (fun z=>hxL (List.mem_singleton.mp z).symm) (fun b hb=>by rw [List.mem_singleton.mp hb];exact hxg)
 have N4:=news_kp N3 K4 (fun p hp z=>Nat.ne_of_lt (hrx p hp) (List.mem_singleton.mp z))
 have hdL : h3.objs.size ≠ L':=Nat.ne_of_gt F3.ns.lt
 have hdg : g'.get? h3.objs.size = none:=none_at_size (s:=⟨h3,s.gens,s.drawn,0,s.os⟩) F3
 have hde : ex < h3.objs.size:=Heap.lt_size he3
 clear F3 he3 K4 N3
 generalize h3.objs.size = dx at *
 (try dsimp only)
 repeat' walk1
 refine exc_set1 (X'.keeps F4.keep) he4 hd4 (Nat.ne_of_lt hde) (by k_is) rfl [⟨PyData.keyHash w.params "what",.str "what" _,.str xX1 t1⟩,⟨PyData.keyHash w.params "at",.str "at" _,.int at_ t2⟩] 2 (by rw [putName_dict];rfl) (Nat.le_of_ble_eq_true rfl) ?_
 intro h5 K5 hd5
 have F5:=fr_kp F4 K5 (fun z=>hdL (List.mem_singleton.mp z).symm) (fun b hb=>by rw [List.mem_singleton.mp hb];exact hdg)
 have he5:=K5 _ _ he4 (fun z=>Nat.ne_of_lt hde (List.mem_singleton.mp z))
 have N5:=news_kp N4 K5 (fun p hp z=>Nat.ne_of_lt (Nat.lt_trans (hrx p hp) hde) (List.mem_singleton.mp z))
 have N6:=news_app (l:=[(ex,excObjD t3 dx),(dx,_)]) (fun p hp=>by
  rcases List.mem_cons.mp hp with rfl | hp
  ·exact ⟨he5,hxL,hxg⟩
  ·rw [List.mem_singleton.mp hp];exact ⟨hd5,hdL,hdg⟩) N5
 clear N5 N4 F4 he4 hd4 K5
 (try dsimp only)
 repeat' walk1
 exact hret _ _ _ _ _ _ _ (by assumption) (by assumption) (Nat.ne_of_lt hde) hrx (fun p hp=>Nat.lt_trans (hrx p hp) hde)
theorem u5 : upto 5:=hk @c_4 u4 (by with_unfolding_all exact rfl)
open kc in
theorem fault_call {E w p loose mean mg mb dp un gd cn cs a ccd cl outer A₀ base h₀ L m restX1 s QX1 xX1 t1 t2} : s_4 E w p loose mean mg mb dp un gd cn cs a ccd cl outer A₀ base h₀ L m restX1 s QX1 xX1 t1 t2:=@hkT _ u5 (by k_extra "T") _ (by exact rfl)
end NX3
section NX6
open PySem.Calls
section
variable {M : Model} {A : Around} {E : Value→Shared→Prop} {s : Shared} {env : Env}
theorem Raise_fault {e : Expr} {pos : Pos} {Q : Flow→Shared→Prop} (hh : A.handled = none)
  (h : wpAny M A (eval e env) (RaisableX E) E s) : wpAny M A (exec (.Raise (some e) none pos) env) Q E s:=by
 show wpAny M A (do standAt pos;raiseStmt env (some (do let v ← eval e env;standAt pos;pure v)) none) Q E s
 refine wpAny_bind (wpAny_standAt ?_)
 unfold raiseStmt
 dsimp only
 refine wpAny_bind (wpAny_bind (wpAny_mono h (fun v s₁ h₁=>wpAny_bind (wpAny_standAt (wpAny_pure ?_))) fun _ _ x=>x))
 refine ex3 h₁ fun a t dx q9=>an4 q9 fun e93 e94 he hE=>?_
 clear q9 h₁
 subst e93
 obtain ⟨nm,q,k0,k1,k2,k3,k5,hC⟩:=e94
 have hcB : (Value.ref 61 :: excMro).contains (.type "BaseException") = true:=by decide +kernel
 obtain ⟨hp,g,d,tk,os⟩:=s₁
 repeat (first | with_reducible refine wpAny_loadPart_at he ?_ | with_reducible refine wpAny_loadPart_at hC ?_ | (with_reducible refine wpAny_isSubtype_exc hC ?_;rw [hcB]) | wp_step)
 exact wpAny_raiseNew_none hh hE
end
end NX6
section NX7
open PySem.Calls
theorem no_rec {h : Heap} {a : Addr} {o : Obj} {ts : Array Value} (ha : h.get? a = some o) (hd : o.data = .fields ts) {b : Addr} {ob : Obj} (hb : h.get? b = some ob) (hn : ∀ vs,ob.data ≠ .fields vs) : b ≠ a:=fun z=>by
 rw [z,ha] at hb
 cases hb
 exact hn ts hd
theorem stays_upd {base h : Heap} {a : Addr} {f : Obj→Obj} (k : base.StaysIn h) (ha : base.get? a = none) : base.StaysIn (h.update a f):=fun b o e=>by
 rw [Heap.get?_update_other _ _ (fun z : a = b=>by rw [z,e] at ha;cases ha)]
 exact k b o e
section
variable {M : Model} {A : Around} {E : Value→Shared→Prop} {s : Shared} {base : Heap} {env : Env} {outer : List Env} {L e dx : Addr}
theorem fly_entry {vs : Array Value} {sl : Array (Option Value)} {head : Value} {hadNext : Bool} {Q : Unit→Shared→Prop}
  (hfr : A.frames = some (env :: outer)) (hl : s.heap.FunFrames base (env :: outer)) (hf : env.frame = some L)
  (he : s.heap.get? e = some (flObj dx vs sl)) (hkb : base.StaysIn s.heap) (hen : base.get? e = none) (hsz : 1 < vs.size)
  (h : ∀ h',Fly base (env :: outer) e dx (rawInt L) h'→s.heap.UpToSlots h'→Q () { s with heap:=h'}) :
  wpAny M A (do let a ← frameOf env;let pl ← entryPlaceOf L hadNext;let b ← EntryCells.newEntry head a .none (rawInt L) .none pl;setField (.ref e) 1 b) Q E s:=by
 refine wpAny_bind (wpAny_frameOf_fun hfr hl hf fun g hs=>wpAny_bind (wpAny_entryPlaceOf fun pl hpl=>?_))
 unfold EntryCells.newEntry newFields
 refine wpAny_bind (wpAny_newObj_type ?_ (hpl.sizeOk5 _ _ _ _ _))
 have he1 : g.get? e = some (flObj dx vs sl):=(hs.2.1 e fun hm=>by
  obtain ⟨_,o,ho,hnf⟩:=hl.mem hm
  rw [he] at ho
  cases ho
  exact hnf vs rfl).trans he
 have kb : base.StaysIn g:=fun b o hb=>(hs.2.1 b fun hm=>by rw [(hl.mem hm).1] at hb;cases hb).trans (hkb b o hb)
 refine wpAny_setField (Heap.get?_push_of_some _ he1) rfl hsz (h _ ⟨stays_upd (fun b o q=>Heap.get?_push_of_some _ (kb b o q)) hen,hen,?_,?_⟩ fun b o hb hn=>?_)
 ·refine hl.of_keeps fun b o hb hn=>?_
  refine ex1 (hs.2.2 b o hb) fun sl' hs'=>?_
  refine ⟨{ o with slots:=sl'},?_,rfl⟩
  rw [Heap.get?_update_other _ _ (Ne.symm (no_rec he rfl hb hn))]
  exact Heap.get?_push_of_some _ hs'
 ·have hT:=(Heap.get?_update_other (g.push { cls:=.type "traceback",data:=.fields ([head,.ref L,.none,rawInt L,.none] ++ (if pl.isEmpty then List.replicate 6 Value.none else pl)).toArray}) (Obj.mapFields (·.setIfInBounds 1 (Value.ref g.objs.size))) (Nat.ne_of_lt (Heap.lt_size he1))).trans (Heap.get?_push_size g rfl)
  refine ei5 (vs.setIfInBounds 1 (.ref g.objs.size)) sl g.objs.size _ _ ⟨Heap.get?_update_self _ (Heap.get?_push_of_some _ he1) rfl,by simp [hsz],kb.fresh,Nat.ne_of_gt (Heap.lt_size he1),hT,rfl,?_⟩
  first | (simp;done) | (rcases hpl with rfl | ⟨_,_,_,_,_,_,_,rfl⟩ <;> simp)
 ·refine ex1 (hs.2.2 b o hb) fun sl' hs'=>?_
  refine ⟨sl',?_⟩
  rw [Heap.get?_update_other _ _ (Ne.symm (no_rec he rfl hb hn))]
  exact Heap.get?_push_of_some _ hs'
theorem note_first {vs : Array Value} {sl : Array (Option Value)} {Q : Unit→Shared→Prop}
  (hfr : A.frames = some (env :: outer)) (hl : s.heap.FunFrames base (env :: outer)) (hf : env.frame = some L)
  (he : s.heap.get? e = some (flObj dx vs sl)) (h1 : vs[1]? = some .none) (hkb : base.StaysIn s.heap) (hen : base.get? e = none)
  (h : ∀ h',Fly base (env :: outer) e dx (rawInt L) h'→s.heap.UpToSlots h'→Q () { s with heap:=h'}) : wpAny M A (noteFrame (.ref e) env) Q E s:=by
 unfold noteFrame
 simp only [hf]
 refine wpAny_bind (wpAny_field he rfl h1 ?_)
 rw [if_neg (by decide)]
 exact fly_entry hfr hl hf he hkb hen (Array.getElem?_eq_some_iff.mp h1).1 h
theorem note_next {Q : Unit→Shared→Prop}
  (hfr : A.frames = some (env :: outer)) (hf : env.frame = some L) (R : Fly base (env :: outer) e dx .none s.heap)
  (h : ∀ h',Fly base (env :: outer) e dx (rawInt L) h'→s.heap.UpToSlots h'→Q () { s with heap:=h'}) : wpAny M A (noteFrame (.ref e) env) Q E s:=by
 refine an4 R fun hkb hen hl w1=>ex5 w1 fun vs sl T oT ts w2=>an7 w2 fun he h1 hnT hTe hT hdT h3=>?_
 clear w1 w2 R
 unfold noteFrame
 simp only [hf]
 refine wpAny_bind (wpAny_field he rfl h1 ?_)
 rw [if_pos (show (Value.ref T != Value.none) = true from by simp)]
 refine wpAny_bind (wpAny_field hT hdT h3 ?_)
 rw [if_neg (show ¬ ((Value.none == rawInt L) = true) from by simp [rawInt])]
 refine wpAny_bind (wpAny_setField hT hdT (Array.getElem?_eq_some_iff.mp h3).1 ?_)
 have ot : ∀ b o,s.heap.get? b = some o→(∀ vs,o.data ≠ .fields vs)→(s.heap.update T (Obj.mapFields (·.setIfInBounds 3 Value.none))).get? b = some o:=fun b o hb hn =>
  (Heap.get?_update_other _ _ (Ne.symm (no_rec hT hdT hb hn))).trans hb
 refine fly_entry hfr (hl.of_keeps fun b o hb hn=>⟨o,ot b o hb hn,rfl⟩) hf ((Heap.get?_update_other _ _ hTe).trans he) (stays_upd hkb hnT) hen (Array.getElem?_eq_some_iff.mp h1).1 fun h' F U=>h h' F fun b o hb hn=>U b o (ot b o hb hn) hn
theorem flight_none {l : List Env} {fl : Value} {Q : Unit→Shared→Prop} (R : Fly base l e dx fl s.heap)
  (h : ∀ h',Fly base l e dx .none h'→s.heap.UpToSlots h'→Q () { s with heap:=h'}) : wpAny M A (setFlight (.ref e) none) Q E s:=by
 refine an4 R fun hkb hen hl w1=>ex5 w1 fun vs sl T oT ts w2=>an7 w2 fun he h1 hnT hTe hT hdT h3=>?_
 clear w1 w2 R
 have hsz3 : 3 < ts.size:=(Array.getElem?_eq_some_iff.mp h3).1
 have ot : ∀ b o,s.heap.get? b = some o→(∀ vs,o.data ≠ .fields vs)→(s.heap.update T (Obj.mapFields (·.setIfInBounds 3 ((none : Option Addr).elim Value.none fun f=>rawInt f)))).get? b = some o:=fun b o hb hn =>
  (Heap.get?_update_other _ _ (Ne.symm (no_rec hT hdT hb hn))).trans hb
 unfold setFlight
 refine wpAny_bind (wpAny_field he rfl h1 ?_)
 rw [if_pos (show (Value.ref T != Value.none) = true from by simp)]
 refine wpAny_setField hT hdT hsz3 (h _ ⟨stays_upd hkb hnT,hen,hl.of_keeps fun b o hb hn=>⟨o,ot b o hb hn,rfl⟩,vs,sl,T,_,_,(Heap.get?_update_other _ _ hTe).trans he,h1,hnT,hTe,Heap.get?_update_self _ hT (Obj.isFreed_of_fields (Obj.data_mapFields hdT _)),Obj.data_mapFields hdT _,by simp [hsz3]⟩ fun b o hb hn=>⟨o.slots,ot b o hb hn⟩)
theorem Fly.tail {fl : Value} {h : Heap} (R : Fly base (env :: outer) e dx fl h) : Fly base outer e dx fl h:=by
 refine an4 R fun a b e92 d=>?_
 clear R
 obtain ⟨_,_,c⟩:=e92
 exact ⟨a,b,c,d⟩
theorem fly_first {vs : Array Value} {sl : Array (Option Value)} {Q : Unit→Shared→Prop}
  (hfr : A.frames = some (env :: outer)) (hl : s.heap.FunFrames base (env :: outer)) (hf : env.frame = some L)
  (he : s.heap.get? e = some (flObj dx vs sl)) (h1 : vs[1]? = some .none) (hkb : base.StaysIn s.heap) (hen : base.get? e = none)
  (h : ∀ h',Fly base outer e dx .none h'→s.heap.UpToSlots h'→Q () { s with heap:=h'}) : wpAny M A (leaving env (.ref e)) Q E s:=by
 unfold leaving
 exact wpAny_bind (note_first hfr hl hf he h1 hkb hen fun h₁ R U=>flight_none R fun h₂ R' U'=>h h₂ R'.tail (U.trans U'))
theorem fly_next {Q : Unit→Shared→Prop} (hfr : A.frames = some (env :: outer)) (hf : env.frame = some L) (R : Fly base (env :: outer) e dx .none s.heap)
  (h : ∀ h',Fly base outer e dx .none h'→s.heap.UpToSlots h'→Q () { s with heap:=h'}) : wpAny M A (leaving env (.ref e)) Q E s:=by
 unfold leaving
 exact wpAny_bind (note_next hfr hf R fun h₁ R U=>flight_none R fun h₂ R' U'=>h h₂ R'.tail (U.trans U'))
end
end NX7
section NX8
open PySem.Calls
theorem Us.of_kp {keys keys' : List Addr} {G G' h : Heap} (U : Us keys' G h) (k : Kp keys G' G) (hk : ∀ b o,G'.get? b = some o→b ∉ keys→b ∉ keys') : Us keys G' h:=fun b o e n hn=>U b o (k b o e n) (hk b o e n) hn
theorem Rz.of_kp {base G G' h : Heap} {keys keys' : List Addr} {l : List Env} {at_ : Int} {e : Addr} (R : Rz base G keys' l at_ e h) (k : Kp keys G' G) (hk : ∀ b o,G'.get? b = some o→b ∉ keys→b ∉ keys') : Rz base G' keys l at_ e h:=by
 refine ex4 R fun Bs dx es n w3=>an7 w3 fun r1 r2 r3 r4 r5 r6 r7=>?_
 clear w3 R
 exact ⟨Bs,dx,es,n,r1,fun b o q nk nf=>r2 b o (k b o q nk) (hk b o q nk) nf,r3,r4,r5,r6.of_kp k hk,fun hn=>by
  cases z : G'.get? dx with
  | none=>rfl
  | some o=>have:=k dx o z hn;rw [r7 (hk dx o z hn)] at this;cases this⟩
section
variable {M : Model} {A : Around} {E : Value→Shared→Prop} {s' : Shared} {base g h : Heap} {outer : List Env} {L a e dx t : Addr} {m : Str→Option Value} {name : Str} {scope : Scope} {cd : Value} {Q : Unit→Shared→Prop} {news : List (Addr × Obj)}
theorem frame_out {b : Addr} {cl : List (Str × Addr)} (F : Fr g L h m) {o : Obj} (hb : g.get? b = some o) (hn : b ∉ outer.filterMap (·.frame)) : b ∉ (envX name scope L a cd cl :: outer).filterMap (·.frame):=fun hm=>by
 rcases List.mem_cons.mp (show b ∈ L :: outer.filterMap (·.frame) from hm) with z | z
 ·subst z
  exact Nat.lt_irrefl _ (Nat.lt_of_lt_of_le (Heap.lt_size hb) F.above)
 ·exact hn z
theorem rz_first {es : List DictEntry} {n : Nat} {at_ : Int} {cl : List (Str × Addr)} (K : Below A base outer g) (F : Fr g L s'.heap m) (N : News g L s'.heap ((e,flObj dx #[.ref t,.none,.none,.none,.bool false,.none] #[]) :: (dx,dictOf es n) :: news)) (hne : e ≠ dx) (hat : AtIs es at_)
  (hQ : ∀ h',Rz base g [] outer at_ e h'→Q () { s' with heap:=h'}) (hk : scope.kind = .function) :
  wpAny M (A.deeper (envX name scope L a cd cl)) (leaving (envX name scope L a cd cl) (.ref e)) Q E s':=by
 have K':=pushX (env:=envX name scope L a cd cl) K F rfl hk
 have he:=N _ (.head _)
 have hdx:=N _ (.tail _ (.head _))
 have hfr : ∀ b o,s'.heap.get? b = some o→b ∉ e :: (envX name scope L a cd cl :: outer).filterMap (·.frame)→(hideAll s'.heap (e :: (envX name scope L a cd cl :: outer).filterMap (·.frame))).get? b = some o:=fun b o q hm=>hideAll_get _ q hm
 have outF : ∀ b,s'.heap.get? b ≠ none→base.get? b = none→g.get? b = none→b ≠ L→b ∉ (envX name scope L a cd cl :: outer).filterMap (·.frame):=fun b hb h1 h2 h3 hm=>by
  rcases List.mem_cons.mp (show b ∈ L :: outer.filterMap (·.frame) from hm) with z | z
  ·exact h3 z
  ·refine ex1 ((K.frames.mem z).2) fun o q9=>an2 q9 fun ho _=>?_
   clear q9
   rw [h2] at ho;cases ho
 have hb0 : ∀ b,g.get? b = none→base.get? b = none:=fun b q=>by
  cases z : base.get? b with
  | none=>rfl
  | some o=>have:=K.stays b o z;rw [q] at this;cases this
 refine fly_first (base:=hideAll s'.heap (e :: (envX name scope L a cd cl :: outer).filterMap (·.frame))) K'.stack (funFrames_hide K'.frames fun env he b hb=>.tail _ (List.mem_filterMap.mpr ⟨env,he,hb⟩)) rfl he.1 rfl (fun b o q=>of_hideAll _ q) (hideAll_none _ (.head _)) fun h' R U=>hQ h' ?_
 refine ei4 _ dx es n ⟨fun b o q=>hfr b o (K'.stays b o q) fun hm=>?_,fun b o q _ nf=>hfr b o (F.keep b o q) fun hm=>?_,R,hfr dx _ hdx.1 fun hm=>?_,hat,fun b o q _ hn=>U b o (F.keep b o q) hn,fun _=>hdx.2.2⟩
 ·rcases List.mem_cons.mp hm with z | z
  ·rw [z,hb0 e he.2.2] at q;cases q
  ·rw [(K'.frames.mem z).1] at q;cases q
 ·rcases List.mem_cons.mp hm with z | z
  ·rw [z,he.2.2] at q;cases q
  ·exact frame_out F q nf z
 ·rcases List.mem_cons.mp hm with z | z
  ·exact hne z.symm
  ·exact outF dx (by rw [hdx.1];exact Option.some_ne_none _) (hb0 _ hdx.2.2) hdx.2.2 hdx.2.1 z
theorem rz_next {G g₂ : Heap} {keys : List Addr} {at_ : Int} {cl : List (Str × Addr)} (K : Below A base outer g) (F : Fr g L g₂ m) (k : Kp [] g G) (hk : ∀ b o,g.get? b = some o→b ∉ keys) (R : Rz base G keys (envX name scope L a cd cl :: outer) at_ e s'.heap)
  (hQ : ∀ h',Rz base g [] outer at_ e h'→Q () { s' with heap:=h'}) :
  wpAny M (A.deeper (envX name scope L a cd cl)) (leaving (envX name scope L a cd cl) (.ref e)) Q E s':=by
 refine ex4 R fun Bs dx es n w3=>an7 w3 fun r1 r2 r3 r4 r5 r6 r7=>?_
 clear w3 R
 refine fly_next (Around.frames_deeper K.stack) rfl r3 fun h' R' U'=>hQ h' ?_
 refine ei4 Bs dx es n ⟨r1,fun b o q _ nf=>r2 b o (k b o q (List.not_mem_nil)) (hk b o q) (frame_out F q nf),R',r4,r5,fun b o q _ hn=>?_,fun _=>?_⟩
 ·refine ex1 (r6 b o (k b o q (List.not_mem_nil)) (hk b o q) hn) fun sl hs=>?_
  refine ex1 (U' b _ hs hn) fun sl2 h2=>?_
  exact ⟨sl2,h2⟩
 ·cases z : g.get? dx with
  | none=>rfl
  | some o=>have:=k dx o z (List.not_mem_nil);rw [r7 (hk dx o z)] at this;cases this
end
theorem off2 {g h : Heap} {L x dx : Addr} {ox od : Obj} {news : List (Addr × Obj)} (N : News g L h news) (hx : (x,ox) ∈ news) (hd : (dx,od) ∈ news) : ∀ b o,g.get? b = some o→b ∉ [x,dx]:=fun b o q hm=>by
 rcases List.mem_cons.mp hm with z | hm
 ·rw [z,(N _ hx).2.2] at q;cases q
 ·rw [List.mem_singleton.mp hm,(N _ hd).2.2] at q;cases q
theorem news_updF {h₀ h h' : Heap} {L x dx : Addr} {o o' : Obj} {news : List (Addr × Obj)} {gU : Obj→List (Addr × Obj)} (N : News h₀ L h news) (U : UpdF dx o news gU) (k : Kp [x,dx] h h') (hx : h'.get? x = h.get? x) (hd : h'.get? dx = some o') : News h₀ L h' (gU o'):=by
 refine ex2 (U.split) fun pre post q9=>an4 q9 fun e92 hg h1 h2=>?_
 clear q9
 subst e92
 rw [hg]
 have hD:=N (dx,o) (by simp)
 have one : ∀ p ∈ pre ++ (dx,o) :: post,p.1 ≠ dx→h'.get? p.1 = some p.2∧p.1 ≠ L∧h₀.get? p.1 = none:=fun p hp hn=>by
  refine ⟨?_,(N p hp).2⟩
  by_cases z : p.1 = x
  ·rw [z,hx,← z];exact (N p hp).1
  ·exact k _ _ (N p hp).1 fun hm=>by
    rcases List.mem_cons.mp hm with q | q
    ·exact z q
    ·exact hn (List.mem_singleton.mp q)
 intro p hp
 rcases List.mem_append.mp hp with q | q
 ·exact one p (List.mem_append_left _ q) (h1 p q)
 ·rcases List.mem_cons.mp q with rfl | q
  ·exact ⟨hd,hD.2⟩
  ·exact one p (List.mem_append_right _ (.tail _ q)) (h2 p q)
theorem updF_mem {dx : Addr} {o : Obj} {news : List (Addr × Obj)} {gU : Obj→List (Addr × Obj)} (U : UpdF dx o news gU) : (dx,o) ∈ news:=by
 refine ex2 (U.split) fun pre post q9=>an4 q9 fun e92 _ _ _=>?_
 clear q9
 subst e92
 simp
theorem news_updF1 {h₀ h h' : Heap} {L dx : Addr} {o o' : Obj} {news : List (Addr × Obj)} {gU : Obj→List (Addr × Obj)} (N : News h₀ L h news) (U : UpdF dx o news gU) (k : Kp [dx] h h') (hd : h'.get? dx = some o') : News h₀ L h' (gU o'):=by
 refine ex2 (U.split) fun pre post q9=>an4 q9 fun e92 hg h1 h2=>?_
 clear q9
 subst e92
 rw [hg]
 have hD:=N (dx,o) (by simp)
 intro p hp
 rcases List.mem_append.mp hp with q | q
 ·have P:=N p (List.mem_append_left _ q)
  exact ⟨k _ _ P.1 fun hm=>h1 p q (List.mem_singleton.mp hm),P.2⟩
 ·rcases List.mem_cons.mp q with rfl | q
  ·exact ⟨hd,hD.2⟩
  ·have P:=N p (List.mem_append_right _ (.tail _ q))
   exact ⟨k _ _ P.1 fun hm=>h2 p q (List.mem_singleton.mp hm),P.2⟩
end NX8
section NC1
open kc in
theorem c_5 : s_5 E w p loose mean mg mb dp un gd cn cs a ccd cl outer A₀ base h₀ L m restX1 s QX1 t1 t2 t3:=by
 intro B F X T hk N b ks hks at_ count h0 h1 h2 h3 hb hd hu hret hE
 have hsz : b.size = ks.length:=by rw [← hks,KBw.ints_length]
 refine an2 (news_split0 N) fun N₀ hrest=>?_
 clear N
 refine wpAny_call ?_
 k_dflt (refine' code_defH [("data",.bytes b t1),("at",.int at_ t2),("count",.int count t3)] ?k1 ?k2 ?k3 ?k4 ?k5 ?kA ?kF ?kK ?k6 ?k7 ?k8 ?k9 ?kB ?_ ?c2 ?c3 ?c4 ?c5;walk_at "nu_enter";intro g' L' h' FG' F' N' B' X' T' hg')
 (try dsimp only)
 k_fold
 k_steps
 ·exact hE (by omega) _ _ _ (Rz.of_kp (by assumption) hg' fun _ _ _ n=>n)
 ·exact hret (by omega) _ _ (by assumption) (hrest _ (Kp.of_keep hg' (Fr.keep (by assumption))))
theorem u6 : upto 6:=hk @c_5 u5 (by with_unfolding_all exact rfl)
open kc in
theorem check_room_spec {E w p loose mean mg mb dp un gd cn cs a ccd cl outer A₀ base h₀ L m restX1 s QX1 t1 t2 t3} : s_5 E w p loose mean mg mb dp un gd cn cs a ccd cl outer A₀ base h₀ L m restX1 s QX1 t1 t2 t3:=@hkT _ u6 (by k_extra "T") _ (by exact rfl)
end NC1
section NC2
theorem lnNC2_1 : True:=by
 k_with "L1" => ((k_here;(rename Rz _ _ _ _ _ _ _=>rzR);k_dflt (refine' rz_next ?zK ?zF ?zk ?zhh rzR ?_;(case zK=>k_asm);(case zk=>exact fun b o e _=>Fr.keep (by assumption) b o e);(case zF=>k_asm);(case zhh=>first | exact fun _ _ _=>List.not_mem_nil));clear rzR;intro _ _))
 k_with "L2" => ((k_here;(with_reducible show wpAny _ _ (call (Value.ref 70) [Value.bytes _ _,Value.int _ _,Value.int _ _]) _ _ _);k_dflt (refine' check_room_spec ?zB ?zF ?zX ?zT ?zhk ?zN _ _ ?zhks _ _ ?zh0 ?zh1 ?zh2 ?zh3 ?zhb ?zhd ?zhu ?zhret ?zhE;k_extra "Q";(case zhks=>assumption);(case zh0=>omega);(case zh1=>omega);(case zh2=>omega);(case zh3=>omega);(case zhb=>omega);k_extra "V");(intro _ _ _ _ _;(try k_sweep);(try dsimp only));rotate_left;(intro _ _ _ _ _;(try dsimp only));rotate_right))
 k_with "leaving ref" => ((fail_if_success have:=dNC2);first | k_extra "L1" | fail)
 k_with "call ref" => ((fail_if_success have:=dNC2);first | k_extra "L2" | fail)
 exact True.intro
theorem take2 {ks : List Int} {n : Nat} (h : n + 2 ≤ ks.length) : (ks.drop n).take 2 = [ks.getD n 0,ks.getD (n + 1) 0]:=by
 have h1 : n < ks.length:=by omega
 have h2 : n + 1 < ks.length:=by omega
 have e1 : ks.drop n = ks[n] :: ks.drop (n + 1):=List.drop_eq_getElem_cons h1
 have e2 : ks.drop (n + 1) = ks[n + 1] :: ks.drop (n + 1 + 1):=List.drop_eq_getElem_cons h2
 have g1 : ks.getD n 0 = ks[n]:=by simp [List.getD_eq_getElem?_getD,List.getElem?_eq_getElem h1]
 have g2 : ks.getD (n + 1) 0 = ks[n + 1]:=by simp [List.getD_eq_getElem?_getD,List.getElem?_eq_getElem h2]
 rw [g1,g2,e1,e2]
 rfl
theorem clip_in (n : Nat) (i : Int) (h0 : 0 ≤ i) (h1 : i ≤ n) : clipAt n i = i.toNat:=by
 refine ex1 (Int.eq_ofNat_of_zero_le h0) fun k e91=>?_
 subst e91
 rw [clipAt_nat];simp;omega
theorem slice2 {ks : List Int} {i j : Int} (h0 : 0 ≤ i) (hj : j = i + 2) (h : i + 2 ≤ ks.length) :
  (ks.drop ((some i).elim 0 (clipAt ks.length))).take ((some j).elim ks.length (clipAt ks.length) - (some i).elim 0 (clipAt ks.length)) = [ks.getD i.toNat 0,ks.getD (i.toNat + 1) 0]:=by
 subst hj
 show (ks.drop (clipAt ks.length i)).take (clipAt ks.length (i + 2) - clipAt ks.length i) = _
 rw [clip_in _ _ h0 (by omega),clip_in _ _ (by omega) h]
 have : (i + 2).toNat - i.toNat = 2:=by omega
 rw [this]
 exact take2 (by omega)
theorem lnNC2_2 : True:=by
 k_with "L3" => ((k_here;(with_reducible show wpAny _ _ (subscriptTail _ (Expr.Slice _ _ none _) (Value.bytes _ _) (Value.ref _)) _ _ _);(with_reducible rename Fr _ _ _ _=>F');(with_reducible rename News _ _ _ _=>N');(refine KBc.slice_K (s:=⟨_,_,_,_,_⟩) F' N' (by assumption) (by constructor) (by constructor) (by omega) ?_);intro _ _ _ _ _ kbcK;rw [slice2 (by omega) (by first | rfl | omega) (by omega)] at kbcK;(try dsimp only);(try (revert kbcK;intro _))))
 k_with "L4" => ((k_here;(rename Fr _ _ _ _=>lF');(with_unfolding_all refine' For_invVF lF' ?zk1 ?zk2 ?_;(case zk1=>exact rfl);(case zk2=>exact rfl);k_whole)))
 k_with "subscriptTail" => ((fail_if_success have:=dNC2);first | k_extra "L3" | fail)
 k_with "exec For Name Subscript cons nil" => ((fail_if_success have:=dNC2);first | k_extra "L4" | fail)
 exact True.intro
theorem and_byte (a b : Nat) (hb : b < 256) : (a * 256) &&& b = 0:=by
 apply Nat.eq_of_testBit_eq
 intro i
 rw [Nat.testBit_and,Nat.zero_testBit]
 by_cases h : i < 8
 ·rw [show a * 256 = 2 ^ 8 * a from by omega,Nat.testBit_two_pow_mul]
  simp [show ¬ 8 ≤ i from by omega]
 ·rw [Nat.testBit_lt_two_pow (Nat.lt_of_lt_of_le hb (show 256 ≤ 2 ^ i from Nat.pow_le_pow_right (by decide : 0 < 2) (show 8 ≤ i by omega)))]
  simp
theorem or_byte {A : Around} {w : World} {prog : Program} {E : Value→Shared→Prop} {s : Shared} {Q : Value→Shared→Prop} {x y : Int} {t u : Tok} (hx : 0 ≤ x) (hy : 0 ≤ y) (hy2 : y < 256)
  (h : Q (.int (256 * x + y) s.toks) { s with toks:=s.toks + 1}) : wpAny (model prog w) A (binaryOp .BitOr (.int (x * 2 ^ Int.toNat 8) t) (.int y u)) Q E s:=by
 refine or_int ?_
 have e : Builtin.bitOr (x * 2 ^ Int.toNat 8) y = 256 * x + y:=by
  rw [bitOr_and]
  show x * 256 + y - _ = _
  have : Builtin.bitAnd (x * 256) y = 0:=by
   rw [bitAnd_pp (by omega) hy,show (x * 256).toNat = x.toNat * 256 from by omega,and_byte _ _ (by omega)]
   rfl
  have e2 : x * 2 ^ Int.toNat 8 = x * 256:=rfl
  rw [e2,this]
  omega
 rw [e]
 exact h
theorem lnNC2_3 : True:=by
 k_with "L5" => ((k_here;refine or_byte (by omega) (by omega) (by omega) ?_;(try dsimp only)))
 k_with "L6" => ((k_here;k_bytesUnr))
 k_with "binaryOp BitOr int int" => ((fail_if_success have:=dNC2);first | k_extra "L5" | fail)
 k_with "pyIter bytes" => ((fail_if_success have:=dNC2);first | k_extra "L6" | fail)
 exact True.intro
open kc in
theorem c_6 : s_6 E w p loose mean mg mb dp un gd cn cs a ccd cl outer A₀ base h₀ L m restX1 s QX1 t1 t2 t3:=by
 intro B F X T hk N b ks hks at_ h0 h1 hb hd hu hret hE
 have hsz : b.size = ks.length:=by rw [← hks,KBw.ints_length]
 refine an2 (news_split0 N) fun N₀ hrest=>?_
 clear N
 refine wpAny_call ?_
 k_dflt (refine' code_defH [("data",.bytes b t1),("at",.int at_ t2),("count",.int 2 t3)] ?k1 ?k2 ?k3 ?k4 ?k5 ?kA ?kF ?kK ?k6 ?k7 ?k8 ?k9 ?kB ?_ ?c2 ?c3 ?c4 ?c5;walk_at "nu_enter";intro g' L' h' FG' F' N' B' X' T' hg')
 (try dsimp only)
 k_fold
 k_steps
 all_goals trace_state
 ·have e : ∀ x y : Int,256 * (256 * 0 + x) + y = 256 * x + y:=by intros;omega
  rw [e]
  exact hret (by assumption) _ _ _ (by assumption) (hrest _ (Kp.of_keep hg' (Fr.keep (by assumption))))
 ·exact hE (by assumption) _ _ _ (Rz.of_kp (by assumption) hg' fun _ _ _ n=>n)
theorem u7 : upto 7:=hk @c_6 u6 (by with_unfolding_all exact rfl)
open kc in
theorem number_at_spec {E w p loose mean mg mb dp un gd cn cs a ccd cl outer A₀ base h₀ L m restX1 s QX1 t1 t2 t3} : s_6 E w p loose mean mg mb dp un gd cn cs a ccd cl outer A₀ base h₀ L m restX1 s QX1 t1 t2 t3:=@hkT _ u7 (by k_extra "T") _ (by exact rfl)
end NC2
theorem dNC2 : True:=trivial
section NC3
theorem lnNC3_1 : True:=by
 k_with "L7" => ((k_here;(with_reducible show wpAny _ _ (call (Value.ref 77) [Value.bytes _ _,Value.int _ _,Value.int _ _]) _ _ _);k_dflt (refine' number_at_spec ?zB ?zF ?zX ?zT ?zhk ?zN _ _ ?zhks _ ?zh0 ?zh1 ?zhb ?zhd ?zhu ?zhret ?zhE;k_extra "Q";(case zhks=>assumption);(case zh0=>omega);(case zh1=>omega);(case zhb=>omega);k_extra "V";(intro _ _ _ _ _ _;(try k_sweep);(try dsimp only));rotate_left;(intro _ _ _ _ _;(try dsimp only));rotate_right)))
 k_with "call ref" => ((fail_if_success have:=dNC3);first | k_extra "L7" | k_extra "L2" | fail)
 exact True.intro
open kc in
theorem c_7 : s_7 E w x p loose mean mg mb dp un gd cn cs a ccd cl outer A₀ base h₀ L m restX1 s QX1 t2 dx gU tb k1 k2 ta:=by
 intro B F X T hk N at_ b hx U ks hks h0 h1 hb hne hd hu hret hE
 have N₀ : News h₀ L s.heap [(x,instObj 170 dx),(dx,inDict w b tb k1 k2 at_ ta)]:=news_sub N fun p hp=>by
  rcases List.mem_cons.mp hp with rfl | hp
  ·exact hx
  ·rw [List.mem_singleton.mp hp];exact updF_mem U
 have hxs:=(N _ hx).1
 have hsz : b.size = ks.length:=by rw [← hks,KBw.ints_length]
 have hend : ∀ h' o',Kp [x,dx] s.heap h'→h'.get? x = some (instObj 170 dx)→h'.get? dx = some o'→News h₀ L h' (gU o'):=fun h' o' k e1 e2=>news_updF N U k (by rw [e1,hxs]) e2
 clear N
 refine wpAny_call ?_
 k_dflt (refine' code_defH [("self",.ref x),("count",.int 2 t2)] ?k1 ?k2 ?k3 ?k4 ?k5 ?kA ?kF ?kK ?k6 ?k7 ?k8 ?k9 ?kB ?_ ?c2 ?c3 ?c4 ?c5;walk_at "nu_enter";intro g' L' h' FG' F' N' B' X' T' hg')
 (try dsimp only)
 k_fold
 k_steps
 all_goals trace_state
 ·exact hret (by assumption) _ _ _ _ (by assumption) (hend _ _ (Kp.of_keep hg' (Fr.keep (by assumption))) ((by assumption : News _ _ _ [(x,_),(dx,_)]) _ (.head _)).1 ((by assumption : News _ _ _ [(x,_),(dx,_)]) _ (.tail _ (.head _))).1)
 ·exact hE (by assumption) _ _ _ (Rz.of_kp (by assumption) hg' fun _ _ _ _=>List.not_mem_nil)
theorem u8 : upto 8:=hk @c_7 u7 (by with_unfolding_all exact rfl)
open kc in
theorem in_number {E w x p loose mean mg mb dp un gd cn cs a ccd cl outer A₀ base h₀ L m restX1 s QX1 t2 dx gU tb k1 k2 ta} : s_7 E w x p loose mean mg mb dp un gd cn cs a ccd cl outer A₀ base h₀ L m restX1 s QX1 t2 dx gU tb k1 k2 ta:=@hkT _ u8 (by k_extra "T") _ (by exact rfl)
end NC3
theorem dNC3 : True:=trivial
section ND1
theorem lnND1_1 : True:=by
 k_with "L8" => ((k_here;(with_reducible show wpAny _ _ (call (Value.ref 113) [Value.ref _,Value.int _ _]) _ _ _);k_dflt (refine' in_number ?zB ?zF ?zX ?zT ?zhk ?zN ?zhx ?zU _ ?zhks ?zh0 ?zh1 ?zhb ?zhne ?zhd ?zhu ?zhret ?zhE;k_extra "Q";(case zhx=>k_mem);(case zU=>k_updF);(case zhks=>assumption);(case zh0=>omega);(case zh1=>omega);(case zhb=>omega);(case zhne=>first | assumption | k_ne);k_extra "V";(intro _ _ _ _ _ _ _;(try k_sweep);(try dsimp only));rotate_left;(intro _ _ _ _ _;(try dsimp only));rotate_right)))
 k_with "call ref" => ((fail_if_success have:=dND1);first | k_extra "L8" | k_extra "L7" | k_extra "L2" | fail)
 exact True.intro
theorem Bytes.get {ks : List Int} (h : Bytes ks) (i : Nat) : 0 ≤ ks.getD i 0∧ks.getD i 0 < 256:=by
 by_cases hi : i < ks.length
 ·rw [show ks.getD i 0 = ks[i] from by simp [List.getD_eq_getElem?_getD,List.getElem?_eq_getElem hi]]
  exact h _ (List.getElem_mem _)
 ·rw [show ks.getD i 0 = 0 from by simp [List.getD_eq_getElem?_getD,List.getElem?_eq_none (Nat.le_of_not_lt hi)]]
  omega
theorem bytes_of {b : Array UInt8} {ks : List Int} (h : KBw.bInts b = ks) : Bytes ks:=by
 intro k hk
 rw [← h] at hk
 refine ex1 (List.mem_map.mp hk) fun z q9=>an2 q9 fun _ e92=>?_
 clear q9
 subst e92
 have:=z.toNat_lt
 omega
theorem u16v_bd {b : Array UInt8} {ks : List Int} (h : KBw.bInts b = ks) (at_ : Int) : 0 ≤ u16v ks at_∧u16v ks at_ < 65536:=by
 have h1:=(bytes_of h).get at_.toNat
 have h2:=(bytes_of h).get (at_.toNat + 1)
 unfold u16v
 omega
theorem s16_bd {n : Int} (h0 : 0 ≤ n) (h1 : n < 65536) : -32768 ≤ s16 n∧s16 n ≤ 32767:=by unfold s16;split <;> omega
theorem updF_same {dx : Addr} {o : Obj} {news : List (Addr × Obj)} {gU : Obj→List (Addr × Obj)} (U : UpdF dx o news gU) : gU o = news:=by
 refine ex2 (U.split) fun pre post q9=>an4 q9 fun e92 hg _ _=>?_
 clear q9
 subst e92
 rw [hg]
open kc in
theorem c_8 : s_8 E w x p loose mean mg mb dp un gd cn cs a ccd cl outer A₀ base h₀ L m restX1 s QX1 dx gU tb k1 k2 ta:=by
 intro B F X T hk N at_ b hx U ks hks h0 h1 hb hne hd hu hret hE
 have N₀ : News h₀ L s.heap [(x,instObj 170 dx),(dx,inDict w b tb k1 k2 at_ ta)]:=news_sub N fun p hp=>by
  rcases List.mem_cons.mp hp with rfl | hp
  ·exact hx
  ·rw [List.mem_singleton.mp hp];exact updF_mem U
 have hxs:=(N _ hx).1
 have hsz : b.size = ks.length:=by rw [← hks,KBw.ints_length]
 have hend : ∀ h' o',Kp [x,dx] s.heap h'→h'.get? x = some (instObj 170 dx)→h'.get? dx = some o'→News h₀ L h' (gU o'):=fun h' o' k e1 e2=>news_updF N U k (by rw [e1,hxs]) e2
 clear N
 refine wpAny_call ?_
 k_dflt (refine' code_defH [("self",.ref x)] ?k1 ?k2 ?k3 ?k4 ?k5 ?kA ?kF ?kK ?k6 ?k7 ?k8 ?k9 ?kB ?_ ?c2 ?c3 ?c4 ?c5;walk_at "nu_enter";intro g' L' h' FG' F' N' B' X' T' hg')
 (try dsimp only)
 k_fold
 k_steps
 ·exact hret (by assumption) _ _ _ _ _ rfl (u16v_bd hks at_).1 (u16v_bd hks at_).2 (by assumption) (hend _ _ (Kp.of_keep hg' (Fr.keep (by assumption))) ((by assumption : News _ _ _ [(x,_),(dx,_)]) _ (.head _)).1 ((by assumption : News _ _ _ [(x,_),(dx,_)]) _ (.tail _ (.head _))).1)
 ·exact hE (by assumption) _ _ _ (Rz.of_kp (by assumption) hg' fun _ _ _ _=>List.not_mem_nil)
theorem u9 : upto 9:=hk @c_8 u8 (by with_unfolding_all exact rfl)
open kc in
theorem in_u16 {E w x p loose mean mg mb dp un gd cn cs a ccd cl outer A₀ base h₀ L m restX1 s QX1 dx gU tb k1 k2 ta} : s_8 E w x p loose mean mg mb dp un gd cn cs a ccd cl outer A₀ base h₀ L m restX1 s QX1 dx gU tb k1 k2 ta:=@hkT _ u9 (by k_extra "T") _ (by exact rfl)
open kc in
theorem c_9 : s_9 E w p loose mean mg mb dp un gd cn cs a ccd cl outer A₀ base h₀ L m restX1 s QX1 t1 t2:=by
 intro B F X T hk N n h0 h1 hd hu hret
 refine an2 (news_split0 N) fun N₀ hrest=>?_
 clear N
 refine wpAny_call ?_
 k_dflt (refine' code_defH [("number",.int n t1),("bits",.int 16 t2)] ?k1 ?k2 ?k3 ?k4 ?k5 ?kA ?kF ?kK ?k6 ?k7 ?k8 ?k9 ?kB ?_ ?c2 ?c3 ?c4 ?c5;walk_at "nu_enter";intro g' L' h' FG' F' N' B' X' T' hg')
 (try dsimp only)
 k_fold
 k_steps
 ·have z : n.fdiv 32768 = 1:=by assumption
  rw [Int.fdiv_eq_ediv_of_nonneg _ (by decide)] at z
  have e : n - 65536 = s16 n:=by unfold s16;rw [if_pos (by omega)]
  have bd:=s16_bd h0 h1
  exact hret _ _ _ _ e (by rw [show n - 1 * 2 ^ Int.toNat 16 = n - 65536 from rfl,e];exact bd.1) (by rw [show n - 1 * 2 ^ Int.toNat 16 = n - 65536 from rfl,e];exact bd.2) (by assumption) (hrest _ (Kp.of_keep hg' (Fr.keep (by assumption))))
 ·have z : n.fdiv 32768 ≠ 1:=by assumption
  rw [Int.fdiv_eq_ediv_of_nonneg _ (by decide)] at z
  have e : n = s16 n:=by unfold s16;rw [if_neg (by omega)]
  have bd:=s16_bd h0 h1
  exact hret _ _ _ _ e (by rw [e];exact bd.1) (by rw [e];exact bd.2) (by assumption) (hrest _ (Kp.of_keep hg' (Fr.keep (by assumption))))
theorem u10 : upto 10:=hk @c_9 u9 (by with_unfolding_all exact rfl)
open kc in
theorem signed_spec {E w p loose mean mg mb dp un gd cn cs a ccd cl outer A₀ base h₀ L m restX1 s QX1 t1 t2} : s_9 E w p loose mean mg mb dp un gd cn cs a ccd cl outer A₀ base h₀ L m restX1 s QX1 t1 t2:=@hkT _ u10 (by k_extra "T") _ (by exact rfl)
open kc in
theorem c_10 : s_10 E w x p loose mean mg mb dp un gd cn cs a ccd cl outer A₀ base h₀ L m restX1 s QX1 t2 dx gU tb k1 k2 ta:=by
 intro B F X T hk N at_ b hx U ks hks h0 h1 hb hne count c0 c1 hd hu hret hE
 have N₉:=N
 have N₀ : News h₀ L s.heap [(x,instObj 170 dx),(dx,inDict w b tb k1 k2 at_ ta)]:=news_sub N fun p hp=>by
  rcases List.mem_cons.mp hp with rfl | hp
  ·exact hx
  ·rw [List.mem_singleton.mp hp];exact updF_mem U
 have hxs:=(N _ hx).1
 have hsz : b.size = ks.length:=by rw [← hks,KBw.ints_length]
 have hend : ∀ h' o',Kp [x,dx] s.heap h'→h'.get? x = some (instObj 170 dx)→h'.get? dx = some o'→News h₀ L h' (gU o'):=fun h' o' k e1 e2=>news_updF N U k (by rw [e1,hxs]) e2
 clear N
 refine wpAny_call ?_
 k_dflt (refine' code_defH [("self",.ref x),("count",.int count t2)] ?k1 ?k2 ?k3 ?k4 ?k5 ?kA ?kF ?kK ?k6 ?k7 ?k8 ?k9 ?kB ?_ ?c2 ?c3 ?c4 ?c5;walk_at "nu_enter";intro g' L' h' FG' F' N' B' X' T' hg')
 (try dsimp only)
 k_fold
 k_steps
 ·have e:=updF_same U
  exact hret (by assumption) _ _ (by assumption) (e ▸ (hend _ _ (Kp.of_keep hg' (Fr.keep (by assumption))) ((by assumption : News _ _ _ [(x,_),(dx,_)]) _ (.head _)).1 ((by assumption : News _ _ _ [(x,_),(dx,_)]) _ (.tail _ (.head _))).1))
 ·exact hE (by assumption) _ _ _ (Rz.of_kp (by assumption) hg' fun _ _ _ _=>List.not_mem_nil)
theorem u11 : upto 11:=hk @c_10 u10 (by with_unfolding_all exact rfl)
open kc in
theorem in_need {E w x p loose mean mg mb dp un gd cn cs a ccd cl outer A₀ base h₀ L m restX1 s QX1 t2 dx gU tb k1 k2 ta} : s_10 E w x p loose mean mg mb dp un gd cn cs a ccd cl outer A₀ base h₀ L m restX1 s QX1 t2 dx gU tb k1 k2 ta:=@hkT _ u11 (by k_extra "T") _ (by exact rfl)
end ND1
theorem dND1 : True:=trivial
section NL
open PySem.Spec
section
variable {prog : Program} {w : World} {A : Around} {E : Value→Shared→Prop} {s : Shared} {env : Env} {h₀ : Heap} {x : Str} {body : List Stmt} {Q : Flow→Shared→Prop}
end
open kc in
theorem c_11 : s_11 A E prog w h₀ s xX1 env body QX2 I fp P m₀ news storedX1 J:=by
 intro n St W hIo hLf hI hnw hst F N hj turn done
 refine ⟨I,fp,[I],n,P,St,m₀,news,fun i m₁ news₁=>(∀ y,y ≠ xX1→storedX1.contains y = false→m₁ y = m₀ y)∧J i news₁,rfl,W,hLf,fun b hb=>?_,fun p hp hm=>hnw p hp (List.mem_singleton.mp hm),hst,F,N,⟨fun _ _ _=>rfl,hj⟩,?_,?_⟩
 ·rw [List.mem_singleton.mp hb];exact hI
 ·rintro i v m₁ news₁ s₁ own ⟨hh,tk,rfl⟩ hin hP ⟨hm,hJ⟩ hoff hown _ hall hst₁ F₁ N₁
  refine ex1 (hIo _ _ hst₁) fun oI heI=>?_
  have hmI : (I,oI) ∈ own:=hall I (W.sub I (List.mem_singleton.mpr rfl)) hI oI heI
  have e : (fun y=>if y = xX1 then some v else m₁ y) = fun y=>if y = xX1 then some v else if storedX1.contains y then m₁ y else m₀ y:=by
   funext y
   by_cases h1 : y = xX1
   ·simp only [if_pos h1]
   ·simp only [if_neg h1]
    cases h2 : storedX1.contains y with
    | true=>rfl
    | false=>exact hm y h1 h2
  rw [e] at F₁
  have N₂ : News h₀ env.locals hh (news₁ ++ own):=fun p hp=>N₁ p ((List.mem_append.mp hp).elim (fun h=>List.mem_append.mpr (.inr h)) fun h=>List.mem_append.mpr (.inl h))
  refine wpAny_mono (turn i v m₁ news₁ own hh tk hin hP hJ hown ⟨oI,hmI⟩ (fun p hp z=>hoff p hp (List.mem_singleton.mpr z)) F₁ N₂) (fun f s₂ p=>?_) fun _ _ e=>e
  have fin : TurnT h₀ env.locals I xX1 storedX1 m₀ (J (i + 1)) own { s with heap:=hh,toks:=tk} s₂ →
    LoopStepU h₀ env.locals [I] own (fun m₁ news₁=>(∀ y,y ≠ xX1→storedX1.contains y = false→m₁ y = m₀ y)∧J (i + 1) news₁) { s with heap:=hh,toks:=tk} .next s₂:=by
   intro hJ9
   refine ex5 hJ9 fun h' tk' m' news' all q9=>an8 q9 fun e90 F' N' hn ho hI' hm' hJ'=>?_
   clear q9 hJ9
   subst e90
   exact ⟨rfl,h',tk',m',news',rfl,F',fun p hp=>N' p ((List.mem_append.mp hp).elim (ho p) (hn p)),fun p hp z=>hI' p hp (List.mem_singleton.mp z),hm',hJ'⟩
  cases f with
  | ret v=>exact .ret p
  | brk=>exact .brk p
  | next=>exact .next (fin p)
  | cont=>exact .cont (fin p)
 ·rintro h' tk m' news' F' N' _ ⟨hm,hJ⟩
  refine done m' news' h' tk hJ ?_ N'
  have e : (fun y=>if y = xX1 then m' y else if storedX1.contains y then m' y else m₀ y) = m':=by
   funext y
   by_cases h1 : y = xX1
   ·simp only [if_pos h1]
   ·simp only [if_neg h1]
    cases h2 : storedX1.contains y with
    | true=>rfl
    | false=>exact (hm y h1 h2).symm
  rw [e];exact F'
theorem u12 : upto 12:=hk @c_11 u11 (by with_unfolding_all exact rfl)
open kc in
theorem loop_any {A E prog w h₀ s xX1 env body QX2 I fp P m₀ news storedX1 J} : s_11 A E prog w h₀ s xX1 env body QX2 I fp P m₀ news storedX1 J:=@hkT _ u12 (by k_extra "T") _ (by exact rfl)
section
variable {prog : Program} {w : World} {A : Around} {E : Value→Shared→Prop} {s : Shared} {env : Env} {h₀ : Heap} {x : Str} {body : List Stmt} {Q : Flow→Shared→Prop}
theorem iter_seq {ax : Addr} {its : List Value} {m₀ : Str→Option Value} {news : List (Addr × Obj)} (stored : List Str) (J : Nat→List (Addr × Obj)→Prop)
  (hh : A.handled = none) (hl : s.heap.IsList ax its.toArray ∨ s.heap.IsTuple ax its.toArray) (hax : ax ≠ env.locals) (F : Fr h₀ env.locals s.heap m₀) (N : News h₀ env.locals s.heap news) (hj : J 0 news)
  (turn : ∀ i v (u : Str→Option Value) I news₁ own h tk,its[i]? = some v→J i news₁→(∀ p ∈ own,p.1 = I ∨ p.1 = ax)→(∃ o,(I,o) ∈ own)→(∀ p ∈ news₁,p.1 ≠ I)→ax ≠ I →
   Fr h₀ env.locals h (fun y=>if y = x then some v else if stored.contains y then u y else m₀ y)→News h₀ env.locals h (news₁ ++ own) →
   wpAny (model prog w) A (execs body env) (TurnP h₀ env.locals I x stored m₀ (J (i + 1)) own { s with heap:=h,toks:=tk} Q) E { s with heap:=h,toks:=tk})
  (done : ∀ (u : Str→Option Value) news₁ h tk,J its.length news₁→Fr h₀ env.locals h (fun y=>if y = x then u y else if stored.contains y then u y else m₀ y)→News h₀ env.locals h news₁→Q .next { s with heap:=h,toks:=tk}) :
  wpAny (model prog w) A (pyIter (.ref ax)) (fun it s₂=>LoopAtV prog w A h₀ env x body Q E it s₂) E s:=by
 have hlt : ax < s.heap.objs.size:=by rcases hl with ⟨o,e,_⟩ | ⟨o,e,_⟩ <;> exact Heap.lt_size e
 have hne : ax ≠ s.heap.objs.size:=Nat.ne_of_lt hlt
 have hL : env.locals ∉ [s.heap.objs.size,ax]:=fun hm=>by
  rcases List.mem_cons.mp hm with e | hm
  ·exact absurd F.ns.lt (e ▸ Nat.lt_irrefl _)
  ·exact hax (List.mem_singleton.mp hm).symm
 have own2 : ∀ {own : List (Addr × Obj)},(∀ p ∈ own,p.1 ∈ [s.heap.objs.size,ax])→∀ p ∈ own,p.1 = s.heap.objs.size ∨ p.1 = ax:=fun h p hp=>by
  rcases List.mem_cons.mp (h p hp) with e | hm
  ·exact .inl e
  ·exact .inr (List.mem_singleton.mp hm)
 rcases hl with hl | hl
 ·refine wpAny_pyIter_list hl ?_
  have W:=Walks.list (prog:=prog) (w:=w) hh s.heap.objs.size ax hne its.toArray
  have sz : its.toArray.size = its.length:=by simp
  rw [sz] at W
  refine loop_any (s:={ s with heap:=_}) (storedX1:=stored) (J:=J) W (fun i h st=>by obtain ⟨o,e,_⟩:=st.1;exact ⟨o,e⟩) hL (next_is_new F) (fun p hp=>Nat.ne_of_lt (Heap.lt_size (N p hp).1)) ⟨⟨_,Heap.get?_push_size _ rfl,rfl,rfl⟩,hl.at fun o e=>Heap.get?_push_of_some _ e⟩ (F.push _)
   (fun p hp=>⟨Heap.get?_push_of_some _ (N p hp).1,(N p hp).2⟩) hj ?_ done
  exact fun i v u news₁ own h tk hi hP hJ ho hio hI F' N'=>turn i v u _ news₁ own h tk (by simpa using hP) hJ (own2 ho) hio hI hne F' N'
 ·refine wpAny_pyIter_tuple hl ?_
  have W:=Walks.tuple (prog:=prog) (w:=w) hh s.heap.objs.size ax hne its.toArray
  have sz : its.toArray.size = its.length:=by simp
  rw [sz] at W
  refine loop_any (s:={ s with heap:=_}) (storedX1:=stored) (J:=J) W (fun i h st=>by obtain ⟨o,e,_⟩:=st.1;exact ⟨o,e⟩) hL (next_is_new F) (fun p hp=>Nat.ne_of_lt (Heap.lt_size (N p hp).1)) ⟨⟨_,Heap.get?_push_size _ rfl,rfl,rfl⟩,hl.at fun o e=>Heap.get?_push_of_some _ e⟩ (F.push _)
   (fun p hp=>⟨Heap.get?_push_of_some _ (N p hp).1,(N p hp).2⟩) hj ?_ done
  exact fun i v u news₁ own h tk hi hP hJ ho hio hI F' N'=>turn i v u _ news₁ own h tk (by simpa using hP) hJ (own2 ho) hio hI hne F' N'
theorem iter_range {r : Addr} {a₀ b₀ : Int} {t₀ u₀ v₀ : Tok} {n : Nat} {m₀ : Str→Option Value} {news : List (Addr × Obj)} (stored : List Str) (J : Nat→List (Addr × Obj)→Prop)
  (hh : A.handled = none) (hr : IsRange s.heap r a₀ b₀ 1 t₀ u₀ v₀) (hsmall : Builtin.Range.small a₀ b₀ 1 = true) (hn : Builtin.Range.rangeSize a₀ b₀ 1 = (n : Int)) (F : Fr h₀ env.locals s.heap m₀) (N : News h₀ env.locals s.heap news) (hj : J 0 news)
  (turn : ∀ (i : Nat) (t : Tok) (u : Str→Option Value) I news₁ own h tk,i < n→J i news₁→(∀ p ∈ own,p.1 = I)→(∃ o,(I,o) ∈ own)→(∀ p ∈ news₁,p.1 ≠ I) →
   Fr h₀ env.locals h (fun y=>if y = x then some (.int (a₀ + (i : Int)) t) else if stored.contains y then u y else m₀ y)→News h₀ env.locals h (news₁ ++ own) →
   wpAny (model prog w) A (execs body env) (TurnP h₀ env.locals I x stored m₀ (J (i + 1)) own { s with heap:=h,toks:=tk} Q) E { s with heap:=h,toks:=tk})
  (done : ∀ (u : Str→Option Value) news₁ h tk,J n news₁→Fr h₀ env.locals h (fun y=>if y = x then u y else if stored.contains y then u y else m₀ y)→News h₀ env.locals h news₁→Q .next { s with heap:=h,toks:=tk}) :
  wpAny (model prog w) A (pyIter (.ref r)) (fun it s₂=>LoopAtV prog w A h₀ env x body Q E it s₂) E s:=by
 refine wpAny_pyIter_range hr hsmall ?_
 have W:=Walks.range (prog:=prog) (w:=w) hh s.heap.objs.size a₀ 1 n
 refine loop_any (s:={ s with heap:=_}) (storedX1:=stored) (J:=J) W (fun i h st=>⟨_,st⟩) (fun hm=>absurd F.ns.lt ((List.mem_singleton.mp hm) ▸ Nat.lt_irrefl _)) (next_is_new F) (fun p hp=>Nat.ne_of_lt (Heap.lt_size (N p hp).1)) (by show IsRangeIter _ _ _ _ _;rw [hn];simpa using Heap.get?_push_size _ rfl) (F.push _)
  (fun p hp=>⟨Heap.get?_push_of_some _ (N p hp).1,(N p hp).2⟩) hj ?_ done
 rintro i v u news₁ own h tk hi ⟨t,rfl⟩ hJ ho hio hI F' N'
 rw [Int.mul_one] at F'
 exact turn i t u _ news₁ own h tk hi hJ (fun p hp=>List.mem_singleton.mp (ho p hp)) hio hI F' N'
end
theorem Stop.mk {p : Prop} (h : Stop p) : p:=h
theorem Stop.out {p : Prop} (h : p) : Stop p:=h
end NL
section ND2
theorem lnND2_1 : True:=by
 k_with "L9" => ((k_here;(with_reducible show wpAny _ _ (call (Value.ref 113) [Value.ref _,Value.int _ _]) _ _ _);k_dflt (refine' in_number ?zB ?zF ?zX ?zT ?zhk ?zN ?zhx ?zU _ ?zhks ?zh0 ?zh1 ?zhb ?zhne ?zhd ?zhu ?_ ?_;k_extra "Q";(case zhx=>k_mem);(case zU=>k_updF);(case zhks=>assumption);(case zh0=>omega);(case zh1=>omega);(case zhb=>omega);(case zhne=>first | assumption | k_ne);k_extra "V";(intro _ _ _ _ _ _ _;(try k_sweep);(try dsimp only));rotate_left;(intro _ _ _ _ _;(first | (exfalso;omega) | (try dsimp only)));rotate_right)))
 k_with "L10" => ((k_here;(with_reducible show wpAny _ _ (call (Value.ref 127) [Value.ref _]) _ _ _);k_dflt (refine' in_u16 ?zB ?zF ?zX ?zT ?zhk ?zN ?zhx ?zU _ ?zhks ?zh0 ?zh1 ?zhb ?zhne ?zhd ?zhu ?_ ?_;k_extra "Q";(case zhx=>k_mem);(case zU=>k_updF);(case zhks=>assumption);(case zh0=>omega);(case zh1=>omega);(case zhb=>omega);(case zhne=>first | assumption | k_ne);k_extra "V";(intro _ _ _ _ _ _ _ _ _ _ _;(try k_sweep);(try dsimp only));rotate_left;(intro _ _ _ _ _;(first | (exfalso;omega) | (try dsimp only)));rotate_right)))
 k_with "L11" => ((k_here;(with_reducible show wpAny _ _ (call (Value.ref 84) [Value.int _ _,Value.int _ _]) _ _ _);k_dflt (refine' signed_spec ?zB ?zF ?zX ?zT ?zhk ?zN _ ?zh0 ?zh1 ?zhd ?zhu ?_;k_extra "Q";(case zh0=>omega);(case zh1=>omega);k_extra "V");intro _ _ _ _ _ _ _ _ _;(try k_sweep);(try dsimp only)))
 k_with "L12" => ((k_here;(with_reducible show wpAny _ _ (call (Value.ref 106) [Value.ref _,Value.int _ _]) _ _ _);k_dflt (refine' in_need ?zB ?zF ?zX ?zT ?zhk ?zN ?zhx ?zU _ ?zhks ?zh0 ?zh1 ?zhb ?zhne _ ?zc0 ?zc1 ?zhd ?zhu ?_ ?_;k_extra "Q";(case zhx=>k_mem);(case zU=>k_updF);(case zhks=>assumption);(case zh0=>omega);(case zh1=>omega);(case zhb=>omega);(case zhne=>first | assumption | k_ne);(case zc0=>omega);(case zc1=>omega);k_extra "V";(intro _ _ _ _ _;(try k_sweep);(try dsimp only));rotate_left;(intro _ _ _ _ _;(first | (exfalso;omega) | (try dsimp only)));rotate_right)))
 k_with "call ref" => ((fail_if_success have:=dND2);first | k_extra "L12" | k_extra "L11" | k_extra "L10" | k_extra "L9" | fail)
 exact True.intro
open kc in
theorem c_12 : s_12 E w x p loose mean mg mb dp un gd cn cs a ccd cl outer A₀ base h₀ L m restX1 s QX1 dx gU tb k1 k2 ta:=by
 intro B F X T hk N at_ b hx U ks hks h0 h1 hb hne hd hu hret hE
 have bd:=u16v_bd hks at_
 unfold u16v at bd
 have N₀ : News h₀ L s.heap [(x,instObj 170 dx),(dx,inDict w b tb k1 k2 at_ ta)]:=news_sub N fun p hp=>by
  rcases List.mem_cons.mp hp with rfl | hp
  ·exact hx
  ·rw [List.mem_singleton.mp hp];exact updF_mem U
 have hxs:=(N _ hx).1
 have hsz : b.size = ks.length:=by rw [← hks,KBw.ints_length]
 have hend : ∀ h' o',Kp [x,dx] s.heap h'→h'.get? x = some (instObj 170 dx)→h'.get? dx = some o'→News h₀ L h' (gU o'):=fun h' o' k e1 e2=>news_updF N U k (by rw [e1,hxs]) e2
 clear N
 refine wpAny_call ?_
 k_dflt (refine' code_defH [("self",.ref x)] ?k1 ?k2 ?k3 ?k4 ?k5 ?kA ?kF ?kK ?k6 ?k7 ?k8 ?k9 ?kB ?_ ?c2 ?c3 ?c4 ?c5;walk_at "nu_enter";intro g' L' h' FG' F' N' B' X' T' hg')
 (try dsimp only)
 k_fold
 k_steps
 ·exact hret (by assumption) _ _ _ _ _ (by assumption) (by assumption) (by assumption) (by assumption) (hend _ _ (Kp.of_keep hg' (Fr.keep (by assumption))) (News.get (by assumption) (by k_mem)) (News.get (by assumption) (by k_mem)))
 ·exact hE (by assumption) _ _ _ (Rz.of_kp (by assumption) hg' fun _ _ _ _=>List.not_mem_nil)
theorem u13 : upto 13:=hk @c_12 u12 (by with_unfolding_all exact rfl)
open kc in
theorem in_i16 {E w x p loose mean mg mb dp un gd cn cs a ccd cl outer A₀ base h₀ L m restX1 s QX1 dx gU tb k1 k2 ta} : s_12 E w x p loose mean mg mb dp un gd cn cs a ccd cl outer A₀ base h₀ L m restX1 s QX1 dx gU tb k1 k2 ta:=@hkT _ u13 (by k_extra "T") _ (by exact rfl)
theorem lnND2_2 : True:=by
 k_with "L13" => ((k_here;(dsimp only [List.cons_append,List.nil_append]);walk1))
 k_with "L14" => ((k_here;k_dflt (refine LCg.ListComp_U (F₀:=by k_asm) (by with_unfolding_all rfl) (by decide) (by rfl) (by decide) (by rfl) ?_);k_dflt lcg_toSrc))
 k_with "L15" => ((k_here;k_dflt (first | (refine LCg.CompSrc.ledger (by rfl) (by k_asm) (by k_asm) (by k_mem) (by first | size_fits | exact Nat.le_of_ble_eq_true rfl) ?_;intro _;lcg_lit) | (refine LCg.CompSrc.base (by rfl) (by k_asm) (by k_asm) (by assumption) (by first | size_fits | exact Nat.le_of_ble_eq_true rfl) ?_;intro _;lcg_lit) | (refine LCg.CompSrc.range (by rfl) (by k_asm) (by k_asm) (by assumption) (by first | decide | rfl) (by first | rfl | decide) (by first | size_fits | exact Nat.le_of_ble_eq_true rfl) ?_;intro _;lcg_lit))))
 k_with "L16" => (((with_reducible rename (_ ∨ _ ∨ _)=>cc9);refine Stop.mk ?_))
 k_with "call ref" => ((fail_if_success have:=dND2);first | k_extra "L13" | fail)
 k_with "eval ListComp" => ((fail_if_success have:=dND2);first | k_extra "L16" | k_extra "L14" | fail)
 k_with "CompSrc" => ((fail_if_success have:=dND2);first | k_extra "L15" | fail)
 exact True.intro
open kc in
theorem c_13 : s_13 E w x p loose mean mg mb dp un gd cn cs a ccd cl outer A₀ base h₀ L m restX1 s QX1 t2 dx gU tb k1 k2 ta:=by
 intro B F X T hk N at_ b hx U ks hks h0 h1 hb hne count c0 c1 hd hu hret hE
 have N₀ : News h₀ L s.heap [(x,instObj 170 dx),(dx,inDict w b tb k1 k2 at_ ta)]:=news_sub N fun p hp=>by
  rcases List.mem_cons.mp hp with rfl | hp
  ·exact hx
  ·rw [List.mem_singleton.mp hp];exact updF_mem U
 have hxs:=(N _ hx).1
 have hsz : b.size = ks.length:=by rw [← hks,KBw.ints_length]
 have hend : ∀ h' o',Kp [x,dx] s.heap h'→h'.get? x = some (instObj 170 dx)→h'.get? dx = some o'→News h₀ L h' (gU o'):=fun h' o' k e1 e2=>news_updF N U k (by rw [e1,hxs]) e2
 clear N
 have cc : count = 0 ∨ count = 1 ∨ count = 2:=by omega
 refine wpAny_call ?_
 k_dflt (refine' code_defHC [("self",.ref x),("count",.int count t2)] ?k1 ?k2 ?k3 ?k4 ?k5 ?kA ?kF ?kK ?k6 ?k7 ?k8 ?k9 ?kB ?kD ?_ ?c2 ?c3 ?c4;walk_at "nu_enterC";intro g' L' h' tk' cells' FG' F' N' Y' B' X' T' l1 hg';(try k_lt l1);k_cells Y';(try simp only [List.cons_append,List.nil_append] at N'))
 (try dsimp only)
 (try k_fold)
 k_steps
 all_goals first
  | exact hE (by omega) _ _ _ (Rz.of_kp (by assumption) hg' fun _ _ _ _=>List.not_mem_nil)
  | skip
 refine Stop.out ?_
 rcases cc9 with rfl | rfl | rfl
 all_goals walk_at "S2"
 all_goals
  refine hret (by omega) _ _ _ _ _ ?_ (by assumption) (hend _ _ (Kp.of_keep hg' (Fr.keep (by assumption))) (News.get (by assumption) (by k_mem)) (News.get (by assumption) (by k_mem)))
  omega
theorem u14 : upto 14:=hk @c_13 u13 (by with_unfolding_all exact rfl)
open kc in
theorem in_rows {E w x p loose mean mg mb dp un gd cn cs a ccd cl outer A₀ base h₀ L m restX1 s QX1 t2 dx gU tb k1 k2 ta} : s_13 E w x p loose mean mg mb dp un gd cn cs a ccd cl outer A₀ base h₀ L m restX1 s QX1 t2 dx gU tb k1 k2 ta:=@hkT _ u14 (by k_extra "T") _ (by exact rfl)
end ND2
theorem dND2 : True:=trivial
section ND3
theorem lnND3_1 : True:=by
 k_with "call ref" => ((fail_if_success have:=dND3);first | k_extra "L13" | fail)
 exact True.intro
open kc in
theorem c_14 : s_14 E w p loose mean mg mb dp un gd cn cs a ccd cl outer A₀ base h₀ L m restX1 s QX1 tb ta:=by
 intro B F X T hk N b at_ hd hu hret
 refine call_cls F X N (by k_is) (by k_is) (by k_is) ?_
 intro x dx h₁ F N₁ l1 l2
 have hsp:=news_split (mu:=[(x,instObj 170 dx),(dx,dictOf [] 0)]) (rest:=restX1) N₁ (fun q hq hm=>by
  have:=l1 q hq
  rcases List.mem_cons.mp hm with z | z
  ·have z' : q.1 = x:=z
   rw [z'] at this;exact Nat.lt_irrefl _ (Nat.lt_trans l2 this)
  ·have z' : q.1 = dx:=List.mem_singleton.mp z
   rw [z'] at this;exact Nat.lt_irrefl _ this)
 refine an2 hsp fun N₀ hrest=>?_
 clear hsp
 have hne : x ≠ dx:=fun z=>Nat.lt_irrefl dx (by rw [z] at l2;exact l2)
 have l2' : @LT.lt Nat _ dx x:=l2
 clear N₁ N
 k_dflt (refine' code_defH [("self",.ref x),("data",.bytes b tb),("at",.int at_ ta)] ?k1 ?k2 ?k3 ?k4 ?k5 ?kA ?kF ?kK ?k6 ?k7 ?k8 ?k9 ?kB ?_ ?c2 ?c3 ?c4 ?c5;walk_at "nu_enter";intro g' L' h' FG' F' N' B' X' T' hg')
 (try dsimp only)
 k_fold
 k_steps
 refine hret x dx _ _ _ _ (by assumption) (news_app (l:=[(x,_),(dx,_)]) (by assumption) (hrest _ (Kp.of_keep hg' (Fr.keep (by assumption))))) l1 l2
theorem u15 : upto 15:=hk @c_14 u14 (by with_unfolding_all exact rfl)
open kc in
theorem new_in {E w p loose mean mg mb dp un gd cn cs a ccd cl outer A₀ base h₀ L m restX1 s QX1 tb ta} : s_14 E w p loose mean mg mb dp un gd cn cs a ccd cl outer A₀ base h₀ L m restX1 s QX1 tb ta:=@hkT _ u15 (by k_extra "T") _ (by exact rfl)
open kc in
theorem c_15 : s_15 E w p loose mean mg mb dp un gd cn cs a ccd cl outer A₀ base h₀ L m restX1 s QX1 tx ty:=by
 intro B F X T hk N vx vy hd hu hret
 refine call_cls F X N (by k_is) (by k_is) (by k_is) ?_
 intro x dx h₁ F N₁ l1 l2
 have hsp:=news_split (mu:=[(x,instObj 394 dx),(dx,dictOf [] 0)]) (rest:=restX1) N₁ (fun q hq hm=>by
  have:=l1 q hq
  rcases List.mem_cons.mp hm with z | z
  ·have z' : q.1 = x:=z
   rw [z'] at this;exact Nat.lt_irrefl _ (Nat.lt_trans l2 this)
  ·have z' : q.1 = dx:=List.mem_singleton.mp z
   rw [z'] at this;exact Nat.lt_irrefl _ this)
 refine an2 hsp fun N₀ hrest=>?_
 clear hsp
 have hne : x ≠ dx:=fun z=>Nat.lt_irrefl dx (by rw [z] at l2;exact l2)
 have l2' : @LT.lt Nat _ dx x:=l2
 clear N₁ N
 k_dflt (refine' code_defH [("self",.ref x),("x",.int vx tx),("y",.int vy ty)] ?k1 ?k2 ?k3 ?k4 ?k5 ?kA ?kF ?kK ?k6 ?k7 ?k8 ?k9 ?kB ?_ ?c2 ?c3 ?c4 ?c5;walk_at "nu_enter";intro g' L' h' FG' F' N' B' X' T' hg')
 (try dsimp only)
 k_fold
 k_steps
 refine hret x dx _ _ _ _ (by assumption) (news_app (l:=[(x,_),(dx,_)]) (by assumption) (hrest _ (Kp.of_keep hg' (Fr.keep (by assumption))))) l1 l2
theorem u16 : upto 16:=hk @c_15 u15 (by with_unfolding_all exact rfl)
open kc in
theorem new_anchor {E w p loose mean mg mb dp un gd cn cs a ccd cl outer A₀ base h₀ L m restX1 s QX1 tx ty} : s_15 E w p loose mean mg mb dp un gd cn cs a ccd cl outer A₀ base h₀ L m restX1 s QX1 tx ty:=@hkT _ u16 (by k_extra "T") _ (by exact rfl)
theorem new_coverage {w : World} {p : Program} {loose : List Str} {mean : ExcName→Option Value} {mg mb : Str→Option Value}
  {dp un : Nat} {gd : Option (List Code)} {cn : Str} {cs : Scope} {a : Addr} {ccd : Value} {cl : List (Str × Addr)} {outer : List Env} {A₀ : Around} {base h₀ : Heap} {L : Addr} {m : Str→Option Value} {rest : List (Addr × Obj)} {s : Shared}
  {Q E : Value→Shared→Prop}
  (B : Below A₀ base outer h₀) (F : Fr h₀ L s.heap m) (X : (hd.heap_1 w.params).In h₀) (T : Top p loose mean mg mb h₀) (hk : cs.kind = .function)
  (N : News h₀ L s.heap rest) (v : Value) (hd : dp + 4 < recursionLimit) (hu : un + 32 < cLine)
  (hret : ∀ x dx k1 h' tk',Fr h₀ L h' m→News h₀ L h' ((x,instObj 316 dx) :: (dx,dictOf [⟨PyData.keyHash w.params "glyphs",.str "glyphs" k1,v⟩] 1) :: rest)→(∀ p ∈ rest,p.1 < dx)→dx < x→Q (.ref x) { s with heap:=h',toks:=tk'}) :
  wpAny (model pw_nu0185_01 w) (ktrTop dp un gd cn cs L a ccd cl outer) (call (.ref 316) [v]) Q E s:=by
 refine call_cls F X N (by k_is) (by k_is) (by k_is) ?_
 intro x dx h₁ F N₁ l1 l2
 have hsp:=news_split (mu:=[(x,instObj 316 dx),(dx,dictOf [] 0)]) (rest:=rest) N₁ (fun q hq hm=>by
  have:=l1 q hq
  rcases List.mem_cons.mp hm with z | z
  ·have z' : q.1 = x:=z
   rw [z'] at this;exact Nat.lt_irrefl _ (Nat.lt_trans l2 this)
  ·have z' : q.1 = dx:=List.mem_singleton.mp z
   rw [z'] at this;exact Nat.lt_irrefl _ this)
 refine an2 hsp fun N₀ hrest=>?_
 clear hsp
 have hne : x ≠ dx:=fun z=>Nat.lt_irrefl dx (by rw [z] at l2;exact l2)
 have l2' : @LT.lt Nat _ dx x:=l2
 clear N₁ N
 k_dflt (refine' code_defH [("self",.ref x),("glyphs",v)] ?k1 ?k2 ?k3 ?k4 ?k5 ?kA ?kF ?kK ?k6 ?k7 ?k8 ?k9 ?kB ?_ ?c2 ?c3 ?c4 ?c5;walk_at "nu_enter";intro g' L' h' FG' F' N' B' X' T' hg')
 (try dsimp only)
 k_fold
 k_steps
 refine hret x dx _ _ _ (by assumption) (news_app (l:=[(x,_),(dx,_)]) (by assumption) (hrest _ (Kp.of_keep hg' (Fr.keep (by assumption))))) l1 l2
theorem new_cursive {w : World} {p : Program} {loose : List Str} {mean : ExcName→Option Value} {mg mb : Str→Option Value}
  {dp un : Nat} {gd : Option (List Code)} {cn : Str} {cs : Scope} {a : Addr} {ccd : Value} {cl : List (Str × Addr)} {outer : List Env} {A₀ : Around} {base h₀ : Heap} {L : Addr} {m : Str→Option Value} {rest : List (Addr × Obj)} {s : Shared}
  {Q E : Value→Shared→Prop}
  (B : Below A₀ base outer h₀) (F : Fr h₀ L s.heap m) (X : (hd.heap_1 w.params).In h₀) (T : Top p loose mean mg mb h₀) (hk : cs.kind = .function)
  (N : News h₀ L s.heap rest) (v : Value) (hd : dp + 4 < recursionLimit) (hu : un + 32 < cLine)
  (hret : ∀ x dx k1 h' tk',Fr h₀ L h' m→News h₀ L h' ((x,instObj 474 dx) :: (dx,dictOf [⟨PyData.keyHash w.params "ends",.str "ends" k1,v⟩] 1) :: rest)→(∀ p ∈ rest,p.1 < dx)→dx < x→Q (.ref x) { s with heap:=h',toks:=tk'}) :
  wpAny (model pw_nu0185_01 w) (ktrTop dp un gd cn cs L a ccd cl outer) (call (.ref 474) [v]) Q E s:=by
 refine call_cls F X N (by k_is) (by k_is) (by k_is) ?_
 intro x dx h₁ F N₁ l1 l2
 have hsp:=news_split (mu:=[(x,instObj 474 dx),(dx,dictOf [] 0)]) (rest:=rest) N₁ (fun q hq hm=>by
  have:=l1 q hq
  rcases List.mem_cons.mp hm with z | z
  ·have z' : q.1 = x:=z
   rw [z'] at this;exact Nat.lt_irrefl _ (Nat.lt_trans l2 this)
  ·have z' : q.1 = dx:=List.mem_singleton.mp z
   rw [z'] at this;exact Nat.lt_irrefl _ this)
 refine an2 hsp fun N₀ hrest=>?_
 clear hsp
 have hne : x ≠ dx:=fun z=>Nat.lt_irrefl dx (by rw [z] at l2;exact l2)
 have l2' : @LT.lt Nat _ dx x:=l2
 clear N₁ N
 k_dflt (refine' code_defH [("self",.ref x),("ends",v)] ?k1 ?k2 ?k3 ?k4 ?k5 ?kA ?kF ?kK ?k6 ?k7 ?k8 ?k9 ?kB ?_ ?c2 ?c3 ?c4 ?c5;walk_at "nu_enter";intro g' L' h' FG' F' N' B' X' T' hg')
 (try dsimp only)
 k_fold
 k_steps
 refine hret x dx _ _ _ (by assumption) (news_app (l:=[(x,_),(dx,_)]) (by assumption) (hrest _ (Kp.of_keep hg' (Fr.keep (by assumption))))) l1 l2
end ND3
theorem dND3 : True:=trivial
section ND4
theorem lnND4_1 : True:=by
 k_with "L17" => ((k_here;(with_reducible show wpAny _ _ (call (Value.ref 134) [Value.ref _]) _ _ _);k_dflt (refine' in_i16 ?zB ?zF ?zX ?zT ?zhk ?zN ?zhx ?zU _ ?zhks ?zh0 ?zh1 ?zhb ?zhne ?zhd ?zhu ?_ ?_;k_extra "Q";(case zhx=>k_mem);(case zU=>k_updF);(case zhks=>assumption);(case zh0=>omega);(case zh1=>omega);(case zhb=>omega);(case zhne=>first | assumption | k_ne);k_extra "V";(intro _ _ _ _ _ _ _ _ _ _ _;(try k_sweep);(try dsimp only));rotate_left;(intro _ _ _ _ _;(first | (exfalso;omega) | (try dsimp only)));rotate_right)))
 k_with "L18" => ((k_here;(with_reducible show wpAny _ _ (call (Value.ref 160) [Value.ref _,Value.int _ _]) _ _ _);k_dflt (refine' in_rows ?zB ?zF ?zX ?zT ?zhk ?zN ?zhx ?zU _ ?zhks ?zh0 ?zh1 ?zhb ?zhne _ ?zc0 ?zc1 ?zhd ?zhu ?_ ?_;k_extra "Q";(case zhx=>k_mem);(case zU=>k_updF);(case zhks=>assumption);(case zh0=>omega);(case zh1=>omega);(case zhb=>omega);(case zhne=>first | assumption | k_ne);(case zc0=>omega);(case zc1=>omega);k_extra "V";(intro _ _ _ _ _ _ _ _ _;(try k_sweep);(try dsimp only));rotate_left;(intro _ _ _ _ _;(first | (exfalso;omega) | (try dsimp only)));rotate_right)))
 k_with "L19" => ((k_here;(with_reducible show wpAny _ _ (call (Value.ref 170) [Value.bytes _ _,Value.int _ _]) _ _ _);k_dflt (refine' new_in ?zB ?zF ?zX ?zT ?zhk ?zN _ _ ?zhd ?zhu ?_;k_extra "Q";k_extra "V");intro _ _ _ _ _ _ _ _ l1' l2';(try k_lt l1');(try k_lt2 l2');(try (revert l1';intro _));(try (revert l2';intro _));(try k_sweep);(try dsimp only)))
 k_with "L20" => ((k_here;(with_reducible show wpAny _ _ (call (Value.ref 394) [Value.int _ _,Value.int _ _]) _ _ _);k_dflt (refine' new_anchor ?zB ?zF ?zX ?zT ?zhk ?zN _ _ ?zhd ?zhu ?_;k_extra "Q";k_extra "V");intro _ _ _ _ _ _ _ _ l1' l2';(try k_lt l1');(try k_lt2 l2');(try (revert l1';intro _));(try (revert l2';intro _));(try k_sweep);(try dsimp only)))
 k_with "call ref" => ((fail_if_success have:=dND4);first | k_extra "L13" | k_extra "L20" | k_extra "L19" | k_extra "L18" | k_extra "L17" | k_extra "L10" | fail)
 exact True.intro
theorem rdA1 {ks : List Int} {at_ z : Int} (h : ks.length < at_ + 2) (e : z = at_) : rdAnchor ks at_ = .error z:=by rw [rdAnchor,if_pos h,e]
theorem rdA2 {ks : List Int} {at_ z : Int} (h1 : at_ + 2 ≤ ks.length) (h2 : u16v ks at_ < 1 ∨ 3 < u16v ks at_) (e : z = at_) : rdAnchor ks at_ = .error z:=by rw [rdAnchor,if_neg (by omega),if_pos h2,e]
theorem rdA3 {ks : List Int} {at_ z : Int} (h1 : at_ + 2 ≤ ks.length) (a : 1 ≤ u16v ks at_) (b : u16v ks at_ ≤ 3) (h2 : ks.length < at_ + 4) (e : z = at_ + 2) : rdAnchor ks at_ = .error z:=by rw [rdAnchor,if_neg (by omega),if_neg (by omega),if_pos h2,e]
theorem rdA4 {ks : List Int} {at_ z : Int} (h1 : at_ + 4 ≤ ks.length) (a : 1 ≤ u16v ks at_) (b : u16v ks at_ ≤ 3) (h2 : ks.length < at_ + 6) (e : z = at_ + 4) : rdAnchor ks at_ = .error z:=by rw [rdAnchor,if_neg (by omega),if_neg (by omega),if_neg (by omega),if_pos h2,e]
theorem rdA5 {ks : List Int} {at_ z : Int} (h1 : at_ + 6 ≤ ks.length) (a : 1 ≤ u16v ks at_) (b : u16v ks at_ ≤ 3) (h2 : ks.length < at_ + 6 + 2 * (u16v ks at_ - 1)) (e : z = at_ + 6) : rdAnchor ks at_ = .error z:=by rw [rdAnchor,if_neg (by omega),if_neg (by omega),if_neg (by omega),if_neg (by omega),if_pos h2,e]
theorem rdA0 {ks : List Int} {at_ : Int} (h1 : at_ + 6 ≤ ks.length) (a : 1 ≤ u16v ks at_) (b : u16v ks at_ ≤ 3) (h2 : at_ + 6 + 2 * (u16v ks at_ - 1) ≤ ks.length) : rdAnchor ks at_ = .ok (s16 (u16v ks (at_ + 2)),s16 (u16v ks (at_ + 4))):=by rw [rdAnchor,if_neg (by omega),if_neg (by omega),if_neg (by omega),if_neg (by omega),if_neg (by omega)]
theorem news_one1 {h₀ h : Heap} {L : Addr} {p : Addr × Obj} {l : List (Addr × Obj)} (N : News h₀ L h (p :: l)) : News h₀ L h [p]:=news_sub N fun q hq=>by
 rw [List.mem_singleton.mp hq];exact .head _
theorem news_two {h₀ h : Heap} {L : Addr} {p p' : Addr × Obj} {l : List (Addr × Obj)} (N : News h₀ L h (p :: p' :: l)) : News h₀ L h [p,p']:=news_sub N fun q hq=>by
 rcases List.mem_cons.mp hq with rfl | hq
 ·exact .head _
 ·rw [List.mem_singleton.mp hq];exact .tail _ (.head _)
theorem news_three {h₀ h : Heap} {L : Addr} {p p' p'' : Addr × Obj} {l : List (Addr × Obj)} (N : News h₀ L h (p :: p' :: p'' :: l)) : News h₀ L h [p,p',p'']:=news_sub N fun q hq=>by
 rcases List.mem_cons.mp hq with rfl | hq
 ·exact .head _
 ·rcases List.mem_cons.mp hq with rfl | hq
  ·exact .tail _ (.head _)
  ·rw [List.mem_singleton.mp hq];exact .tail _ (.tail _ (.head _))
theorem off1_of {r : Addr} : ∀ {l : List (Addr × Obj)},(∀ q ∈ l,q.1 ≠ r)→LCg.Off1 r l:=by
 intro l h
 induction l with
 | nil=>trivial
 | cons _ _ ih=>exact ⟨h _ (.head _),ih fun q hq=>h q (.tail _ hq)⟩
theorem off1_new {s : Shared} {h₀ g h' : Heap} {L L' r : Addr} {o : Obj} {rest l : List (Addr × Obj)} (N : News h₀ L s.heap rest) (k : Kp [] s.heap g) (N' : News g L' h' l) (hm : (r,o) ∈ l) : LCg.Off1 r rest :=
 off1_of fun q hq e=>by
  have h1:=k _ _ (N q hq).1 List.not_mem_nil
  rw [e,(N' _ hm).2.2] at h1
  cases h1
open kc in
theorem c_16 : s_16 E w p loose mean mg mb dp un gd cn cs a ccd cl outer A₀ base h₀ L m restX1 s QX1 t1 t2:=by
 intro B F X T hk N b ks hks at_ h0 h1 hb hd hu hret hE
 refine an2 (news_split0 N) fun N₀ hrest=>?_
 have Nr : News h₀ L s.heap restX1∧True:=⟨N,trivial⟩
 clear N
 refine wpAny_call ?_
 k_dflt (refine' code_defH [("data",.bytes b t1),("at",.int at_ t2)] ?k1 ?k2 ?k3 ?k4 ?k5 ?kA ?kF ?kK ?k6 ?k7 ?k8 ?k9 ?kB ?_ ?c2 ?c3 ?c4 ?c5;walk_at "nu_enter";intro g' L' h' FG' F' N' B' X' T' hg')
 (try dsimp only)
 k_fold
 k_steps
 ·refine hE _ ?_ _ _ _ (Rz.of_kp (by assumption) hg' fun _ _ _ n=>n)
  first | exact rdA1 (by omega) (by omega) | exact rdA2 (by omega) (by omega) (by omega) | exact rdA3 (by omega) (by omega) (by omega) (by omega) (by omega) | exact rdA4 (by omega) (by omega) (by omega) (by omega) (by omega) | exact rdA5 (by omega) (by omega) (by omega) (by omega) (by omega)
 ·refine hE _ ?_ _ _ _ (Rz.of_kp (by assumption) hg' fun _ _ _ n=>n)
  first | exact rdA1 (by omega) (by omega) | exact rdA2 (by omega) (by omega) (by omega) | exact rdA3 (by omega) (by omega) (by omega) (by omega) (by omega) | exact rdA4 (by omega) (by omega) (by omega) (by omega) (by omega) | exact rdA5 (by omega) (by omega) (by omega) (by omega) (by omega)
 ·refine hret _ _ ?_ _ _ _ _ _ _ _ _ (by assumption) (news_app (news_two (by assumption)) (hrest _ (Kp.of_keep hg' (Fr.keep (by assumption))))) ?_ ?_ ?_
  ·subst_vars
   have e4 : at_ + 2 + 2 = at_ + 4:=by omega
   rw [e4]
   exact rdA0 (by omega) (by omega) (by omega) (by omega)
  ·exact off1_new Nr.1 hg' (by assumption) (by k_mem)
  ·exact off1_new Nr.1 hg' (by assumption) (by k_mem)
  ·k_ne
 ·refine hE _ ?_ _ _ _ (Rz.of_kp (by assumption) hg' fun _ _ _ n=>n)
  first | exact rdA1 (by omega) (by omega) | exact rdA2 (by omega) (by omega) (by omega) | exact rdA3 (by omega) (by omega) (by omega) (by omega) (by omega) | exact rdA4 (by omega) (by omega) (by omega) (by omega) (by omega) | exact rdA5 (by omega) (by omega) (by omega) (by omega) (by omega)
 ·refine hE _ ?_ _ _ _ (Rz.of_kp (by assumption) hg' fun _ _ _ n=>n)
  first | exact rdA1 (by omega) (by omega) | exact rdA2 (by omega) (by omega) (by omega) | exact rdA3 (by omega) (by omega) (by omega) (by omega) (by omega) | exact rdA4 (by omega) (by omega) (by omega) (by omega) (by omega) | exact rdA5 (by omega) (by omega) (by omega) (by omega) (by omega)
 ·refine hE _ ?_ _ _ _ (Rz.of_kp (by assumption) hg' fun _ _ _ n=>n)
  first | exact rdA1 (by omega) (by omega) | exact rdA2 (by omega) (by omega) (by omega) | exact rdA3 (by omega) (by omega) (by omega) (by omega) (by omega) | exact rdA4 (by omega) (by omega) (by omega) (by omega) (by omega) | exact rdA5 (by omega) (by omega) (by omega) (by omega) (by omega)
 ·refine hE _ ?_ _ _ _ (Rz.of_kp (by assumption) hg' fun _ _ _ n=>n)
  first | exact rdA1 (by omega) (by omega) | exact rdA2 (by omega) (by omega) (by omega) | exact rdA3 (by omega) (by omega) (by omega) (by omega) (by omega) | exact rdA4 (by omega) (by omega) (by omega) (by omega) (by omega) | exact rdA5 (by omega) (by omega) (by omega) (by omega) (by omega)
theorem u17 : upto 17:=hk @c_16 u16 (by with_unfolding_all exact rfl)
open kc in
theorem read_anchor_spec {E w p loose mean mg mb dp un gd cn cs a ccd cl outer A₀ base h₀ L m restX1 s QX1 t1 t2} : s_16 E w p loose mean mg mb dp un gd cn cs a ccd cl outer A₀ base h₀ L m restX1 s QX1 t1 t2:=@hkT _ u17 (by k_extra "T") _ (by exact rfl)
end ND4
theorem dND4 : True:=trivial
section ND5
theorem lnND5_1 : True:=by
 k_with "L21" => ((k_here;(with_reducible show wpAny _ _ (call (Value.ref 412) [Value.bytes _ _,Value.int _ _]) _ _ _);k_dflt (refine' read_anchor_spec ?zB ?zF ?zX ?zT ?zhk ?zN _ _ ?zhks _ ?zh0 ?zh1 ?zhb ?zhd ?zhu ?_ ?_;k_extra "Q";(case zhks=>assumption);(case zh0=>omega);(case zh1=>omega);(case zhb=>omega);k_extra "V");(intro _ _ _ _ _ _ _ _ _ _ _ _ _ n1' n2' n3';(try k_sweep);(try simp only [LCg.Off1,and_true] at n1' n2');(try (revert n1';intro _));(try (revert n2';intro _));(try (revert n3';intro _));(try dsimp only));rotate_left;(intro _ _ _ _ _ _;(first | (exfalso;omega) | (try dsimp only)));rotate_right))
 k_with "call ref" => ((fail_if_success have:=dND5);first | k_extra "L13" | k_extra "L21" | fail)
 exact True.intro
open kc in
theorem c_17 : s_17 E w p loose mean mg mb dp un gd cn cs a ccd cl outer A₀ base h₀ L m restX1 s QX1 t1 t2 t3:=by
 intro B F X T hk N b ks hks beg off h0 h1 g0 g1 hb hd hu hnone hret hE
 refine an2 (news_split0 N) fun N₀ hrest=>?_
 have Nr : News h₀ L s.heap restX1∧True:=⟨N,trivial⟩
 clear N
 refine wpAny_call ?_
 k_dflt (refine' code_defH [("data",.bytes b t1),("begin",.int beg t2),("offset",.int off t3)] ?k1 ?k2 ?k3 ?k4 ?k5 ?kA ?kF ?kK ?k6 ?k7 ?k8 ?k9 ?kB ?_ ?c2 ?c3 ?c4 ?c5;walk_at "nu_enter";intro g' L' h' FG' F' N' B' X' T' hg')
 (try dsimp only)
 k_fold
 k_steps
 ·exact hnone (by omega) _ _ (by assumption) (hrest _ (Kp.of_keep hg' (Fr.keep (by assumption))))
 ·exact hret (by omega) _ _ (by assumption) _ _ _ _ _ _ _ _ (by assumption) (news_app (news_two (by assumption)) (hrest _ (Kp.of_keep hg' (Fr.keep (by assumption))))) (off1_new Nr.1 hg' (by assumption) (by k_mem)) (off1_new Nr.1 hg' (by assumption) (by k_mem)) (by assumption)
 ·exact hE (by omega) _ (by assumption) _ _ _ (Rz.of_kp (by assumption) hg' fun _ _ _ n=>n)
theorem u18 : upto 18:=hk @c_17 u17 (by with_unfolding_all exact rfl)
open kc in
theorem anchor_behind_spec {E w p loose mean mg mb dp un gd cn cs a ccd cl outer A₀ base h₀ L m restX1 s QX1 t1 t2 t3} : s_17 E w p loose mean mg mb dp un gd cn cs a ccd cl outer A₀ base h₀ L m restX1 s QX1 t1 t2 t3:=@hkT _ u18 (by k_extra "T") _ (by exact rfl)
end ND5
theorem dND5 : True:=trivial
section NP2
open PySem.Calls
theorem news_hid {h₀ h h' : Heap} {L : Addr} {keys : List Addr} {rest : List (Addr × Obj)} (N : News h₀ L h rest) (k : Kp keys h h') (hk : ∀ b ∈ keys,h'.get? b = h.get? b) : News h₀ L h' rest:=fun p hp=>by
 by_cases z : p.1 ∈ keys
 ·exact ⟨by rw [hk _ z];exact (N p hp).1,(N p hp).2⟩
 ·exact ⟨k _ _ (N p hp).1 z,(N p hp).2⟩
theorem off1_ofN {r : Addr} : ∀ {l : List (Addr × Obj)},(∀ q ∈ l,q.1 ≠ r)→LCg.Off1 r l:=by
 intro l h
 induction l with
 | nil=>trivial
 | cons _ _ ih=>exact ⟨h _ (.head _),ih fun q hq=>h q (.tail _ hq)⟩
theorem off1_newKs {s : Shared} {h₀ g h' : Heap} {L L' r : Addr} {keys : List Addr} {o : Obj} {rest l : List (Addr × Obj)} (N : News h₀ L s.heap rest) (k : Kp keys s.heap g) (N' : News g L' h' l) (hm : (r,o) ∈ l) (hne : ∀ x ∈ keys,@Ne Nat r x) : LCg.Off1 r rest :=
 off1_ofN fun q hq e=>by
  by_cases z : q.1 ∈ keys
  ·exact hne _ z e.symm
  ·have h1:=k _ _ (N q hq).1 z
   rw [e,(N' _ hm).2.2] at h1
   cases h1
theorem ne_cls {h₀ h : Heap} {L a b : Addr} {o o' : Obj} {news : List (Addr × Obj)} (N : News h₀ L h news) (h1 : (a,o) ∈ news) (h2 : (b,o') ∈ news) (hc : o.cls ≠ o'.cls) : @Ne Nat a b:=fun e=>by
 have z1:=(N _ h1).1
 have z2:=(N _ h2).1
 dsimp only at z1 z2
 rw [show a = b from e] at z1
 rw [z1] at z2
 cases z2
 exact hc rfl
theorem turn_fix {g' h' : Heap} {L I : Addr} {gl : Str} {stored : List Str} {m₀ mm : Str→Option Value} {J : List (Addr × Obj)→Prop} {own mu : List (Addr × Obj)} {s₁ : Shared} {tk : Nat}
  (F : Fr g' L h' mm) (N : News g' L h' (mu ++ own)) (hI : ∀ p ∈ mu,p.1 ≠ I) (hm : ∀ y,y ≠ gl→stored.contains y = false→mm y = m₀ y) (hJ : J mu) : TurnT g' L I gl stored m₀ J own s₁ { s₁ with heap:=h',toks:=tk} :=
 ⟨h',tk,mm,mu,_,rfl,F,N,fun p hp=>List.mem_append_left _ hp,fun p hp=>List.mem_append_right _ hp,hI,hm,hJ⟩
theorem off1_allN {d : Addr} {l : List (Addr × Obj)} (h : LCg.Off1 d l) : ∀ p ∈ l,p.1 ≠ d:=by
 induction l with
 | nil=>exact List.forall_mem_nil _
 | cons q l ih =>
  intro p hp
  rcases List.mem_cons.mp hp with e | hp
  ·rw [e];exact h.1
  ·exact ih h.2 p hp
theorem turn_head {g' h' : Heap} {L I D : Addr} {gl : Str} {stored : List Str} {m₀ mm : Str→Option Value} {J : List (Addr × Obj)→Prop} {own pre σ τ all : List (Addr × Obj)} {oD : Obj} {s₁ : Shared} {tk : Nat}
  (F : Fr g' L h' mm) (N : News g' L h' all) (e : all = pre ++ (D,oD) :: σ) (hs : ∀ p ∈ τ,p ∈ σ) (ho : ∀ p ∈ own,p ∈ σ) (hIo : ∃ o,(I,o) ∈ own) (i1 : @Ne Nat D I) (ht3 : ∀ p ∈ τ,p.1 ≠ I)
  (of1 : LCg.Off1 D τ) (hpre : ∀ q ∈ pre,@Ne Nat q.1 D∧LCg.Off1 q.1 σ) (hm : ∀ y,y ≠ gl→stored.contains y = false→mm y = m₀ y)
  (hJ : LCg.Off1 D (pre ++ τ)→J ((D,oD) :: (pre ++ τ))) : TurnT g' L I gl stored m₀ J own s₁ { s₁ with heap:=h',toks:=tk}:=by
 subst e
 refine ex1 hIo fun oI hmI=>?_
 clear hIo
 refine ei5 h' tk mm ((D,oD) :: (pre ++ τ)) _ ⟨rfl,F,N,?_,fun p hp=>List.mem_append_right _ (.tail _ (ho p hp)),?_,hm,hJ (off1_ofN fun q hq=>?_)⟩
 ·intro p hp
  rcases List.mem_cons.mp hp with rfl | hp
  ·exact List.mem_append_right _ (.head _)
  ·rcases List.mem_append.mp hp with hp | hp
   ·exact List.mem_append_left _ hp
   ·exact List.mem_append_right _ (.tail _ (hs p hp))
 ·intro p hp
  rcases List.mem_cons.mp hp with rfl | hp
  ·exact i1
  ·rcases List.mem_append.mp hp with hp | hp
   ·exact (off1_allN (hpre p hp).2 _ (ho _ hmI)).symm
   ·exact ht3 p hp
 ·rcases List.mem_append.mp hq with hq | hq
  ·exact (hpre q hq).1
  ·exact off1_allN of1 q hq
theorem len_tupN {prog : Program} {w : World} {A : Around} {E : Value→Shared→Prop} {s : Shared} {h₀ : Heap} {L t : Addr} {news : List (Addr × Obj)} {vs : List Value} {ns : List Int} {n : Nat} {Q : Value→Shared→Prop} (N : News h₀ L s.heap news)
  (hm : (t,({ cls:=.type "tuple",data:=.seq vs.toArray n} : Obj)) ∈ news) (hi : IntsAre vs ns) (hl : ns.length < 1000) (h : Q (.int ns.length (s.toks + 1)) { s with toks:=s.toks + 1 + 1}) : wpAny (model prog w) A (call (.builtin "len") [.ref t]) Q E s:=by
 have e : vs.toArray.size = ns.length:=by rw [List.size_toArray,hi.length]
 exact PyProof.Rows.len_tuple ⟨_,(N _ hm).1,rfl,n,rfl⟩ (by rw [e];omega) (by rw [e];exact h)
theorem len_lisN {prog : Program} {w : World} {A : Around} {E : Value→Shared→Prop} {s : Shared} {h₀ : Heap} {L t : Addr} {news : List (Addr × Obj)} {vs : List Value} {n : Nat} {Q : Value→Shared→Prop} (N : News h₀ L s.heap news)
  (hm : (t,listOf vs.toArray n) ∈ news) (hl : vs.length < 1000) (h : Q (.int vs.length (s.toks + 1)) { s with toks:=s.toks + 1 + 1}) : wpAny (model prog w) A (call (.builtin "len") [.ref t]) Q E s:=by
 have e : vs.toArray.size = vs.length:=by rw [List.size_toArray]
 exact PyProof.Rows.len_list ⟨_,(N _ hm).1,rfl,n,rfl⟩ (by rw [e];omega) (by rw [e];exact h)
end NP2
section NP3
open PySem.Calls
section
variable {prog : Program} {w : World} {A : Around} {E : Value→Shared→Prop} {s : Shared} {h₀ : Heap} {L l : Addr} {m : Str→Option Value} {news : List (Addr × Obj)} {vs ws : List Value} {c : Nat} {x v : Value} {t : Tok}
theorem truthy_ls {Q : Bool→Shared→Prop} (N : News h₀ L s.heap news) (hm : (l,listOf vs.toArray c) ∈ news) (hn : vs.length < 1000) (hne : vs = ws ++ [x]) (h : Q true { s with toks:=s.toks + 1 + 1}) : wpAny (model prog w) A (truthy (.ref l)) Q E s :=
 wpAny_truthy_list ⟨_,(N _ hm).1,rfl,c,rfl⟩ (by simp;omega) (by
  have : (!vs.toArray.isEmpty) = true:=by subst hne;simp
  rw [this];exact h)
theorem item_last {Q : Value→Shared→Prop} (N : News h₀ L s.heap news) (hm : (l,listOf vs.toArray c) ∈ news) (hn : vs.length < 1000) (hne : vs = ws ++ [x]) (h : Q x s) : wpAny (model prog w) A (getItem (.ref l) (.int (-1) t)) Q E s:=by
 subst hne
 rw [List.length_append,List.length_singleton] at hn
 refine wpAny_getItem_list_neg ⟨_,(N _ hm).1,rfl,c,rfl⟩ (by decide) ?_ (by decide) ?_ h
 ·simp;omega
 ·have e : ((-1 : Int) + (((ws ++ [x]).toArray.size : Nat) : Int)).toNat = ws.length:=by
   rw [List.size_toArray,List.length_append,List.length_singleton];omega
  rw [e]
  simp
theorem tail_last {value slice : Expr} {Q : Value→Shared→Prop} (N : News h₀ L s.heap news) (hm : (l,listOf vs.toArray c) ∈ news) (hn : vs.length < 1000) (hne : vs = ws ++ [x]) (h : Q x s)
  (hs : subscripted slice false (.ref l) (.int (-1) t) = operate [.ref l,.int (-1) t] (getItem (.ref l) (.int (-1) t))) (hg : ∀ r,letTemporaryGo value (.ref l) r = pure ()) : wpAny (model prog w) A (subscriptTail value slice (.ref l) (.int (-1) t)) Q E s :=
 subscriptTail_builtin (T := "list") ⟨_,(N _ hm).1,rfl⟩ slot_list_getitem.lookup (item_last N hm hn hne h) hs hg
theorem tail_pair {value slice : Expr} {a : Addr} {va vb : Value} {n : Nat} {k : Int} {Q : Value→Shared→Prop} (N : News h₀ L s.heap news) (hm : (a,({ cls:=.type "tuple",data:=.seq #[va,vb] n} : Obj)) ∈ news) (hx : #[va,vb][k.toNat]? = some x) (h0 : 0 ≤ k) (h1 : k < 2) (h : Q x s)
  (hs : subscripted slice false (.ref a) (.int k t) = operate [.ref a,.int k t] (getItem (.ref a) (.int k t))) (hg : ∀ r,letTemporaryGo value (.ref a) r = (do let _ ← holding [r] (runValue (.builtin "proto.let_go" {})))) : wpAny (model prog w) A (subscriptTail value slice (.ref a) (.int k t)) Q E s:=by
 have hT : s.TypeIs (.ref a) "tuple" := ⟨_,(N _ hm).1,rfl⟩
 unfold subscriptTail
 refine wpAny_bind ?_
 rw [getitemInPython_of_ne hT.not_modules]
 refine wpAny_bind (wpAny_specialOf hT slot_tuple_getitem.lookup ?_)
 have hk : seqIndex? k (#[va,vb] : Array Value).size = some k.toNat:=by
  have e : (#[va,vb] : Array Value).size = 2:=rfl
  rw [e]
  have : k = 0 ∨ k = 1:=by omega
  rcases this with rfl | rfl <;> rfl
 have it : wpAny (model prog w) A (getItem (.ref a) (.int k t)) Q E s:=PyProof.Rows.getItem_tuple (t:=a) (items:=#[va,vb]) ⟨_,(N _ hm).1,rfl,n,rfl⟩ (by omega) (by omega) hk hx h
 have fin : wpAny (model prog w) A (subscripted slice false (.ref a) (.int k t)) (fun r s₃=>wpAny (model prog w) A (letTemporaryGo value (.ref a) r >>= fun _=>pure r) Q E s₃) E s:=by
  rw [hs]
  refine wpAny_operating (wpAny_mono it (fun r s₃ h₃=>?_) fun _ _ x=>x)
  rw [hg]
  exact wpAny_bind (wpAny_bind (wpAny_holding (wpAny_runValue (codeAny_builtin entry_let_go (show wpAny _ _ (ret .none) _ _ s₃ from wpAny_pure (wpAny_pure (wpAny_pure h₃)))))))
 first
  | exact wpAny_pure (wpAny_bind fin)
  | exact wpAny_bind (wpAny_pure (wpAny_bind fin))
  | exact wpAny_bind fin
theorem tail_pair0 {value slice : Expr} {a : Addr} {va vb : Value} {n : Nat} {Q : Value→Shared→Prop} (N : News h₀ L s.heap news) (hm : (a,({ cls:=.type "tuple",data:=.seq #[va,vb] n} : Obj)) ∈ news) (h : Q va s)
  (hs : subscripted slice false (.ref a) (.int 0 t) = operate [.ref a,.int 0 t] (getItem (.ref a) (.int 0 t))) (hg : ∀ r,letTemporaryGo value (.ref a) r = (do let _ ← holding [r] (runValue (.builtin "proto.let_go" {})))) : wpAny (model prog w) A (subscriptTail value slice (.ref a) (.int 0 t)) Q E s :=
 tail_pair N hm rfl (by decide) (by decide) h hs hg
theorem tail_pair1 {value slice : Expr} {a : Addr} {va vb : Value} {n : Nat} {Q : Value→Shared→Prop} (N : News h₀ L s.heap news) (hm : (a,({ cls:=.type "tuple",data:=.seq #[va,vb] n} : Obj)) ∈ news) (h : Q vb s)
  (hs : subscripted slice false (.ref a) (.int 1 t) = operate [.ref a,.int 1 t] (getItem (.ref a) (.int 1 t))) (hg : ∀ r,letTemporaryGo value (.ref a) r = (do let _ ← holding [r] (runValue (.builtin "proto.let_go" {})))) : wpAny (model prog w) A (subscriptTail value slice (.ref a) (.int 1 t)) Q E s :=
 tail_pair N hm rfl (by decide) (by decide) h hs hg
theorem store_last {Q : Unit→Shared→Prop} (F : Fr h₀ L s.heap m) {g : Obj→List (Addr × Obj)} (N : News h₀ L s.heap news) (U : UpdF l (listOf vs.toArray c) news g) (hm : (l,listOf vs.toArray c) ∈ news) (hn : vs.length < 1000) (hne : vs = ws ++ [x])
  (h : ∀ h' c',Fr h₀ L h' m→News h₀ L h' (g (listOf (ws ++ [v]).toArray c'))→Q () { s with heap:=h'}) : wpAny (model prog w) A (setItem (.ref l) (.int (-1) t) v) Q E s:=by
 subst hne
 rw [List.length_append,List.length_singleton] at hn
 have P:=N _ hm
 have hl : s.heap.IsList l (ws ++ [x]).toArray:=⟨_,P.1,rfl,c,rfl⟩
 have ho:=P.1
 unfold setItem
 try with_reducible refine wpAny_holding ?_
 first | refine wpAny_bind (wpAny_pure ?_) | skip
 refine wpAny_bind (wpAny_sequenceKey hl.typeIs (by decide) ?_)
 refine wpAny_bind (wpAny_callSpecial?_slot (name:=Str.ofString "__setitem__") hl.typeIs slot_list_setitem
  (wpAny_call_entry slot_list_setitem hl.typeIs entry_list_setitem ?_ (args_list_setitem _ _ _)))
 show wpAny _ _ (Builtin.List.listSubscript? (.int (-1) t) >>= _) _ _ s
 refine wpAny_bind (wpAny_listSubscript_int (fitsIndex_neg (by decide) (by decide)) ?_)
 have hidx : seqIndex? (Int.negSucc 0) (ws ++ [x]).toArray.size = some ws.length:=by
  rw [seqIndex_neg (by decide) (by simp;omega)]
  congr 1
  rw [List.size_toArray,List.length_append,List.length_singleton];omega
 show wpAny _ _ ((Builtin.List.listItems (.ref l) >>= fun xs=>pure ((seqIndex? (Int.negSucc 0) xs.size).bind fun i=>xs[i]?.map (i,·))) >>= _) _ _ s
 refine wpAny_bind (wpAny_bind ?_)
 show wpAny _ _ (seqItems? (.ref l) >>= _) _ _ s
 refine wpAny_bind (wpAny_seqItems ho rfl (wpAny_pure (wpAny_pure ?_)))
 rw [hidx]
 have hx' : (ws ++ [x]).toArray[ws.length]? = some x:=by simp
 simp only [Option.bind_some,hx',Option.map_some]
 show wpAny _ _ (setSeqItemAt l ws.length v >>= _) _ _ s
 refine wpAny_bind (wpAny_setSeqItemAt ho rfl ?_)
 refine ex2 (U.split) fun pre post q9=>an4 q9 fun e92 hg p1 p2=>?_
 clear q9
 subst e92
 have hset : (ws ++ [x]).toArray.setIfInBounds ws.length v = (ws ++ [v]).toArray:=by
  rw [List.setIfInBounds_toArray]
  congr 1
  simp
 obtain ⟨c',hc'⟩ : ∃ c',(s.heap.update l (Obj.mapSeq (·.setIfInBounds ws.length v))).get? l = some (listOf (ws ++ [v]).toArray c'):=by
  refine ex1 (Obj.data_mapSeq (o:=listOf (ws ++ [x]).toArray c) rfl (·.setIfInBounds ws.length v)) fun n' hd'=>?_
  have e:=Heap.get?_update_self (Obj.mapSeq (·.setIfInBounds ws.length v)) ho (Obj.isFreed_of_seq hd')
  refine ⟨n',e.trans (congrArg some ?_)⟩
  rw [hset] at hd'
  show Obj.mapSeq (·.setIfInBounds ws.length v) (listOf (ws ++ [x]).toArray c) = listOf (ws ++ [v]).toArray n'
  unfold Obj.mapSeq at hd' ⊢
  dsimp only [W.listOf] at hd' ⊢
  rw [hd']
 have fin : Q () { s with heap:=s.heap.update l (Obj.mapSeq (·.setIfInBounds ws.length v))} :=
  h _ c' (F.change (Heap.SameBut.update ..) P.2.1 P.2.2) (hg _ ▸ N.setIn p1 p2 (Heap.SameBut.update ..) hc')
 first
  | exact wpAny_bind (wpAny_pure (wpAny_pure ⟨.none,rfl,wpAny_pure fin⟩))
  | exact wpAny_pure ⟨.none,rfl,wpAny_pure fin⟩
end
end NP3
section NX21
open PySem.Spec
theorem fits_long {k : Int} (h0 : -100 ≤ k) (h1 : k < 100) : Builtin.Range.rangeFitsLong k = true:=by
 unfold Builtin.Range.rangeFitsLong
 rw [Bool.and_eq_true]
 exact ⟨decide_eq_true (Int.le_trans (by decide) h0),decide_eq_true (Int.lt_trans h1 (by decide))⟩
theorem range_small {n : Nat} (h : n < 60) : Builtin.Range.small 0 n 1 = true:=by
 have h1 : Builtin.Range.rangeSize 0 n 1 = (n : Int):=by rw [rangeSize_nat];omega
 unfold Builtin.Range.small
 rw [h1,fits_long (by decide) (by decide),fits_long (k:=n) (by omega) (by omega),fits_long (k:=1) (by decide) (by decide),if_pos (by decide),fits_long (k:=(n : Int) + (1 - 1)) (by omega) (by omega)]
 simp
theorem range_size (n : Nat) : Builtin.Range.rangeSize 0 n 1 = (n : Int):=by
 rw [rangeSize_nat]
 omega
theorem ne_in {l : List Str} {y x : Str} (hx : l.contains x = true) (h : l.contains y = false) : y ≠ x:=fun e=>by
 rw [e,hx] at h;cases h
end NX21
section ND8a
theorem AncV.two {w : World} {l : List (Addr × Obj)} {v : Value} {o : Option Pt} (h : AncV w l v o) : (v = .none∧o = none) ∨ (∃ r,v = .ref r)∧o.isSome = true:=by
 cases o with
 | none=>exact .inl ⟨h,rfl⟩
 | some z=>obtain ⟨r,_,_,_,_,_,e,_⟩:=h;exact .inr ⟨⟨r,e⟩,rfl⟩
theorem AncV.mono {w : World} {l l' : List (Addr × Obj)} {v : Value} {o : Option Pt} (h : AncV w l v o) (hs : ∀ p ∈ l,p ∈ l') : AncV w l' v o:=by
 cases o with
 | none=>exact h
 | some z=>obtain ⟨r,d,k1,k2,t1,t2,e,m1,m2⟩:=h;exact ⟨r,d,k1,k2,t1,t2,e,hs _ m1,hs _ m2⟩
theorem EndV.mono {w : World} {l l' : List (Addr × Obj)} {v : Value} {o : Option Pt × Option Pt} (h : EndV w l v o) (hs : ∀ p ∈ l,p ∈ l') : EndV w l' v o:=by
 refine ex4 h fun r n v1 v2 q9=>an4 q9 fun e m a1 a2=>?_
 clear q9 h
 exact ei4 r n v1 v2 ⟨e,hs _ m,a1.mono hs,a2.mono hs⟩
theorem RowsV.mono {w : World} {l l' : List (Addr × Obj)} (hs : ∀ p ∈ l,p ∈ l') : ∀ {kvs : List (Int × Value)} {rs : List Row},RowsV w l kvs rs→RowsV w l' kvs rs:=by
 intro kvs rs h
 induction kvs generalizing rs with
 | nil =>
  cases rs with
  | nil=>trivial
  | cons _ _=>exact h.elim
 | cons _ _ ih =>
  cases rs with
  | nil=>exact h.elim
  | cons _ _=>exact ⟨h.1,h.2.1.mono hs,ih h.2.2⟩
theorem RowsV.snoc {w : World} {l : List (Addr × Obj)} {kv : Int × Value} {r : Row} (e : kv.1 = r.1) (a : EndV w l kv.2 r.2) : ∀ {kvs : List (Int × Value)} {rs : List Row},RowsV w l kvs rs→RowsV w l (kvs ++ [kv]) (rs ++ [r]):=by
 intro kvs rs h
 induction kvs generalizing rs with
 | nil =>
  cases rs with
  | nil=>exact ⟨e,a,trivial⟩
  | cons _ _=>exact h.elim
 | cons _ _ ih =>
  cases rs with
  | nil=>exact h.elim
  | cons _ _=>exact ⟨h.1,h.2.1,ih h.2.2⟩
theorem RowsV.keys {w : World} {l : List (Addr × Obj)} : ∀ {kvs : List (Int × Value)} {rs : List Row},RowsV w l kvs rs→kvs.map (·.1) = rs.map (·.1):=by
 intro kvs rs h
 induction kvs generalizing rs with
 | nil =>
  cases rs with
  | nil=>rfl
  | cons _ _=>exact h.elim
 | cons _ _ ih =>
  cases rs with
  | nil=>exact h.elim
  | cons _ _=>rw [List.map_cons,List.map_cons,h.1,ih h.2.2]
theorem rdEnds_step {ks : List Int} {beg s0 spot g : Int} {gs r : List Int} {rows : List Row} {o : Option Pt × Option Pt} (h : rdEnds ks beg gs s0 = catR rows (rdEnds ks beg (g :: r) spot)) (ho : rdTwo ks beg spot = .ok o) :
  rdEnds ks beg gs s0 = catR (rows ++ [(g,o)]) (rdEnds ks beg r (spot + 4)):=by
 rw [h,rdEnds,ho]
 dsimp only
 cases rdEnds ks beg r (spot + 4) with
 | ok rs=>simp [catR]
 | error e=>rfl
theorem rdEnds_fault {ks : List Int} {beg s0 spot g z : Int} {gs r : List Int} {rows : List Row} (h : rdEnds ks beg gs s0 = catR rows (rdEnds ks beg (g :: r) spot)) (ho : rdTwo ks beg spot = .error z) :
  rdEnds ks beg gs s0 = .error z:=by
 rw [h,rdEnds,ho]
 rfl
theorem rdBehind_none {ks : List Int} {beg off : Int} (h : off = 0) : rdBehind ks beg off = .ok none:=by rw [rdBehind,if_pos h]
theorem rdBehind_some {ks : List Int} {beg off : Int} {z : Pt} (h : off ≠ 0) (e : rdAnchor ks (beg + off) = .ok z) : rdBehind ks beg off = .ok (some z):=by rw [rdBehind,if_neg h,e]
theorem rdBehind_err {ks : List Int} {beg off z : Int} (h : off ≠ 0) (e : rdAnchor ks (beg + off) = .error z) : rdBehind ks beg off = .error z:=by rw [rdBehind,if_neg h,e]
theorem rdTwo_ok {ks : List Int} {beg spot u v : Int} {a c : Option Pt} (h1 : spot + 2 ≤ ks.length) (eu : u = u16v ks spot) (e1 : rdBehind ks beg u = .ok a) (h2 : spot + 2 + 2 ≤ ks.length) (ev : v = u16v ks (spot + 2)) (e2 : rdBehind ks beg v = .ok c) :
  rdTwo ks beg spot = .ok (a,c):=by
 subst eu ev
 rw [rdTwo,if_neg (by omega),e1]
 dsimp only
 rw [if_neg (by omega),e2]
theorem rdTwo_e1 {ks : List Int} {beg spot : Int} (h1 : ks.length < spot + 2) : rdTwo ks beg spot = .error spot:=by rw [rdTwo,if_pos h1]
theorem rdTwo_e2 {ks : List Int} {beg spot u z : Int} (h1 : spot + 2 ≤ ks.length) (eu : u = u16v ks spot) (e1 : rdBehind ks beg u = .error z) : rdTwo ks beg spot = .error z:=by
 subst eu
 rw [rdTwo,if_neg (by omega),e1]
theorem rdTwo_e3 {ks : List Int} {beg spot u : Int} {a : Option Pt} (h1 : spot + 2 ≤ ks.length) (eu : u = u16v ks spot) (e1 : rdBehind ks beg u = .ok a) (h2 : ks.length < spot + 2 + 2) : rdTwo ks beg spot = .error (spot + 2):=by
 subst eu
 rw [rdTwo,if_neg (by omega),e1]
 dsimp only
 rw [if_pos (by omega)]
theorem rdTwo_e4 {ks : List Int} {beg spot u v z : Int} {a : Option Pt} (h1 : spot + 2 ≤ ks.length) (eu : u = u16v ks spot) (e1 : rdBehind ks beg u = .ok a) (h2 : spot + 2 + 2 ≤ ks.length) (ev : v = u16v ks (spot + 2)) (e2 : rdBehind ks beg v = .error z) :
  rdTwo ks beg spot = .error z:=by
 subst eu ev
 rw [rdTwo,if_neg (by omega),e1]
 dsimp only
 rw [if_neg (by omega),e2]
theorem stored_new {K : Type} [DecidableEq K] {kvs : List (K × Value)} {k : K} {v : Value} (h : k ∉ kvs.map (·.1)) : stored kvs k v = kvs ++ [(k,v)]:=by
 have e : (kvs.any fun kv=>decide (kv.1 = k)) = false:=by
  rw [List.any_eq_false]
  intro kv hkv z
  exact h (List.mem_map.mpr ⟨kv,hkv,of_decide_eq_true z⟩)
 unfold stored
 rw [e]
 rfl
theorem off1_all {d : Addr} {l : List (Addr × Obj)} (h : LCg.Off1 d l) : ∀ p ∈ l,p.1 ≠ d:=by
 induction l with
 | nil=>exact List.forall_mem_nil _
 | cons q l ih =>
  intro p hp
  rcases List.mem_cons.mp hp with e | hp
  ·rw [e];exact h.1
  ·exact ih h.2 p hp
theorem catR_nil (x : Except Int (List Row)) : catR [] x = x:=by cases x <;> rfl
theorem ints_at {vs : List Value} {ns : List Int} (h : IntsAre vs ns) : ∀ {i : Nat} {v : Value},vs[i]? = some v→∃ g t,ns[i]? = some g∧v = .int g t:=by
 induction h with
 | nil=>intro i v hv;simp at hv
 | cons n t h ih =>
  intro i v hv
  cases i with
  | zero=>exact ⟨n,t,rfl,(Option.some.inj hv).symm⟩
  | succ i=>exact ih hv
theorem drop_at {gs : List Int} {i : Nat} {g : Int} (h : gs[i]? = some g) : gs.drop i = g :: gs.drop (i + 1):=by
 obtain ⟨hlt,e⟩:=List.getElem?_eq_some_iff.mp h
 rw [List.drop_eq_getElem_cons hlt,e]
theorem off1_app {d : Addr} {l l' : List (Addr × Obj)} (h : LCg.Off1 d l) (h' : LCg.Off1 d l') : LCg.Off1 d (l ++ l'):=by
 induction l with
 | nil=>exact h'
 | cons q l ih=>exact ⟨h.1,ih h.2⟩
theorem off1_own {d I ax : Addr} {l own : List (Addr × Obj)} (h : LCg.Off1 d l) (ho : ∀ p ∈ own,p.1 = I ∨ p.1 = ax) (e1 : @Ne Nat d I) (e2 : @Ne Nat ax d) : LCg.Off1 d (l ++ own) :=
 off1_app h (off1_of fun q hq z=>by
  rcases ho q hq with e | e
  ·exact e1 (z.symm.trans e)
  ·exact e2 (e.symm.trans z))
theorem off1_lt {d : Addr} {l : List (Addr × Obj)} (h : AllLt d l) : LCg.Off1 d l:=by
 induction l with
 | nil=>exact trivial
 | cons q l ih=>exact ⟨Nat.ne_of_lt h.1,ih h.2⟩
theorem off1_mem {d : Addr} {o : Obj} {l : List (Addr × Obj)} (h : LCg.Off1 d l) {a : Addr} (hm : (a,o) ∈ l) : a ≠ d:=off1_all h _ hm
theorem turn_three {g' h' : Heap} {L I D x dx : Addr} {gl : Str} {stored : List Str} {m₀ mm : Str→Option Value} {J : List (Addr × Obj)→Prop} {own pre σ τ all : List (Addr × Obj)} {oD ox odx : Obj} {s₁ : Shared} {tk : Nat}
  (F : Fr g' L h' mm) (N : News g' L h' all) (e : all = pre ++ (D,oD) :: (x,ox) :: (dx,odx) :: σ) (hs : ∀ p ∈ τ,p ∈ σ) (ho : ∀ p ∈ own,p ∈ σ) (hIo : ∃ o,(I,o) ∈ own) (i1 : @Ne Nat D I) (i2 : @Ne Nat x I) (i3 : @Ne Nat dx I) (ht3 : ∀ p ∈ τ,p.1 ≠ I)
  (of1 : LCg.Off1 D τ) (of2 : LCg.Off1 x τ) (of3 : LCg.Off1 dx τ) (hpre : ∀ q ∈ pre,@Ne Nat q.1 D∧@Ne Nat q.1 x∧@Ne Nat q.1 dx∧LCg.Off1 q.1 σ) (hm : ∀ y,y ≠ gl→stored.contains y = false→mm y = m₀ y)
  (hJ : (LCg.Off1 D (pre ++ τ)∧LCg.Off1 x (pre ++ τ)∧LCg.Off1 dx (pre ++ τ))→J ((D,oD) :: (x,ox) :: (dx,odx) :: (pre ++ τ))) : TurnT g' L I gl stored m₀ J own s₁ { s₁ with heap:=h',toks:=tk}:=by
 subst e
 refine ex1 hIo fun oI hmI=>?_
 clear hIo
 refine ei5 h' tk mm ((D,oD) :: (x,ox) :: (dx,odx) :: (pre ++ τ)) _ ⟨rfl,F,N,?_,fun p hp=>List.mem_append_right _ (.tail _ (.tail _ (.tail _ (ho p hp)))),?_,hm,hJ ⟨?_,?_,?_⟩⟩
 ·intro p hp
  rcases List.mem_cons.mp hp with rfl | hp
  ·exact List.mem_append_right _ (.head _)
  ·rcases List.mem_cons.mp hp with rfl | hp
   ·exact List.mem_append_right _ (.tail _ (.head _))
   ·rcases List.mem_cons.mp hp with rfl | hp
    ·exact List.mem_append_right _ (.tail _ (.tail _ (.head _)))
    ·rcases List.mem_append.mp hp with hp | hp
     ·exact List.mem_append_left _ hp
     ·exact List.mem_append_right _ (.tail _ (.tail _ (.tail _ (hs p hp))))
 ·intro p hp
  rcases List.mem_cons.mp hp with rfl | hp
  ·exact i1
  ·rcases List.mem_cons.mp hp with rfl | hp
   ·exact i2
   ·rcases List.mem_cons.mp hp with rfl | hp
    ·exact i3
    ·rcases List.mem_append.mp hp with hp | hp
     ·exact (off1_mem (hpre p hp).2.2.2 (ho _ hmI)).symm
     ·exact ht3 p hp
 ·exact off1_app (off1_of fun q hq=>(hpre q hq).1) of1
 ·exact off1_app (off1_of fun q hq=>(hpre q hq).2.1) of2
 ·exact off1_app (off1_of fun q hq=>(hpre q hq).2.2.1) of3
theorem take_next {gs : List Int} {i : Nat} {g : Int} (h : gs[i]? = some g) : gs.take (i + 1) = gs.take i ++ [g]:=by
 rw [List.take_add_one,h];rfl
theorem asc_new {gs : List Int} (h : gs.Pairwise (· < ·)) {i : Nat} {g : Int} (hg : gs[i]? = some g) : g ∉ gs.take i:=by
 intro hm
 obtain ⟨hlt,e⟩:=List.getElem?_eq_some_iff.mp hg
 obtain ⟨j,hj,ej⟩:=List.getElem_of_mem hm
 rw [List.length_take] at hj
 have h2 : gs[j] = g:=by rw [← ej,List.getElem_take]
 have:=List.pairwise_iff_getElem.mp h j i (by omega) hlt (by omega)
 omega
theorem ne_c1 {y a : Str} (h : [a].contains y = false) : y ≠ a:=fun e=>by
 subst e
 simp at h
theorem cur_J {ks : List Int} {beg s0 spot g : Int} {gs r : List Int} {rows : List Row} {o : Option Pt × Option Pt} (ho : rdTwo ks beg spot = .ok o) (h : rdEnds ks beg gs s0 = catR rows (rdEnds ks beg (g :: r) spot)) :
  rdEnds ks beg gs s0 = catR (rows ++ [(g,o)]) (rdEnds ks beg r (spot + 2 + 2)):=by
 rw [show spot + 2 + 2 = spot + 4 from by omega]
 exact rdEnds_step h ho
end ND8a
section ND6
theorem lnND6_1 : True:=by
 k_with "call ref" => ((fail_if_success have:=dND6);first | k_extra "L13" | k_extra "L19" | k_extra "L10" | fail)
 exact True.intro
theorem in_u16k {w : World} {p : Program} {loose : List Str} {mean : ExcName→Option Value} {mg mb : Str→Option Value}
  {dp un : Nat} {gd : Option (List Code)} {cn : Str} {cs : Scope} {a : Addr} {ccd : Value} {cl : List (Str × Addr)} {outer : List Env} {A₀ : Around} {base h₀ : Heap} {L : Addr} {m : Str→Option Value} {rest : List (Addr × Obj)} {s : Shared}
  {Q E : Value→Shared→Prop}
  (B : Below A₀ base outer h₀) (F : Fr h₀ L s.heap m) (X : (hd.heap_1 w.params).In h₀) (T : Top p loose mean mg mb h₀) (hk : cs.kind = .function)
  (N : News h₀ L s.heap rest) {x dx : Addr} {gU : Obj→List (Addr × Obj)} {tb k1 k2 ta : Tok} {at_ : Int} {b : Array UInt8} (hx : (x,instObj 170 dx) ∈ rest) (U : UpdF dx (inDict w b tb k1 k2 at_ ta) rest gU) (ks : List Int) (hks : KBw.bInts b = ks) (h0 : 0 ≤ at_) (h1 : at_ < 2^40) (hb : ks.length < 2^20) (hne : x ≠ dx) (c : Int) (hc : u16v ks at_ = c) (hroom : at_ + 2 ≤ ks.length) (hd : dp + 7 < recursionLimit) (hu : un + 56 < cLine)
  (hret : ∀ t ta' h' tk',Fr h₀ L h' m→News h₀ L h' (gU (inDict w b tb k1 k2 (at_ + 2) ta'))→Q (.int c t) { s with heap:=h',toks:=tk'}) :
  wpAny (model pw_nu0185_01 w) (ktrTop dp un gd cn cs L a ccd cl outer) (call (.ref 127) [.ref x]) Q E s :=
 in_u16 B F X T hk N hx U ks hks h0 h1 hb hne hd hu (fun _ v t ta' h' tk' e _ _ F' N'=>by rw [e,hc];exact hret t ta' h' tk' F' N') (fun q=>by omega)
theorem lnND6_2 : True:=by
 k_with "L22" => ((k_here;(with_reducible show wpAny _ _ (call (Value.ref 127) [Value.ref _]) _ _ _);k_dflt (refine' in_u16k ?zB ?zF ?zX ?zT ?zhk ?zN ?zhx ?zU _ ?zhks ?zh0 ?zh1 ?zhb ?zhne _ ?zhc ?zhr ?zhd ?zhu ?_;k_extra "Q";(case zhx=>k_mem);(case zU=>k_updF);(case zhks=>assumption);(case zhc=>with_reducible assumption);(case zhr=>omega);(case zh0=>omega);(case zh1=>omega);(case zhb=>omega);(case zhne=>first | assumption | k_ne);k_extra "V");intro _ _ _ _ _ _;(try k_sweep);(try dsimp only)))
 k_with "L23" => (refine Stop.mk ?_)
 k_with "L24" => ((k_here;(with_reducible show wpAny _ _ (pyIter _) (fun it s₂=>LoopAtV _ _ _ _ _ (PySem.Str.ofString "step") _ _ _ it s₂) _ _);refine Stop.mk ?_))
 k_with "L25" => ((k_here;k_dflt (refine truthy_ls (by k_asm) (by k_mem) (by omega) (by assumption) ?_)))
 k_with "L26" => ((k_here;(with_reducible show wpAny _ _ (subscriptTail _ _ (Value.ref _) (Value.int (-1) _)) _ _ _);k_dflt (refine tail_last (by k_asm) (by k_mem) (by omega) (by assumption) ?_ (by with_unfolding_all rfl) (by intro _;with_unfolding_all rfl))))
 k_with "L27" => (exact off1_all (by assumption))
 k_with "L28" => (exact off1_all (off1_lt (by assumption)))
 k_with "L29" => ((dsimp only [TurnP];refine Stop.mk ?_))
 k_with "call ref" => ((fail_if_success have:=dND6);first | k_extra "L13" | k_extra "L22" | fail)
 k_with "exec For Name Call cons nil" => ((fail_if_success have:=dND6);first | k_extra "L23" | fail)
 k_with "pyIter ref" => ((fail_if_success have:=dND6);first | k_extra "L24" | fail)
 k_with "truthy ref" => ((fail_if_success have:=dND6);first | k_extra "L25" | fail)
 k_with "subscriptTail Name" => ((fail_if_success have:=dND6);first | k_extra "L26" | fail)
 k_with "A" => ((fail_if_success have:=dND6);first | k_extra "L28" | k_extra "L27" | fail)
 k_with "TurnP" => ((fail_if_success have:=dND6);first | k_extra "L29" | fail)
 exact True.intro
theorem take_snoc {gs : List Int} {i : Nat} {g : Int} (h : gs[i]? = some g) : gs.take (i + 1) = gs.take i ++ [g]:=by
 rw [List.take_add_one,h];rfl
theorem asc_last {gs : List Int} {vs ws : List Value} {i : Nat} {v : Value} {g : Int} (hasc : gs.Pairwise (· < ·)) (hi : IntsAre vs (gs.take i)) (e : vs = ws ++ [v]) (hg : gs[i]? = some g) : ∃ g9 t9,v = .int g9 t9∧g9 < g:=by
 have hv : vs[ws.length]? = some v:=by rw [e];simp
 refine ex2 (ints_at hi hv) fun g9 t9 q9=>an2 q9 fun hg9 e93=>?_
 clear q9
 subst e93
 rw [List.getElem?_take] at hg9
 split at hg9
 ·rename_i hk
  obtain ⟨h1,rfl⟩:=List.getElem?_eq_some_iff.mp hg9
  obtain ⟨h2,rfl⟩:=List.getElem?_eq_some_iff.mp hg
  exact ei2 _ _ ⟨rfl,List.pairwise_iff_getElem.mp hasc _ _ h1 h2 hk⟩
 ·cases hg9
open kc in
theorem c_18 : s_18 E w x p loose mean mg mb dp un gd cn cs a ccd cl outer A₀ base h₀ L m restX1 s QX1 dx gU tb k1 k2 ta:=by
 intro B F X T hk N at_ b hx U ks hks h0 h1 hb hne gs hn hroom hv hasc hl hd hu hret
 have N₀ : News h₀ L s.heap [(x,instObj 170 dx),(dx,inDict w b tb k1 k2 at_ ta)]:=news_sub N fun p hp=>by
  rcases List.mem_cons.mp hp with rfl | hp
  ·exact hx
  ·rw [List.mem_singleton.mp hp];exact updF_mem U
 have hxs:=(N _ hx).1
 have hsz : b.size = ks.length:=by rw [← hks,KBw.ints_length]
 have hend : ∀ h' o',Kp [x,dx] s.heap h'→h'.get? x = some (instObj 170 dx)→h'.get? dx = some o'→News h₀ L h' (gU o'):=fun h' o' k e1 e2=>news_updF N U k (by rw [e1,hxs]) e2
 clear N
 refine wpAny_call ?_
 k_dflt (refine' code_defH [("octets_in",.ref x)] ?k1 ?k2 ?k3 ?k4 ?k5 ?kA ?kF ?kK ?k6 ?k7 ?k8 ?k9 ?kB ?_ ?c2 ?c3 ?c4 ?c5;walk_at "nu_enter";intro g' L' h' FG' F' N' B' X' T' hg')
 (try dsimp only)
 k_fold
 k_steps
 refine Stop.out ?_
 rename_i tk_0 l_0 h_00 l1_0 h_0 F_0 N_0
 have e1 : @Ne Nat l_0 x:=Nat.ne_of_gt l1_0.1
 have e2 : @Ne Nat l_0 dx:=Nat.ne_of_gt l1_0.2
 refine For_invVF F_0 rfl rfl ?_
 k_steps
 refine Stop.out ?_
 rename_i t_1 ta_1 h_1 tk_2 F_1 N_1 h_2 tk_3 t_2 u_2 v_2 R_2 F_2 N_2 K_2
 have tz : ∀ i : Nat,at_ + 2 + 2 * ((i + 1 : Nat) : Int) = at_ + 2 + 2 * (i : Int) + 2:=fun i=>by omega
 refine iter_range (n:=gs.length) ["spot", "glyph"] (fun i nl=>∃ vs c ta τ,nl = (l_0,listOf vs.toArray c) :: (x,instObj 170 dx) :: (dx,inDict w b tb k1 k2 (at_ + 2 + 2 * (i : Int)) ta) :: τ∧IntsAre vs (gs.take i)∧LCg.Off1 l_0 τ∧LCg.Off1 x τ∧LCg.Off1 dx τ) rfl R_2 (range_small hl) (range_size _) F_2 N_2 (ei4 [] 0 ta_1 [] ⟨by rw [show at_ + 2 + 2 * ((0 : Nat) : Int) = at_ + 2 from by omega],.nil,trivial,trivial,trivial⟩) ?_ ?_
 ·intro i t u I news₁ own h tk hlt hJ hown hIo hI F' N'
  refine ex4 hJ fun vs c ta9 τ q9=>an5 q9 fun e90 hia of1 of2 of3=>?_
  clear q9 hJ
  subst e90
  obtain ⟨g,hgi⟩ : ∃ g,gs[i]? = some g:=⟨_,List.getElem?_eq_getElem hlt⟩
  have hgv:=hv i g hgi
  have i1 : @Ne Nat l_0 I:=hI _ (.head _)
  have i2 : @Ne Nat x I:=hI _ (.tail _ (.head _))
  have i3 : @Ne Nat dx I:=hI _ (.tail _ (.tail _ (.head _)))
  have wo : ∀ d : Addr,@Ne Nat d I→LCg.Off1 d own:=fun d hd=>off1_of fun q hq=>by rw [hown q hq];exact Ne.symm hd
  have w1:=off1_app of1 (wo _ i1)
  have w2:=off1_app of2 (wo _ i2)
  have w3:=off1_app of3 (wo _ i3)
  have ht1 : ∀ p ∈ τ,p ∈ τ ++ own:=fun p hp=>List.mem_append_left _ hp
  have ht2 : ∀ p ∈ own,p ∈ τ ++ own:=fun p hp=>List.mem_append_right _ hp
  have ht3 : ∀ p ∈ τ,p.1 ≠ I:=fun p hp=>hI p (.tail _ (.tail _ (.tail _ hp)))
  have hgl : (i : Int) < gs.length:=by omega
  have hvl : vs.length = i:=by rw [hia.length,List.length_take];omega
  have hspot : 0 ≤ at_ + 2 + 2 * (i : Int)∧at_ + 2 + 2 * (i : Int) < 2^40∧at_ + 2 + 2 * (i : Int) + 2 ≤ ks.length:=by omega
  simp only [List.cons_append] at N'
  rw [tz]
  generalize hsp : at_ + 2 + 2 * (i : Int) = sp at hgv hspot N' ⊢
  refine an3 hspot fun sp0 sp1 sp2=>?_
  clear hspot
  generalize τ ++ own = σ at N' w1 w2 w3 ht1 ht2
  clear F_2 N_2 R_2 K_2
  rcases List.eq_nil_or_concat vs with rfl | ⟨ws,v9,hws⟩
  ·walk_at "S2"
   rename News _ _ _ ((_,listOf (Array.push _ _) _) :: _)=>N8
   skip
   refine Stop.out (turn_three (pre:=[]) (τ:=τ) (σ:=σ) (by assumption) N8 rfl ht1 ht2 hIo i1 i2 i3 ht3 of1 of2 of3 (List.forall_mem_nil _) (fun y h1 h2=>by (try dsimp only);rw [if_neg (ne_in (x := "glyph") rfl h2),if_neg (ne_in (x := "spot") rfl h2),if_neg h1,if_neg (by rw [h2];exact Bool.false_ne_true)]) fun o9=>(ei4 [_] _ _ τ ⟨rfl,?_,of1,of2,of3⟩))
   rw [take_snoc hgi]
   exact hia.append (.cons _ _ .nil)
  ·rw [List.concat_eq_append] at hws
   refine ex2 (asc_last hasc hia hws hgi) fun g9 t9 q9=>an2 q9 fun e92 hlt9=>?_
   clear q9
   subst e92
   walk_at "S2"
   rename News _ _ _ ((_,listOf (Array.push _ _) _) :: _)=>N8
   rw [List.push_toArray] at N8
   refine Stop.out (turn_three (pre:=[]) (τ:=τ) (σ:=σ) (by assumption) N8 rfl ht1 ht2 hIo i1 i2 i3 ht3 of1 of2 of3 (List.forall_mem_nil _) (fun y h1 h2=>by (try dsimp only);rw [if_neg (ne_in (x := "glyph") rfl h2),if_neg (ne_in (x := "spot") rfl h2),if_neg h1,if_neg (by rw [h2];exact Bool.false_ne_true)]) fun o9=>(ei4 (vs ++ [_]) _ _ τ ⟨rfl,?_,of1,of2,of3⟩))
   rw [take_snoc hgi]
   exact hia.append (.cons _ _ .nil)
 ·intro u news₁ h tk hJ F' N'
  refine ex4 hJ fun vs c ta9 τ q9=>an5 q9 fun e90 hia of1 of2 of3=>?_
  clear q9 hJ
  subst e90
  rw [List.take_length] at hia
  clear F_2 N_2 R_2 K_2
  k_steps
  refine hret l_0 vs c _ ta9 _ _ hia rfl (by assumption) (news_app (l:=[_]) (news_one1 (by assumption)) (hend _ _ (Kp.of_keep hg' (Fr.keep (by assumption))) (News.get (by assumption) (by k_mem)) (News.get (by assumption) (by k_mem))))
theorem u19 : upto 19:=hk @c_18 u18 (by with_unfolding_all exact rfl)
open kc in
theorem in_asc {E w x p loose mean mg mb dp un gd cn cs a ccd cl outer A₀ base h₀ L m restX1 s QX1 dx gU tb k1 k2 ta} : s_18 E w x p loose mean mg mb dp un gd cn cs a ccd cl outer A₀ base h₀ L m restX1 s QX1 dx gU tb k1 k2 ta:=@hkT _ u19 (by k_extra "T") _ (by exact rfl)
end ND6
theorem dND6 : True:=trivial
section ND7
theorem lnND7_1 : True:=by
 k_with "L30" => ((k_here;(with_reducible show wpAny _ _ (call (Value.ref 316) [_]) _ _ _);k_dflt (refine' new_coverage ?zB ?zF ?zX ?zT ?zhk ?zN _ ?zhd ?zhu ?_;k_extra "Q";k_extra "V");intro _ _ _ _ _ _ _ l1' l2';(try k_lt l1');(try k_lt2 l2');(try (revert l1';intro _));(try (revert l2';intro _));(try k_sweep);(try dsimp only)))
 k_with "L31" => ((k_here;(with_reducible show wpAny _ _ (call (Value.ref 341) [Value.ref _]) _ _ _);k_dflt (refine' in_asc ?zB ?zF ?zX ?zT ?zhk ?zN ?zhx ?zU _ ?zhks ?zh0 ?zh1 ?zhb ?zhne ?zhn ?zhr ?zhv ?zha ?zhl ?zhd ?zhu ?_;k_extra "Q";(case zhx=>k_mem);(case zU=>k_updF);(case zhks=>assumption);(case zhn=>assumption);(case zhr=>assumption);(case zhv=>assumption);(case zha=>assumption);(case zhl=>assumption);(case zh0=>omega);(case zh1=>omega);(case zhb=>omega);(case zhne=>first | assumption | k_ne);k_extra "V");intro _ _ _ _ _ _ _ _ _ _ _;(try k_sweep);(try dsimp only)))
 k_with "call ref" => ((fail_if_success have:=dND7);first | k_extra "L31" | k_extra "L13" | k_extra "L22" | k_extra "L30" | k_extra "L19" | k_extra "L10" | fail)
 exact True.intro
open kc in
theorem c_19 : s_19 E w p loose mean mg mb dp un gd cn cs a ccd cl outer A₀ base h₀ L m restX1 s QX1 t1 t2:=by
 intro B F X T hk N b ks hks at_ h0 h1 hb gs hl hc hasc hd hu hret
 obtain ⟨hf,hn,hr,hv⟩:=hc
 have hr' : at_ + 2 + 2 + 2 * (gs.length : Int) ≤ ks.length:=by omega
 have hv' : ∀ (i : Nat) (g : Int),gs[i]? = some g→u16v ks (at_ + 2 + 2 + 2 * (i : Int)) = g:=fun i g h=>by
  obtain ⟨h1,rfl⟩:=List.getElem?_eq_some_iff.mp h
  rw [show at_ + 2 + 2 + 2 * (i : Int) = at_ + 4 + 2 * (i : Int) by omega]
  exact hv i h1
 have hl' : gs.length < 60:=by omega
 have hroom : at_ + 2 ≤ ks.length:=by omega
 refine an2 (news_split0 N) fun N₀ hrest=>?_
 have Nr : News h₀ L s.heap restX1∧True:=⟨N,trivial⟩
 clear N hv hr
 refine wpAny_call ?_
 k_dflt (refine' code_defH [("data",.bytes b t1),("at",.int at_ t2)] ?k1 ?k2 ?k3 ?k4 ?k5 ?kA ?kF ?kK ?k6 ?k7 ?k8 ?k9 ?kB ?_ ?c2 ?c3 ?c4 ?c5;walk_at "nu_enter";intro g' L' h' FG' F' N' B' X' T' hg')
 (try dsimp only)
 k_fold
 k_steps
 exact hret _ _ _ _ _ _ _ _ (by assumption) (by assumption) (news_app (news_three (by assumption)) (hrest _ (Kp.of_keep hg' (Fr.keep (by assumption))))) (off1_new Nr.1 hg' (by assumption) (by k_mem)) (off1_new Nr.1 hg' (by assumption) (by k_mem)) (off1_new Nr.1 hg' (by assumption) (by k_mem)) (by k_ne) (by k_ne) (by k_ne)
theorem u20 : upto 20:=hk @c_19 u19 (by with_unfolding_all exact rfl)
open kc in
theorem cover_spec {E w p loose mean mg mb dp un gd cn cs a ccd cl outer A₀ base h₀ L m restX1 s QX1 t1 t2} : s_19 E w p loose mean mg mb dp un gd cn cs a ccd cl outer A₀ base h₀ L m restX1 s QX1 t1 t2:=@hkT _ u20 (by k_extra "T") _ (by exact rfl)
end ND7
theorem dND7 : True:=trivial
section ND8
theorem lnND8_1 : True:=by
 k_with "L32" => ((k_here;(with_reducible show wpAny _ _ (call (Value.ref 474) [_]) _ _ _);k_dflt (refine' new_cursive ?zB ?zF ?zX ?zT ?zhk ?zN _ ?zhd ?zhu ?_;k_extra "Q";k_extra "V");intro _ _ _ _ _ _ _ l1' l2';(try k_lt l1');(try k_lt2 l2');(try (revert l1';intro _));(try (revert l2';intro _));(try k_sweep);(try dsimp only)))
 k_with "L33" => ((k_here;(with_reducible show wpAny _ _ (call (Value.ref 362) [Value.bytes _ _,Value.int _ _]) _ _ _);k_dflt (refine' cover_spec ?zB ?zF ?zX ?zT ?zhk ?zN _ _ ?zhks _ ?zh0 ?zh1 ?zhb _ ?zhl ?zhc ?zha ?zhd ?zhu ?_;k_extra "Q";(case zhks=>assumption);(case zh0=>omega);(case zh1=>omega);(case zhb=>omega);(case zhc=>first | assumption | (subst_vars;assumption));(case zhl=>assumption);(case zha=>assumption);k_extra "V");intro _ _ _ _ _ _ _ _ _ _ _ n1' n2' n3' e1' e2' e3';(try k_sweep);(try simp only [LCg.Off1,and_true] at n1' n2' n3');(try (revert n1';intro _));(try (revert n2';intro _));(try (revert n3';intro _));(try (revert e1';intro _));(try (revert e2';intro _));(try (revert e3';intro _));(try dsimp only)))
 k_with "L34" => ((k_here;(with_reducible show wpAny _ _ (exec (Stmt.For _ _ _ _ _) _) _ _ _);refine Stop.mk ?_))
 k_with "L35" => ((k_here;k_dflt (refine' kup_newTuple ?zF ?zN ?_ ?zz;(case zF=>k_asm);(case zN=>k_asm);(case zz=>kmk_size));intro _ _ _ _ l1;(try k_lt l1);(try (revert l1;intro _));(try k_sweep)))
 k_with "L36" => ((k_here;k_dflt (refine' kda_set (knd:=intKind _ _) ?zF ?zN ?zU ?zd ?zk ?zz ?_;(case zF=>k_asm);(case zN=>k_asm);(case zU=>k_updF);(case zd=>assumption);(case zk=>exact intKind_is _ _ _ _);(case zz=>exact Nat.le_trans (by assumption) (Nat.le_of_ble_eq_true rfl)));intro _ _ _ N' hd';(try dsimp only at N');(try (revert N';intro _));(try (revert hd';intro _))))
 k_with "L37" => ((k_here;(with_reducible show wpAny _ _ (call (Value.builtin "len") [Value.ref _]) _ _ _);k_dflt (refine len_tupN (by k_asm) (by k_mem) (by assumption) (by omega) ?_)))
 k_with "call ref" => ((fail_if_success have:=dND8);first | k_extra "L13" | k_extra "L33" | k_extra "L32" | k_extra "L19" | k_extra "L10" | fail)
 k_with "exec For" => ((fail_if_success have:=dND8);first | k_extra "L34" | fail)
 k_with "exec For Name Attribute cons nil" => ((fail_if_success have:=dND8);first | k_extra "L23" | fail)
 k_with "exec For Name Name cons nil" => ((fail_if_success have:=dND8);first | k_extra "L23" | fail)
 k_with "exec For Name Call cons nil" => ((fail_if_success have:=dND8);first | k_extra "L23" | fail)
 k_with "exec For Name Subscript cons nil" => ((fail_if_success have:=dND8);first | k_extra "L23" | fail)
 k_with "exec For Name Tuple cons nil" => ((fail_if_success have:=dND8);first | k_extra "L23" | fail)
 k_with "pyIter ref" => ((fail_if_success have:=dND8);first | k_extra "L23" | fail)
 k_with "TurnP" => ((fail_if_success have:=dND8);first | k_extra "L29" | fail)
 k_with "newTuple" => ((fail_if_success have:=dND8);first | k_extra "L35" | fail)
 k_with "setItem ref int ref" => ((fail_if_success have:=dND8);first | k_extra "L36" | fail)
 k_with "A" => ((fail_if_success have:=dND8);first | k_extra "L27" | fail)
 k_with "call builtin:len" => ((fail_if_success have:=dND8);first | k_extra "L37" | fail)
 exact True.intro
theorem ancV_none {w : World} {l : List (Addr × Obj)} : AncV w l .none none:=rfl
theorem ancV_some {w : World} {l : List (Addr × Obj)} {r d : Addr} {z : Pt} {k1 k2 t1 t2 : Tok} (m1 : (r,instObj 394 d) ∈ l) (m2 : (d,ancDict w z.1 z.2 k1 k2 t1 t2) ∈ l) : AncV w l (.ref r) (some z):=⟨r,d,k1,k2,t1,t2,rfl,m1,m2⟩
theorem endV_mk {w : World} {l : List (Addr × Obj)} {r : Addr} {n : Nat} {v1 v2 : Value} {o1 o2 : Option Pt} (m : (r,({ cls:=.type "tuple",data:=.seq #[v1,v2] n} : Obj)) ∈ l) (a : AncV w l v1 o1) (b : AncV w l v2 o2) : EndV w l (.ref r) (o1,o2):=⟨r,n,v1,v2,rfl,m,a,b⟩
theorem rows_snoc {w : World} {l : List (Addr × Obj)} {g : Int} {v : Value} {o : Option Pt × Option Pt} {kvs : List (Int × Value)} {rs : List Row} (a : EndV w l v o) (h : RowsV w l kvs rs) : RowsV w l (kvs ++ [(g,v)]) (rs ++ [(g,o)]):=RowsV.snoc rfl a h
theorem rdEnds_nil {ks : List Int} {beg spot : Int} : rdEnds ks beg [] spot = .ok []:=rfl
theorem catR_end {rows : List Row} : catR rows (.ok []) = .ok rows:=by show Except.ok (rows ++ []) = _;rw [List.append_nil]
theorem anchor_any {w : World} {p : Program} {loose : List Str} {mean : ExcName→Option Value} {mg mb : Str→Option Value}
  {dp un : Nat} {gd : Option (List Code)} {cn : Str} {cs : Scope} {a : Addr} {ccd : Value} {cl : List (Str × Addr)} {outer : List Env} {A₀ : Around} {base h₀ : Heap} {L : Addr} {m : Str→Option Value} {rest : List (Addr × Obj)} {s : Shared}
  {Q E : Value→Shared→Prop}
  (B : Below A₀ base outer h₀) (F : Fr h₀ L s.heap m) (X : (hd.heap_1 w.params).In h₀) (T : Top p loose mean mg mb h₀) (hk : cs.kind = .function)
  (N : News h₀ L s.heap rest)
  (b : Array UInt8) (ks : List Int) (hks : KBw.bInts b = ks) (beg off : Int) (t1 t2 t3 : Tok) (h0 : 0 ≤ beg) (h1 : beg < 2^38) (g0 : 0 ≤ off) (g1 : off < 2^38) (hb : ks.length < 2^20) (hd : dp + 14 < recursionLimit) (hu : un + 140 < cLine)
  (hret : ∀ o v l h' tk',rdBehind ks beg off = .ok o→AncV w l v o→Fr h₀ L h' m→News h₀ L h' (rest ++ l)→(∀ p ∈ l,LCg.Off1 p.1 rest)→Q v { s with heap:=h',toks:=tk'})
  (hE : ∀ z,rdBehind ks beg off = .error z→∀ e h' tk',Rz base s.heap [] (envX cn cs L a ccd cl :: outer) z e h'→E (.ref e) { s with heap:=h',toks:=tk'}) :
  wpAny (model pw_nu0185_01 w) (ktrTop dp un gd cn cs L a ccd cl outer) (call (.ref 433) [.bytes b t1,.int beg t2,.int off t3]) Q E s:=by
 refine anchor_behind_spec B F X T hk N b ks hks beg off (t1:=t1) (t2:=t2) (t3:=t3) h0 h1 g0 g1 hb hd hu ?_ ?_ ?_
 ·intro e h' tk' F' N'
  exact hret none .none [] h' tk' (rdBehind_none e) rfl F' (by rw [List.append_nil];exact N') (List.forall_mem_nil _)
 ·intro e vx vy rd r d k1 k2 tx ty h' tk' F' N' n1 n2 n3
  refine hret (some (vx,vy)) (.ref r) [(r,instObj 394 d),(d,ancDict w vx vy k1 k2 tx ty)] h' tk' (rdBehind_some e rd) (ancV_some (.head _) (.tail _ (.head _))) F' (news_sub N' fun q hq=>?_) fun q hq=>?_
  ·rcases List.mem_append.mp hq with hq | hq
   ·exact .tail _ (.tail _ hq)
   ·rcases List.mem_cons.mp hq with rfl | hq
    ·exact .head _
    ·rw [List.mem_singleton.mp hq];exact .tail _ (.head _)
  ·rcases List.mem_cons.mp hq with rfl | hq
   ·exact n1
   ·rw [List.mem_singleton.mp hq];exact n2
 ·intro e z rd e' h' tk' R'
  exact hE z (rdBehind_err e rd) e' h' tk' R'
theorem off1_left {d : Addr} : ∀ {l l' : List (Addr × Obj)},LCg.Off1 d (l ++ l')→LCg.Off1 d l:=by
 intro l l' h
 induction l with
 | nil=>trivial
 | cons _ _ ih=>exact ⟨h.1,ih h.2⟩
section
variable {D x dx : Addr} {a1 a2 a3 : Obj} {σ l l2 : List (Addr × Obj)}
theorem grow1 (u : ∀ p ∈ l,LCg.Off1 p.1 ((D,a1) :: (x,a2) :: (dx,a3) :: σ)) (h : LCg.Off1 D σ) : LCg.Off1 D (σ ++ l):=off1_app h (off1_of fun p hp=>Ne.symm (u p hp).1)
theorem grow2 (u : ∀ p ∈ l,LCg.Off1 p.1 ((D,a1) :: (x,a2) :: (dx,a3) :: σ)) (h : LCg.Off1 x σ) : LCg.Off1 x (σ ++ l):=off1_app h (off1_of fun p hp=>Ne.symm (u p hp).2.1)
theorem grow3 (u : ∀ p ∈ l,LCg.Off1 p.1 ((D,a1) :: (x,a2) :: (dx,a3) :: σ)) (h : LCg.Off1 dx σ) : LCg.Off1 dx (σ ++ l):=off1_app h (off1_of fun p hp=>Ne.symm (u p hp).2.2.1)
theorem grow1' (u : ∀ p ∈ l2,LCg.Off1 p.1 ((D,a1) :: (x,a2) :: (dx,a3) :: (σ ++ l))) (h : LCg.Off1 D (σ ++ l)) : LCg.Off1 D (σ ++ (l ++ l2)):=List.append_assoc .. ▸ grow1 u h
theorem grow2' (u : ∀ p ∈ l2,LCg.Off1 p.1 ((D,a1) :: (x,a2) :: (dx,a3) :: (σ ++ l))) (h : LCg.Off1 x (σ ++ l)) : LCg.Off1 x (σ ++ (l ++ l2)):=List.append_assoc .. ▸ grow2 u h
theorem grow3' (u : ∀ p ∈ l2,LCg.Off1 p.1 ((D,a1) :: (x,a2) :: (dx,a3) :: (σ ++ l))) (h : LCg.Off1 dx (σ ++ l)) : LCg.Off1 dx (σ ++ (l ++ l2)):=List.append_assoc .. ▸ grow3 u h
end
theorem turn_ends {g' h' : Heap} {L I D x dx T : Addr} {gl : Str} {stored : List Str} {m₀ mm : Str→Option Value} {J : List (Addr × Obj)→Prop} {own l1 l2 σ τ : List (Addr × Obj)} {oT oD ox odx a1 a2 a3 b1 b2 b3 : Obj} {s₁ : Shared} {tk : Nat}
  (F : Fr g' L h' mm) (N : News g' L h' ((T,oT) :: (D,oD) :: (x,ox) :: (dx,odx) :: (σ ++ (l1 ++ l2)))) (lt : @LT.lt Nat _ D T∧@LT.lt Nat _ x T∧@LT.lt Nat _ dx T∧AllLt T (σ ++ (l1 ++ l2)))
  (u1 : ∀ p ∈ l1,LCg.Off1 p.1 ((D,a1) :: (x,a2) :: (dx,a3) :: σ)) (u2 : ∀ p ∈ l2,LCg.Off1 p.1 ((D,b1) :: (x,b2) :: (dx,b3) :: (σ ++ l1)))
  (hs : ∀ p ∈ τ,p ∈ σ) (ho : ∀ p ∈ own,p ∈ σ) (hIo : ∃ o,(I,o) ∈ own) (i1 : @Ne Nat D I) (i2 : @Ne Nat x I) (i3 : @Ne Nat dx I) (ht3 : ∀ p ∈ τ,p.1 ≠ I)
  (of1 : LCg.Off1 D τ) (of2 : LCg.Off1 x τ) (of3 : LCg.Off1 dx τ) (hm : ∀ y,y ≠ gl→stored.contains y = false→mm y = m₀ y)
  (hJ : (LCg.Off1 D (((T,oT) :: (l1 ++ l2)) ++ τ)∧LCg.Off1 x (((T,oT) :: (l1 ++ l2)) ++ τ)∧LCg.Off1 dx (((T,oT) :: (l1 ++ l2)) ++ τ))→J ((D,oD) :: (x,ox) :: (dx,odx) :: (((T,oT) :: (l1 ++ l2)) ++ τ))) : TurnT g' L I gl stored m₀ J own s₁ { s₁ with heap:=h',toks:=tk}:=by
 refine turn_three (pre:=(T,oT) :: (l1 ++ l2)) (σ:=σ) F (news_sub N fun q hq=>?_) rfl hs ho hIo i1 i2 i3 ht3 of1 of2 of3 ?_ hm hJ
 ·rcases List.mem_cons.mp hq with rfl | hq
  ·exact .head _
  ·rcases List.mem_append.mp hq with hq | hq
   ·exact .tail _ (.tail _ (.tail _ (.tail _ (List.mem_append_right _ hq))))
   ·rcases List.mem_cons.mp hq with rfl | hq
    ·exact .tail _ (.head _)
    ·rcases List.mem_cons.mp hq with rfl | hq
     ·exact .tail _ (.tail _ (.head _))
     ·rcases List.mem_cons.mp hq with rfl | hq
      ·exact .tail _ (.tail _ (.tail _ (.head _)))
      ·exact .tail _ (.tail _ (.tail _ (.tail _ (List.mem_append_left _ hq))))
 ·intro q hq
  rcases List.mem_cons.mp hq with rfl | hq
  ·exact ⟨Nat.ne_of_gt lt.1,Nat.ne_of_gt lt.2.1,Nat.ne_of_gt lt.2.2.1,off1_left (off1_lt lt.2.2.2)⟩
  ·rcases List.mem_append.mp hq with hq | hq
   ·have h:=u1 q hq
    exact ⟨Ne.symm h.1,Ne.symm h.2.1,Ne.symm h.2.2.1,h.2.2.2⟩
   ·have h:=u2 q hq
    exact ⟨Ne.symm h.1,Ne.symm h.2.1,Ne.symm h.2.2.1,off1_left h.2.2.2⟩
theorem lnND8_2 : True:=by
 k_with "L38" => ((k_here;(with_reducible show wpAny _ _ (call (Value.ref 433) [Value.bytes _ _,Value.int _ _,Value.int _ _]) _ _ _);k_dflt (refine' anchor_any ?zB ?zF ?zX ?zT ?zhk ?zN _ _ ?zhks _ _ _ _ _ ?zh0 ?zh1 ?zg0 ?zg1 ?zhb ?zhd ?zhu ?_ ?_;k_extra "Q";(case zhks=>assumption);(case zh0=>omega);(case zh1=>omega);(case zg0=>omega);(case zg1=>omega);(case zhb=>omega);k_extra "V");(intro _ _ _ _ _ _ _ _ N' ho';(try simp only [List.cons_append,List.append_assoc] at N');(try (revert N';intro _));(try (revert ho';intro _));(first | ((have:=grow1' (by assumption) (by assumption));(have:=grow2' (by assumption) (by assumption));(have:=grow3' (by assumption) (by assumption))) | ((have:=grow1 (by assumption) (by assumption));(have:=grow2 (by assumption) (by assumption));(have:=grow3 (by assumption) (by assumption))));(try k_sweep);(try dsimp only));rotate_left;(intro _ _ _ _ _ _;(try dsimp only));rotate_left))
 k_with "call ref" => ((fail_if_success have:=dND8);first | k_extra "L38" | fail)
 exact True.intro
open kc in
theorem c_20 : s_20 E w p loose mean mg mb dp un gd cn cs a ccd cl outer A₀ base h₀ L m restX1 s QX1 t1 t2:=by
 intro B F X T hk N b ks hks at_ h0 h1 hb gs hl hroom hc hasc hd hu hret hE
 refine an2 (news_split0 N) fun N₀ hrest=>?_
 clear N
 refine wpAny_call ?_
 k_dflt (refine' code_defH [("data",.bytes b t1),("at",.int at_ t2)] ?k1 ?k2 ?k3 ?k4 ?k5 ?kA ?kF ?kK ?k6 ?k7 ?k8 ?k9 ?kB ?_ ?c2 ?c3 ?c4 ?c5;walk_at "nu_enter";intro g' L' h' FG' F' N' B' X' T' hg')
 (try dsimp only)
 k_fold
 k_steps
 ·refine hE _ ?_ _ _ _ (Rz.of_kp (by assumption) hg' fun _ _ _ n=>n)
  rw [rdCur,if_pos (by omega)]
 ·refine hE _ ?_ _ _ _ (Rz.of_kp (by assumption) hg' fun _ _ _ n=>n)
  rw [rdCur,if_neg (by omega),if_pos (by rw [show at_ + 4 = at_ + 2 + 2 from by omega];omega)]
 ·refine Stop.out ?_
  rename_i tk_0 x_0 dx_0 k1_0 k2_0 h_0 tk_1 l1_0 l2_0 h_1 tk_2 rm_0 v_0 t_0 ta_0 h_2 tk_3 ve_0 v0_0 v1_0 a_0 tk_4 rm_1 v_1 t_1 ta_1 h_3 tk_5 ve_1 v0_1 v1_1 c_0 d_0 k_0 tt_0 vs_0 nn_0 h_4 tk_6 ia_0 e1_0 e2_0 e3_0 n1_0 n2_0 n3_0 h_5 tk_7 rm_2 v_2 t_2 ta_2 h_6 tk_8 ve_2 v0_2 v1_2 a_1 d_1 h_7 o_0 lo_0 hs_0 fs_0 hi_0 fi_0 l1_1 h_8 F_0 N_0
  refine For_invVF F_0 rfl rfl ?_
  k_steps
  have N1 : News g' L' h_8 ((d_1,o_0) :: (x_0,instObj 170 dx_0) :: (dx_0,inDict w b t1 k1_0 k2_0 (at_ + 6 + 4 * ((0 : Nat) : Int)) ta_2) :: [(c_0,instObj 316 d_0),(d_0,dictOf [⟨PyData.keyHash w.params "glyphs",.str "glyphs" k_0,.ref tt_0⟩] 1),(tt_0,{ cls:=.type "tuple",data:=.seq vs_0.toArray nn_0})]):=by
   rw [show at_ + 6 + 4 * ((0 : Nat) : Int) = at_ + 2 + 2 + 2 from by omega]
   refine news_sub N_0 ?_
   intro q hq
   simp only [List.mem_cons,List.not_mem_nil,or_false] at hq ⊢
   rcases hq with h | h | h | h | h | h <;> simp [h]
  have hcur : rdCur ks at_ gs = rdEnds ks at_ gs (at_ + 6):=by
   rw [rdCur,if_neg (by omega),if_neg (by rw [show at_ + 4 = at_ + 2 + 2 from by omega];omega)]
  have att:=N_0 _ (.tail _ (.tail _ (.tail _ (.head _))))
  refine Stop.out (iter_seq (its:=vs_0) ["entry"] (fun i l=>∃ ta oD kvs τ rows,l = (d_1,oD) :: (x_0,instObj 170 dx_0) :: (dx_0,inDict w b t1 k1_0 k2_0 (at_ + 6 + 4 * (i : Int)) ta) :: τ∧oD.IsDictOf (intKind pw_nu0185_01 w) kvs∧RowsV w τ kvs rows∧kvs.map (·.1) = gs.take i∧(LCg.Off1 d_1 τ∧LCg.Off1 x_0 τ∧LCg.Off1 dx_0 τ)∧rdEnds ks at_ gs (at_ + 6) = catR rows (rdEnds ks at_ (gs.drop i) (at_ + 6 + 4 * (i : Int)))) rfl (.inr ⟨_,att.1,rfl,nn_0,rfl⟩) att.2.1 F_0 N1 ⟨ta_2,o_0,[],_,[],rfl,hi_0,trivial,rfl,⟨⟨by k_ne,by k_ne,by k_ne,trivial⟩,⟨by k_ne,by k_ne,by k_ne,trivial⟩,⟨by k_ne,by k_ne,by k_ne,trivial⟩⟩,by
   rw [show at_ + 6 + 4 * ((0 : Nat) : Int) = at_ + 6 from by omega];exact (catR_nil _).symm⟩ ?_ ?_)
  ·intro i v u I news₁ own h tk hv hJ hown hIo hI hne F' N'
   refine ex5 hJ fun ta oD kvs τ rows q9=>an6 q9 fun e90 hD hR hk e94 hE9=>?_
   clear q9 hJ
   subst e90
   obtain ⟨of1,of2,of3⟩:=e94
   refine ex2 (ints_at ia_0 hv) fun g t q9=>an2 q9 fun hg e93=>?_
   clear q9
   subst e93
   have hlt : i < gs.length:=(List.getElem?_eq_some_iff.mp hg).1
   have hnew : g ∉ kvs.map (·.1):=by rw [hk];exact asc_new hasc hg
   have hk5 : kvs.length ≤ 5:=by
    have:=congrArg List.length hk
    rw [List.length_map,List.length_take] at this
    omega
   rw [drop_at hg] at hE9
   have a1 : @Ne Nat d_1 x_0:=by k_ne
   have a2 : @Ne Nat d_1 dx_0:=by k_ne
   have a3 : @Ne Nat x_0 dx_0:=by k_ne
   have a4 : @Ne Nat tt_0 d_1:=by k_ne
   have a5 : @Ne Nat tt_0 x_0:=by k_ne
   have a6 : @Ne Nat tt_0 dx_0:=by k_ne
   have i1 : @Ne Nat d_1 I:=hI _ (.head _)
   have i2 : @Ne Nat x_0 I:=hI _ (.tail _ (.head _))
   have i3 : @Ne Nat dx_0 I:=hI _ (.tail _ (.tail _ (.head _)))
   have w1:=off1_own of1 hown i1 a4
   have w2:=off1_own of2 hown i2 a5
   have w3:=off1_own of3 hown i3 a6
   have ht1 : ∀ p ∈ τ,p ∈ τ ++ own:=fun p hp=>List.mem_append_left _ hp
   have ht2 : ∀ p ∈ own,p ∈ τ ++ own:=fun p hp=>List.mem_append_right _ hp
   have ht3 : ∀ p ∈ τ,p.1 ≠ I:=fun p hp=>hI p (.tail _ (.tail _ (.tail _ hp)))
   simp only [List.cons_append] at N'
   have hspot : 0 ≤ at_ + 6 + 4 * (i : Int)∧at_ + 6 + 4 * (i : Int) < 2^31:=by omega
   have hsp1 : at_ + 6 + 4 * ((i + 1 : Nat) : Int) = at_ + 6 + 4 * (i : Int) + 2 + 2:=by omega
   rw [hsp1]
   revert N' w1 w2 w3 ht1 ht2 hspot hE9
   generalize at_ + 6 + 4 * (i : Int) = spot
   generalize τ ++ own = σ
   intro N' hE9 w1 w2 w3 ht1 ht2 hspot
   clear N_0 N1 F_0 hsp1 att
   walk_at "S2"
   all_goals first
    | exact hE _ (hcur.trans (rdEnds_fault hE9 (rdTwo_e4 (by assumption) (by assumption) (by assumption) (by assumption) (by assumption) (by assumption)))) _ _ _ (Rz.of_kp (by assumption) hg' fun _ _ _ n=>n)
    | exact hE _ (hcur.trans (rdEnds_fault hE9 (rdTwo_e3 (by assumption) (by assumption) (by assumption) (by assumption)))) _ _ _ (Rz.of_kp (by assumption) hg' fun _ _ _ n=>n)
    | exact hE _ (hcur.trans (rdEnds_fault hE9 (rdTwo_e2 (by assumption) (by assumption) (by assumption)))) _ _ _ (Rz.of_kp (by assumption) hg' fun _ _ _ n=>n)
    | exact hE _ (hcur.trans (rdEnds_fault hE9 (rdTwo_e1 (by assumption)))) _ _ _ (Rz.of_kp (by assumption) hg' fun _ _ _ n=>n)
    | skip
   have hT:=rdTwo_ok (ks:=ks) (beg:=at_) (spot:=spot) (by assumption) (by assumption) (by assumption) (by assumption) (by assumption) (by assumption)
   refine Stop.out (turn_ends (τ:=τ) (σ:=σ) (by assumption) (by assumption) (by assumption) (by assumption) (by assumption) ht1 ht2 hIo i1 i2 i3 ht3 of1 of2 of3 (fun y h1 h2=>by (try dsimp only);rw [if_neg (ne_c1 h2),if_neg h1,if_neg (by rw [h2];exact Bool.false_ne_true)]) fun o9=>(ei5 _ _ _ _ (rows ++ [(g,_)]) ⟨rfl,by assumption,?_,?_,o9,cur_J hT hE9⟩))
   ·rw [stored_new hnew]
    exact rows_snoc (endV_mk (.head _) (AncV.mono (by assumption) fun p hp=>.tail _ (List.mem_append_left _ (List.mem_append_left _ hp))) (AncV.mono (by assumption) fun p hp=>.tail _ (List.mem_append_left _ (List.mem_append_right _ hp)))) (hR.mono fun p hp=>List.mem_append_right _ hp)
   ·rw [stored_new hnew,List.map_append,hk,take_next hg]
    rfl
  ·intro u news₁ h tk hJ F' N'
   refine ex5 hJ fun ta oD kvs τ rows q9=>an6 q9 fun e90 hD hR hk _ hE9=>?_
   clear q9 hJ
   subst e90
   rw [ia_0.length,List.drop_length] at hE9
   clear N_0 N1 F_0 att
   k_steps
   rename_i x9 dx9 k9 h9 tk9 F9 N9 l19 l29 kF9 kN9 Tc9 kX9
   refine hret rows ?_ x9 dx9 k9 d_1 oD kvs τ _ _ hD hR kF9 (news_app (l:=(x9,instObj 474 dx9) :: (dx9,dictOf [⟨PyData.keyHash w.params "ends",.str "ends" k9,.ref d_1⟩] 1) :: (d_1,oD) :: τ) (news_sub kN9 ?_) (hrest _ (Kp.of_keep hg' F9.keep))) lo_0
   ·rw [hcur,hE9,rdEnds_nil,catR_end]
   ·intro q hq
    rcases List.mem_cons.mp hq with rfl | hq
    ·exact .head _
    ·rcases List.mem_cons.mp hq with rfl | hq
     ·exact .tail _ (.head _)
     ·rcases List.mem_cons.mp hq with rfl | hq
      ·exact .tail _ (.tail _ (.head _))
      ·exact .tail _ (.tail _ (.tail _ (.tail _ (.tail _ hq))))
theorem u21 : upto 21:=hk @c_20 u20 (by with_unfolding_all exact rfl)
open kc in
theorem read_cursive_spec {E w p loose mean mg mb dp un gd cn cs a ccd cl outer A₀ base h₀ L m restX1 s QX1 t1 t2} : s_20 E w p loose mean mg mb dp un gd cn cs a ccd cl outer A₀ base h₀ L m restX1 s QX1 t1 t2:=@hkT _ u21 (by k_extra "T") _ (by exact rfl)
end ND8
theorem dND8 : True:=trivial
section NG
open PySem.Calls
theorem NoDec.cons {c : Code} {p : Pos} {l : List (Code × Pos)} (hc : isDec c = false) (h : NoDec l) : NoDec ((c,p) :: l):=fun x hx=>by
 rcases List.mem_cons.mp hx with rfl | hx
 ·exact hc
 ·exact h x hx
section
variable {α β : Type} {M : Model} {A : Around} {s : Shared} {t : Sem α} {Q Q' : α→Shared→Prop}
theorem wpG.of (h : wpAny M A t Q noE s) : wpG M A t Q s:=fun Γ p hΓ _ _=>h Γ p hΓ
theorem wpG.mono (h : wpG M A t Q s) (hQ : ∀ a s,Q a s→Q' a s) : wpG M A t Q' s:=fun Γ p a b c =>
 Sem.wp_mono M Γ t (fun v _ s=>hQ v s) (fun _ _ _ x=>x) p s (h Γ p a b c)
theorem wpG.bind {f : α→Sem β} {Q : β→Shared→Prop} (h : wpG M A t (fun a s'=>wpG M A (f a) Q s') s) : wpG M A (t >>= f) Q s:=fun Γ p a b c=>by
 rw [Sem.wp_bind']
 exact Sem.wp_mono M Γ t (fun v p' s' h'=>h' Γ p' a b c) (fun _ _ _ x=>x) p s (h Γ p a b c)
theorem wpG.pre {f : α→Sem β} {Q : β→Shared→Prop} (h : wpAny M A t (fun a s'=>wpG M A (f a) Q s') noE s) : wpG M A (t >>= f) Q s:=wpG.bind (.of h)
theorem wpG.pure {a : α} (h : Q a s) : wpG M A (Pure.pure a : Sem α) Q s:=.of (wpAny_pure h)
theorem wpG.onRaise {k : Value→Sem Unit} (h : wpG M A t Q s) : wpG M A (t.onRaise k) Q s:=fun Γ p a b c=>by
 rw [Sem.wp_onRaise]
 exact Sem.wp_mono M Γ t (fun _ _ _ x=>x) (fun _ _ _ x=>x.elim) p s (h Γ p a b c)
theorem wpG.holding {vs : List Value} (h : wpG M A t Q s) : wpG M A (holding vs t) Q s:=fun Γ p a b c=>by rw [Sem.wp_holding];exact h Γ p a b c
theorem wpG.keep {vs : List Value} (h : wpG M A t Q s) : wpG M A (t.keep vs) Q s:=fun Γ p a b c=>by rw [Sem.wp_keep];exact h Γ p a b c
theorem codeG.mono {c : Code} {R R' : Result→Shared→Prop} (h : codeG M A c R s) (hR : ∀ r s,R r s→R' r s) : codeG M A c R' s:=fun Γ p hc hΓ nd=>wpCode_mono hR (h Γ p hc hΓ nd)
theorem codeG_of_tree {c : Code} {R : Result→Shared→Prop} (hd : isDec c = false)
  (h : wpG M (A.under c) (M.den c) (fun fin s'=>match fin with | .done f=>R (.ok f) s' | .again c'=>c'.quiet = true∧codeG M A c' R s') s) : codeG M A c R s:=fun Γ p hc hΓ nd=>by
 rw [wpCode_iff_wp,hc]
 refine Sem.wp_mono M Γ _ (fun fin p' s' h'=>?_) (fun _ _ _ h'=>h'.elim) p s (h Γ p (hc ▸ hΓ.in) (by rw [hc];exact hd) nd)
 cases fin with
 | done f=>exact h'
 | again c'=>exact ⟨h'.1,h'.2 (Γ.goto c') p' rfl (hΓ.goto c') nd⟩
theorem wpG_runValue {c : Code} {Q : Value→Shared→Prop} (h : codeG M A c (RetG Q) s) : wpG M A (runValue c) Q s:=fun Γ p hΓ hd nd=>by
 rw [Sem.wp_runValue]
 refine wpCode_mono (fun r s' x=>?_) (h _ p rfl (hΓ.enter c none p (by intro x;cases x)) (nd.cons hd))
 rcases r with e | (_ | _ | _ | _) <;> first | exact x | exact x.elim
theorem wpG_call {f : Value} {pos : List Value} {kw : List (Str × Value)} {Q : Value→Shared→Prop} (h : codeG M A (.call f ⟨pos,kw⟩) (RetG Q) s) : wpG M A (call f pos kw) Q s:=wpG_runValue h
theorem wpG_runOwn {c : Code} {env : Env} {Q : Flow→Shared→Prop} (h : codeG M A c (OkG Q) s) : wpG M A (runOwn c env) Q s:=by
 unfold runOwn
 refine wpG.onRaise fun Γ p hΓ hd nd=>?_
 rw [Sem.wp_run]
 refine wpCode_mono (fun r s' x=>?_) (h _ p rfl (hΓ.enter c none p (by intro x;cases x)) (nd.cons hd))
 rcases r with e | f <;> exact x
end
section
variable {prog : Program} {w : World} {A : Around} {s : Shared} {env : Env} {R : Result→Shared→Prop}
theorem codeG_func {body : List Stmt} (h : wpG (model prog w) (A.deeper env) (execs body env) (fun f s'=>R (.ok (.ret (match f with | .ret v=>v | _=>.none))) s') s) :
  codeG (model prog w) A (.func body env) R s:=by
 refine codeG_of_tree rfl ?_
 show wpG _ (A.deeper env) (do point;match ← (execs body env).onRaise (leaving env) with | .ret v=>ret v | _=>ret .none) _ s
 refine wpG.pre (wpAny_point (wpG.bind (wpG.onRaise (h.mono fun f s' h'=>?_))))
 cases f <;> exact wpG.pure h'
theorem codeG_call_function {a : Addr} {args : Args} {o : Obj} {fd : FuncData} {body : List Stmt} (hroom : A.depth < recursionLimit) (ho : s.heap.get? a = some o)
  (hd' : o.data = .func fd) (hco : fd.scope.isCoroutine = false) (hgen : fd.scope.isGenerator = false) (hbody : fd.body = .stmts body) (hcd : s.heap.CodeRec fd.code fd.qualname)
  (h : wpAny (model prog w) A.in1 (bindArgs fd args) (fun binds s₁ =>
   wpAny (model prog w) A.in1 (newFunctionEnv fd.scope fd.globals fd.closure binds (fd.qualname ++ ".<locals>.") (some a) fd.code none fd.builtins)
    (fun env s₂=>s₂.heap.NoLimit∧codeG (model prog w) A (.func body env) R s₂) noE s₁) noE s) :
  codeG (model prog w) A (.call (.ref a) args) R s:=by
 refine codeG_of_tree rfl (wpG.of ?_)
 show wpAny _ A.in1 (callAny (.ref a) args) _ _ s
 refine wpAny_bind (m:=load a) (wpAny_load ho ?_)
 refine ex4 hcd fun c oc vs tq q9=>an4 q9 fun hc hoc hdc hq=>?_
 clear q9 hcd
 rw [hc] at h
 rw [hd']
 show wpAny _ _ (callFunction a fd args) _ _ s
 unfold callFunction
 rw [hc,hco,hgen,hbody]
 refine wpAny_bind (m:=field (.ref c) 1) (wpAny_field hoc hdc hq (wpAny_bind (wpAny_pure ?_)))
 exact wpAny_bind (wpAny_mono h (fun binds s₁ h₁=>wpAny_bind (wpAny_mono h₁ (fun env s₂ h₂=>wpAny_bind (wpAny_enterFrame h₂.1 hroom (wpAny_pure (And.intro rfl h₂.2)))) fun _ _ x=>x)) fun _ _ x=>x)
theorem codeG_builtin {id : String} {args : Args} {b : Builtin} (hd : isDec (.builtin id args) = false) (hb : entryFor table id = some b)
  (h : wpG (model prog w) (A.under (.builtin id args)) (b args) (fun fin s'=>match fin with | .done f=>R (.ok f) s' | .again c'=>c'.quiet = true∧codeG (model prog w) A c' R s') s) :
  codeG (model prog w) A (.builtin id args) R s:=by
 refine codeG_of_tree hd ?_
 show wpG _ _ (match entryFor table id with | some b=>b args | none=>unsupported ((withoutEnding? id "#data").getD id)) _ s
 rw [hb];exact h
theorem codeG_call_builtin {id : String} {args : Args} {b : Builtin} (hq : (Code.builtin id args).quiet = true) (hd : isDec (.builtin id args) = false) (hb : entryFor table id = some b)
  (h : wpAny (model prog w) A.in1 (checkBuiltinCall id args) (fun _ s₁=>wpG (model prog w) (A.under (.builtin id args)) (b args)
   (fun fin s'=>match fin with | .done f=>R (.ok f) s' | .again c'=>c'.quiet = true∧codeG (model prog w) A c' R s') s₁) noE s) : codeG (model prog w) A (.call (.builtin id) args) R s:=by
 refine codeG_of_tree rfl ?_
 show wpG _ A.in1 (do checkBuiltinCall id args;again (.builtin id args)) _ s
 exact wpG.pre (wpAny_mono h (fun _ s₁ h₁=>wpG.pure ⟨hq,codeG_builtin hd hb h₁⟩) fun _ _ x=>x)
end
theorem wpG.neg {α : Type} {M : Model} {A : Around} {s : Shared} {c : Prop} [Decidable c] {t e : Sem α} {Q : α→Shared→Prop} (h : ¬ c) (k : wpG M A e Q s) : wpG M A (if c then t else e) Q s:=by rw [if_neg h];exact k
theorem wpG.pos {α : Type} {M : Model} {A : Around} {s : Shared} {c : Prop} [Decidable c] {t e : Sem α} {Q : α→Shared→Prop} (h : c) (k : wpG M A t Q s) : wpG M A (if c then t else e) Q s:=by rw [if_pos h];exact k
theorem anyNeg {α : Type} {M : Model} {A : Around} {s : Shared} {c : Prop} [Decidable c] {t e : Sem α} {Q : α→Shared→Prop} {E : Value→Shared→Prop} (h : ¬ c) (k : wpAny M A e Q E s) : wpAny M A (if c then t else e) Q E s:=by rw [if_neg h];exact k
section
variable {prog : Program} {w : World} {A : Around} {s : Shared} {env : Env}
theorem G_cons {st : Stmt} {rest : List Stmt} {Q : Flow→Shared→Prop} (h : wpG (model prog w) A (exec st env) (fun f s'=>match f with | .next=>wpG (model prog w) A (execs rest env) Q s' | f=>Q f s') s) :
  wpG (model prog w) A (execs (st :: rest) env) Q s:=by
 rw [execs_cons]
 refine wpG.bind (h.mono fun f s' h'=>?_)
 cases f <;> first | exact h' | exact wpG.pure h'
theorem G_nil {Q : Flow→Shared→Prop} (h : Q .next s) : wpG (model prog w) A (execs [] env) Q s:=wpG.of (wpAny_execs_nil h)
theorem G_good {st : Stmt} {rest : List Stmt} {Q : Flow→Shared→Prop} (h : wpAny (model prog w) A (exec st env) (fun f s'=>match f with | .next=>wpG (model prog w) A (execs rest env) Q s' | f=>Q f s') noE s) :
  wpG (model prog w) A (execs (st :: rest) env) Q s:=G_cons (.of h)
theorem G_Expr {e : Expr} {pos : Pos} {Q : Flow→Shared→Prop} (h : wpG (model prog w) A (eval e env) (fun _=>Q .next) s) (hi : interactive env = false) (hs : swapsWith e none pos.line env = pure false) :
  wpG (model prog w) A (exec (.Expr e pos) env) Q s:=by
 rw [exec_Expr env e pos hi hs]
 exact wpG.pre (wpAny_standAt (wpG.bind (h.mono fun v s' h'=>wpG.of (wpAny_dropValue h'))))
theorem G_Assign1 {t value : Expr} {pos : Pos} {Q : Flow→Shared→Prop} (hs : swapsWithSole [t] value pos.line env = pure false) (hw : swappedStores [t] value env = pure none) (he : (assignEach [t] env).map (·.2) = [assign t env])
  (h : wpG (model prog w) A (eval value env) (fun v s₁=>wpAny (model prog w) A (assign t env v) (fun _=>Q .next) noE s₁) s) : wpG (model prog w) A (exec (.Assign [t] value pos) env) Q s:=by
 rw [exec_Assign_arm]
 refine wpG.pre (wpAny_standAt ?_)
 rw [hs]
 refine wpG.pre (wpAny_pure ?_)
 rw [if_neg (by decide)]
 refine wpG.bind (h.mono fun v s₁ h₁=>?_)
 rw [hw]
 refine wpG.pre (wpAny_pure ?_)
 rw [he]
 show wpG _ A (do assignAll v [assign t env];pure .next) Q s₁
 exact wpG.of (wpAny_bind (wpAny_mono h₁ (fun _ _ x=>wpAny_pure x) fun _ _ x=>x))
theorem G_Return {e : Expr} {pos : Pos} {Q : Flow→Shared→Prop} (h : wpG (model prog w) A (eval e env) (fun v=>Q (.ret v)) s) : wpG (model prog w) A (exec (.Return (some e) pos) env) Q s:=fun Γ p hΓ hd nd=>by
 simp only [exec_Return_some,Sem.wp_bind',Sem.wp_cmd_standAt,Sem.wp_pure'];exact h Γ _ hΓ hd nd
theorem G_If {test : Expr} {body orelse : List Stmt} {pos : Pos} {Q : Flow→Shared→Prop}
  (h : wpAny (model prog w) A (isTrue test env (eval test env)) (fun b s₂=>if b then wpG (model prog w) A (execs body env) Q s₂ else wpG (model prog w) A (execs orelse env) Q s₂) noE s) :
  wpG (model prog w) A (exec (.If test body orelse pos) env) Q s:=by
 rw [exec_If]
 refine wpG.pre (wpAny_standAt (wpG.pre (wpAny_mono h (fun b s₂ h₂=>?_) fun _ _ x=>x)))
 cases b <;> exact h₂
theorem G_IfExp {test body orelse : Expr} {pos : Pos} {Q : Value→Shared→Prop}
  (h : wpAny (model prog w) A (isTrue test env (eval test env)) (fun b s₂=>if b then wpG (model prog w) A (eval body env) Q s₂ else wpG (model prog w) A (eval orelse env) Q s₂) noE s) :
  wpG (model prog w) A (eval (.IfExp test body orelse pos) env) Q s:=by
 rw [arm_eval_IfExp]
 refine wpG.pre (wpAny_mono h (fun b s₂ h₂=>?_) fun _ _ x=>x)
 cases b <;> exact h₂
theorem G_spliced1 {x : Sem Value} {Q : List Value→Shared→Prop} (h : wpG (model prog w) A x (fun v=>Q [v]) s) : wpG (model prog w) A (spliced [(false,x)]) Q s:=by
 rw [spliced]
 refine wpG.bind (h.mono fun v s₁ h₁=>?_)
 simp only [Bool.false_eq_true,if_false]
 exact wpG.of (wpAny_bind (wpAny_pure (wpAny_bind (wpAny_holding (spliced_nil (wpAny_pure h₁))))))
theorem G_evalArgs1 {f : Value} {x : Sem Value} {Q : Args→Shared→Prop} (h : wpG (model prog w) A x (fun v s'=>Q ⟨[v],[]⟩ s') s) : wpG (model prog w) A (evalArgs f true [(false,x)] []) Q s:=by
 unfold evalArgs
 show wpG _ A (spliced [(false,x)] >>= _) Q s
 refine wpG.bind ((G_spliced1 (Q:=fun vs s'=>Q ⟨vs,[]⟩ s') h).mono fun vs s' h'=>wpG.holding ?_)
 exact wpG.of (wpAny_bind (wpAny_pure (wpAny_bind (wpAny_pure (wpAny_pure h')))))
theorem G_tail {t : Sem Value} {Q : Value→Shared→Prop} (h : wpG (model prog w) A t Q s) : wpG (model prog w) A (t >>= fun r=>holding [r] point >>= fun _=>pure r) Q s :=
 wpG.bind (h.mono fun _ _ hr=>wpG.of (wpAny_bind (wpAny_holding (wpAny_point (wpAny_pure hr)))))
theorem G_callWith_builtin {pos : Pos} {id : String} {first : List Value} {args : List (Bool × Sem Value)} {Q : Value→Shared→Prop} (hplain : args.any (·.1) = false)
  (h : wpG (model prog w) A (evalArgs (.builtin id) true args []) (fun a s₁=>wpG (model prog w) A (call (.builtin id) (first ++ a.pos) a.kw) Q s₁) s) :
  wpG (model prog w) A (callWith pos (.builtin id) first args []) Q s:=by
 refine wpG.bind (wpG.holding (h.mono fun a s₁ h₁=>wpG.pre (wpAny_standAt ?_)))
 rw [hplain]
 exact wpG.pre (wpAny_pure (G_tail h₁))
theorem G_callWith_type {pos : Pos} {T : String} {first : List Value} {args : List (Bool × Sem Value)} {Q : Value→Shared→Prop} (hplain : args.any (·.1) = false)
  (h : wpG (model prog w) A (evalArgs (.type T) true args []) (fun a s₁=>wpG (model prog w) A (call (.type T) (first ++ a.pos) a.kw) Q s₁) s) :
  wpG (model prog w) A (callWith pos (.type T) first args []) Q s:=by
 refine wpG.bind (wpG.holding (h.mono fun a s₁ h₁=>wpG.pre (wpAny_standAt ?_)))
 rw [hplain]
 exact wpG.pre (wpAny_pure (G_tail h₁))
theorem G_Call_method {o : Expr} {name : Str} {apos pos : Pos} {args : List Expr} {trees : List (Bool × Sem Value)} {Q : Value→Shared→Prop}
  (hbase : attributeBase o name env (eval o env) = eval o env) (htrees : backTo pos (starEach args env) = trees)
  (hfew : methodCallForm (args.length + 0) trees [] = true) (hline : (apos.endLine == pos.line) = true)
  (h : ∀ pl : Sem Bool,wpAny (model prog w) A (eval o env) (fun ov s₁=>wpAny (model prog w) A (getMethod ov name pl) (fun r s₂=>wpG (model prog w) A (callWith pos r.1 r.2 trees []) Q s₂) noE s₁) noE s) :
  wpG (model prog w) A (eval (.Call (.Attribute o name apos) args [] pos) env) Q s:=by
 subst htrees
 rw [arm_eval_Call,hbase]
 obtain ⟨pl,hpl⟩ : ∃ pl,∀ ov,calleeOf true o env ov name = getMethod ov name pl:=⟨_,fun _=>rfl⟩
 refine wpG.pre (wpAny_mono (h pl) (fun ov s₁ h₁=>wpG.pre (wpAny_standAt ?_)) fun _ _ x=>x)
 have hk : backToKw pos (keywordEach [] env) = []:=rfl
 unfold methodCall
 rw [hk]
 have hf : methodCallForm (args.length + ([] : List Keyword).length) (backTo pos (starEach args env)) [] = true:=hfew
 rw [hf,hpl]
 refine wpG.pre (wpAny_holding (wpAny_mono h₁ (fun r s₂ h₂=>?_) fun _ _ x=>x))
 have hpos : methodCallPos true o env apos pos = pure pos:=by unfold methodCallPos;simp [hline]
 rw [hpos]
 exact wpG.pre (wpAny_pure h₂)
theorem G_Call_Name {id : Str} {p pos : Pos} {args : List Expr} {trees : List (Bool × Sem Value)} {Q : Value→Shared→Prop} (htrees : backTo pos (starEach args env) = trees)
  (h : wpAny (model prog w) A (eval (.Name id p) env) (fun f s₁=>wpG (model prog w) A (callWith pos f [] trees []) Q s₁) noE s) :
  wpG (model prog w) A (eval (.Call (.Name id p) args [] pos) env) Q s:=by
 subst htrees
 rw [arm_eval_Call_Name']
 exact wpG.pre h
theorem G_List1 {e : Expr} {pos : Pos} {Q : Value→Shared→Prop} (htrees : backTo pos (starEach [e] env) = [(false,eval e env)])
  (h : wpG (model prog w) A (eval e env) (fun v s₁=>Q (.ref s₁.heap.objs.size) { s₁ with heap:=s₁.heap.push { cls:=.type "list",data:=.seq #[v]}}) s) :
  wpG (model prog w) A (eval (.List [e] pos) env) Q s:=by
 rw [arm_eval_List,htrees]
 refine wpG.pre (wpAny_standAt (wpG.bind (G_spliced1 (h.mono fun v s₁ h₁=>wpG.of ?_))))
 exact wpAny_newList h₁ (Nat.le_of_ble_eq_true rfl)
end
end NG
section NG2
open PySem.Calls
section
variable {prog : Program} {w : World} {A A₀ : Around} {s : Shared} {K : Frag} {L : Addr} {h₀ base : Heap} {m mg mb : Str→Option Value} {news : List (Addr × Obj)} {p : Program} {loose : List Str} {mean : ExcName→Option Value}
theorem code_defG {env : Env} {outer : List Env} {R : Result→Shared→Prop} {name qual : Str} {params : Arguments} {body : List Stmt} {scope : Scope} {dV kV doc pm cdv ct oc : Value} {an od : Option Addr} {osl : Array (Option Value)} {f : Addr} {args : Args} (binds : List (Str × Value))
  (B : Below A₀ base outer h₀) (F : Fr h₀ L s.heap m) (X₀ : K.In h₀) (N : News h₀ L s.heap news) (T : Top p loose mean mg mb h₀) (hA : A.frames = some (env :: outer)) (hf : env.frame = some L) (hke : env.scope.kind = .function)
  (ho : K.lookup f = some ⟨oc,od,.func (fnOf name qual params body scope dV kV doc pm an cdv ct),osl⟩) (hcd : codeIn K cdv qual = true) (hroom : A.depth < recursionLimit)
  (hbind : BindsTo s (fnOf name qual params body scope dV kV doc pm an cdv ct) args binds) (hloc : ∀ y ∈ binds,scope.names.lookup y.1 = some .local)
  (h : ∀ g L' h₁,Fr h₀ L g m→Fr g L' h₁ (fun y=>binds.reverse.lookup y)→News g L' h₁ news→Below A base (env :: outer) g→K.In g→Top p loose mean mg mb g→Kp (news.map (·.1)) s.heap g →
   wpG (model prog w) (A.deeper (envOf qual scope L' f cdv)) (execs body (envOf qual scope L' f cdv))
    (fun fl s'=>LeaveK h₀ L m g R (match fl with | .ret v=>v | _=>.none) s')
    { s with heap:=h₁,toks:=s.toks + binds.length})
  (hco : scope.isCoroutine = false) (hgen : scope.isGenerator = false) (hk : scope.kind = .function)
  (hcell : ∀ x ∈ scope.names,x.2 ≠ .cell) : codeG (model prog w) A (.call (.ref f) args) R s:=by
 refine an4 (groundX (R:=R) B F N hA hf hke) fun FG BG st lv=>?_
 have X:=X₀.keeps F.keep
 refine codeG_call_function (fd:=fnOf name qual params body scope dV kV doc pm an cdv ct) hroom (X _ _ ho) rfl hco hgen rfl (codeRec_of X hcd) (hbind _ _ _ _ ?_)
 refine wpAny_newFunctionEnv hcell hloc (fun h₁ hns hsb=>⟨(T.nolimit.keeps F.keep).fresh _ hsb,codeG_func ?_⟩) hk
 have hk₁ : ∀ b o,s.heap.get? b = some o→h₁.get? b = some o:=fun b o e=>hsb.extBut b o (Nat.ne_of_lt (Heap.lt_size e)) (Heap.get?_push_of_some _ e)
 refine wpG.mono (h _ s.heap.objs.size h₁ FG ⟨hns,fun b o e=>hk₁ b o (of_hideAll _ e),Nat.le_of_eq (hideAll_size _ _)⟩
  (fun q hq=>⟨hk₁ _ _ (N q hq).1,Nat.ne_of_lt (Heap.lt_size (N q hq).1),hideAll_none _ (List.mem_map_of_mem hq)⟩) BG (X₀.keeps st) (T.keeps st) (fun b o e n=>hideAll_get _ e n)) (fun fl s' hl=>lv _ _ hl)
end
section
variable {prog : Program} {w : World} {A : Around} {s : Shared} {env : Env} {h₀ : Heap} {x : Str} {body : List Stmt} {Q : Flow→Shared→Prop} {R : Result→Shared→Prop}
theorem codeG_block {stmts : List Stmt} (h : wpG (model prog w) A (execs stmts env) (fun f s'=>R (.ok f) s') s) : codeG (model prog w) A (.block stmts env) R s:=by
 refine codeG_of_tree rfl ?_
 show wpG _ _ (do return Fin.done (← (execs stmts env).onRaise (fun x=>do noteFrame x env;theTreesLotGoes x))) _ s
 exact wpG.bind (wpG.onRaise (h.mono fun f s' h'=>wpG.pure h'))
theorem codeG_forLoop {target : Expr} {it : Value} {orelse : List Stmt} (I : Nat→Shared→Prop)
  (turn : ∀ n s,I n s→wpAny (model prog w) A (pyNext it) (fun r s₁=>match r with
   | none=>wpG (model prog w) A (execs orelse env) (fun f s₃=>R (.ok f) s₃) s₁
   | some v=>wpAny (model prog w) A (assign target env v) (fun _ s₂=>wpG (model prog w) A (execs body env) (fun f s₃=>match f with
     | .next | .cont=>∃ m,m < n∧I m s₃
     | .brk=>R (.ok .next) s₃
     | .ret v=>R (.ok (.ret v)) s₃) s₂) noE s₁) noE s)
  (n : Nat) (h : I n s) (ht : ∀ v,letOwnedTupleGo target it v = pure ()) : codeG (model prog w) A (.forLoop target it body orelse env) R s:=by
 induction n using Nat.strongRecOn generalizing s with
 | ind n ih =>
  refine codeG_of_tree rfl ?_
  show wpG _ _ ((forTurn target it body orelse env).onRaise (fun x=>do noteFrame x env;theTreesLotGoes x)) _ s
  refine wpG.onRaise ?_
  simp only [forTurn]
  refine wpG.pre (wpAny_standAt (wpG.pre (wpAny_onRaise (wpAny_mono (turn n s h) (fun r s₁ h₁=>?_) fun _ _ h'=>h'.elim))))
  cases r with
  | none=>exact wpG.pure ⟨rfl,codeG_block h₁⟩
  | some v =>
   refine wpG.pre (wpAny_of_eq (ht v) ?_)
   refine wpG.pre (wpAny_mono h₁ (fun _ s₂ h₂=>wpG.bind (h₂.mono fun f s₃ h₃=>?_)) fun _ _ h'=>h')
   cases f with
   | next=>obtain ⟨k,hk,hI⟩:=h₃;exact wpG.pure ⟨rfl,ih k hk hI⟩
   | cont=>obtain ⟨k,hk,hI⟩:=h₃;exact wpG.pure ⟨rfl,ih k hk hI⟩
   | brk=>exact wpG.pure h₃
   | ret v=>exact wpG.pure h₃
theorem G_For {target iter : Expr} {orelse : List Stmt} {pos : Pos} (hs : ∀ x,foldedSetIterable iter env x = pure x)
  (h : wpAny (model prog w) A (eval iter env) (fun xv s₁=>wpAny (model prog w) A (pyIter xv) (fun it s₂=>codeG (model prog w) A (.forLoop target it body orelse env) (OkG Q) s₂) noE s₁) noE s) :
  wpG (model prog w) A (exec (.For target iter body orelse pos) env) Q s:=by
 rw [exec_For]
 exact wpG.pre (wpAny_standAt (wpG.pre (wpAny_mono h (fun x s₁ h₁=>wpG.pre (wpAny_of_eq (hs x) (wpG.pre (wpAny_standAt (wpG.pre (wpAny_holding (wpAny_mono h₁ (fun it s₂ h₂=>wpG_runOwn h₂) fun _ _ h'=>h'))))))) fun _ _ h'=>h')))
end
open kc in
theorem c_21 : s_21 A prog w h₀ s xX1 env body QX2 I fp P m₀ news storedX1 J px:=by
 intro n St hx hp W hIo hLf hI hnw hst F N hj turn done
 have hIf : I ∈ fp:=W.sub I (List.mem_singleton.mpr rfl)
 have hLI : env.locals ≠ I:=fun e=>hLf (e ▸ hIf)
 refine codeG_forLoop (fun k s'=>∃ h' tk m' news' i,s' = { s with heap:=h',toks:=tk}∧St i h'∧Fr h₀ env.locals h' m'∧(∀ y,y ≠ xX1→storedX1.contains y = false→m' y = m₀ y)∧News h₀ env.locals h' news'∧(∀ p ∈ news',p.1 ≠ I)∧J i news'∧i ≤ n∧k = n + 1 - i)
  ?_ (n + 1) ⟨s.heap,s.toks,m₀,news,0,rfl,hst,F,fun _ _ _=>rfl,N,hnw,hj,Nat.zero_le _,rfl⟩ (by intro _;rfl)
 rintro k s' ⟨h',tk,m',news',i,rfl,hst',F',hm',N',hnw',hJ,hi,rfl⟩
 have next : ∀ h₁ : Heap,(∀ b o,b ∉ [I]→h'.get? b = some o→h₁.get? b = some o)→Fr h₀ env.locals h₁ m'∧News h₀ env.locals h₁ news':=fun h₁ hk₁ =>
  ⟨⟨F'.ns.at' fun o e=>hk₁ _ o (by simpa using hLI) e,fun b o e=>hk₁ b o (fun q=>by rw [List.mem_singleton.mp q,hI] at e;cases e) (F'.keep b o e),F'.above⟩,fun p hp=>⟨hk₁ _ _ (by simpa using hnw' p hp) (N' p hp).1,(N' p hp).2⟩⟩
 by_cases hlt : i < n
 ·refine W.item i _ _ _ hlt hst' fun v h₁ tk₁ hP hst₁ hk₁=>?_
  refine an2 (next h₁ hk₁) fun F₁ N₁=>?_
  refine wpAny_assign_Name (wpAny_storeName_local hx F₁.ns (fun h₂ hn₂ hs₂=>?_) hp)
  have F₂:=F₁.set hn₂ hs₂
  have Nown : News h₀ env.locals h₂ (ownOf h₀ fp h₂):=news_ownOf hLf
  have hst₂ : St (i + 1) h₂:=W.frame _ _ _ hst₁ fun b hb o e=>(hs₂.2 b fun q=>hLf (q ▸ hb)).trans e
  refine ex1 (hIo _ _ hst₂) fun oI heI=>?_
  have hmI : (I,oI) ∈ ownOf h₀ fp h₂:=mem_ownOf hIf hI heI
  have e : (fun y=>if y = xX1 then some v else m' y) = fun y=>if y = xX1 then some v else if storedX1.contains y then m' y else m₀ y:=by
   funext y
   by_cases h1 : y = xX1
   ·simp only [if_pos h1]
   ·simp only [if_neg h1]
    cases h2 : storedX1.contains y with
    | true=>rfl
    | false=>exact hm' y h1 h2
  rw [e] at F₂
  have step : ∀ s₃,TurnT h₀ env.locals I xX1 storedX1 m₀ (J (i + 1)) (ownOf h₀ fp h₂) { s with heap:=h₂,toks:=tk₁ + 1} s₃ →
    ∃ k,k < n + 1 - i∧∃ h' tk m' news' i,s₃ = { s with heap:=h',toks:=tk}∧St i h'∧Fr h₀ env.locals h' m'∧(∀ y,y ≠ xX1→storedX1.contains y = false→m' y = m₀ y)∧News h₀ env.locals h' news'∧(∀ p ∈ news',p.1 ≠ I)∧J i news'∧i ≤ n∧k = n + 1 - i:=by
   rintro s₃ ⟨h₃,tk₃,m₃,news₃,all,rfl,F₃,N₃,sub,osub,hI₃,hm₃,hJ₃⟩
   refine ⟨n + 1 - (i + 1),by omega,h₃,tk₃,m₃,news₃,i + 1,rfl,?_,F₃,hm₃,fun p hp=>N₃ p (sub p hp),hI₃,hJ₃,hlt,rfl⟩
   refine W.frame _ _ _ hst₁ fun b hb o e=>?_
   have e₂ : h₂.get? b = some o:=(hs₂.2 b fun q=>hLf (q ▸ hb)).trans e
   cases hn : h₀.get? b with
   | some o₀ =>
    have : o₀ = o:=by have:=F₂.keep b o₀ hn;rw [e₂] at this;exact (Option.some.inj this).symm
    exact this ▸ F₃.keep b o₀ hn
   | none=>exact (N₃ _ (osub _ (mem_ownOf hb hn e₂))).1
  refine wpG.mono (turn i v m' news' (ownOf h₀ fp h₂) h₂ (tk₁ + 1) hlt hP hJ ownOf_sub ⟨oI,hmI⟩ hnw' F₂ ((N₁.set hs₂).append Nown)) fun f s₃ h₃=>?_
  cases f with
  | ret v=>exact h₃
  | brk=>exact h₃
  | cont=>exact step _ h₃
  | next=>exact step _ h₃
 ·have hin : i = n:=by omega
  subst hin
  refine W.done _ _ _ hst' fun h₁ tk₁ hk₁=>G_nil ?_
  refine an2 (next h₁ hk₁) fun F₁ N₁=>?_
  have e : (fun y=>if y = xX1 then m' y else if storedX1.contains y then m' y else m₀ y) = m':=by
   funext y
   by_cases h1 : y = xX1
   ·simp only [if_pos h1]
   ·simp only [if_neg h1]
    cases h2 : storedX1.contains y with
    | true=>rfl
    | false=>exact (hm' y h1 h2).symm
  exact done m' news' h₁ tk₁ hJ (by rw [e];exact F₁) N₁
theorem u22 : upto 22:=hk @c_21 u21 (by with_unfolding_all exact rfl)
open kc in
theorem loopG {A prog w h₀ s xX1 env body QX2 I fp P m₀ news storedX1 J px} : s_21 A prog w h₀ s xX1 env body QX2 I fp P m₀ news storedX1 J px:=@hkT _ u22 (by k_extra "T") _ (by exact rfl)
section
variable {prog : Program} {w : World} {A : Around} {s : Shared} {env : Env} {h₀ : Heap} {x : Str} {body : List Stmt} {Q : Flow→Shared→Prop} {R : Result→Shared→Prop}
theorem iterG_seq {px : Pos} {ax : Addr} {its : List Value} {m₀ : Str→Option Value} {news : List (Addr × Obj)} (stored : List Str) (J : Nat→List (Addr × Obj)→Prop)
  (hx : env.kindOf x = some .local) (hp : (env.scope.kind == .class || (env.scope.kind == .module && env.locals != env.globals)) = false)
  (hh : A.handled = none) (hl : s.heap.IsList ax its.toArray ∨ s.heap.IsTuple ax its.toArray) (hax : ax ≠ env.locals) (F : Fr h₀ env.locals s.heap m₀) (N : News h₀ env.locals s.heap news) (hj : J 0 news)
  (turn : ∀ i v (u : Str→Option Value) I news₁ own h tk,its[i]? = some v→J i news₁→(∀ p ∈ own,p.1 = I ∨ p.1 = ax)→(∃ o,(I,o) ∈ own)→(∀ p ∈ news₁,p.1 ≠ I)→ax ≠ I →
   Fr h₀ env.locals h (fun y=>if y = x then some v else if stored.contains y then u y else m₀ y)→News h₀ env.locals h (news₁ ++ own) →
   wpG (model prog w) A (execs body env) (TurnP h₀ env.locals I x stored m₀ (J (i + 1)) own { s with heap:=h,toks:=tk} Q) { s with heap:=h,toks:=tk})
  (done : ∀ (u : Str→Option Value) news₁ h tk,J its.length news₁→Fr h₀ env.locals h (fun y=>if y = x then u y else if stored.contains y then u y else m₀ y)→News h₀ env.locals h news₁→Q .next { s with heap:=h,toks:=tk}) :
  wpAny (model prog w) A (pyIter (.ref ax)) (fun it s₂=>codeG (model prog w) A (.forLoop (.Name x px) it body [] env) (OkG Q) s₂) noE s:=by
 have hlt : ax < s.heap.objs.size:=by rcases hl with ⟨o,e,_⟩ | ⟨o,e,_⟩ <;> exact Heap.lt_size e
 have hne : ax ≠ s.heap.objs.size:=Nat.ne_of_lt hlt
 have hL : env.locals ∉ [s.heap.objs.size,ax]:=fun hm=>by
  rcases List.mem_cons.mp hm with e | hm
  ·exact absurd F.ns.lt (e ▸ Nat.lt_irrefl _)
  ·exact hax (List.mem_singleton.mp hm).symm
 have own2 : ∀ {own : List (Addr × Obj)},(∀ p ∈ own,p.1 ∈ [s.heap.objs.size,ax])→∀ p ∈ own,p.1 = s.heap.objs.size ∨ p.1 = ax:=fun h p hp=>by
  rcases List.mem_cons.mp (h p hp) with e | e
  ·exact .inl e
  ·exact .inr (List.mem_singleton.mp e)
 have sz : its.toArray.size = its.length:=by simp
 rcases hl with hl | hl
 ·refine wpAny_pyIter_list hl ?_
  have W:=Walks.list (prog:=prog) (w:=w) hh s.heap.objs.size ax hne its.toArray
  rw [sz] at W
  refine loopG (s:={ s with heap:=_}) (storedX1:=stored) (J:=J) hx hp W (fun i h st=>by obtain ⟨o,e,_⟩:=st.1;exact ⟨o,e⟩) hL (next_is_new F) (fun p hp=>Nat.ne_of_lt (Heap.lt_size (N p hp).1)) ⟨⟨_,Heap.get?_push_size _ rfl,rfl,rfl⟩,hl.at fun o e=>Heap.get?_push_of_some _ e⟩ (F.push _)
   (fun p hp=>⟨Heap.get?_push_of_some _ (N p hp).1,(N p hp).2⟩) hj ?_ done
  exact fun i v u news₁ own h tk hi hP hJ ho hio hI F' N'=>turn i v u _ news₁ own h tk (by simpa using hP) hJ (own2 ho) hio hI hne F' N'
 ·refine wpAny_pyIter_tuple hl ?_
  have W:=Walks.tuple (prog:=prog) (w:=w) hh s.heap.objs.size ax hne its.toArray
  rw [sz] at W
  refine loopG (s:={ s with heap:=_}) (storedX1:=stored) (J:=J) hx hp W (fun i h st=>by obtain ⟨o,e,_⟩:=st.1;exact ⟨o,e⟩) hL (next_is_new F) (fun p hp=>Nat.ne_of_lt (Heap.lt_size (N p hp).1)) ⟨⟨_,Heap.get?_push_size _ rfl,rfl,rfl⟩,hl.at fun o e=>Heap.get?_push_of_some _ e⟩ (F.push _)
   (fun p hp=>⟨Heap.get?_push_of_some _ (N p hp).1,(N p hp).2⟩) hj ?_ done
  exact fun i v u news₁ own h tk hi hP hJ ho hio hI F' N'=>turn i v u _ news₁ own h tk (by simpa using hP) hJ (own2 ho) hio hI hne F' N'
end
end NG2
section NG3
open PySem.Calls
section
variable {prog : Program} {w : World} {A : Around} {K : Frag} {C : Addr} {R : Result→Shared→Prop} {h : Heap} {g : Array GenState} {d : Drawn} {t : Nat} {os : OsState}
end
open kc in
theorem c_22 : s_22 A h rest prog w R C kw init:=by
 intro g d t os Y hi hb hne hq
 have Y':=Y
 obtain ⟨⟨oc,od,cd,sl,hC,e1,e2,e4⟩,made,base,self,top,call,typ⟩:=Y
 refine codeG_of_tree rfl (.of ?_)
 show wpAny _ _ (callAny (.ref C) _) _ _ _
 refine nd_load hC ?_
 show wpAny _ _ (callAny.viaDunder (.ref C) _) _ _ _
 unfold callAny.viaDunder
 refine wpAny_bind (call.at ?_)
 dsimp only
 rw [tc_bind]
 refine wpAny_bind (wpAny_pure (wpAny_bind (wpAny_pure ?_)))
 refine wpAny_pure (a:=Fin.again (.call (.builtin "type.__call__") ⟨.ref C :: rest,kw⟩)) (And.intro rfl ?_)
 refine codeG_call_builtin (Code.quiet_builtin _ (by decide +kernel)) (by show Builtin.Bytes.decodersThatHold.contains "type.__call__" = false;decide +kernel) entry_typeCall (check_slot tc_kind tc_split typ (tc_args _ _ _) ?_)
 have hm : Looks (model prog w) h (mroOf (.ref C)) cd.mro:=((Looks.ld (part:=none) hC).andThen .now).andThen .now
 unfold Builtin.«type.__call__»
 have k : ∀ b o,h.get? b = some o→((h.push emptyDict).push (instObj C h.objs.size)).get? b = some o:=fun b o e=>Heap.get?_push_of_some _ (Heap.get?_push_of_some _ e)
 have hx : ((h.push emptyDict).push (instObj C h.objs.size)).get? (h.objs.size + 1) = some (instObj C h.objs.size):=by heap_get
 have t1 : Looks (model prog w) ((h.push emptyDict).push (instObj C h.objs.size)) (typeOf (.ref (h.objs.size + 1))) (.ref C):=(Looks.ld hx).andThen .now
 have s1:=self.keeps k
 have i1:=hi.keeps k
 have b1:=(hb (.ref (h.objs.size + 1))).keeps k
 show wpG _ _ (mroOf (.ref C) >>= _) _ _
 refine wpG.pre (hm.at ?_)
 first | refine wpG.neg (by decide) ?_ | refine anyNeg (by decide) ?_ | refine wpG.pos (by decide) ?_ | refine anyPos (by decide) ?_ | simp only [e4,Bool.false_eq_true,if_false]
 show wpG _ _ (Bind.madeBy (.ref C) >>= _) _ _
 refine wpG.pre (made.at ?_)
 show wpG _ _ (holding [_] (PySem.call (.builtin "object.__new__") (.ref C :: rest) kw) >>= _) _ _
 refine wpG.pre (wpAny_holding (wpAny_call (new_K Y' hi (.inl hne) ?_)))
 show wpG _ _ (isInstance (.ref (h.objs.size + 1)) (.ref C) >>= _) _ _
 have i0 : Looks (model prog w) ((h.push emptyDict).push (instObj C h.objs.size)) (isInstance (.ref (h.objs.size + 1)) (.ref C)) true:=t1.andThen s1
 refine wpG.pre (i0.at ?_)
 first | refine wpG.neg (by decide) ?_ | refine anyNeg (by decide) ?_ | refine wpG.pos (by decide) ?_ | refine anyPos (by decide) ?_ | simp only [Bool.not_true,Bool.false_eq_true,if_false]
 show wpG _ _ (holding [_] (callSpecial? (.ref (h.objs.size + 1)) "__init__" rest kw) >>= _) _ _
 refine wpG.bind (wpG.holding ?_)
 have sp : Looks (model prog w) ((h.push emptyDict).push (instObj C h.objs.size)) (specialOf (.ref (h.objs.size + 1)) "__init__") (some init):=t1.andThen i1
 unfold callSpecial?
 refine wpG.pre (sp.at ?_)
 dsimp only
 refine wpG.holding (wpG.pre (b1.at ?_))
 dsimp only
 refine wpG.bind (wpG_call (codeG.mono hq fun r s' z=>?_))
 rcases r with e | (_ | _ | _ | v) <;> first | exact z.elim | skip
 obtain ⟨rfl,z⟩:=z
 refine wpG.pure ?_
 exact wpG.pure z
theorem u23 : upto 23:=hk @c_22 u22 (by with_unfolding_all exact rfl)
open kc in
theorem make_coreG {A h rest prog w R C kw init} : s_22 A h rest prog w R C kw init:=@hkT _ u23 (by k_extra "T") _ (by exact rfl)
section
variable {prog : Program} {w : World} {A : Around} {K : Frag} {C : Addr} {R : Result→Shared→Prop} {h : Heap} {g : Array GenState} {d : Drawn} {t : Nat} {os : OsState}
theorem make_KG {s : Shared} {h₀ : Heap} {L : Addr} {m : Str→Option Value} {news : List (Addr × Obj)} {rest : List Value} {kw : List (Str × Value)} {fI : Addr} (F : Fr h₀ L s.heap m) (N : News h₀ L s.heap news) (X : K.In s.heap) (hm : makesIn K C = true)
  (hi : findIn K (.ref C) "__init__" = some (some (.ref fI))) (hf : typeIn K (.ref fI) = some (.type "function"))
  (h : ∀ x dx h',Fr h₀ L h' m→News h₀ L h' ((x,instObj C dx) :: (dx,emptyDict) :: news)→(∀ p ∈ news,p.1 < dx)→dx < x →
   codeG (model prog w) (A.under (.builtin "type.__call__" ⟨.ref C :: rest,kw⟩)) (.call (.ref fI) ⟨.ref x :: rest,kw⟩) (InitG x R) { s with heap:=h'}) :
  codeG (model prog w) A (.call (.ref C) ⟨rest,kw⟩) R s:=by
 obtain ⟨hh,g,d,t,os⟩:=s
 refine make_coreG (makes_of X hm) (looks_findIn X hi) (fun self=>bind_fn X self hf) rfl (h _ hh.objs.size _ ((F.push _).push _) ?_ (fun p hp=>Heap.lt_size (N p hp).1) (Nat.lt_succ_self _))
 have:=(N.push F emptyDict).push (F.push _) (instObj C hh.objs.size)
 rwa [Heap.size_push] at this
end
end NG3
section NG4
open PySem.Calls
theorem ba_mro : mroOf (.type "bytearray") = pure [.type "bytearray",.type "object"]:=by rw [mroOf_type];kernel_rfl
theorem ba_lookup_new : typeLookup (.type "bytearray") "__new__" = pure (some (.builtin "bytearray.__new__")):=by rw [typeLookup_type,builtinLookup_eq_fast];kernel_rfl
theorem ba_made : Bind.madeBy (.type "bytearray") = pure (some "bytearray.__new__"):=madeBy_type ba_mro ba_lookup_new (by decide +kernel)
theorem ba_sub : isSubtype (.type "bytearray") (.type "bytearray") = pure true:=by rw [isSubtype_type];kernel_rfl
theorem ba_slot_init : Slot "bytearray" "__init__" "bytearray.__init__" :=
 .of (owner := "bytearray") (n := "__init__") (by rw [typeLookup_type,builtinLookup_eq_fast];kernel_rfl) (by decide +kernel) (by decide +kernel) (by decide +kernel)
  (by first | exact .inl (by decide +kernel) | exact .inr (by decide +kernel)) (by rw [isSubtype_type];kernel_rfl)
theorem ba_slot_extend : Slot "bytearray" "extend" "bytearray.extend" :=
 .of (owner := "bytearray") (n := "extend") (by rw [typeLookup_type,builtinLookup_eq_fast];kernel_rfl) (by decide +kernel) (by decide +kernel) (by decide +kernel)
  (by first | exact .inl (by decide +kernel) | exact .inr (by decide +kernel)) (by rw [isSubtype_type];kernel_rfl)
theorem ba_slot_len : Slot "bytearray" "__len__" "bytearray.__len__" :=
 .of (owner := "bytearray") (n := "__len__") (by rw [typeLookup_type,builtinLookup_eq_fast];kernel_rfl) (by decide +kernel) (by decide +kernel) (by decide +kernel)
  (by first | exact .inl (by decide +kernel) | exact .inr (by decide +kernel)) (by rw [isSubtype_type];kernel_rfl)
theorem ba_typeCall : checkTypeCall "bytearray" ⟨[],[]⟩ = pure ():=by kernel_rfl
theorem ba_newCall : checkBuiltinCall "bytearray.__new__" ⟨[.type "bytearray"],[]⟩ = pure ():=by kernel_rfl
theorem ba_entry_new : entryFor table "bytearray.__new__" = some Builtin.«list.__new__»:=entryFor_alias (id' := "list.__new__") (by kernel_rfl) (by decide +kernel) (by decide +kernel) (by kernel_rfl)
theorem ba_entry_init : entryFor table "bytearray.__init__" = some Builtin.«bytearray.__init__»:=by first | exact entryFor_of_tree (by kernel_rfl) | exact entryFor_of_fast (by kernel_rfl)
theorem ba_entry_extend : entryFor table "bytearray.extend" = some Builtin.«bytearray.extend»:=by first | exact entryFor_of_tree (by kernel_rfl) | exact entryFor_of_fast (by kernel_rfl)
theorem ba_entry_len : entryFor table "bytearray.__len__" = some Builtin.«bytearray.__len__»:=by first | exact entryFor_of_tree (by kernel_rfl) | exact entryFor_of_fast (by kernel_rfl)
theorem ba_plain_new : plainId "bytearray.__new__" = true:=by decide +kernel
theorem ba_owner : Manifest.owners.lookup (String.ofList ['y','a','r','r','a','e','t','y','b'].reverse) = some Manifest.sig_bytearray:=by kernel_rfl
theorem ba_args_init (a : Value) : argsOk "bytearray.__init__" ⟨[a],[]⟩:=by
 unfold argsOk;rw [signature?_of (id := "bytearray.__init__") (n:=['_','_','t','i','n','i','_','_']) (o:=['y','a','r','r','a','e','t','y','b']) (by kernel_rfl) ba_owner];kernel_rfl
theorem ba_args_extend (a b : Value) : argsOk "bytearray.extend" ⟨[a,b],[]⟩:=by
 unfold argsOk;rw [signature?_of (id := "bytearray.extend") (n:=['d','n','e','t','x','e']) (o:=['y','a','r','r','a','e','t','y','b']) (by kernel_rfl) ba_owner];kernel_rfl
theorem ba_args_len (a : Value) : argsOk "bytearray.__len__" ⟨[a],[]⟩:=by
 unfold argsOk;rw [signature?_of (id := "bytearray.__len__") (n:=['_','_','n','e','l','_','_']) (o:=['y','a','r','r','a','e','t','y','b']) (by kernel_rfl) ba_owner];kernel_rfl
theorem ba_plainAttrs : PlainAttrs "bytearray" :=
 ⟨⟨"bytearray.__getattribute__",by rw [typeLookup_type,builtinLookup_eq_fast];kernel_rfl,by decide +kernel⟩,by rw [typeLookup_type,builtinLookup_eq_fast];kernel_rfl⟩
theorem ba_type_extend : typeOf (.builtin "bytearray.extend") = pure (.type "method_descriptor"):=by show builtinType _ = _;rw [builtinType_eq_fast];kernel_rfl
theorem ba_release : typeLookup (.type "bytearray") "__release_buffer__" = pure (some (.builtin "bytearray.__release_buffer__")):=by rw [typeLookup_type,builtinLookup_eq_fast];kernel_rfl
theorem ba_buffer : typeLookup (.type "bytearray") "__buffer__" = pure (some (.builtin "bytearray.__buffer__")):=by rw [typeLookup_type,builtinLookup_eq_fast];kernel_rfl
theorem by_release : typeLookup (.type "bytes") "__release_buffer__" = pure none:=by rw [typeLookup_type,builtinLookup_eq_fast];kernel_rfl
theorem by_buffer : typeLookup (.type "bytes") "__buffer__" = pure (some (.builtin "bytes.__buffer__")):=by rw [typeLookup_type,builtinLookup_eq_fast];kernel_rfl
theorem ba_no_bytes : typeLookup (.type "bytearray") "__bytes__" = pure none:=by rw [typeLookup_type,builtinLookup_eq_fast];kernel_rfl
theorem ba_no_index : typeLookup (.type "bytearray") "__index__" = pure none:=by rw [typeLookup_type,builtinLookup_eq_fast];kernel_rfl
theorem by_sub : isSubtype (.type "bytes") (.type "bytes") = pure true:=by rw [isSubtype_type];kernel_rfl
theorem ends_ba_rel : ("bytearray.__release_buffer__".endsWith ("." ++ "__release_buffer__")) = true:=by decide +kernel
theorem ends_ba_buf : ("bytearray.__buffer__".endsWith ("." ++ "__buffer__")) = true:=by decide +kernel
theorem ends_by_buf : ("bytes.__buffer__".endsWith ("." ++ "__buffer__")) = true:=by decide +kernel
theorem drop_ba_rel : "bytearray.__release_buffer__".dropRight ("__release_buffer__".length + 1) = "bytearray" := by decide +kernel
theorem drop_ba_buf : "bytearray.__buffer__".dropRight ("__buffer__".length + 1) = "bytearray" := by decide +kernel
theorem drop_by_buf : "bytes.__buffer__".dropRight ("__buffer__".length + 1) = "bytes" := by decide +kernel
theorem ba_owner_new : ("bytearray.__new__".splitOn ".__new__").headD "" = "bytearray" := by simp +decide [String.splitOn,String.splitOnAux]
theorem no_guard {x id : String} {args : Args} (hx : guardIds.contains x = true) (hg : (Code.builtin id args).isGuard = false) : id ≠ x:=fun e=>by
 subst e
 have h : guardIds.contains id = false:=hg
 rw [hx] at h
 cases h
theorem not_exported {self : Value} {c : Code} {p : Pos} (hg : c.isGuard = false) (hd : isDec c = false) : (match (c,p) with
  | (.builtin "bytearray.__contains__" ⟨v :: _,_⟩,_) | (.builtin "bytearray.__mod__" ⟨v :: _,_⟩,_)
  | (.builtin "bytearray.__rmod__" ⟨_ :: v :: _,_⟩,_) | (.builtin "_struct.pack_into.held" ⟨v :: _,_⟩,_)=>Builtin.Bytes.sameRef v self
  | (.builtin "bytearray.find.held" ⟨_ :: _ :: held,_⟩,_)=>held.any (Builtin.Bytes.sameRef self)
  | (.builtin id ⟨v :: _,_⟩,_)=>Builtin.Bytes.sameRef v self && Builtin.Bytes.decodersThatHold.contains id
  | _=>false) = false:=by
 cases c with
 | builtin id args =>
  obtain ⟨pos,kw⟩:=args
  have n1 : id ≠ "bytearray.__contains__" := no_guard (by decide +kernel) hg
  have n2 : id ≠ "bytearray.__mod__" := no_guard (by decide +kernel) hg
  have n3 : id ≠ "bytearray.__rmod__" := no_guard (by decide +kernel) hg
  have n4 : id ≠ "_struct.pack_into.held" := no_guard (by decide +kernel) hg
  have n5 : id ≠ "bytearray.find.held" := no_guard (by decide +kernel) hg
  have hd' : Builtin.Bytes.decodersThatHold.contains id = false:=hd
  cases pos with
  | nil=>delta Mine.not_exported.match_1;exact (dif_neg n1).trans ((dif_neg n2).trans ((dif_neg n3).trans ((dif_neg n4).trans (dif_neg n5))))
  | cons v r=>delta Mine.not_exported.match_1;exact (dif_neg n1).trans ((dif_neg n2).trans ((dif_neg n3).trans ((dif_neg n4).trans ((dif_neg n5).trans (by show (_ && _) = false;rw [hd',Bool.and_false])))))
 | _=>rfl
theorem wpG_exported {M : Model} {A : Around} {s : Shared} {self : Value} {Q : Bool→Shared→Prop} (hA : A.guards = some []) (h : Q false s) : wpG M A (Builtin.Bytes.exported self) Q s:=fun Γ p hΓ hd nd=>by
 have hg:=hΓ.2.2.2.1 [] hA
 rw [List.append_eq_nil_iff] at hg
 have g1 : Γ.code.isGuard = false:=by
  cases z : Γ.code.isGuard with
  | false=>rfl
  | true=>have:=hg.1;simp [Code.guards,z] at this
 have gl : ∀ l : List (Code × Pos),guardsOf l = []→∀ x ∈ l,x.1.isGuard = false:=fun l e x hx=>by
  cases z : x.1.isGuard with
  | false=>rfl
  | true =>
   have : x.1 ∈ guardsOf l:=List.mem_filter.mpr ⟨List.mem_map_of_mem hx,z⟩
   rw [e] at this;cases this
 have no : ∀ (f : Code × Pos→Bool),(∀ c p,c.isGuard = false→isDec c = false→f (c,p) = false)→((Γ.code,p) :: Γ.below).any f = false:=fun f hf=>by
  rw [List.any_cons,hf _ _ g1 hd,Bool.false_or,List.any_eq_false]
  intro x hx
  rw [show f x = f (x.1,x.2) from rfl,hf _ _ (gl _ hg.2 x hx) (nd x hx)]
  exact Bool.false_ne_true
 unfold Builtin.Bytes.exported
 show Q (((Γ.code,p) :: Γ.below).any _) s
 rw [no _ fun c p h1 h2=>not_exported h1 h2]
 exact h
end NG4
section NG5
open PySem.Calls
section
variable {M : Model} {A : Around} {E : Value→Shared→Prop} {s : Shared} {a : Addr} {b : Array UInt8} {t : Tok}
theorem ba_own_rel {Q : Bool→Shared→Prop} (hT : s.TypeIs (.ref a) "bytearray") (h : Q true s) : wpAny M A (Builtin.Bytes.slotIsOwn (.ref a) "__release_buffer__") Q E s:=by
 unfold Builtin.Bytes.slotIsOwn
 refine wpAny_bind (wpAny_specialOf hT ba_release ?_)
 dsimp only
 rw [ends_ba_rel,drop_ba_rel]
 first | refine wpG.neg (by decide) ?_ | refine anyNeg (by decide) ?_ | refine wpG.pos (by decide) ?_ | refine anyPos (by decide) ?_ | simp only [Bool.not_true,Bool.false_eq_true,if_false]
 exact wpAny_isInstance hT ba_sub h
theorem ba_own_buf {Q : Bool→Shared→Prop} (hT : s.TypeIs (.ref a) "bytearray") (h : Q true s) : wpAny M A (Builtin.Bytes.slotIsOwn (.ref a) "__buffer__") Q E s:=by
 unfold Builtin.Bytes.slotIsOwn
 refine wpAny_bind (wpAny_specialOf hT ba_buffer ?_)
 dsimp only
 rw [ends_ba_buf,drop_ba_buf]
 first | refine wpG.neg (by decide) ?_ | refine anyNeg (by decide) ?_ | refine wpG.pos (by decide) ?_ | refine anyPos (by decide) ?_ | simp only [Bool.not_true,Bool.false_eq_true,if_false]
 exact wpAny_isInstance hT ba_sub h
theorem by_own_rel {Q : Bool→Shared→Prop} (h : Q true s) : wpAny M A (Builtin.Bytes.slotIsOwn (.bytes b t) "__release_buffer__") Q E s:=by
 unfold Builtin.Bytes.slotIsOwn
 refine wpAny_bind (wpAny_specialOf (PySem.W.typeIs_bytes _ _ _) by_release ?_)
 exact wpAny_pure h
theorem by_own_buf {Q : Bool→Shared→Prop} (h : Q true s) : wpAny M A (Builtin.Bytes.slotIsOwn (.bytes b t) "__buffer__") Q E s:=by
 unfold Builtin.Bytes.slotIsOwn
 refine wpAny_bind (wpAny_specialOf (PySem.W.typeIs_bytes _ _ _) by_buffer ?_)
 dsimp only
 rw [ends_by_buf,drop_by_buf]
 first | refine wpG.neg (by decide) ?_ | refine anyNeg (by decide) ?_ | refine wpG.pos (by decide) ?_ | refine anyPos (by decide) ?_ | simp only [Bool.not_true,Bool.false_eq_true,if_false]
 exact wpAny_isInstance (PySem.W.typeIs_bytes _ _ _) by_sub h
theorem ba_rel {Q : Bool→Shared→Prop} (hT : s.TypeIs (.ref a) "bytearray") (h : Q false s) : wpAny M A (Builtin.Bytes.ownRelease (.ref a)) Q E s:=by
 unfold Builtin.Bytes.ownRelease
 exact wpAny_bind (ba_own_rel hT (wpAny_pure h))
theorem by_rel {Q : Bool→Shared→Prop} (h : Q false s) : wpAny M A (Builtin.Bytes.ownRelease (.bytes b t)) Q E s:=by
 unfold Builtin.Bytes.ownRelease
 exact wpAny_bind (by_own_rel (wpAny_pure h))
theorem ba_payload {Q : Array UInt8→Shared→Prop} (ha : s.heap.get? a = some (baObj b)) (h : Q b s) : wpAny M A (Builtin.Bytes.payload (.ref a)) Q E s:=by
 unfold Builtin.Bytes.payload Builtin.Bytes.payload?
 refine wpAny_bind (wpAny_bind (wpAny_load ha ?_))
 exact wpAny_pure (wpAny_pure h)
theorem by_payload {Q : Array UInt8→Shared→Prop} (h : Q b s) : wpAny M A (Builtin.Bytes.payload (.bytes b t)) Q E s:=by
 unfold Builtin.Bytes.payload Builtin.Bytes.payload?
 exact wpAny_bind (wpAny_pure (wpAny_pure h))
theorem ba_buf {id : String} {full : Bool} {Q : Option (Array UInt8)→Shared→Prop} (ha : s.heap.get? a = some (baObj b)) (h : Q (some b) s) : wpAny M A (Builtin.Bytes.buffer? id (.ref a) full) Q E s:=by
 have hT : s.TypeIs (.ref a) "bytearray" := ⟨_,ha,rfl⟩
 unfold Builtin.Bytes.buffer?
 refine wpAny_bind (wpAny_specialOf hT ba_buffer ?_)
 dsimp only
 refine wpAny_bind (ba_own_buf hT ?_)
 first | refine wpG.neg (by decide) ?_ | refine anyNeg (by decide) ?_ | refine wpG.pos (by decide) ?_ | refine anyPos (by decide) ?_ | simp only [Bool.not_true,Bool.false_eq_true,if_false]
 refine wpAny_bind (wpAny_specialOf hT ba_buffer ?_)
 (try dsimp only)
 refine wpAny_bind (ba_rel hT ?_)
 first | refine wpG.neg (by decide) ?_ | refine anyNeg (by decide) ?_ | refine wpG.pos (by decide) ?_ | refine anyPos (by decide) ?_ | simp only [Bool.false_eq_true,if_false]
 exact wpAny_bind (ba_payload ha (wpAny_pure h))
theorem by_buf {id : String} {full : Bool} {Q : Option (Array UInt8)→Shared→Prop} (h : Q (some b) s) : wpAny M A (Builtin.Bytes.buffer? id (.bytes b t) full) Q E s:=by
 have hT : s.TypeIs (.bytes b t) "bytes" := PySem.W.typeIs_bytes _ _ _
 unfold Builtin.Bytes.buffer?
 refine wpAny_bind (wpAny_specialOf hT by_buffer ?_)
 dsimp only
 refine wpAny_bind (by_own_buf ?_)
 first | refine wpG.neg (by decide) ?_ | refine anyNeg (by decide) ?_ | refine wpG.pos (by decide) ?_ | refine anyPos (by decide) ?_ | simp only [Bool.not_true,Bool.false_eq_true,if_false]
 refine wpAny_bind (wpAny_specialOf hT by_buffer ?_)
 (try dsimp only)
 refine wpAny_bind (by_rel ?_)
 first | refine wpG.neg (by decide) ?_ | refine anyNeg (by decide) ?_ | refine wpG.pos (by decide) ?_ | refine anyPos (by decide) ?_ | simp only [Bool.false_eq_true,if_false]
 exact wpAny_bind (by_payload (wpAny_pure h))
theorem ba_exports {Q : Nat→Shared→Prop} (ha : s.heap.get? a = some (baObj b)) (h : Q 0 s) : wpAny M A (Builtin.Bytes.exportsOf (.ref a)) Q E s:=by
 unfold Builtin.Bytes.exportsOf
 exact wpAny_bind (wpAny_load ha (wpAny_pure h))
theorem ba_write {f : Array UInt8→Array UInt8} {Q : Unit→Shared→Prop} (ha : s.heap.get? a = some (baObj b)) (hz : (f b).size ≤ sizeLine)
  (h : ∀ h',h'.get? a = some (baObj (f b))→s.heap.SameBut a h'→Q () { s with heap:=h'}) : wpAny M A (Builtin.Bytes.write (.ref a) f) Q E s:=by
 show wpAny M A (updateBytearray a f) Q E s
 unfold updateBytearray
 refine wpAny_bind (wpAny_load ha ?_)
 show wpAny _ _ (update a (Obj.mapBytearray f) >>= fun _=>lookBehind a) _ _ _
 refine wpAny_bind (wpAny_update ha ?_)
 have ha' : (s.heap.update a (Obj.mapBytearray f)).get? a = some (baObj (f b)):=Heap.get?_update_self (Obj.mapBytearray f) ha rfl
 refine wpAny_lookBehind ha' ?_ (h _ ha' (Heap.SameBut.update ..))
 show (if (f b).size > sizeLine then some "bytearray:memory" else none) = none
 rw [if_neg (by omega)]
theorem G_resize {Q : Unit→Shared→Prop} (hA : A.guards = some []) (ha : s.heap.get? a = some (baObj b)) (h : Q () s) : wpG M A (Builtin.Bytes.checkResize (.ref a)) Q s:=by
 unfold Builtin.Bytes.checkResize
 refine wpG.bind ?_
 show wpG M A (Builtin.Bytes.exported (.ref a) >>= _) _ s
 refine wpG.bind (wpG_exported hA ?_)
 show wpG M A (Builtin.Bytes.exportsOf (.ref a) >>= _) _ s
 refine wpG.pre (ba_exports ha (wpG.pure ?_))
 exact wpG.pure h
end
section
variable {prog : Program} {w : World} {A : Around} {E : Value→Shared→Prop} {s : Shared} {a : Addr} {b c : Array UInt8} {t : Tok}
theorem G_extend {Q : Value→Shared→Prop} (hA : A.guards = some []) (ha : s.heap.get? a = some (baObj b)) (hz : (b ++ c).size ≤ sizeLine)
  (h : ∀ h',h'.get? a = some (baObj (b ++ c))→s.heap.SameBut a h'→Q .none { s with heap:=h'}) : wpG (model prog w) A (call (.builtin "bytearray.extend") [.ref a,.bytes c t]) Q s:=by
 have hT : s.TypeIs (.ref a) "bytearray" := ⟨_,ha,rfl⟩
 refine wpG_call (codeG_call_builtin (plainId_quiet (by decide +kernel) _) (by show Builtin.Bytes.decodersThatHold.contains "bytearray.extend" = false;decide +kernel) ba_entry_extend (ba_slot_extend.check _ _ _ _ _ _ _ _ hT (ba_args_extend _ _) ?_))
 rw [Around.under_plainId (by decide +kernel) _]
 unfold Builtin.«bytearray.extend»
 refine wpG.pre (t:=selfAndOne _ _) (wpAny_pure ?_)
 show wpG _ _ (specialOf (.bytes c t) "__buffer__" >>= _) _ _
 refine wpG.pre (wpAny_specialOf (PySem.W.typeIs_bytes _ _ _) by_buffer ?_)
 first | refine wpG.neg (by decide) ?_ | refine anyNeg (by decide) ?_ | refine wpG.pos (by decide) ?_ | refine anyPos (by decide) ?_ | simp only [Option.isSome_some,if_true]
 refine wpG.pre (wpAny_rule ?_)
 refine wpG.pre (ba_payload ha ?_)
 refine wpG.pre (t:=Builtin.Bytes.takeBufferQuiet? "bytearray.extend" (.bytes c t) 0) ?_
 unfold Builtin.Bytes.takeBufferQuiet?
 refine wpAny_bind (wpAny_attempt ?_)
 unfold Builtin.Bytes.takeBuffer?
 refine wpAny_bind (wpAny_specialOf (PySem.W.typeIs_bytes _ _ _) by_buffer ?_)
 dsimp only
 refine wpAny_bind (by_own_buf ?_)
 first | refine wpG.neg (by decide) ?_ | refine anyNeg (by decide) ?_ | refine wpG.pos (by decide) ?_ | refine anyPos (by decide) ?_ | simp only [Bool.not_true,Bool.false_eq_true,if_false]
 refine wpAny_bind (wpAny_specialOf (PySem.W.typeIs_bytes _ _ _) by_buffer ?_)
 (try dsimp only)
 refine wpAny_bind (by_buf (wpAny_pure ?_))
 (try dsimp only [Option.map])
 refine wpAny_pure ?_
 first | refine wpG.neg (by decide) ?_ | refine anyNeg (by decide) ?_ | refine wpG.pos (by decide) ?_ | refine anyPos (by decide) ?_ | simp only [Option.isNone_none,if_true]
 have wr : wpG (model prog w) A.in1 (Builtin.Bytes.write (.ref a) (fun x=>x ++ c) >>= fun _=>ret .none) (fun fin s'=>match fin with | .done f=>RetG Q (.ok f) s' | .again c'=>c'.quiet = true∧codeG (model prog w) A c' (RetG Q) s') s :=
  wpG.pre (ba_write ha hz fun h' e k=>wpG.pure (h h' e k))
 show wpG _ _ (if (!c.isEmpty) = true then (do Builtin.Bytes.checkResize (.ref a);Builtin.Bytes.write (.ref a) (fun x=>x ++ c);ret .none) else (do Builtin.Bytes.write (.ref a) (fun x=>x ++ c);ret .none)) _ _
 split
 ·exact wpG.bind (G_resize hA ha wr)
 ·exact wr
theorem ba_method {pl : Sem Bool} {Q : Value × List Value→Shared→Prop} (ha : s.heap.get? a = some (baObj b)) (h : Q (.builtin "bytearray.extend",[.ref a]) s) : wpAny (model prog w) A (getMethod (.ref a) "extend" pl) Q E s :=
 getMethod_builtin ⟨_,ha,rfl⟩ ba_plainAttrs ba_slot_extend ba_type_extend (fun a' e=>by cases e;exact ⟨_,ha,rfl⟩) h
theorem ba_len {Q : Value→Shared→Prop} (ha : s.heap.get? a = some (baObj b)) (hfit : (b.size : Int) < 2 ^ 63) (h : Q (.int b.size (s.toks + 1)) { s with toks:=s.toks + 1 + 1}) :
  wpAny (model prog w) A (call (.builtin "len") [.ref a]) Q E s:=by
 have hT : s.TypeIs (.ref a) "bytearray" := ⟨_,ha,rfl⟩
 refine call_function_entry kind_len plain_len entry_len (args_len1 _) ?_
 unfold Builtin.«len»
 refine wpAny_bind (m:=oneArg "len" _) (wpAny_pure ?_)
 refine wpAny_bind (m:=callSpecial? (.ref a) (Str.ofString "__len__")) (wpAny_callSpecial?_slot (name:=Str.ofString "__len__") hT ba_slot_len
  (wpAny_call_entry ba_slot_len hT ba_entry_len ?_ (ba_args_len _)))
 show wpAny _ _ (do retInt (← Builtin.Bytes.payload (.ref a)).size) _ _ s
 refine wpAny_bind (ba_payload ha (wpAny_bind (wpAny_mkInt (wpAny_pure ⟨_,rfl,?_⟩))))
 refine wpAny_bind (wpAny_holding (wpAny_pure ?_))
 refine wpAny_bind (wpAny_letGo ?_)
 show wpAny _ _ (if ((b.size : Nat) : Int) < 0 then _ else _) _ _ _
 rw [if_neg (by omega)]
 show wpAny _ _ (if ((b.size : Nat) : Int) ≥ 2 ^ 63 then _ else _) _ _ _
 rw [if_neg (by omega)]
 exact wpAny_bind (wpAny_mkInt (wpAny_pure ⟨_,rfl,h⟩))
theorem ba_bytes {Q : Value→Shared→Prop} (ha : s.heap.get? a = some (baObj b)) (hz : b.size ≤ sizeLine) (h : ∀ t k,Q (.bytes b t) { s with toks:=k}) :
  wpAny (model prog w) A (call (.type "bytes") [.ref a]) Q E s:=by
 have hT : s.TypeIs (.ref a) "bytearray" := ⟨_,ha,rfl⟩
 refine callType_codes (Q₁:=fun obj s₁=>s₁.TypeIs obj "bytes" ∧ Q obj s₁) F.bm_called (F.bm_typeCall _) F.entry_object_init ?_ fun obj s₁ h₁=>⟨h₁.1,F.args_object_init_2 obj _,object_init_meets F.bm_called.init.lookup F.bm_called.made (by decide) prog w A.in1 _ s₁ ⟨h₁.1,rfl,h₁.2⟩⟩
 refine codeAny_of_tree ?_
 show wpAny _ A.in1.in1 (do checkBuiltinCall "bytes.__new__" ⟨[.type "bytes",.ref a],[]⟩;again (.builtin "bytes.__new__" ⟨[.type "bytes",.ref a],[]⟩)) _ _ s
 refine wpAny_bind (wpAny_of_eq (F.bm_newCall _) (wpAny_pure ⟨plainId_quiet F.bm_plain _,codeAny_builtin F.bm_entry ?_⟩))
 rw [Around.under_plainId F.bm_plain _]
 unfold Builtin.«bytes.__new__»
 refine wpAny_bind (wpAny_of_eq (a:=true) rfl ?_)
 refine bm_if_false rfl ?_
 refine wpAny_bind (wpAny_of_eq F.bm_sub ?_)
 refine bm_if_false rfl ?_
 refine wpAny_bind (wpAny_of_eq (F.bm_bind _) ?_)
 refine wpAny_bind (wpAny_of_eq (a:=()) rfl ?_)
 refine wpAny_bind (wpAny_of_eq (a:=()) rfl ?_)
 refine bm_if_false rfl ?_
 refine wpAny_bind (wpAny_specialOf hT ba_no_bytes ?_)
 refine wpAny_bind (wpAny_bind ?_)
 show wpAny _ _ (load a >>= _) _ _ _
 refine wpAny_bind (wpAny_load ha ?_)
 refine wpAny_pure (wpAny_pure ?_)
 refine bm_if_false rfl ?_
 refine wpAny_bind (wpAny_specialOf hT ba_no_index ?_)
 refine bm_if_true rfl ?_
 have fin : ∀ t' k,wants (fun obj s₁=>s₁.TypeIs obj "bytes" ∧ Q obj s₁) E (.ok (.ret (.bytes b t'))) { s with toks:=k}:=fun t' k=>⟨PySem.W.typeIs_bytes _ _ _,h t' k⟩
 first
  | show wpAny _ _ (Builtin.Bytes.buffer? "bytes.__new__" (.ref a) true >>= _) _ _ _
  | (refine wpAny_bind ?_;show wpAny _ _ (Builtin.Bytes.buffer? "bytes.__new__" (.ref a) true >>= _) _ _ _)
 refine wpAny_bind (ba_buf ha ?_)
 (try dsimp only)
 refine wpAny_bind (wpAny_rule ?_)
 refine wpAny_bind (wpAny_mkBytes ?_ hz)
 show wpAny _ _ (if (Value.type "bytes" == Value.type "bytes") = true then _ else _) _ _ _
 refine bm_if_true (by decide) ?_
 first
  | exact wpAny_pure (fin _ _)
  | exact wpAny_bind (wpAny_pure (wpAny_pure (fin _ _)))
theorem ba_new {Q₁ : Value→Shared→Prop} (h : Q₁ (.ref s.heap.objs.size) { s with heap:=s.heap.push (baObj #[])}) :
  codeAny (model prog w) A (.call (.builtin "bytearray.__new__") ⟨[.type "bytearray"],[]⟩) (wants Q₁ E) s:=by
 refine codeAny_of_tree ?_
 show wpAny _ A.in1 (do checkBuiltinCall "bytearray.__new__" ⟨[.type "bytearray"],[]⟩;again (.builtin "bytearray.__new__" ⟨[.type "bytearray"],[]⟩)) _ _ s
 refine wpAny_bind (wpAny_of_eq ba_newCall (wpAny_pure ⟨plainId_quiet ba_plain_new _,codeAny_builtin_stack ba_entry_new rfl fun p st=>?_⟩))
 rw [Around.under_plainId ba_plain_new _]
 have hsub:=ba_sub
 have hown:=ba_owner_new
 obtain ⟨hp,g,d,tk,os⟩:=s
 refine wpAny_bind (m:=isType (.type "bytearray")) (wpAny_of_eq (a:=true) rfl ?_)
 refine bm_if_false rfl ?_
 rw [hown]
 refine wpAny_bind (wpAny_of_eq hsub ?_)
 refine bm_if_false rfl ?_
 refine wpAny_bind (wpAny_pure ?_)
 wp_walk
 exact h
theorem G_bytearray {Q : Value→Shared→Prop} (hA : A.guards = some []) (h : ∀ h',h'.get? s.heap.objs.size = some (baObj #[])→Heap.ExtBut s.heap.objs.size s.heap h'→s.heap.objs.size < h'.objs.size→Q (.ref s.heap.objs.size) { s with heap:=h'}) :
  wpG (model prog w) A (call (.type "bytearray") []) Q s:=by
 refine wpG_call (codeG_of_tree rfl (.of ?_))
 show wpAny _ _ (callAny (.type "bytearray") _) _ _ _
 refine wpAny_pure ⟨Code.quiet_builtin _ (by decide +kernel),codeG_builtin (by show Builtin.Bytes.decodersThatHold.contains "type.__call__" = false;decide +kernel) F.entry_type_call ?_⟩
 rw [Around.under_plain (weight_type_call_type "bytearray" [] []) rfl]
 unfold Builtin.«type.__call__»
 show wpG _ _ (ite _ _ (checkTypeCall "bytearray" ⟨[],[]⟩ >>= _)) _ _
 split
 ·rename_i hc
  exact absurd hc (by decide +kernel)
 refine wpG.pre (wpAny_of_eq ba_typeCall ?_)
 show wpG _ _ (mroOf (.type "bytearray") >>= _) _ _
 refine wpG.pre (wpAny_of_eq ba_mro ?_)
 first | refine wpG.neg (by decide) ?_ | refine anyNeg (by decide) ?_ | refine wpG.pos (by decide) ?_ | refine anyPos (by decide) ?_ | simp only [List.isEmpty_cons,Bool.false_eq_true,if_false]
 show wpG _ _ (Bind.madeBy (.type "bytearray") >>= _) _ _
 refine wpG.pre (wpAny_of_eq ba_made ?_)
 show wpG _ _ (holding [_] (PySem.call (.builtin "bytearray.__new__") [.type "bytearray"] []) >>= _) _ _
 refine wpG.pre (wpAny_holding (wpAny_call (codeAny_mono (ba_new (E:=noE) (Q₁:=fun v s'=>v = .ref s.heap.objs.size∧s' = { s with heap:=s.heap.push (baObj #[])}) ⟨rfl,rfl⟩) fun r s' hr=>?_)))
 rcases r with e | (_ | _ | _ | v) <;> first | exact hr.elim | exact hr | skip
 refine an2 hr fun e90 e91=>?_
 clear hr
 subst e90
 subst e91
 dsimp only
 have ha : (s.heap.push (baObj #[])).get? s.heap.objs.size = some (baObj #[]):=Heap.get?_push_size _ rfl
 have hT : Shared.TypeIs { s with heap:=s.heap.push (baObj #[])} (.ref s.heap.objs.size) "bytearray" := ⟨_,ha,rfl⟩
 show wpG _ _ (isInstance (.ref s.heap.objs.size) (.type "bytearray") >>= _) _ _
 refine wpG.pre (wpAny_isInstance hT ba_sub ?_)
 first | refine wpG.neg (by decide) ?_ | refine anyNeg (by decide) ?_ | refine wpG.pos (by decide) ?_ | refine anyPos (by decide) ?_ | simp only [Bool.not_true,Bool.false_eq_true,if_false]
 show wpG _ _ (holding [_] (callSpecial? (.ref s.heap.objs.size) "__init__" [] []) >>= _) _ _
 refine wpG.bind (wpG.holding ?_)
 unfold callSpecial?
 refine wpG.pre (wpAny_specialOf hT ba_slot_init.lookup ?_)
 dsimp only
 refine wpG.holding (wpG.pre (wpAny_of_eq (ba_slot_init.bind _) ?_))
 dsimp only
 refine wpG.bind (wpG_call ?_)
 refine codeG_call_builtin (plainId_quiet (by decide +kernel) _) (by show Builtin.Bytes.decodersThatHold.contains "bytearray.__init__" = false;decide +kernel) ba_entry_init (ba_slot_init.check _ _ _ _ _ _ _ _ hT (ba_args_init _) ?_)
 rw [Around.under_plainId (by decide +kernel) _]
 unfold Builtin.«bytearray.__init__»
 show wpG _ _ (Builtin.Bytes.ownRelease (.ref s.heap.objs.size) >>= _) _ _
 refine wpG.pre (ba_rel hT ?_)
 first | refine wpG.neg (by decide) ?_ | refine anyNeg (by decide) ?_ | refine wpG.pos (by decide) ?_ | refine anyPos (by decide) ?_ | simp only [Bool.false_eq_true,if_false]
 show wpG _ _ (Builtin.Bytes.bindOptional "bytearray.__init__" "bytearray" ["source", "encoding", "errors"] [] [] >>= _) _ _
 refine wpG.pre (wpAny_of_eq (by kernel_rfl : Builtin.Bytes.bindOptional "bytearray.__init__" "bytearray" ["source", "encoding", "errors"] [] [] = pure [none,none,none]) ?_)
 dsimp only
 refine wpG.pre (wpAny_of_eq (a:=()) rfl ?_)
 refine wpG.pre (wpAny_of_eq (a:=()) rfl ?_)
 refine wpG.bind ?_
 show wpG _ _ (Builtin.Bytes.exported (.ref _) >>= _) _ _
 refine wpG.bind (wpG_exported hA ?_)
 show wpG _ _ (Builtin.Bytes.exportsOf (.ref _) >>= _) _ _
 refine wpG.pre (ba_exports ha (wpG.pure ?_))
 show wpG _ _ (Builtin.Bytes.write (.ref _) (fun _=>#[]) >>= _) _ _
 refine wpG.pre (ba_write ha (Nat.zero_le _) fun h' e k=>?_)
 refine wpG.pre (wpAny_of_eq (a:=()) rfl ?_)
 refine wpG.pure (wpG.pure ?_)
 refine wpG.pure (h h' e ?_ ?_)
 ·exact fun b' o hne he=>k.extBut b' o hne (Heap.get?_push_of_some _ he)
 ·exact Heap.lt_size e
end
end NG5
section NG6
open PySem.Calls
section
variable {prog : Program} {w : World} {A : Around} {s : Shared} {env : Env} {K : Frag} {f : Value} {first : List Value} {pos : Pos} {Q : Value→Shared→Prop}
theorem G_callWith_of {args : List (Bool × Sem Value)} (hplain : args.any (·.1) = false) (hk : keepIn K f = true)
  (h : wpG (model prog w) A (evalArgs f true args []) (fun a s₁=>K.In s₁.heap∧wpG (model prog w) A (call f (first ++ a.pos) a.kw) Q s₁) s) : wpG (model prog w) A (callWith pos f first args []) Q s:=by
 refine wpG.bind (wpG.holding (h.mono fun a s₁ h₁=>wpG.pre (wpAny_standAt ?_)))
 refine ex1 (keeps_K (M:=model prog w) hk s₁.heap h₁.1) fun k q9=>an2 q9 fun hk' look=>?_
 clear q9
 have hp : wpG (model prog w) A (callMarked plainCall f (first ++ a.pos) a.kw) Q s₁:=wpG.keep h₁.2
 have hb : wpG (model prog w) A (callMarked callOfAMethodObject f (first ++ a.pos) a.kw) Q s₁:=wpG.keep h₁.2
 rw [hplain]
 refine wpG.pre (look.at ?_)
 rcases hk' with rfl | rfl | rfl
 ·by_cases hl : args.length + 2 * ([] : List (Option Str × Sem Value)).length > 30
  ·exact wpG.pos hl (G_tail h₁.2)
  ·exact wpG.neg hl (G_tail hp)
 ·exact G_tail h₁.2
 ·by_cases hl : args.length + 2 * ([] : List (Option Str × Sem Value)).length > 30
  ·exact wpG.pos hl (G_tail h₁.2)
  ·exact wpG.neg hl (G_tail hb)
theorem G_callWith_K {e : Expr} {rest : List Expr} (hk : keepIn K f = true) (h : wpAny (model prog w) A (spliced (backTo pos (starEach (e :: rest) env))) (fun vs s₁=>K.In s₁.heap∧wpG (model prog w) A (call f (first ++ vs)) Q s₁) noE s)
  (he : starEach (e :: rest) env = (false,eval e env) :: starEach rest env) (hplain : (backTo pos (starEach rest env)).any (·.1) = false) : wpG (model prog w) A (callWith pos f first (backTo pos (starEach (e :: rest) env)) []) Q s:=by
 rw [he] at h ⊢
 exact G_callWith_of (by show (false || (backTo pos (starEach rest env)).any (·.1)) = false;rw [hplain];rfl) hk (.of (evalArgs_plain h))
theorem G_callWith_K0 (X : K.In s.heap) (hk : keepIn K f = true) (h : wpG (model prog w) A (call f (first ++ [])) Q s) : wpG (model prog w) A (callWith pos f first (backTo pos (starEach [] env)) []) Q s :=
 G_callWith_of rfl hk (.of (PySem.evalArgs_none ⟨X,h⟩))
theorem G_callWith_B {id : String} {e : Expr} {rest : List Expr} (h : wpAny (model prog w) A (spliced (backTo pos (starEach (e :: rest) env))) (fun vs s₁=>wpG (model prog w) A (call (.builtin id) (first ++ vs)) Q s₁) noE s)
  (he : starEach (e :: rest) env = (false,eval e env) :: starEach rest env) (hplain : (backTo pos (starEach rest env)).any (·.1) = false) : wpG (model prog w) A (callWith pos (.builtin id) first (backTo pos (starEach (e :: rest) env)) []) Q s:=by
 rw [he] at h ⊢
 exact G_callWith_builtin (by show (false || (backTo pos (starEach rest env)).any (·.1)) = false;rw [hplain];rfl) (.of (evalArgs_plain h))
theorem G_callWith_Bb {id : String} {e : Expr} (ht : backTo pos (starEach [e] env) = [(false,eval e env)]) (h : wpG (model prog w) A (eval e env) (fun v s₁=>wpG (model prog w) A (call (.builtin id) (first ++ [v])) Q s₁) s) :
  wpG (model prog w) A (callWith pos (.builtin id) first (backTo pos (starEach [e] env)) []) Q s:=by
 rw [ht]
 exact G_callWith_builtin rfl (G_evalArgs1 h)
theorem G_callWith_T0 {T : String} (h : wpG (model prog w) A (call (.type T) (first ++ [])) Q s) : wpG (model prog w) A (callWith pos (.type T) first (backTo pos (starEach [] env)) []) Q s :=
 G_callWith_type rfl (.of (PySem.evalArgs_none h))
end
section
variable {prog : Program} {w : World} {A : Around} {E : Value→Shared→Prop} {s : Shared} {K : Frag} {C L a : Addr} {h₀ : Heap} {m : Str→Option Value} {news : List (Addr × Obj)} {Q : Value→Shared→Prop} {b c : Array UInt8} {t : Tok}
theorem call_clsG {pos : List Value} {kw : List (Str × Value)} {fI : Addr} (F : Fr h₀ L s.heap m) (X₀ : K.In h₀) (N : News h₀ L s.heap news) (hm : makesIn K C = true) (hi : findIn K (.ref C) "__init__" = some (some (.ref fI))) (hf : isFn K (.ref fI) = true)
  (h : ∀ x dx h',Fr h₀ L h' m→News h₀ L h' ((x,instObj C dx) :: (dx,dictOf [] 0) :: news)→(∀ p ∈ news,p.1 < dx)→dx < x →
   codeG (model prog w) (A.under (.builtin "type.__call__" ⟨.ref C :: pos,kw⟩)) (.call (.ref fI) ⟨.ref x :: pos,kw⟩) (InitG x (RetG Q)) { s with heap:=h'}) :
  wpG (model prog w) A (call (.ref C) pos kw) Q s:=wpG_call (make_KG F N (X₀.keeps F.keep) hm hi (beq_iff_eq.mp hf) h)
theorem kba_new (hA : A.guards = some []) (F : Fr h₀ L s.heap m) (N : News h₀ L s.heap news) (h : ∀ x h',Fr h₀ L h' m→News h₀ L h' ((x,baObj #[]) :: news)→(∀ p ∈ news,p.1 < x)→Q (.ref x) { s with heap:=h'}) :
  wpG (model prog w) A (call (.type "bytearray") []) Q s:=by
 refine G_bytearray hA fun h' e k hlt=>?_
 have old : ∀ b' o,s.heap.get? b' = some o→h'.get? b' = some o:=fun b' o e=>k b' o (Nat.ne_of_lt (Heap.lt_size e)) e
 refine h _ _ (F.keeps old) (fun p hp=>?_) fun p hp=>Heap.lt_size (N p hp).1
 rcases List.mem_cons.mp hp with rfl | hp
 ·exact ⟨e,Ne.symm (Nat.ne_of_lt F.ns.lt),next_is_new F⟩
 ·exact ⟨old _ _ (N p hp).1,(N p hp).2⟩
theorem kba_extend {g : Obj→List (Addr × Obj)} (hA : A.guards = some []) (F : Fr h₀ L s.heap m) (N : News h₀ L s.heap news) (U : UpdF a (baObj b) news g) (hz : b.size + c.size ≤ 16777216)
  (h : ∀ h',Fr h₀ L h' m→News h₀ L h' (g (baObj (b ++ c)))→Q .none { s with heap:=h'}) : wpG (model prog w) A (call (.builtin "bytearray.extend") [.ref a,.bytes c t]) Q s:=by
 have hm:=N _ (updF_mem U)
 refine G_extend hA hm.1 (by rw [Array.size_append];exact Nat.le_trans hz (Nat.le_of_ble_eq_true rfl)) fun h' e k=>h h' (F.change k hm.2.1 hm.2.2) ?_
 refine ex2 (U.split) fun pre post q9=>an4 q9 fun e92 hg p1 p2=>?_
 clear q9
 subst e92
 exact hg _ ▸ N.setIn p1 p2 k e
theorem kba_method {pl : Sem Bool} {R : Value × List Value→Shared→Prop} (N : News h₀ L s.heap news) (hm : (a,baObj b) ∈ news) (h : R (.builtin "bytearray.extend",[.ref a]) s) : wpAny (model prog w) A (getMethod (.ref a) "extend" pl) R E s:=ba_method (N _ hm).1 h
theorem kba_len (N : News h₀ L s.heap news) (hm : (a,baObj b) ∈ news) (hz : b.size ≤ 16777216) (h : ∀ t k,Q (.int b.size t) { s with toks:=k}) : wpAny (model prog w) A (call (.builtin "len") [.ref a]) Q E s:=ba_len (N _ hm).1 (by omega) (h _ _)
theorem kba_bytes (N : News h₀ L s.heap news) (hm : (a,baObj b) ∈ news) (hz : b.size ≤ 16777216) (h : ∀ t k,Q (.bytes b t) { s with toks:=k}) : wpAny (model prog w) A (call (.type "bytes") [.ref a]) Q E s:=ba_bytes (N _ hm).1 (Nat.le_trans hz (Nat.le_of_ble_eq_true rfl)) h
end
end NG6
section NHd
open PySem.Calls
theorem wpG.atCaller {M : Model} {t : Sem Fin} {R : Result→Shared→Prop} {s : Shared}
  (h : wpG M callerA t (fun fin s'=>∃ f,fin = .done f∧R (.ok f) s') s) (p : Pos) :
  Sem.wp M ⟨.builtin "claim.caller" {},none,none,[],none⟩ t (Sem.finPost M ⟨.builtin "claim.caller" {},none,none,[],none⟩ R) (fun e _ s'=>R (.error e) s') p s:=by
 refine Sem.wp_mono M _ t (fun fin p' s' x=>?_) (fun _ _ _ x=>x.elim) p s (h _ p caller_in (by decide +kernel) (fun _ hx=>by cases hx))
 refine ex1 x fun f q9=>an2 q9 fun e91 hf=>?_
 clear q9 x
 subst e91
 exact hf
theorem callG {c : ClaimW} {tree : List Value→Sem Fin} {w : World} {s : Shared} {free : Addr→Prop} {gens : Prop} {kept : Heap→Prop} (hz : s.asleep) (hg : s.gens = #[])
  (spec : ∀ args,c.pre args = true→WData.layableAll args = true→∀ ord : List DictEntry→List DictEntry,(∀ l,(ord l).Perm l) →
   ∃ vs s₁,layAllW c.records (classAt s.heap) w.params ord args s = some (vs,s₁) ∧
    wpG (model c.prog w) callerA (tree vs) (fun fin s'=>∃ f,fin = .done f∧(c.Ends s args vs s₁ (.ok f) s'∧s'.os = s.os∧AllBare s'.gens∧kept s'.heap)) s₁) :
  c.CallFrom (fun vs=>⟨tree vs,.builtin "claim.caller" {},default,[]⟩) w free gens kept s:=fun args hp hl ord ho=>by
 refine byG fun GG kk=>?_
 refine ex2 (spec args hp hl ord ho) fun vs s₁ q9=>an2 q9 fun hlaid hc=>?_
 clear q9
 have rest:=layAllW_rest _ _ _ hlaid
 have hR:=wpG.atCaller (R:=fun r s'=>(c.Ends s args vs s₁ r s'∧s'.os = s.os∧kept s'.heap)∧leftWithCleanup s'.gens = false)
  (hc.mono fun fin s' q=>q.elim fun f q=>⟨f,q.1,⟨q.2.1,q.2.2.1,q.2.2.2.2⟩,leftWithCleanup_false_of_bare q.2.2.2.1⟩) default
 refine ex4 (wp_halts_full (M:=model c.prog w) (Shared.asleep_of_life rest.2.2.2 hz) hR) fun k r s₂ s' q9=>an6 q9 fun hs hr hf hE hos hk=>?_
 clear q9
 refine an5 (Shared.forget_eq hf) fun eh _ _ eo _=>?_
 have hE':=hE.congr eh
 rw [← eh] at hk
 rw [← eo] at hos
 refine kk (ei2 vs s₁ ⟨hlaid,k,_,s',hs,?_,fun _ i x hx=>?_,hk,?_,Shared.rest_eq hos⟩)
 ·rcases hE' with ⟨v,rfl,a1,a2,a3,a4,a5⟩ | ⟨e,ob,cls,rfl,a1,a2,a3,a4,a5⟩
  ·exact .inl ⟨v,rfl,a1,a2,a3,fun b o y _=>a4 b o y,a5⟩
  ·exact .inr (ei3 e ob cls ⟨rfl,a1,a2,a3,a4,fun b o y _=>a5 b o y⟩)
 ·rw [hg] at hx;simp at hx
 ·rw [runN_life _ _ _ hr,rest.2.2.2]
theorem PySem.W.holds_open {r : OpenRow} {q : Program} {loose : List Str} {Xt : Shared→Bool} {XP : (Str→Option Value)→Heap→Prop} {α : Type} {Yf : Shared→α} {Ya : World→α} {YP : World→Heap→Prop} {d : DefRec} {kwd : List (Str × Expr)} {N : Nat}
  (left : LeftO r.prog q loose Xt Yf Ya N) (hY : ∀ w s,Yf s = Ya w→YP w s.heap) (hYk : ∀ w h h',YP w h→(∀ b o,h.get? b = some o→h'.get? b = some o)→YP w h')
  (hX : ∀ s,Xt s = true→XP (s.heap.nsMap mainGlobals) s.heap) (hXk : ∀ mg h h',XP mg h→(∀ b o,h.get? b = some o→h'.get? b = some o)→XP mg h')
  (hdef : defOf q r.name = some (d,kwd)) (hp : r.prog.theDef r.name = some (d.params,d.body,d.scope)) (hk : kwWritten? d.params.kwonlyargs d.params.kw_defaults = some kwd) (hRf : ∀ s,Xt s = true→RecFacts r.records s.heap) (hwr : (!r.writes || r.records.isEmpty) = true)
  (k1 : r.wellSaid = true) (ok : (chainsOk q && opensWell r.prog && (frees r.toRowW && r.within.isEmpty)) = true) (hb : r.prog.bare) (hw : r.toRowW.promised)
  (call : WalkG q loose XP YP r.toRowW d kwd) : r.Holds:=by
 simp only [Bool.and_eq_true] at ok
 refine an3 ok fun e90 hfr hwi=>?_
 clear ok
 obtain ⟨hch,hop⟩:=e90
 refine an5 (frees_parts hfr) fun hsame hun hat hap hmk=>?_
 refine ⟨k1,hw,⟨hb,hop,by show r.makers.map _ = [];rw [hmk];rfl⟩,hw.witness,fun w=>?_⟩
 have beh:=left.behind (XP:=fun mg h=>XP mg h∧RecFacts r.records h) (fun s hs=>⟨hX s hs,hRf s hs⟩) hch w
 refine ⟨beh.1,fun s' hs'=>?_⟩
 obtain ⟨s₀,hf,hg0,s,hT,hz,hge,hg,G,y⟩:=beh.2 s' hs'
 have G0 : Ground q loose [] XP w s (s.heap.nsMap mainGlobals) (s.heap.nsMap builtinsNs) s.heap:=⟨G.T,G.B,G.D,G.TE,G.TD,G.W,G.X.1,G.cls,G.has,G.apart,G.once,G.K⟩
 have GR:=G.X.2.ground G0
 have hge : s.gens = #[]:=Array.eq_empty_of_size_eq_zero (beq_iff_eq.mp hge)
 refine ⟨s₀,hf,hg0,s,hT,fun n hn=>?_,G.X.2.1,G.X.2.2.1,?_⟩
 ·obtain rfl : n = r.name:=by split at hn <;> simp_all
  exact pinned_of_view hg G0 hdef hp hk
 refine callG (c:=r.toRowW.claim) hz hge fun args hpre hlay ord hord=>?_
 refine ex1 (Option.isSome_iff_exists.mp (layAllW_isSome (P:=w.params) (ord:=ord) GR.has args r.args s (pre_splitW hpre).1)) fun e90 hlaid=>?_
 obtain ⟨vs,s₁⟩:=e90
 have keeps:=layAllW_keeps _ _ _ hlaid
 have hal:=layAllW_rest _ _ _ hlaid
 refine ex1 (reads_layAllW hord _ _ _ hlaid hlay s₁.heap (fun _ _ e=>e)) fun as q9=>an3 q9 fun hrd hin hold=>?_
 clear q9
 have L : Laid r.records w s s₁ args vs as:=⟨⟨ord,hord,hlaid⟩,hrd,hin,hold,keeps,hal.1.trans hge,hal.2.2.1⟩
 have G₁:=GR.keeps hXk keeps
 refine ex7 (G₁.fn hdef) fun a o pm cd doc dV kV q9=>an5 q9 fun h1 h2 h3 h4 h5=>?_
 clear q9
 have hcall:=call w s s₁ _ _ G₁ (hYk _ _ _ (hY w s y) keeps) a o pm cd doc dV kV h2 h3 h4 h5 (defOf_name hdef ▸ h1) L.gens args vs as hpre hlay L.reads L.well (L.low GR.low)
 have hwi' : r.toRowW.claim.within = []:=List.isEmpty_iff.mp hwi
 refine ei2 vs s₁ ⟨hlaid,wpG.bind (.of (wpAny_nsGet G₁.T.g ?_))⟩
 rw [h1]
 refine wpG.bind (hcall.mono fun v s' g=>.pure ?_)
 have z:=g.laid (c:=r.toRowW.claim) hsame hwi' (ident_freeW hun hat hap) L
 exact ⟨_,rfl,z.1,z.2.1,z.2.2,fun q=>⟨namesKept_of hT hg _ keeps g.2.1.old,noTable hwr q⟩⟩
end NHd
section NK
open PySem.Spec
section
variable {prog : Program} {w : World} {A : Around} {s : Shared} {h₀ : Heap} {L : Addr} {m : Str→Option Value} {env : Env}
open LCg in
theorem comp_inv {elt : Expr} {x : Str} {scope : Scope} {cl : List (Str × Addr)} {S : List (Addr × Obj)→Prop} {P : Nat→Value→Prop} {Fin : List Value→List (Addr × Obj)→Prop} {n : Nat} {news₀ : List (Addr × Obj)}
  (J : Nat→List Value→List (Addr × Obj)→Prop) (h0 : J 0 [] news₀) (fin : ∀ ys news,J n ys news→Fin ys news)
  (step : ∀ i ys news v I oI C oC D m₂ h tk (E' : Value→Shared→Prop),i < n→J i ys news→P i v→NsObj oC m₂→m₂ x = some v→Fr h₀ L h m→News h₀ L h ((I,oI) :: (C,oC) :: (D,lst ys) :: news)→Off3 I C D news→((@Ne Nat I C)∧(@Ne Nat I D)∧(@Ne Nat C D)) →
   wpAny (model prog w) A (eval elt (compEnvC scope cl C env)) (CompEnd h₀ L m { s with heap:=h,toks:=tk} I oI C oC D (lst ys) S (fun y news'=>J (i + 1) (ys ++ [y]) news')) E' { s with heap:=h,toks:=tk}) :
  CompRest prog w A h₀ L m env elt x scope cl s S P Fin n 0 [] news₀:=by
 have gen : ∀ k i ys news,i + k = n→J i ys news→CompRest prog w A h₀ L m env elt x scope cl s S P Fin k i ys news:=by
  intro k
  induction k with
  | zero =>
   intro i ys news e hJ
   have e' : i = n:=by simpa using e
   subst e'
   exact CompRest.zero (fin _ _ hJ)
  | succ k ih =>
   intro i ys news e hJ
   refine CompRest.succ fun v I oI C oC D m₂ h tk E' hP hC hx F N off ne=>?_
   refine wpAny_mono (step i ys news v I oI C oC D m₂ h tk E' (by omega) hJ hP hC hx F N off ne) (fun y s'=>?_) fun _ _ e=>e
   intro hJ9
   refine ex3 hJ9 fun h' tk' news' q9=>an6 q9 fun e90 F' N' off' hS hJ'=>?_
   clear q9 hJ9
   subst e90
   exact ei3 h' tk' news' ⟨rfl,F',N',off',hS,ih (i + 1) _ _ (by omega) hJ'⟩
 exact gen n 0 [] news₀ (by omega) h0
open LCg LCt in
theorem compT_inv {ct elt : Expr} {x : Str} {scope : Scope} {cl : List (Str × Addr)} {S : List (Addr × Obj)→Prop} {P : Nat→Value→Prop} {Fin : List Value→List (Addr × Obj)→Prop} {n : Nat} {news₀ : List (Addr × Obj)}
  (J : Nat→List Value→List (Addr × Obj)→Prop) (h0 : J 0 [] news₀) (fin : ∀ ys news,J n ys news→Fin ys news)
  (step : ∀ i ys news v I oI C oC D m₂ h tk (E' : Value→Shared→Prop),i < n→J i ys news→P i v→NsObj oC m₂→m₂ x = some v→Fr h₀ L h m→News h₀ L h ((I,oI) :: (C,oC) :: (D,lst ys) :: news)→Off3 I C D news→((@Ne Nat I C)∧(@Ne Nat I D)∧(@Ne Nat C D)) →
   wpAny (model prog w) A (isTrue ct (compEnvC scope cl C env) (eval ct (compEnvC scope cl C env))) (fun ok s'=>if ok = true then
    wpAny (model prog w) A (eval elt (compEnvC scope cl C env)) (CompEnd h₀ L m { s with heap:=h,toks:=tk} I oI C oC D (lst ys) S (fun y news'=>J (i + 1) (ys ++ [y]) news')) E' s'
    else CompEnd h₀ L m { s with heap:=h,toks:=tk} I oI C oC D (lst ys) S (fun _ news'=>J (i + 1) ys news') Value.none s') E' { s with heap:=h,toks:=tk}) :
  CompRestT prog w A h₀ L m env ct elt x scope cl s S P Fin n 0 [] news₀:=by
 have gen : ∀ k i ys news,i + k = n→J i ys news→CompRestT prog w A h₀ L m env ct elt x scope cl s S P Fin k i ys news:=by
  intro k
  induction k with
  | zero =>
   intro i ys news e hJ
   have e' : i = n:=by simpa using e
   subst e'
   exact CompRestT.zero (fin _ _ hJ)
  | succ k ih =>
   intro i ys news e hJ
   refine CompRestT.succ fun v I oI C oC D m₂ h tk E' hP hC hx F N off ne=>?_
   refine wpAny_mono (step i ys news v I oI C oC D m₂ h tk E' (by omega) hJ hP hC hx F N off ne) (fun ok s'=>?_) fun _ _ e=>e
   cases ok with
   | true =>
    simp only [if_true]
    intro h1
    refine wpAny_mono h1 (fun y s''=>?_) fun _ _ e=>e
    intro hJ9
    refine ex3 hJ9 fun h' tk' news' q9=>an6 q9 fun e90 F' N' off' hS hJ'=>?_
    clear q9 hJ9
    subst e90
    exact ei3 h' tk' news' ⟨rfl,F',N',off',hS,ih (i + 1) _ _ (by omega) hJ'⟩
   | false =>
    simp only [Bool.false_eq_true,if_false]
    intro hJ9
    refine ex3 hJ9 fun h' tk' news' q9=>an6 q9 fun e90 F' N' off' hS hJ'=>?_
    clear q9 hJ9
    subst e90
    exact ei3 h' tk' news' ⟨rfl,F',N',off',hS,ih (i + 1) _ _ (by omega) hJ'⟩
 exact gen n 0 [] news₀ (by omega) h0
end
section
variable {prog : Program} {w : World} {A : Around} {E : Value→Shared→Prop} {s : Shared} {h₀ : Heap} {L : Addr} {m : Str→Option Value} {env : Env}
open LCg
theorem CompSrcD.mk {elt : Expr} {x : Str} {scope : Scope} {cl : List (Str × Addr)} {Fin : Shared→List Value→List (Addr × Obj)→Prop} {r : Addr} {a b c : Int} {t u v : Tok} {n : Nat} {news : List (Addr × Obj)} {s₁ : Shared}
  (hh : A.handled = none) (F : Fr h₀ L s₁.heap m) (N : News h₀ L s₁.heap news) (hr : IsRange s₁.heap r a b c t u v) (hsm : Builtin.Range.small a b c = true) (hn : Builtin.Range.rangeSize a b c = ((n : Nat) : Int)) (hsz : n ≤ sizeLine)
  (h : ∀ g,CompRest prog w A h₀ L m env elt x scope cl { s₁ with heap:=g} (fun _=>True) (fun i v=>∃ t,v = .int (a + (i : Nat) * c) t) (Fin { s₁ with heap:=g}) n 0 [] news) :
  CompSrcD prog w A h₀ L m env elt x scope cl Fin (.ref r) s₁:=⟨r,a,b,c,t,u,v,n,news,rfl,hh,F,N,hr,hsm,hn,hsz,fun _ ⟨g,e⟩=>e ▸ h g⟩
theorem range_walksD {I : Addr} (hh : A.handled = none) (a c : Int) (n : Nat) : Walks prog w A I [I] [I] n (fun i v=>∃ t,v = .int (a + (i : Nat) * c) t) (fun i h=>IsRangeIter h I (a + (i : Nat) * c) ((n : Int) - (i : Nat)) c) :=
 Walks.range hh I a c n
theorem range_stD {I : Addr} {a c : Int} {n : Nat} : ∀ i (h h' : Heap) (o : Obj) (nw : List (Addr × Obj)),IsRangeIter h I (a + (i : Nat) * c) ((n : Int) - (i : Nat)) c→h.get? I = some o→h'.get? I = some o→(∀ b o,h₀.get? b = some o→h'.get? b = some o)→News h₀ L h' nw→True→IsRangeIter h' I (a + (i : Nat) * c) ((n : Int) - (i : Nat)) c :=
 fun i h h' o nw st e e' _ _ _=>by
  have st' : h.get? I = some _:=st
  show h'.get? I = some _
  rw [e',← e];exact st'
end
section
open LCg
open kc in
theorem c_23 : s_23 A E prog w cl h₀ L m s QX1 xX1 env px elt iter scope pos:=by
 intro F₀ hclos hcell hkind hnames hx h hs
 rw [eval_ListComp]
 refine wpAny_comprehension_free (use:=none) rfl hs hclos hkind hnames (wpAny_mono h (fun xv s₁ h₁=>?_) fun _ _ e=>e)
 obtain ⟨r,a,b,c,t,u,v,n,news,rfl,hh,F,N,hr,hsm,hn,hsz,R⟩:=h₁
 refine wpAny_pyIter_range hr hsm ?_
 refine block_U (range_walksD hh a c n) hsz (fun i h st=>⟨_,st⟩) range_stD hcell hkind hx (by show IsRangeIter _ _ _ _ _;rw [hn];simpa using Heap.get?_push_size _ rfl) (fun b hb=>?_)
  (F.keeps fun _ _ e=>Heap.get?_push_of_some _ e) (N.grown fun _ _ e=>Heap.get?_push_of_some _ e) (Nat.ne_of_lt F.ns.lt) (next_is_new F) (fun p hp=>Nat.ne_of_lt (Heap.lt_size (N p hp).1)) trivial (R _ ⟨_,rfl⟩) ?_
 ·rw [List.mem_singleton.mp hb]
  show s₁.heap.objs.size < (s₁.heap.push _).objs.size
  rw [Heap.size_push];exact Nat.lt_succ_self _
 ·intro D C h tk m' ys news' F' N' o1 hn hC₀ hD₀ hCL hDL hCD offC fin
  refine ⟨m',hn,fun h'' hs''=>fin D h'' tk (F'.change hs'' hCL hC₀) (fun p hp=>?_) o1⟩
  refine ⟨hs''.extBut _ _ ?_ (N' p hp).1,(N' p hp).2⟩
  rcases List.mem_cons.mp hp with rfl | hp
  ·exact Ne.symm hCD
  ·exact offC p hp
theorem u24 : upto 24:=hk @c_23 u23 (by with_unfolding_all exact rfl)
open kc in
theorem ListComp_D' {A E prog w cl h₀ L m s QX1 xX1 env px elt iter scope pos} : s_23 A E prog w cl h₀ L m s QX1 xX1 env px elt iter scope pos:=@hkT _ u24 (by k_extra "T") _ (by exact rfl)
end
section
variable {prog : Program} {w : World} {A : Around} {E : Value→Shared→Prop} {s : Shared} {h₀ : Heap} {L : Addr} {m : Str→Option Value} {env : Env}
open LCg
end
end NK
section NP1
open PySem.Calls
theorem ints_of_keys {prog : Program} {w : World} : ∀ (vs : List Value) (kvs : List (Int × Value)),vs.length = kvs.length→(∀ (j : Nat) (v : Value),vs[j]? = some v→∃ k x,kvs[j]? = some (k,x)∧(intKind prog w).is k v = true)→IntsAre vs (kvs.map (·.1)):=by
 intro vs
 induction vs with
 | nil =>
  intro kvs h _
  cases kvs with
  | nil=>exact .nil
  | cons _ _=>cases h
 | cons v vs ih =>
  intro kvs hl h
  cases kvs with
  | nil=>cases hl
  | cons kv kvs =>
   refine ex2 (h 0 v rfl) fun k x q9=>an2 q9 fun e hk=>?_
   clear q9
   cases e
   refine ex1 (Value.isInt_shape hk) fun t e91=>?_
   subst e91
   exact .cons _ _ (ih kvs (Nat.succ.inj hl) fun j v hj=>h (j + 1) v hj)
theorem asc_uniq : ∀ {a b : List Int},a.Perm b→a.Pairwise (· ≤ ·)→b.Pairwise (· < ·)→a = b:=fun p ha hb =>
 lks_uniq p ha (hb.imp fun h=>Int.le_of_lt h)
section
variable {prog : Program} {w : World} {A : Around} {E : Value→Shared→Prop} {s : Shared} {h₀ : Heap} {L d : Addr} {m : Str→Option Value} {news : List (Addr × Obj)} {o : Obj} {kvs : List (Int × Value)} {Q : Value→Shared→Prop}
theorem sorted_dict (hh : A.handled = none) (F : Fr h₀ L s.heap m) (N : News h₀ L s.heap news) (hp : (d,o) ∈ news) (hd : o.IsDictOf (intKind prog w) kvs) (lo : (d == sysModules) = false) (hasc : (kvs.map (·.1)).Pairwise (· < ·)) (hn : kvs.length < 64)
  (h : ∀ D vs c h' tk,IntsAre vs (kvs.map (·.1))→Fr h₀ L h' m→News h₀ L h' ((D,listOf vs.toArray c) :: news)→(∀ q ∈ news,q.1 < D)→Q (.ref D) { s with heap:=h',toks:=tk}) :
  wpAny (model prog w) A (call (.builtin "sorted") [.ref d]) Q E s:=by
 refine ex1 ((kda_dict N hp hd).dictAt) fun ep hat=>?_
 refine kdu_sorted (kdl_dict (knd:=intKind prog w) (kvs:=kvs) (ep:=ep) lo) hh F N hat (kdl_size (by omega)) fun D h' tk vs F' N' l1 hl hv=>?_
 have hI : IntsAre vs (kvs.map (·.1)):=ints_of_keys vs kvs hl hv
 have hD:=N' _ (.head _)
 refine wpAny_call_entry PyProof.Rows.slot_list_sort ⟨_,hD.1,rfl⟩ PyProof.Rows.entry_list_sort (list_sort_tree (n:=0) (vs:=vs) hD.1 hI (by omega) fun out ns' a1 a2 a3=>⟨.none,rfl,?_⟩) (PyProof.Rows.args_list_sort _)
 obtain rfl : ns' = kvs.map (·.1):=asc_uniq a2 a3 hasc
 refine ex1 (sortedHeap_at (vs:=vs) (out:=out) hD.1) fun e he=>?_
 have old : ∀ b o,b ≠ D→h'.get? b = some o→(sortedHeap h' D vs out).get? b = some o:=fun b o hb e=>(sortedHeap_old hb (Heap.lt_size e)).trans e
 refine h D out.toList e _ tk a1 ?_ (fun p hp=>?_) l1
 ·exact ⟨F'.ns.at' fun o e=>old _ o (Ne.symm hD.2.1) e,fun b o e=>old b o (fun q=>by rw [q,hD.2.2] at e;cases e) (F'.keep b o e),F'.above⟩
 ·rcases List.mem_cons.mp hp with rfl | hp
  ·refine ⟨?_,hD.2⟩
   rw [Array.toArray_toList];exact he
  ·have P:=N' p (.tail _ hp)
   exact ⟨old _ _ (Ne.symm (Ne.symm (Nat.ne_of_lt (l1 p hp)))) P.1,P.2⟩
end
end NP1
section NW9
theorem lnNW9_1 : True:=by
 k_with "L39" => ((k_here;(with_reducible show wpAny _ _ (getMethod (Value.ref _) (Str.ofString "get") _) _ _ _);k_dflt (refine kdg_method (knd:=PySem.intKind _ _) (by k_asm) (by k_mem) (by assumption) ?_)))
 k_with "L40" => ((k_here;k_dflt (refine kdg_get2 (knd:=PySem.intKind _ _) (by k_asm) (by k_mem) (by assumption) (by assumption) (intKind_is _ _ _ _) (some _) (by assumption) ?_);(try dsimp only [Option.getD])))
 k_with "L41" => ((k_here;(with_reducible show wpAny _ _ (subscriptTail _ _ (Value.ref _) (Value.int 0 _)) _ _ _);k_dflt (refine tail_pair0 (by k_asm) (by first | k_mem | (repeat (first | assumption | refine List.mem_cons_of_mem _ ?_))) ?_ (by with_unfolding_all rfl) (by intro _;with_unfolding_all rfl))))
 k_with "L42" => ((k_here;(with_reducible show wpAny _ _ (subscriptTail _ _ (Value.ref _) (Value.int 1 _)) _ _ _);k_dflt (refine tail_pair1 (by k_asm) (by first | k_mem | (repeat (first | assumption | refine List.mem_cons_of_mem _ ?_))) ?_ (by with_unfolding_all rfl) (by intro _;with_unfolding_all rfl))))
 k_with "call ref" => ((fail_if_success have:=dNW9);first | k_extra "L13" | fail)
 k_with "pyIter ref" => ((fail_if_success have:=dNW9);first | k_extra "L23" | fail)
 k_with "TurnP" => ((fail_if_success have:=dNW9);first | k_extra "L29" | fail)
 k_with "getMethod ref" => ((fail_if_success have:=dNW9);first | k_extra "L39" | fail)
 k_with "call builtin:dict.get" => ((fail_if_success have:=dNW9);first | k_extra "L40" | fail)
 k_with "subscriptTail Call" => ((fail_if_success have:=dNW9);first | k_extra "L42" | k_extra "L41" | fail)
 exact True.intro
theorem news_one3 {h₀ h : Heap} {L : Addr} {p q r : Addr × Obj} (N : News h₀ L h [p,q,r]) : News h₀ L h [r]:=news_sub N fun x hx=>by rw [List.mem_singleton.mp hx];exact .tail _ (.tail _ (.head _))
theorem rows_at {w : World} {l : List (Addr × Obj)} : ∀ {kvs : List (Int × Value)} {rows : List Row} {g : Int} {o : Option Pt × Option Pt},RowsV w l kvs rows→(rows.map (·.1)).Pairwise (· < ·)→(g,o) ∈ rows→∃ v,valueAt kvs g = some v∧EndV w l v o:=by
 intro kvs
 induction kvs with
 | nil =>
  intro rows g o h hp hm
  cases rows with
  | nil=>cases hm
  | cons _ _=>exact h.elim
 | cons kv kvs ih =>
  intro rows g o h hp hm
  cases rows with
  | nil=>exact h.elim
  | cons r rows =>
   obtain ⟨k,v'⟩:=kv
   have e : k = r.1:=h.1
   rcases List.mem_cons.mp hm with rfl | hm
   ·exact ⟨v',by rw [e];simp [valueAt],h.2.1⟩
   ·refine ex1 (ih h.2.2 (List.pairwise_cons.mp hp).2 hm) fun v q9=>an2 q9 fun hv he=>?_
    clear q9
    refine ⟨v,?_,he⟩
    have hne : k ≠ g:=by
     rw [e];exact Int.ne_of_lt ((List.pairwise_cons.mp hp).1 g (List.mem_map.mpr ⟨_,hm,rfl⟩))
    simp only [valueAt] at hv ⊢
    rw [List.find?_cons_of_neg (by simpa using hne)]
    exact hv
open kc in
theorem c_24 : s_24 E w p loose mean mg mb dp un gd cn cs a ccd cl outer A₀ base h₀ L m restX1 s QX1 k1 k2 tx ty r dr:=by
 intro B F X T hk N z m1 m2 hd hu hret
 have Nr : News h₀ L s.heap restX1∧True:=⟨N,trivial⟩
 have N₀ : News h₀ L s.heap [(r,instObj 394 dr),(dr,ancDict w z.1 z.2 k1 k2 tx ty)]:=news_sub N fun p hp=>by
  rcases List.mem_cons.mp hp with rfl | hp
  ·exact m1
  ·rw [List.mem_singleton.mp hp];exact m2
 clear N
 refine wpAny_call ?_
 k_dflt (refine' code_defH [("self",.ref r)] ?k1 ?k2 ?k3 ?k4 ?k5 ?kA ?kF ?kK ?k6 ?k7 ?k8 ?k9 ?kB ?_ ?c2 ?c3 ?c4 ?c5;walk_at "nu_enter";intro g' L' h' FG' F' N' B' X' T' hg')
 (try dsimp only)
 k_fold
 k_steps
 exact hret _ _ _ (by assumption) (news_app (news_hid Nr.1 (Kp.of_keep hg' (Fr.keep (by assumption))) (List.forall_mem_cons.mpr ⟨by rw [News.get (by assumption) (by k_mem),(Nr.1 _ m1).1],List.forall_mem_cons.mpr ⟨by rw [News.get (by assumption) (by k_mem),(Nr.1 _ m2).1],List.forall_mem_nil _⟩⟩)) (news_one1 (by assumption))) (off1_newKs Nr.1 hg' (by assumption) (by k_mem) (List.forall_mem_cons.mpr ⟨by k_ne,List.forall_mem_cons.mpr ⟨by k_ne,List.forall_mem_nil _⟩⟩))
theorem u25 : upto 25:=hk @c_24 u24 (by with_unfolding_all exact rfl)
open kc in
theorem anc_told_spec {E w p loose mean mg mb dp un gd cn cs a ccd cl outer A₀ base h₀ L m restX1 s QX1 k1 k2 tx ty r dr} : s_24 E w p loose mean mg mb dp un gd cn cs a ccd cl outer A₀ base h₀ L m restX1 s QX1 k1 k2 tx ty r dr:=@hkT _ u25 (by k_extra "T") _ (by exact rfl)
theorem lnNW9_2 : True:=by
 k_with "L43" => ((k_here;(with_reducible show wpAny _ _ (call (Value.ref 391) [Value.ref _]) _ _ _);k_dflt (refine' anc_told_spec ?zB ?zF ?zX ?zT ?zhk ?zN ?zm1 ?zm2 ?zhd ?zhu ?_;k_extra "Q";(case zm1=>k_mem);(case zm2=>k_mem);k_extra "V");intro _ _ _ _ N' o1';(try simp only [LCg.Off1,and_true] at o1');(try simp only [List.cons_append,List.nil_append] at N');(try (revert N';intro _));(try (revert o1';intro _));(try k_sweep);(try dsimp only)))
 k_with "call ref" => ((fail_if_success have:=dNW9);first | k_extra "L13" | k_extra "L43" | fail)
 exact True.intro
open kc in
theorem c_25 : s_25 E w p loose mean mg mb dp un gd cn cs a ccd cl outer A₀ base h₀ L m restX1 s QX1:=by
 intro B F X T hk N v o hv hd hu hret
 have Nr : News h₀ L s.heap restX1∧True:=⟨N,trivial⟩
 cases o with
 | none =>
  have hv' : v = .none:=hv
  subst hv'
  have N₀ : News h₀ L s.heap []:=news_sub N (List.forall_mem_nil _)
  clear N
  refine wpAny_call ?_
  k_dflt (refine' code_defH [("anchor",.none)] ?k1 ?k2 ?k3 ?k4 ?k5 ?kA ?kF ?kK ?k6 ?k7 ?k8 ?k9 ?kB ?_ ?c2 ?c3 ?c4 ?c5;walk_at "nu_enter";intro g' L' h' FG' F' N' B' X' T' hg')
  (try dsimp only)
  k_fold
  k_steps
  exact hret _ [] _ _ .none (by assumption) (news_app (news_hid Nr.1 (Kp.of_keep hg' (Fr.keep (by assumption))) (List.forall_mem_nil _)) (List.forall_mem_nil _)) (List.forall_mem_nil _)
 | some z =>
  refine ex6 hv fun r dr k1 k2 tx ty q9=>an3 q9 fun e96 m1 m2=>?_
  clear q9 hv
  subst e96
  have N₀ : News h₀ L s.heap [(r,instObj 394 dr),(dr,ancDict w z.1 z.2 k1 k2 tx ty)]:=news_sub N fun p hp=>by
   rcases List.mem_cons.mp hp with rfl | hp
   ·exact m1
   ·rw [List.mem_singleton.mp hp];exact m2
  clear N
  refine wpAny_call ?_
  k_dflt (refine' code_defH [("anchor",.ref r)] ?k1 ?k2 ?k3 ?k4 ?k5 ?kA ?kF ?kK ?k6 ?k7 ?k8 ?k9 ?kB ?_ ?c2 ?c3 ?c4 ?c5;walk_at "nu_enter";intro g' L' h' FG' F' N' B' X' T' hg')
  (try dsimp only)
  k_fold
  k_steps
  exact hret _ [_] _ _ (.tuple (vs:=[.int z.1 _,.int z.2 _]) (.head _) (.cons (.int _ _) (.cons (.int _ _) .nil))) (by assumption) (news_app (news_hid Nr.1 (Kp.of_keep hg' (Fr.keep (by assumption))) (List.forall_mem_cons.mpr ⟨by rw [News.get (by assumption) (by k_mem),(Nr.1 _ m1).1],List.forall_mem_cons.mpr ⟨by rw [News.get (by assumption) (by k_mem),(Nr.1 _ m2).1],List.forall_mem_nil _⟩⟩)) (news_one3 (by assumption))) (List.forall_mem_cons.mpr ⟨(off1_newKs Nr.1 hg' (by assumption) (by k_mem) (List.forall_mem_cons.mpr ⟨by k_ne,List.forall_mem_cons.mpr ⟨by k_ne,List.forall_mem_nil _⟩⟩)),List.forall_mem_nil _⟩)
theorem u26 : upto 26:=hk @c_25 u25 (by with_unfolding_all exact rfl)
open kc in
theorem told_anchor_spec {E w p loose mean mg mb dp un gd cn cs a ccd cl outer A₀ base h₀ L m restX1 s QX1} : s_25 E w p loose mean mg mb dp un gd cn cs a ccd cl outer A₀ base h₀ L m restX1 s QX1:=@hkT _ u26 (by k_extra "T") _ (by exact rfl)
open kc in
theorem c_26 : s_26 E w x p loose mean mg mb dp un gd cn cs a ccd cl outer A₀ base h₀ L m restX1 s QX1 d D k oD t9:=by
 intro B F X T hk sel fa hsel N kvs rows hx hdd hD hi hlo hR hasc g o hg hd hu hret
 have Nr : News h₀ L s.heap restX1∧True:=⟨N,trivial⟩
 obtain ⟨v,hv,r,n,v1,v2,rfl,mr,a1,a2⟩:=rows_at hR hasc hg
 have N₀ : News h₀ L s.heap [(x,instObj 474 d),(d,dictOf [⟨PyData.keyHash w.params "ends",.str "ends" k,.ref D⟩] 1),(D,oD),(r,({ cls:=.type "tuple",data:=.seq #[v1,v2] n} : Obj))]:=news_sub N fun p hp=>by
  rcases List.mem_cons.mp hp with rfl | hp
  ·exact hx
  ·rcases List.mem_cons.mp hp with rfl | hp
   ·exact hdd
   ·rcases List.mem_cons.mp hp with rfl | hp
    ·exact hD
    ·rw [List.mem_singleton.mp hp];exact mr
 clear N
 cases sel with
 | true =>
  subst hsel
  refine wpAny_call ?_
  k_dflt (refine' code_defH [("self",.ref x),("glyph",.int g t9)] ?k1 ?k2 ?k3 ?k4 ?k5 ?kA ?kF ?kK ?k6 ?k7 ?k8 ?k9 ?kB ?_ ?c2 ?c3 ?c4 ?c5;walk_at "nu_enter";intro g' L' h' FG' F' N' B' X' T' hg')
  (try dsimp only)
  k_fold
  k_steps
  exact hret _ _ _ a1 (by assumption) (news_hid Nr.1 (Kp.of_keep hg' (Fr.keep (by assumption))) (List.forall_mem_cons.mpr ⟨by rw [News.get (by assumption) (by k_mem),(Nr.1 _ hx).1],List.forall_mem_cons.mpr ⟨by rw [News.get (by assumption) (by k_mem),(Nr.1 _ hdd).1],List.forall_mem_cons.mpr ⟨by rw [News.get (by assumption) (by k_mem),(Nr.1 _ hD).1],List.forall_mem_cons.mpr ⟨by rw [News.get (by assumption) (by k_mem),(Nr.1 _ mr).1],List.forall_mem_nil _⟩⟩⟩⟩))
 | false =>
  subst hsel
  refine wpAny_call ?_
  k_dflt (refine' code_defH [("self",.ref x),("glyph",.int g t9)] ?k1 ?k2 ?k3 ?k4 ?k5 ?kA ?kF ?kK ?k6 ?k7 ?k8 ?k9 ?kB ?_ ?c2 ?c3 ?c4 ?c5;walk_at "nu_enter";intro g' L' h' FG' F' N' B' X' T' hg')
  (try dsimp only)
  k_fold
  k_steps
  exact hret _ _ _ a2 (by assumption) (news_hid Nr.1 (Kp.of_keep hg' (Fr.keep (by assumption))) (List.forall_mem_cons.mpr ⟨by rw [News.get (by assumption) (by k_mem),(Nr.1 _ hx).1],List.forall_mem_cons.mpr ⟨by rw [News.get (by assumption) (by k_mem),(Nr.1 _ hdd).1],List.forall_mem_cons.mpr ⟨by rw [News.get (by assumption) (by k_mem),(Nr.1 _ hD).1],List.forall_mem_cons.mpr ⟨by rw [News.get (by assumption) (by k_mem),(Nr.1 _ mr).1],List.forall_mem_nil _⟩⟩⟩⟩))
theorem u27 : upto 27:=hk @c_26 u26 (by with_unfolding_all exact rfl)
open kc in
theorem cur_end_spec {E w x p loose mean mg mb dp un gd cn cs a ccd cl outer A₀ base h₀ L m restX1 s QX1 d D k oD t9} : s_26 E w x p loose mean mg mb dp un gd cn cs a ccd cl outer A₀ base h₀ L m restX1 s QX1 d D k oD t9:=@hkT _ u27 (by k_extra "T") _ (by exact rfl)
end NW9
theorem dNW9 : True:=trivial
section NW10
theorem lnNW10_1 : True:=by
 k_with "L44" => ((k_here;(with_reducible show wpAny _ _ (call (Value.builtin "sorted") [Value.ref _]) _ _ _);k_dflt (refine' sorted_dict rfl ?zF ?zN ?zp ?zd ?zlo ?zasc ?zn ?_;(case zF=>k_asm);(case zN=>k_asm);(case zp=>k_mem);(case zd=>assumption);(case zlo=>assumption);(case zasc=>assumption);(case zn=>omega));intro _ _ _ _ _ _ _ _ l1';(try k_lt l1');(try (revert l1';intro _));(try k_sweep);(try dsimp only)))
 k_with "L45" => ((k_here;k_dflt (refine LCt.ListComp_T (F₀:=by k_asm) (by with_unfolding_all rfl) (by decide) (by rfl) (by decide) (by rfl) ?_)))
 k_with "L46" => ((refine Stop.mk ?_))
 k_with "L47" => ((k_here;(with_reducible show wpAny _ _ (call (Value.ref 454) [Value.ref _,Value.int _ _]) _ _ _);k_dflt (refine' cur_end_spec ?zB ?zF ?zX ?zT ?zhk true 454 rfl ?zN ?zhx ?zhdd ?zhD ?zhi ?zhlo ?zhR ?zhasc ?zhg ?zhd ?zhu ?_;k_extra "Q";(case zhx=>first | k_mem | (repeat (first | assumption | refine List.mem_cons_of_mem _ ?_)));(case zhdd=>first | k_mem | (repeat (first | assumption | refine List.mem_cons_of_mem _ ?_)));(case zhD=>first | k_mem | (repeat (first | assumption | refine List.mem_cons_of_mem _ ?_)));(case zhi=>assumption);(case zhlo=>assumption);(case zhR=>assumption);(case zhasc=>assumption);(case zhg=>assumption);k_extra "V");intro _ _ _ hv' F' N';(rcases AncV.two hv' with ⟨rfl,_⟩ | ⟨⟨_,rfl⟩,_⟩) <;> ((try k_sweep);(try dsimp only));(try (revert hv';intro _));(try (revert F';intro _));(try (revert N';intro _))))
 k_with "L48" => ((k_here;(with_reducible show wpAny _ _ (call (Value.ref 461) [Value.ref _,Value.int _ _]) _ _ _);k_dflt (refine' cur_end_spec ?zB ?zF ?zX ?zT ?zhk false 461 rfl ?zN ?zhx ?zhdd ?zhD ?zhi ?zhlo ?zhR ?zhasc ?zhg ?zhd ?zhu ?_;k_extra "Q";(case zhx=>first | k_mem | (repeat (first | assumption | refine List.mem_cons_of_mem _ ?_)));(case zhdd=>first | k_mem | (repeat (first | assumption | refine List.mem_cons_of_mem _ ?_)));(case zhD=>first | k_mem | (repeat (first | assumption | refine List.mem_cons_of_mem _ ?_)));(case zhi=>assumption);(case zhlo=>assumption);(case zhR=>assumption);(case zhasc=>assumption);(case zhg=>assumption);k_extra "V");intro _ _ _ hv' F' N';(rcases AncV.two hv' with ⟨rfl,_⟩ | ⟨⟨_,rfl⟩,_⟩) <;> ((try k_sweep);(try dsimp only));(try (revert hv';intro _));(try (revert F';intro _));(try (revert N';intro _))))
 k_with "call ref" => ((fail_if_success have:=dNW10);first | k_extra "L48" | k_extra "L47" | k_extra "L13" | fail)
 k_with "pyIter ref" => ((fail_if_success have:=dNW10);first | k_extra "L23" | fail)
 k_with "TurnP" => ((fail_if_success have:=dNW10);first | k_extra "L29" | fail)
 k_with "call builtin:sorted" => ((fail_if_success have:=dNW10);first | k_extra "L44" | fail)
 k_with "A" => ((fail_if_success have:=dNW10);first | k_extra "L28" | k_extra "L27" | fail)
 k_with "eval ListComp" => ((fail_if_success have:=dNW10);first | k_extra "L45" | fail)
 k_with "CompSrcT" => ((fail_if_success have:=dNW10);first | k_extra "L46" | fail)
 exact True.intro
theorem take_nextA {α : Type} {gs : List α} {i : Nat} {g : α} (h : gs[i]? = some g) : gs.take (i + 1) = gs.take i ++ [g]:=by
 rw [List.take_succ,h];rfl
theorem ints_snoc {vs : List Value} {ns : List Int} {k : Int} {t : Tok} (h : IntsAre vs ns) : IntsAre (vs ++ [.int k t]) (ns ++ [k]):=h.append (.cons _ _ .nil)
theorem news_ins {h₀ h : Heap} {L : Addr} {q p : Addr × Obj} {l : List (Addr × Obj)} (N : News h₀ L h (q :: l)) (hp : p ∈ l) : News h₀ L h (q :: p :: l):=fun z hz=>by
 rcases List.mem_cons.mp hz with rfl | hz
 ·exact N _ (.head _)
 ·rcases List.mem_cons.mp hz with rfl | hz
  ·exact N _ (.tail _ hp)
  ·exact N _ (.tail _ hz)
theorem filt_no {g : Int} {a b : Option Pt} (h1 : a = none) (h2 : b = none) : [(g,a,b)].filter hasEnd = []:=by subst h1;subst h2;rfl
theorem filt_a {g : Int} {a b : Option Pt} (h : a.isSome = true) : [(g,a,b)].filter hasEnd = [(g,a,b)]:=by cases a with | none=>cases h | some z=>rfl
theorem filt_b {g : Int} {a b : Option Pt} (h : b.isSome = true) : [(g,a,b)].filter hasEnd = [(g,a,b)]:=by cases b with | none=>cases h | some z=>cases a <;> rfl
open kc in
theorem c_27 : s_27 E w x p loose mean mg mb dp un gd cn cs a ccd cl outer A₀ base h₀ L m restX1 s QX1 d D k oD:=by
 intro B F X T hk N kvs rows hx hdd hD hi hlo hR hasc hn hd hu hret
 have hkk : kvs.map (·.1) = rows.map (·.1):=hR.keys
 have hasc' : (kvs.map (·.1)).Pairwise (· < ·):=by rw [hkk];exact hasc
 have hkl : kvs.length < 60:=by
  have:=congrArg List.length hkk
  rw [List.length_map,List.length_map] at this
  omega
 have Nr : News h₀ L s.heap restX1∧True:=⟨N,trivial⟩
 refine wpAny_call ?_
 k_dflt (refine' code_defHC [("self",.ref x)] ?k1 ?k2 ?k3 ?k4 ?k5 ?kA ?kF ?kK ?k6 ?k7 ?k8 ?k9 ?kB ?kD ?_ ?c2 ?c3 ?c4;walk_at "nu_enterC";intro g' L' h' tk' cells' FG' F' N' Y' B' X' T' l1 hg';(try k_lt l1);k_cells Y';(try simp only [List.cons_append,List.nil_append] at N'))
 (try dsimp only)
 (try k_fold)
 replace N':=news_ins (news_ins (news_ins N' hD) (.tail _ hdd)) (.tail _ (.tail _ hx))
 k_steps
 refine Stop.out ?_
 rename_i o9 do9 D9 vs9 c9 h9 tk9 iv9 F9 N9 l19
 have hv9 : vs9.length = rows.length:=by rw [iv9.length,hkk,List.length_map]
 have hv9' : vs9.toArray.size = rows.length:=by rw [List.size_toArray,hv9]
 refine LCt.CompSrcT.ledger rfl F9 N9 (.head _) (by rw [List.size_toArray];exact Nat.le_trans (show vs9.length ≤ 1000 by omega) (Nat.le_of_ble_eq_true rfl)) ?_
 intro g9
 refine compT_inv (fun i ys nl=>nl = (D9,listOf vs9.toArray c9) :: (L' + 1,o9) :: (x,instObj 474 d) :: (d,dictOf [⟨PyData.keyHash w.params "ends",.str "ends" k,.ref D⟩] 1) :: (D,oD) :: restX1∧IntsAre ys (((rows.take i).filter hasEnd).map (·.1))) ⟨rfl,.nil⟩ ?_ ?_
 ·intro ys nl hJ9
  refine an2 hJ9 fun e90 hy=>?_
  clear hJ9
  subst e90
  intro Dn hn tkn Fn Nn on
  k_steps
  rw [hv9',List.take_length] at hy
  rename_i kF9 kN9 _ _
  refine hret Dn ys ys.length hn tkn hy kF9 (fun p hp=>kN9 p ?_) on.2.2.2.2.2
  rcases List.mem_cons.mp hp with rfl | hp
  ·exact .head _
  ·exact .tail _ (.tail _ (.tail _ (.tail _ (.tail _ (.tail _ hp)))))
 ·intro i ys nl v I oI C oC Dl m₂ h tk E' hin hJ9 hv hC hx9 F8 N8 off ne
  refine an2 hJ9 fun e90 hy=>?_
  clear hJ9
  subst e90
  have hR9 : RowsV w ((I,oI) :: (C,oC) :: (Dl,LCg.lst ys) :: (D9,listOf vs9.toArray c9) :: (L' + 1,o9) :: (x,instObj 474 d) :: (d,dictOf [⟨PyData.keyHash w.params "ends",.str "ends" k,.ref D⟩] 1) :: (D,oD) :: restX1) kvs rows:=hR.mono fun p hp=>.tail _ (.tail _ (.tail _ (.tail _ (.tail _ (.tail _ (.tail _ (.tail _ hp)))))))
  have hv' : vs9[i]? = some v:=by simpa using hv
  refine ex2 (ints_at iv9 hv') fun g t q9=>an2 q9 fun hg e93=>?_
  clear q9
  subst e93
  rw [hkk] at hg
  obtain ⟨r,hr,rfl⟩ : ∃ r,rows[i]? = some r∧r.1 = g:=by
   rw [List.getElem?_map] at hg
   cases z : rows[i]? with
   | none=>rw [z] at hg;cases hg
   | some r=>rw [z] at hg;exact ⟨r,rfl,Option.some.inj hg⟩
  have hmem : (r.1,r.2) ∈ rows:=List.mem_of_getElem? hr
  clear N9 F9 hR
  have hti : rows.take (i + 1) = rows.take i ++ [r]:=take_nextA hr
  obtain ⟨gr,e1,e2⟩:=r
  walk_at "S2"
  all_goals
   refine LCg.CompEnd.intro (by assumption) (by assumption) _ (fun _ h=>h) off (.inr ⟨_,.head _,rfl,_,rfl⟩) ⟨rfl,?_⟩
   rw [hti,List.filter_append,List.map_append]
   first
    | (rw [filt_no (by assumption) (by assumption)];exact (List.append_nil _).symm ▸ hy)
    | (rw [filt_a (by assumption)];exact ints_snoc hy)
    | (rw [filt_b (by assumption)];exact ints_snoc hy)
theorem u28 : upto 28:=hk @c_27 u27 (by with_unfolding_all exact rfl)
open kc in
theorem cur_glyphs_spec {E w x p loose mean mg mb dp un gd cn cs a ccd cl outer A₀ base h₀ L m restX1 s QX1 d D k oD} : s_27 E w x p loose mean mg mb dp un gd cn cs a ccd cl outer A₀ base h₀ L m restX1 s QX1 d D k oD:=@hkT _ u28 (by k_extra "T") _ (by exact rfl)
end NW10
theorem dNW10 : True:=trivial
section NW11
theorem lnNW11_1 : True:=by
 k_with "L49" => ((k_here;k_dflt (refine LCg.ListComp_U (F₀:=by k_asm) (by with_unfolding_all rfl) (by decide) (by rfl) (by decide) (by rfl) ?_)))
 k_with "L50" => ((k_here;(with_reducible show wpAny _ _ (call (Value.ref 466) [Value.ref _]) _ _ _);k_dflt (refine' cur_glyphs_spec ?zB ?zF ?zX ?zT ?zhk ?zN ?zhx ?zhdd ?zhD ?zhi ?zhlo ?zhR ?zhasc ?zhn ?zhd ?zhu ?_;k_extra "Q";(case zhx=>first | k_mem | (repeat (first | assumption | refine List.mem_cons_of_mem _ ?_ | refine List.mem_append_left _ ?_)));(case zhdd=>first | k_mem | (repeat (first | assumption | refine List.mem_cons_of_mem _ ?_ | refine List.mem_append_left _ ?_)));(case zhD=>first | k_mem | (repeat (first | assumption | refine List.mem_cons_of_mem _ ?_ | refine List.mem_append_left _ ?_)));(case zhi=>assumption);(case zhlo=>assumption);(case zhR=>first | assumption | (refine RowsV.mono ?_ (by assumption);intro _ _;repeat (first | assumption | refine List.mem_cons_of_mem _ ?_ | refine List.mem_append_left _ ?_)));(case zhasc=>assumption);(case zhn=>omega);k_extra "V");intro _ _ _ _ _ _ _ _ _;(try k_sweep);(try dsimp only)))
 k_with "L51" => ((k_here;(with_reducible show wpAny _ _ (call (Value.ref 405) [_]) _ _ _);k_dflt (refine' told_anchor_spec ?zB ?zF ?zX ?zT ?zhk ?zN ?zhv ?zhd ?zhu ?_;k_extra "Q";(case zhv=>assumption);k_extra "V");intro _ _ _ _ _ _ N' ho';(try simp only [List.cons_append,List.append_assoc] at N');(try (revert N';intro _));(try (revert ho';intro _));(try k_sweep);(try dsimp only)))
 k_with "L52" => ((k_here;(with_reducible show wpAny _ _ (call (Value.ref 454) [Value.ref _,Value.int _ _]) _ _ _);k_dflt (refine' cur_end_spec ?zB ?zF ?zX ?zT ?zhk true 454 rfl ?zN ?zhx ?zhdd ?zhD ?zhi ?zhlo ?zhR ?zhasc ?zhg ?zhd ?zhu ?_;k_extra "Q";(case zhx=>first | k_mem | (repeat (first | assumption | refine List.mem_cons_of_mem _ ?_ | refine List.mem_append_left _ ?_)));(case zhdd=>first | k_mem | (repeat (first | assumption | refine List.mem_cons_of_mem _ ?_ | refine List.mem_append_left _ ?_)));(case zhD=>first | k_mem | (repeat (first | assumption | refine List.mem_cons_of_mem _ ?_ | refine List.mem_append_left _ ?_)));(case zhi=>assumption);(case zhlo=>assumption);(case zhR=>first | assumption | (refine RowsV.mono ?_ (by assumption);intro _ _;repeat (first | assumption | refine List.mem_cons_of_mem _ ?_ | refine List.mem_append_left _ ?_)));(case zhasc=>assumption);(case zhg=>assumption);k_extra "V");intro _ _ _ _ _ _;(try k_sweep);(try dsimp only)))
 k_with "L53" => ((k_here;(with_reducible show wpAny _ _ (call (Value.ref 461) [Value.ref _,Value.int _ _]) _ _ _);k_dflt (refine' cur_end_spec ?zB ?zF ?zX ?zT ?zhk false 461 rfl ?zN ?zhx ?zhdd ?zhD ?zhi ?zhlo ?zhR ?zhasc ?zhg ?zhd ?zhu ?_;k_extra "Q";(case zhx=>first | k_mem | (repeat (first | assumption | refine List.mem_cons_of_mem _ ?_ | refine List.mem_append_left _ ?_)));(case zhdd=>first | k_mem | (repeat (first | assumption | refine List.mem_cons_of_mem _ ?_ | refine List.mem_append_left _ ?_)));(case zhD=>first | k_mem | (repeat (first | assumption | refine List.mem_cons_of_mem _ ?_ | refine List.mem_append_left _ ?_)));(case zhi=>assumption);(case zhlo=>assumption);(case zhR=>first | assumption | (refine RowsV.mono ?_ (by assumption);intro _ _;repeat (first | assumption | refine List.mem_cons_of_mem _ ?_ | refine List.mem_append_left _ ?_)));(case zhasc=>assumption);(case zhg=>assumption);k_extra "V");intro _ _ _ _ _ _;(try k_sweep);(try dsimp only)))
 k_with "L54" => ((k_here;(with_reducible show wpAny _ _ (call (Value.type "tuple") [Value.ref _]) _ _ _);k_dflt (refine' kde_tupleOf ?zk1 ?zk2 ?zk3 ?zz ?zk5 ?_;(case zk1=>k_asm);(case zk2=>k_asm);(case zk3=>exact News.isList (by k_asm) (by k_mem));(case zz=>(simp only [List.size_toArray];omega));(case zk5=>exact List.toList_toArray));intro _ _ _ _ l1;(try k_lt l1);(try (revert l1;intro _));(try k_sweep)))
 k_with "call ref" => ((fail_if_success have:=dNW11);first | k_extra "L13" | k_extra "L53" | k_extra "L52" | k_extra "L51" | k_extra "L50" | k_extra "L13" | fail)
 k_with "pyIter ref" => ((fail_if_success have:=dNW11);first | k_extra "L23" | fail)
 k_with "TurnP" => ((fail_if_success have:=dNW11);first | k_extra "L29" | fail)
 k_with "A" => ((fail_if_success have:=dNW11);first | k_extra "L28" | k_extra "L27" | fail)
 k_with "eval ListComp" => ((fail_if_success have:=dNW11);first | k_extra "L49" | fail)
 k_with "CompSrc" => ((fail_if_success have:=dNW11);first | k_extra "L46" | fail)
 k_with "call type:tuple" => ((fail_if_success have:=dNW11);first | k_extra "L54" | fail)
 exact True.intro
theorem sub_head {a b c e1 e2 e3 e4 e5 q : Addr × Obj} {l σ : List (Addr × Obj)} : ∀ p ∈ a :: b :: c :: e1 :: e2 :: e3 :: e4 :: e5 :: (l ++ q :: σ),p ∈ q :: a :: b :: c :: e1 :: e2 :: e3 :: e4 :: e5 :: (l ++ σ):=by
 intro p hp
 simp only [List.mem_cons,List.mem_append] at hp ⊢
 rcases hp with h | h | h | h | h | h | h | h | h | h | h <;> simp [h]
theorem off3_of {I C D : Addr} : ∀ {l : List (Addr × Obj)},(∀ p ∈ l,(@Ne Nat p.1 I)∧(@Ne Nat p.1 C)∧(@Ne Nat p.1 D))→LCg.Off3 I C D l:=by
 intro l h
 induction l with
 | nil=>trivial
 | cons _ _ ih=>exact ⟨h _ (.head _),ih fun q hq=>h q (.tail _ hq)⟩
theorem off3_app {I C D : Addr} {l l' : List (Addr × Obj)} (h : LCg.Off3 I C D l) (h' : LCg.Off3 I C D l') : LCg.Off3 I C D (l ++ l'):=off3_of fun p hp=>(List.mem_append.mp hp).elim (h.mem p) (h'.mem p)
theorem off3_split {I C D : Addr} {l l' : List (Addr × Obj)} (h : LCg.Off3 I C D (l ++ l')) : LCg.Off3 I C D l∧LCg.Off3 I C D l':=⟨off3_of fun p hp=>h.mem p (List.mem_append_left _ hp),off3_of fun p hp=>h.mem p (List.mem_append_right _ hp)⟩
theorem off3_new {I C D : Addr} {oI oC oD : Obj} {l l' : List (Addr × Obj)} (h : ∀ p ∈ l,LCg.Off1 p.1 ((I,oI) :: (C,oC) :: (D,oD) :: l')) : LCg.Off3 I C D l:=off3_of fun p hp=>⟨Ne.symm (h p hp).1,Ne.symm (h p hp).2.1,Ne.symm (h p hp).2.2.1⟩
open kc in
theorem c_28 : s_28 E w x p loose mean mg mb dp un gd cn cs a ccd cl outer A₀ base h₀ L m restX1 s QX1 d D k oD:=by
 intro B F X T hk N kvs rows hx hdd hD hi hlo hR hasc hn hd hu hret
 refine wpAny_call ?_
 k_dflt (refine' code_defHC [("self",.ref x)] ?k1 ?k2 ?k3 ?k4 ?k5 ?kA ?kF ?kK ?k6 ?k7 ?k8 ?k9 ?kB ?kD ?_ ?c2 ?c3 ?c4;walk_at "nu_enterC";intro g' L' h' tk' cells' FG' F' N' Y' B' X' T' l1 hg';(try k_lt l1);k_cells Y';(try simp only [List.cons_append,List.nil_append] at N'))
 (try dsimp only)
 (try k_fold)
 replace N':=news_ins (news_ins (news_ins N' hD) (.tail _ hdd)) (.tail _ (.tail _ hx))
 have hke : (keysE rows).length = (rows.filter hasEnd).length:=by unfold keysE;rw [List.length_map]
 have hkl : (keysE rows).length < 60:=by rw [hke];exact Nat.lt_of_le_of_lt (List.length_filter_le _ _) hn
 k_steps
 refine Stop.out ?_
 rename_i o9 do9 lg vs9 c9 h9 tk9 iv9 F9 N9 ol9
 have hv9 : vs9.toArray.size = (rows.filter hasEnd).length:=by rw [List.size_toArray,iv9.length,hke]
 refine LCg.CompSrc.ledger rfl F9 N9 (.head _) (by rw [hv9];exact Nat.le_trans (show (rows.filter hasEnd).length ≤ 1000 by omega) (Nat.le_of_ble_eq_true rfl)) ?_
 intro g9
 refine comp_inv (fun i ys nl=>∃ τ,nl = ((lg,listOf vs9.toArray c9) :: (L' + 1,o9) :: (x,instObj 474 d) :: (d,dictOf [⟨PyData.keyHash w.params "ends",.str "ends" k,.ref D⟩] 1) :: (D,oD) :: restX1) ++ τ∧DatAll τ ys (((rows.filter hasEnd).take i).map datR)) ⟨[],(List.append_nil _).symm,.nil⟩ ?_ ?_
 ·intro ys nl hJ9
  refine ex1 hJ9 fun τ q9=>an2 q9 fun e90 hy=>?_
  clear q9 hJ9
  subst e90
  intro Dn hn tkn Fn Nn on
  rw [hv9,List.take_length] at hy
  have hyl : ys.length < 60:=by rw [hy.length,List.length_map];omega
  k_steps
  rename_i T9 h8 F8 N8 l8 kF9 kN9 _ _
  refine hret (.ref T9) ((T9,({ cls:=.type "tuple",data:=.seq ys.toArray} : Obj)) :: τ) h8 tkn (.tuple (.head _) (hy.mono fun p hp=>.tail _ hp)) kF9 (fun p hp=>kN9 p ?_)
  rcases List.mem_cons.mp hp with rfl | hp
  ·exact .head _
  ·rcases List.mem_append.mp hp with hp | hp
   ·exact .tail _ (.tail _ (List.mem_append_right _ hp))
   ·exact .tail _ (.tail _ (List.mem_append_left _ (.tail _ (.tail _ (.tail _ (.tail _ (.tail _ hp)))))))
 ·intro i ys nl v I oI C oC Dl m₂ h tk E' hin hJ9 hv hC hx9 F8 N8 off ne
  refine ex1 hJ9 fun τ q9=>an2 q9 fun e90 hy=>?_
  clear q9 hJ9
  subst e90
  have hv' : vs9[i]? = some v:=by simpa using hv
  refine ex2 (ints_at iv9 hv') fun g t q9=>an2 q9 fun hg e93=>?_
  clear q9
  subst e93
  unfold keysE at hg
  obtain ⟨r,hr,rfl⟩ : ∃ r,(rows.filter hasEnd)[i]? = some r∧r.1 = g:=by
   rw [List.getElem?_map] at hg
   cases z : (rows.filter hasEnd)[i]? with
   | none=>rw [z] at hg;cases hg
   | some r=>rw [z] at hg;exact ⟨r,rfl,Option.some.inj hg⟩
  have hmem : (r.1,r.2) ∈ rows:=(List.mem_filter.mp (List.mem_of_getElem? hr)).1
  have hti : (rows.filter hasEnd).take (i + 1) = (rows.filter hasEnd).take i ++ [r]:=take_nextA hr
  simp only [List.cons_append] at N8 off
  clear N9 F9
  obtain ⟨gr,e1,e2⟩:=r
  walk_at "S2"
  all_goals
   rename_i T9 h8 F8 N8 l8
   refine LCg.CompEnd.intro F8 N8 (((lg,listOf vs9.toArray c9) :: (L' + 1,o9) :: (x,instObj 474 d) :: (d,dictOf [⟨PyData.keyHash w.params "ends",.str "ends" k,.ref D⟩] 1) :: (D,oD) :: restX1) ++ (_ :: (τ ++ (_ ++ _)))) sub_head ?_ (.inr ⟨_,.head _,rfl,_,rfl⟩) ?_
   ·exact ⟨off.1,off.2.1,off.2.2.1,off.2.2.2.1,off.2.2.2.2.1,off3_app (off3_split off.2.2.2.2.2).1 ⟨⟨Nat.ne_of_gt l8.1,Nat.ne_of_gt l8.2.1,Nat.ne_of_gt l8.2.2.1⟩,off3_app (off3_split off.2.2.2.2.2).2 (off3_app (off3_new (by assumption)) (off3_new (by assumption)))⟩⟩
   ·refine ⟨_,rfl,?_⟩
    rw [hti,List.map_append]
    exact (hy.mono fun p hp=>.tail _ (List.mem_append_left _ hp)).append (.one (.tuple (vs:=[.int gr t,_,_]) (.head _) (.cons (.int _ _) (.cons (DatIn.mono (fun p hp=>.tail _ (List.mem_append_right _ (List.mem_append_left _ hp))) (by assumption)) (.cons (DatIn.mono (fun p hp=>.tail _ (List.mem_append_right _ (List.mem_append_right _ hp))) (by assumption)) .nil)))))
theorem u29 : upto 29:=hk @c_28 u28 (by with_unfolding_all exact rfl)
open kc in
theorem cur_told_spec {E w x p loose mean mg mb dp un gd cn cs a ccd cl outer A₀ base h₀ L m restX1 s QX1 d D k oD} : s_28 E w x p loose mean mg mb dp un gd cn cs a ccd cl outer A₀ base h₀ L m restX1 s QX1 d D k oD:=@hkT _ u29 (by k_extra "T") _ (by exact rfl)
end NW11
theorem dNW11 : True:=trivial
section NW1
theorem lnNW1_1 : True:=by
 k_with "L55" => ((k_here;k_dflt (refine ListComp_D' (F₀:=by k_asm) (by with_unfolding_all rfl) (by decide) (by rfl) (by decide) (by rfl) ?_ (by intro _;rfl))))
 k_with "L56" => ((k_here;k_dflt (refine CompSrcD.mk (by rfl) (by k_asm) (by k_asm) (by assumption) (by first | decide | rfl) (by first | rfl | decide) (by first | size_fits | exact Nat.le_of_ble_eq_true rfl) ?_;intro _;lcg_lit)))
 k_with "call ref" => ((fail_if_success have:=dNW1);first | k_extra "L13" | fail)
 k_with "TurnP" => ((fail_if_success have:=dNW1);first | k_extra "L29" | fail)
 k_with "eval ListComp" => ((fail_if_success have:=dNW1);first | k_extra "L55" | fail)
 k_with "CompSrcD" => ((fail_if_success have:=dNW1);first | k_extra "L56" | fail)
 exact True.intro
theorem bytes_two {prog : Program} {w : World} {A : Around} {E : Value→Shared→Prop} {s : Shared} {h₀ : Heap} {L D : Addr} {m : Str→Option Value} {news : List (Addr × Obj)} {x y n : Int} {tx ty : Tok} {Q : Value→Shared→Prop} (F : Fr h₀ L s.heap m) (N : News h₀ L s.heap news) (hh : A.handled = none)
  (hm : (D,LCg.lst [.int x tx,.int y ty]) ∈ news) (hx : x = n / 256) (hy : y = n % 256) (h0 : 0 ≤ n) (h1 : n < 65536)
  (h : ∀ b t h' k,KBw.bInts b = [n / 256,n % 256]→Fr h₀ L h' m→News h₀ L h' news→Q (.bytes b t) { s with heap:=h',toks:=k}) : wpAny (model prog w) A (call (.type "bytes") [.ref D]) Q E s:=by
 subst hx hy
 refine KBa.make_K F N hh (vs:=[.int (n / 256) tx,.int (n % 256) ty]) (ns:=[n / 256,n % 256]) ⟨_,(N _ hm).1,rfl,_,rfl⟩ (.cons _ _ (.cons _ _ .nil)) ?_ (Nat.le_of_ble_eq_true rfl) fun h' t' k F' N' hin=>h _ _ _ _ (KBa.ints_make hin) F' N'
 intro z hz
 rcases List.mem_cons.mp hz with rfl | hz
 ·omega
 ·rw [List.mem_singleton.mp hz];omega
theorem hi16 {n : Int} (h0 : 0 ≤ n) (h1 : n < 65536) : Builtin.bitAnd (n.fdiv (2 ^ (8 * (2 - 1 + ((0 : Nat) : Int) * -1)).toNat)) 255 = n / 256:=by
 rw [bitAnd_m8,Int.fdiv_eq_ediv_of_nonneg _ (by decide),show ((2 : Int) ^ (8 * (2 - 1 + ((0 : Nat) : Int) * -1)).toNat) = 256 from rfl]
 omega
theorem lo16 {n : Int} : Builtin.bitAnd (n.fdiv (2 ^ (8 * (2 - 1 + ((0 + 1 : Nat) : Int) * -1)).toNat)) 255 = n % 256:=by
 rw [bitAnd_m8,Int.fdiv_eq_ediv_of_nonneg _ (by decide),show ((2 : Int) ^ (8 * (2 - 1 + ((0 + 1 : Nat) : Int) * -1)).toNat) = 1 from rfl]
 omega
open kc in
theorem c_29 : s_29 E w p loose mean mg mb dp un gd cn cs a ccd cl outer A₀ base h₀ L m restX1 s QX1 t1 t2:=by
 intro B F X T hk N n h0 h1 hd hu hret
 refine an2 (news_split0 N) fun N₀ hrest=>?_
 clear N
 refine wpAny_call ?_
 k_dflt (refine' code_defHC [("number",.int n t1),("count",.int 2 t2)] ?k1 ?k2 ?k3 ?k4 ?k5 ?kA ?kF ?kK ?k6 ?k7 ?k8 ?k9 ?kB ?kD ?_ ?c2 ?c3 ?c4;walk_at "nu_enterC";intro g' L' h' tk' cells' FG' F' N' Y' B' X' T' l1 hg';(try k_lt l1);k_cells Y';(try simp only [List.cons_append,List.nil_append] at N'))
 (try dsimp only)
 (try k_fold)
 k_steps
 (try (exfalso;exact fd16 h0 h1 (by assumption)))
 ·refine bytes_two (by assumption) (by assumption) rfl (.head _) (hi16 h0 h1) lo16 h0 h1 ?_
  intro b9 t9 h9 k9 e9 F9 N9
  k_steps
  exact hret _ _ _ _ e9 (by assumption) (hrest _ (Kp.of_keep hg' (Fr.keep (by assumption))))
theorem u30 : upto 30:=hk @c_29 u29 (by with_unfolding_all exact rfl)
open kc in
theorem number_octets_spec {E w p loose mean mg mb dp un gd cn cs a ccd cl outer A₀ base h₀ L m restX1 s QX1 t1 t2} : s_29 E w p loose mean mg mb dp un gd cn cs a ccd cl outer A₀ base h₀ L m restX1 s QX1 t1 t2:=@hkT _ u30 (by k_extra "T") _ (by exact rfl)
end NW1
theorem dNW1 : True:=trivial
section NW2
theorem lnNW2_1 : True:=by
 k_with "L57" => ((k_here;(with_reducible show wpAny _ _ (getMethod (Value.ref _) (Str.ofString "extend") _) _ _ _);k_dflt (refine kba_method (by k_asm) (by k_mem) ?_)))
 k_with "call ref" => ((fail_if_success have:=dNW2);first | k_extra "L13" | fail)
 k_with "TurnP" => ((fail_if_success have:=dNW2);first | k_extra "L29" | fail)
 k_with "getMethod ref" => ((fail_if_success have:=dNW2);first | k_extra "L57" | fail)
 exact True.intro
theorem news_updF3 {h₀ h h' : Heap} {L x dx ma : Addr} {ox odx o o' : Obj} {news : List (Addr × Obj)} {gU : Obj→List (Addr × Obj)} (N : News h₀ L h news) (U : UpdF ma o news gU) (hx : (x,ox) ∈ news) (hdx : (dx,odx) ∈ news) (k : Kp [x,dx,ma] h h') (ex : h'.get? x = some ox) (ed : h'.get? dx = some odx) (hd : h'.get? ma = some o') : News h₀ L h' (gU o'):=by
 have exx : h'.get? x = h.get? x:=by rw [ex,(N _ hx).1]
 have edd : h'.get? dx = h.get? dx:=by rw [ed,(N _ hdx).1]
 refine ex2 (U.split) fun pre post q9=>an4 q9 fun e92 hg h1 h2=>?_
 clear q9
 subst e92
 rw [hg]
 have hD:=N (ma,o) (by simp)
 have one : ∀ p ∈ pre ++ (ma,o) :: post,p.1 ≠ ma→h'.get? p.1 = some p.2∧p.1 ≠ L∧h₀.get? p.1 = none:=fun p hp hn=>by
  refine ⟨?_,(N p hp).2⟩
  by_cases z : p.1 = x
  ·rw [z,exx,← z];exact (N p hp).1
  ·by_cases z2 : p.1 = dx
   ·rw [z2,edd,← z2];exact (N p hp).1
   ·exact k _ _ (N p hp).1 fun hm=>by
     rcases List.mem_cons.mp hm with q | hm
     ·exact z q
     ·rcases List.mem_cons.mp hm with q | q
      ·exact z2 q
      ·exact hn (List.mem_singleton.mp q)
 intro p hp
 rcases List.mem_append.mp hp with q | q
 ·exact one p (List.mem_append_left _ q) (h1 p q)
 ·rcases List.mem_cons.mp q with rfl | q
  ·exact ⟨hd,hD.2⟩
  ·exact one p (List.mem_append_right _ (.tail _ q)) (h2 p q)
theorem lnNW2_2 : True:=by
 k_with "L58" => ((k_here;(with_reducible show wpAny _ _ (call (Value.ref 179) [Value.int _ _,Value.int _ _]) _ _ _);k_dflt (refine' number_octets_spec ?zB ?zF ?zX ?zT ?zhk ?zN _ ?zh0 ?zh1 ?zhd ?zhu ?_;k_extra "Q";(case zh0=>omega);(case zh1=>omega);k_extra "V");intro _ _ _ _ _ _ _;(try k_sweep);(try dsimp only)))
 k_with "call ref" => ((fail_if_success have:=dNW2);first | k_extra "L58" | fail)
 exact True.intro
open kc in
theorem c_30 : s_30 w x p loose mean mg mb dp un cn cs a ccd cl outer A₀ base h₀ L m restX1 s QX1 t2 dx gU k ma:=by
 intro B F X T hk N b hx hdx U hn1 hn2 hn3 hb n c0 c1 hd hu hret
 have N₀ : News h₀ L s.heap [(x,instObj 266 dx),(dx,outDict w k ma),(ma,baObj b)]:=news_sub N fun p hp=>by
  rcases List.mem_cons.mp hp with rfl | hp
  ·exact hx
  ·rcases List.mem_cons.mp hp with rfl | hp
   ·exact hdx
   ·rw [List.mem_singleton.mp hp];exact updF_mem U
 have hend : ∀ h' o',Kp [x,dx,ma] s.heap h'→News h₀ L h' [(x,instObj 266 dx),(dx,outDict w k ma),(ma,o')]→News h₀ L h' (gU o'):=fun h' o' k e=>news_updF3 N U hx hdx k (e _ (.head _)).1 (e _ (.tail _ (.head _))).1 (e _ (.tail _ (.tail _ (.head _)))).1
 clear N
 refine wpG_call ?_
 k_dflt (refine' code_defG [("self",.ref x),("number",.int n t2)] ?k1 ?k2 ?k3 ?k4 ?k5 ?kA ?kF ?kK ?k6 ?k7 ?k8 ?k9 ?kB ?_ ?c2 ?c3 ?c4 ?c5;walk_at "nu_enter";intro g' L' h' FG' F' N' B' X' T' hg')
 (try dsimp only)
 (try k_fold)
 refine G_cons (G_Expr ?_ rfl rfl)
 refine G_Call_method rfl rfl rfl rfl fun _=>?_
 walk_at "S1"
 (try dsimp only)
 refine G_callWith_B ?_ rfl rfl
 walk_at "S1"
 (try dsimp only [List.cons_append,List.nil_append])
 rename_i b9 t9 h8 tk9 be9 F8 N8
 have z9 : b9.size = 2:=by rw [← KBw.ints_length,be9];rfl
 k_dflt (refine' kba_extend rfl ?F ?N ?U ?z ?_;(case F=>k_asm);(case N=>k_asm);(case U=>k_updF);(case z=>omega))
 intro h9 F9 N9
 (try dsimp only at N9)
 refine G_nil ?_
 walk_at "S1"
 (try show QX1 _ _)
 exact hret _ _ _ (by rw [KBw.ints_app rfl be9]) (by rw [Array.size_append,z9]) (by assumption) (hend _ _ (Kp.of_keep hg' (Fr.keep (by assumption))) (by assumption))
theorem u31 : upto 31:=hk @c_30 u30 (by with_unfolding_all exact rfl)
open kc in
theorem out_u16 {w x p loose mean mg mb dp un cn cs a ccd cl outer A₀ base h₀ L m restX1 s QX1 t2 dx gU k ma} : s_30 w x p loose mean mg mb dp un cn cs a ccd cl outer A₀ base h₀ L m restX1 s QX1 t2 dx gU k ma:=@hkT _ u31 (by k_extra "T") _ (by exact rfl)
end NW2
theorem dNW2 : True:=trivial
section NW3
theorem lnNW3_1 : True:=by
 k_with "L59" => ((k_here;(with_reducible show wpAny _ _ (call (Value.type "bytes") [Value.ref _]) _ _ _);k_dflt (refine kba_bytes (by k_asm) (by k_mem) (by omega) ?_);intro _ _))
 k_with "L60" => ((k_here;(with_reducible show wpAny _ _ (call (Value.builtin "len") [Value.ref _]) _ _ _);k_dflt (refine kba_len (by k_asm) (by k_mem) (by omega) ?_);intro _ _))
 k_with "call ref" => ((fail_if_success have:=dNW3);first | k_extra "L58" | k_extra "L13" | fail)
 k_with "TurnP" => ((fail_if_success have:=dNW3);first | k_extra "L29" | fail)
 k_with "getMethod ref" => ((fail_if_success have:=dNW3);first | k_extra "L57" | fail)
 k_with "call type:bytes cons nil" => ((fail_if_success have:=dNW3);first | k_extra "L59" | fail)
 k_with "call builtin:len cons nil" => ((fail_if_success have:=dNW3);first | k_extra "L60" | fail)
 exact True.intro
open kc in
theorem c_31 : s_31 w x p loose mean mg mb dp un cn cs a ccd cl outer A₀ base h₀ L m restX1 s QX1 t2 dx gU k ma:=by
 intro B F X T hk N b hx hdx U hn1 hn2 hn3 hb n c0 c1 hd hu hret
 have hbit : Builtin.bitAnd n 65535 = n % 65536:=bitAnd_m16 n
 have N₀ : News h₀ L s.heap [(x,instObj 266 dx),(dx,outDict w k ma),(ma,baObj b)]:=news_sub N fun p hp=>by
  rcases List.mem_cons.mp hp with rfl | hp
  ·exact hx
  ·rcases List.mem_cons.mp hp with rfl | hp
   ·exact hdx
   ·rw [List.mem_singleton.mp hp];exact updF_mem U
 have hend : ∀ h' o',Kp [x,dx,ma] s.heap h'→News h₀ L h' [(x,instObj 266 dx),(dx,outDict w k ma),(ma,o')]→News h₀ L h' (gU o'):=fun h' o' k e=>news_updF3 N U hx hdx k (e _ (.head _)).1 (e _ (.tail _ (.head _))).1 (e _ (.tail _ (.tail _ (.head _)))).1
 clear N
 refine wpG_call ?_
 k_dflt (refine' code_defG [("self",.ref x),("number",.int n t2)] ?k1 ?k2 ?k3 ?k4 ?k5 ?kA ?kF ?kK ?k6 ?k7 ?k8 ?k9 ?kB ?_ ?c2 ?c3 ?c4 ?c5;walk_at "nu_enter";intro g' L' h' FG' F' N' B' X' T' hg')
 (try dsimp only)
 (try k_fold)
 refine G_good ?_
 walk_at "S1"
 (try dsimp only)
 refine G_cons (G_Expr ?_ rfl rfl)
 refine G_Call_method rfl rfl rfl rfl fun _=>?_
 walk_at "S1"
 (try dsimp only)
 refine G_callWith_B ?_ rfl rfl
 walk_at "S1"
 (try dsimp only [List.cons_append,List.nil_append])
 rename_i b9 t9 h8 tk9 be9 F8 N8
 have z9 : b9.size = 2:=by rw [← KBw.ints_length,be9];rfl
 rw [hbit] at be9
 k_dflt (refine' kba_extend rfl ?F ?N ?U ?z ?_;(case F=>k_asm);(case N=>k_asm);(case U=>k_updF);(case z=>omega))
 intro h9 F9 N9
 (try dsimp only at N9)
 refine G_nil ?_
 walk_at "S1"
 (try show QX1 _ _)
 exact hret _ _ _ (by rw [KBw.ints_app rfl be9]) (by rw [Array.size_append,z9]) (by assumption) (hend _ _ (Kp.of_keep hg' (Fr.keep (by assumption))) (by assumption))
theorem u32 : upto 32:=hk @c_31 u31 (by with_unfolding_all exact rfl)
open kc in
theorem out_i16 {w x p loose mean mg mb dp un cn cs a ccd cl outer A₀ base h₀ L m restX1 s QX1 t2 dx gU k ma} : s_31 w x p loose mean mg mb dp un cn cs a ccd cl outer A₀ base h₀ L m restX1 s QX1 t2 dx gU k ma:=@hkT _ u32 (by k_extra "T") _ (by exact rfl)
open kc in
theorem c_32 : s_32 w x p loose mean mg mb dp un cn cs a ccd cl outer A₀ base h₀ L m restX1 s QX1 t2 dx gU k ma:=by
 intro B F X T hk N b hx hdx U hn1 hn2 hn3 hb c hc hd hu hret
 have N₀ : News h₀ L s.heap [(x,instObj 266 dx),(dx,outDict w k ma),(ma,baObj b)]:=news_sub N fun p hp=>by
  rcases List.mem_cons.mp hp with rfl | hp
  ·exact hx
  ·rcases List.mem_cons.mp hp with rfl | hp
   ·exact hdx
   ·rw [List.mem_singleton.mp hp];exact updF_mem U
 have hend : ∀ h' o',Kp [x,dx,ma] s.heap h'→News h₀ L h' [(x,instObj 266 dx),(dx,outDict w k ma),(ma,o')]→News h₀ L h' (gU o'):=fun h' o' k e=>news_updF3 N U hx hdx k (e _ (.head _)).1 (e _ (.tail _ (.head _))).1 (e _ (.tail _ (.tail _ (.head _)))).1
 clear N
 refine wpG_call ?_
 k_dflt (refine' code_defG [("self",.ref x),("octets",.bytes c t2)] ?k1 ?k2 ?k3 ?k4 ?k5 ?kA ?kF ?kK ?k6 ?k7 ?k8 ?k9 ?kB ?_ ?c2 ?c3 ?c4 ?c5;walk_at "nu_enter";intro g' L' h' FG' F' N' B' X' T' hg')
 (try dsimp only)
 (try k_fold)
 refine G_cons (G_Expr ?_ rfl rfl)
 refine G_Call_method rfl rfl rfl rfl fun _=>?_
 walk_at "S1"
 (try dsimp only)
 refine G_callWith_B ?_ rfl rfl
 walk_at "S1"
 (try dsimp only [List.cons_append,List.nil_append])
 k_dflt (refine' kba_extend rfl ?F ?N ?U ?z ?_;(case F=>k_asm);(case N=>k_asm);(case U=>k_updF);(case z=>omega))
 intro h9 F9 N9
 (try dsimp only at N9)
 refine G_nil ?_
 walk_at "S1"
 (try show QX1 _ _)
 exact hret _ _ _ (by rw [KBw.ints_app rfl rfl]) (by rw [Array.size_append]) (by assumption) (hend _ _ (Kp.of_keep hg' (Fr.keep (by assumption))) (by assumption))
theorem u33 : upto 33:=hk @c_32 u32 (by with_unfolding_all exact rfl)
open kc in
theorem out_add {w x p loose mean mg mb dp un cn cs a ccd cl outer A₀ base h₀ L m restX1 s QX1 t2 dx gU k ma} : s_32 w x p loose mean mg mb dp un cn cs a ccd cl outer A₀ base h₀ L m restX1 s QX1 t2 dx gU k ma:=@hkT _ u33 (by k_extra "T") _ (by exact rfl)
theorem out_octets {w : World} {p : Program} {loose : List Str} {mean : ExcName→Option Value} {mg mb : Str→Option Value}
  {dp un : Nat} {gd : Option (List Code)} {cn : Str} {cs : Scope} {a : Addr} {ccd : Value} {cl : List (Str × Addr)} {outer : List Env} {A₀ : Around} {base h₀ : Heap} {L : Addr} {m : Str→Option Value} {rest : List (Addr × Obj)} {s : Shared}
  {Q E : Value→Shared→Prop}
  (B : Below A₀ base outer h₀) (F : Fr h₀ L s.heap m) (X : (hd.heap_1 w.params).In h₀) (T : Top p loose mean mg mb h₀) (hk : cs.kind = .function)
  (N : News h₀ L s.heap rest) {x dx ma : Addr} {gU : Obj→List (Addr × Obj)} {k : Tok} {b : Array UInt8} (hx : (x,instObj 266 dx) ∈ rest) (hdx : (dx,outDict w k ma) ∈ rest) (U : UpdF ma (baObj b) rest gU) (hn1 : x ≠ dx) (hn2 : x ≠ ma) (hn3 : dx ≠ ma) (hb : b.size < 2^19) (hd : dp + 7 < recursionLimit) (hu : un + 56 < cLine)
  (hret : ∀ t h' tk',Fr h₀ L h' m→News h₀ L h' rest→Q (.bytes b t) { s with heap:=h',toks:=tk'}) :
  wpAny (model pw_nu0185_01 w) (ktrTop dp un gd cn cs L a ccd cl outer) (call (.ref 263) [.ref x]) Q E s:=by
 have hU : gU (baObj b) = rest:=updF_same U
 have N₀ : News h₀ L s.heap [(x,instObj 266 dx),(dx,outDict w k ma),(ma,baObj b)]:=news_sub N fun p hp=>by
  rcases List.mem_cons.mp hp with rfl | hp
  ·exact hx
  ·rcases List.mem_cons.mp hp with rfl | hp
   ·exact hdx
   ·rw [List.mem_singleton.mp hp];exact updF_mem U
 have hend : ∀ h' o',Kp [x,dx,ma] s.heap h'→News h₀ L h' [(x,instObj 266 dx),(dx,outDict w k ma),(ma,o')]→News h₀ L h' (gU o'):=fun h' o' k e=>news_updF3 N U hx hdx k (e _ (.head _)).1 (e _ (.tail _ (.head _))).1 (e _ (.tail _ (.tail _ (.head _)))).1
 clear N
 refine wpAny_call ?_
 k_dflt (refine' code_defH [("self",.ref x)] ?k1 ?k2 ?k3 ?k4 ?k5 ?kA ?kF ?kK ?k6 ?k7 ?k8 ?k9 ?kB ?_ ?c2 ?c3 ?c4 ?c5;walk_at "nu_enter";intro g' L' h' FG' F' N' B' X' T' hg')
 (try dsimp only)
 k_fold
 k_steps
 ·have:=hend _ _ (Kp.of_keep hg' (Fr.keep (by assumption))) (by assumption)
  exact hret _ _ _ (by assumption) (hU ▸ this)
end NW3
theorem dNW3 : True:=trivial
section NW4
theorem lnNW4_1 : True:=by
 k_with "call ref" => ((fail_if_success have:=dNW4);first | k_extra "L13" | fail)
 k_with "TurnP" => ((fail_if_success have:=dNW4);first | k_extra "L29" | fail)
 k_with "getMethod ref" => ((fail_if_success have:=dNW4);first | k_extra "L57" | fail)
 exact True.intro
theorem news_new3 {h₀ h : Heap} {L ma x dx : Addr} {oM ox od : Obj} {rest : List (Addr × Obj)} (N9 : News h₀ L h [(ma,oM),(x,ox),(dx,od)]) (hr : News h₀ L h rest) : News h₀ L h ((x,ox) :: (dx,od) :: (ma,oM) :: rest):=by
 intro p hp
 rcases List.mem_cons.mp hp with rfl | hp
 ·exact N9 _ (.tail _ (.head _))
 ·rcases List.mem_cons.mp hp with rfl | hp
  ·exact N9 _ (.tail _ (.tail _ (.head _)))
  ·rcases List.mem_cons.mp hp with rfl | hp
   ·exact N9 _ (.head _)
   ·exact hr p hp
theorem new_out {w : World} {p : Program} {loose : List Str} {mean : ExcName→Option Value} {mg mb : Str→Option Value}
  {dp un : Nat} {cn : Str} {cs : Scope} {a : Addr} {ccd : Value} {cl : List (Str × Addr)} {outer : List Env} {A₀ : Around} {base h₀ : Heap} {L : Addr} {m : Str→Option Value} {rest : List (Addr × Obj)} {s : Shared}
  {Q : Value→Shared→Prop}
  (B : Below A₀ base outer h₀) (F : Fr h₀ L s.heap m) (X : (hd.heap_1 w.params).In h₀) (T : Top p loose mean mg mb h₀) (hk : cs.kind = .function)
  (N : News h₀ L s.heap rest) (hd : dp + 4 < recursionLimit) (hu : un + 32 < cLine)
  (hret : ∀ x dx ma k h' tk',Fr h₀ L h' m→News h₀ L h' ((x,instObj 266 dx) :: (dx,outDict w k ma) :: (ma,baObj #[]) :: rest)→(∀ p ∈ rest,p.1 < dx)→dx < x→x < ma→Q (.ref x) { s with heap:=h',toks:=tk'}) :
  wpG (model pw_nu0185_01 w) (ktrTop dp un (some []) cn cs L a ccd cl outer) (call (.ref 266) []) Q s:=by
 refine call_clsG F X N (by k_is) (by k_is) (by k_is) ?_
 intro x dx h₁ F N₁ l1 l2
 have hsp:=news_split (mu:=[(x,instObj 266 dx),(dx,dictOf [] 0)]) (rest:=rest) N₁ (fun q hq hm=>by
  have:=l1 q hq
  rcases List.mem_cons.mp hm with z | z
  ·have z' : q.1 = x:=z
   rw [z'] at this;exact Nat.lt_irrefl _ (Nat.lt_trans l2 this)
  ·have z' : q.1 = dx:=List.mem_singleton.mp z
   rw [z'] at this;exact Nat.lt_irrefl _ this)
 refine an2 hsp fun N₀ hrest=>?_
 clear hsp
 have hne : x ≠ dx:=fun z=>Nat.lt_irrefl dx (by rw [z] at l2;exact l2)
 have l2' : @LT.lt Nat _ dx x:=l2
 clear N₁ N
 k_dflt (refine' code_defG [("self",.ref x)] ?k1 ?k2 ?k3 ?k4 ?k5 ?kA ?kF ?kK ?k6 ?k7 ?k8 ?k9 ?kB ?_ ?c2 ?c3 ?c4 ?c5;walk_at "nu_enter";intro g' L' h' FG' F' N' B' X' T' hg')
 (try dsimp only)
 (try k_fold)
 refine G_cons (G_Assign1 rfl rfl rfl ?_)
 refine G_Call_Name rfl ?_
 walk_at "S1"
 (try dsimp only)
 refine G_callWith_T0 ?_
 (try dsimp only [List.append_nil,List.nil_append])
 k_dflt (refine' kba_new rfl ?F ?N ?_;(case F=>k_asm);(case N=>k_asm))
 intro ma h8 F8 N8 l8
 have l9 : x < ma:=l8 _ (.head _)
 (try k_lt l8)
 (try k_sweep)
 walk_at "S1"
 (try dsimp only)
 refine G_nil ?_
 walk_at "S1"
 exact ⟨rfl,hret x dx ma _ _ _ (by assumption) (news_new3 (by assumption) (hrest _ (Kp.of_keep hg' (Fr.keep (by assumption))))) l1 l2 l9⟩
end NW4
theorem dNW4 : True:=trivial
section NW5
theorem lnNW5_1 : True:=by
 k_with "L61" => ((k_here;(with_reducible show wpAny _ _ (call (Value.ref 263) [Value.ref _]) _ _ _);k_dflt (refine' out_octets ?zB ?zF ?zX ?zT ?zhk ?zN ?zhx ?zhdx ?zU ?zn1 ?zn2 ?zn3 ?zhb ?zhd ?zhu ?_;k_extra "Q";(case zhx=>k_mem);(case zhdx=>k_mem);(case zU=>k_updF);(case zn1=>first | assumption | k_ne);(case zn2=>first | assumption | k_ne);(case zn3=>first | assumption | k_ne);(case zhb=>omega);k_extra "V");intro _ _ _ _ _;(try k_sweep);(try dsimp only)))
 k_with "call ref" => ((fail_if_success have:=dNW5);first | k_extra "L61" | k_extra "L13" | fail)
 k_with "TurnP" => ((fail_if_success have:=dNW5);first | k_extra "L29" | fail)
 k_with "getMethod ref" => ((fail_if_success have:=dNW5);first | k_extra "L57" | fail)
 exact True.intro
open kc in
theorem c_33 : s_33 w p loose mean mg mb dp un cn cs a ccd cl outer A₀ base h₀ L m restX1 s QX1 k1 k2 tx ty r d:=by
 intro B F X T hk N z hr hdd z1 z2 z3 z4 hd hu hret
 have N₀ : News h₀ L s.heap [(r,instObj 394 d),(d,ancDict w z.1 z.2 k1 k2 tx ty)]:=news_sub N fun p hp=>by
  rcases List.mem_cons.mp hp with rfl | hp
  ·exact hr
  ·rw [List.mem_singleton.mp hp];exact hdd
 have hend : ∀ h',Kp [r,d] s.heap h'→h'.get? r = some (instObj 394 d)→h'.get? d = some (ancDict w z.1 z.2 k1 k2 tx ty)→News h₀ L h' restX1:=fun h' k e1 e2=>news_hid N k fun b hb=>by
  rcases List.mem_cons.mp hb with rfl | hb
  ·rw [e1,(N _ hr).1]
  ·rw [List.mem_singleton.mp hb,e2,(N _ hdd).1]
 clear N
 refine wpG_call ?_
 k_dflt (refine' code_defG [("anchor",.ref r)] ?k1 ?k2 ?k3 ?k4 ?k5 ?kA ?kF ?kK ?k6 ?k7 ?k8 ?k9 ?kB ?_ ?c2 ?c3 ?c4 ?c5;walk_at "nu_enter";intro g' L' h' FG' F' N' B' X' T' hg')
 (try dsimp only)
 (try k_fold)
 refine G_cons (G_Assign1 rfl rfl rfl ?_)
 refine G_Call_Name rfl ?_
 walk_at "S1"
 (try dsimp only)
 refine G_callWith_K0 (K:=Mine.hd.heap_1 w.params) (by k_in) (by k_is) ?_
 (try dsimp only [List.cons_append,List.nil_append])
 (with_reducible show wpG _ _ (call (Value.ref 266) []) _ _)
 k_dflt (refine' new_out ?B ?F ?X ?T ?hk ?N ?hd ?hu ?_;(case B=>k_asm);(case F=>k_asm);(case X=>k_asm);(case T=>k_asm);(case hk=>first | exact rfl | assumption);(case N=>k_asm);(case hd=>ktr_room);(case hu=>ktr_units))
 intro x' dx' ma' k' h' tk' F' N' l1' l2' l3'
 have e0' : (#[] : Array UInt8).size = 0:=rfl
 (try k_lt l1')
 (try k_lt2 l2')
 (try k_lt2 l3')
 (try k_sweep)
 (try dsimp only)
 walk_at "S1"
 (try dsimp only)
 refine G_cons (G_Expr ?_ rfl rfl)
 refine G_Call_method rfl rfl rfl rfl fun _=>?_
 walk_at "S1"
 (try dsimp only)
 refine G_callWith_K (K:=Mine.hd.heap_1 w.params) (by k_is) ?_ rfl rfl
 walk_at "S1"
 (try dsimp only [List.cons_append,List.nil_append])
 (with_reducible show wpG _ _ (call (Value.ref 207) [Value.ref _,Value.int _ _]) _ _)
 k_dflt (refine' out_u16 ?B ?F ?X ?T ?hk ?N ?hx ?hdx ?U ?n1 ?n2 ?n3 ?hb _ ?c0 ?c1 ?hd ?hu ?_;(case B=>k_asm);(case F=>k_asm);(case X=>k_asm);(case T=>k_asm);(case hk=>first | exact rfl | assumption);(case N=>k_asm);(case hx=>k_mem);(case hdx=>k_mem);(case U=>k_updF);(case n1=>first | assumption | k_ne);(case n2=>first | assumption | k_ne);(case n3=>first | assumption | k_ne);(case hb=>omega);(case c0=>omega);(case c1=>omega);(case hd=>ktr_room);(case hu=>ktr_units))
 intro b1 h1 tk1 be1 bz1 F1 N1
 (try k_sweep)
 (try dsimp only)
 refine G_cons (G_Expr ?_ rfl rfl)
 refine G_Call_method rfl rfl rfl rfl fun _=>?_
 walk_at "S1"
 (try dsimp only)
 refine G_callWith_K (K:=Mine.hd.heap_1 w.params) (by k_is) ?_ rfl rfl
 walk_at "S1"
 (try dsimp only [List.cons_append,List.nil_append])
 (with_reducible show wpG _ _ (call (Value.ref 214) [Value.ref _,Value.int _ _]) _ _)
 k_dflt (refine' out_i16 ?B ?F ?X ?T ?hk ?N ?hx ?hdx ?U ?n1 ?n2 ?n3 ?hb _ ?c0 ?c1 ?hd ?hu ?_;(case B=>k_asm);(case F=>k_asm);(case X=>k_asm);(case T=>k_asm);(case hk=>first | exact rfl | assumption);(case N=>k_asm);(case hx=>k_mem);(case hdx=>k_mem);(case U=>k_updF);(case n1=>first | assumption | k_ne);(case n2=>first | assumption | k_ne);(case n3=>first | assumption | k_ne);(case hb=>omega);(case c0=>omega);(case c1=>omega);(case hd=>ktr_room);(case hu=>ktr_units))
 intro b2 h2 tk2 be2 bz2 F2 N2
 (try k_sweep)
 (try dsimp only)
 refine G_cons (G_Expr ?_ rfl rfl)
 refine G_Call_method rfl rfl rfl rfl fun _=>?_
 walk_at "S1"
 (try dsimp only)
 refine G_callWith_K (K:=Mine.hd.heap_1 w.params) (by k_is) ?_ rfl rfl
 walk_at "S1"
 (try dsimp only [List.cons_append,List.nil_append])
 (with_reducible show wpG _ _ (call (Value.ref 214) [Value.ref _,Value.int _ _]) _ _)
 k_dflt (refine' out_i16 ?B ?F ?X ?T ?hk ?N ?hx ?hdx ?U ?n1 ?n2 ?n3 ?hb _ ?c0 ?c1 ?hd ?hu ?_;(case B=>k_asm);(case F=>k_asm);(case X=>k_asm);(case T=>k_asm);(case hk=>first | exact rfl | assumption);(case N=>k_asm);(case hx=>k_mem);(case hdx=>k_mem);(case U=>k_updF);(case n1=>first | assumption | k_ne);(case n2=>first | assumption | k_ne);(case n3=>first | assumption | k_ne);(case hb=>omega);(case c0=>omega);(case c1=>omega);(case hd=>ktr_room);(case hu=>ktr_units))
 intro b3 h3 tk3 be3 bz3 F3 N3
 (try k_sweep)
 (try dsimp only)
 refine G_good ?_
 walk_at "S1"
 (try dsimp only)
 show QX1 _ _
 refine hret _ _ _ _ ?_ (by omega) (by assumption) (hend _ (Kp.of_keep hg' (Fr.keep (by assumption))) (News.get (by assumption) (by k_mem)) (News.get (by assumption) (by k_mem)))
 rw [be3,be2,be1]
 rfl
theorem u34 : upto 34:=hk @c_33 u33 (by with_unfolding_all exact rfl)
open kc in
theorem write_anchor_spec {w p loose mean mg mb dp un cn cs a ccd cl outer A₀ base h₀ L m restX1 s QX1 k1 k2 tx ty r d} : s_33 w p loose mean mg mb dp un cn cs a ccd cl outer A₀ base h₀ L m restX1 s QX1 k1 k2 tx ty r d:=@hkT _ u34 (by k_extra "T") _ (by exact rfl)
end NW5
theorem dNW5 : True:=trivial
section NW7
theorem lnNW7_1 : True:=by
 k_with "L62" => ((k_here;k_dflt (refine' store_last ?zF ?zN ?zU ?zm ?zn ?ze ?_;(case zF=>k_asm);(case zN=>k_asm);(case zU=>k_updF);(case zm=>k_mem);(case zn=>omega);(case ze=>assumption));intro _ _ _ N';(try dsimp only at N');(try (revert N';intro _))))
 k_with "call ref" => ((fail_if_success have:=dNW7);first | k_extra "L13" | k_extra "L30" | fail)
 k_with "exec For" => ((fail_if_success have:=dNW7);first | k_extra "L34" | fail)
 k_with "exec For Name Attribute cons nil" => ((fail_if_success have:=dNW7);first | k_extra "L23" | fail)
 k_with "exec For Name Name cons nil" => ((fail_if_success have:=dNW7);first | k_extra "L23" | fail)
 k_with "exec For Name Call cons nil" => ((fail_if_success have:=dNW7);first | k_extra "L23" | fail)
 k_with "exec For Name Subscript cons nil" => ((fail_if_success have:=dNW7);first | k_extra "L23" | fail)
 k_with "exec For Name Tuple cons nil" => ((fail_if_success have:=dNW7);first | k_extra "L23" | fail)
 k_with "pyIter ref" => ((fail_if_success have:=dNW7);first | k_extra "L23" | fail)
 k_with "TurnP" => ((fail_if_success have:=dNW7);first | k_extra "L29" | fail)
 k_with "truthy ref" => ((fail_if_success have:=dNW7);first | k_extra "L25" | fail)
 k_with "subscriptTail Name" => ((fail_if_success have:=dNW7);first | k_extra "L26" | fail)
 k_with "subscriptTail Subscript" => ((fail_if_success have:=dNW7);first | k_extra "L42" | k_extra "L41" | fail)
 k_with "setItem ref int ref" => ((fail_if_success have:=dNW7);first | k_extra "L62" | fail)
 k_with "A" => ((fail_if_success have:=dNW7);first | k_extra "L28" | k_extra "L27" | fail)
 exact True.intro
open kc in
theorem c_34 : s_34 E w p loose mean mg mb dp un gd cn cs a ccd cl outer A₀ base h₀ L m restX1 s QX1 l vs:=by
 intro B F X T hk N c0 gs hl hi hrun hn hd hu hret
 have N₀ : News h₀ L s.heap [(l,({ cls:=.type "tuple",data:=.seq vs.toArray c0} : Obj))]:=news_sub N fun p hp=>by rw [List.mem_singleton.mp hp];exact hl
 have Nr : News h₀ L s.heap restX1∧True:=⟨N,trivial⟩
 clear N
 refine wpAny_call ?_
 k_dflt (refine' code_defH [("glyphs",.ref l)] ?k1 ?k2 ?k3 ?k4 ?k5 ?kA ?kF ?kK ?k6 ?k7 ?k8 ?k9 ?kB ?_ ?c2 ?c3 ?c4 ?c5;walk_at "nu_enter";intro g' L' h' FG' F' N' B' X' T' hg')
 (try dsimp only)
 k_fold
 k_steps
 refine Stop.out ?_
 rename Fr g' L' _ _=>F_0
 rename News g' L' _ _=>N_0
 rename_i r_0 h_00 l1_0 h_0
 have a1 : @Ne Nat l r_0:=Nat.ne_of_lt l1_0
 refine For_invVF F_0 rfl rfl ?_
 k_steps
 refine Stop.out (iter_seq (its:=vs) [] (fun i nl=>∃ ws c τ,nl = (r_0,listOf ws.toArray c) :: τ∧RunI gs i ws τ∧LCg.Off1 r_0 τ∧(l,({ cls:=.type "tuple",data:=.seq vs.toArray c0} : Obj)) ∈ τ) rfl (.inr ⟨_,(N_0 _ (.tail _ (.head _))).1,rfl,c0,rfl⟩) (N_0 _ (.tail _ (.head _))).2.1 F_0 N_0 (ei3 [] 0 [(l,_)] ⟨rfl,.inl ⟨rfl,rfl⟩,⟨a1,trivial⟩,.head _⟩) ?_ ?_)
 ·intro i v u I news₁ own h tk hv hJ hown hIo hI hne F' N'
  refine ex3 hJ fun ws c τ q9=>an4 q9 fun e90 hR of1 hlt'=>?_
  clear q9 hJ
  subst e90
  refine ex2 (ints_at hi hv) fun g t q9=>an2 q9 fun hg e93=>?_
  clear q9
  subst e93
  have hlt : i < gs.length:=(List.getElem?_eq_some_iff.mp hg).1
  have i1 : @Ne Nat r_0 I:=hI _ (.head _)
  have w1 : LCg.Off1 r_0 (τ ++ own):=off1_own of1 hown i1 a1
  have ht1 : ∀ p ∈ τ,p ∈ τ ++ own:=fun p hp=>List.mem_append_left _ hp
  have ht2 : ∀ p ∈ own,p ∈ τ ++ own:=fun p hp=>List.mem_append_right _ hp
  have ht3 : ∀ p ∈ τ,p.1 ≠ I:=fun p hp=>hI p (.tail _ hp)
  simp only [List.cons_append] at N'
  clear N_0 F_0
  rcases hR with ⟨rfl,rfl⟩ | ⟨ws',t0,a0,n0,ta0,tb0,hws,hm0,b1,b2,b3,b4⟩
  ·generalize τ ++ own = σ at N' w1 ht1 ht2
   walk_at "S2"
   refine Stop.out (turn_head (pre:=[_]) (τ:=τ) (σ:=σ) (by assumption) (by assumption) rfl ht1 ht2 hIo i1 ht3 of1 ?_ (fun y h1 h2=>by (try dsimp only);rw [if_neg h1,if_neg (by rw [h2];exact Bool.false_ne_true)]) fun o9=>(ei3 [_] _ _ ⟨rfl,?_,o9,.tail _ hlt'⟩))
   ·have l9:=‹@LT.lt Nat _ r_0 _∧AllLt _ σ›
    exact List.forall_mem_cons.mpr ⟨⟨Ne.symm (Nat.ne_of_lt l9.1),off1_lt l9.2⟩,List.forall_mem_nil _⟩
   ·have hgd : gs.getD (1 - 1) 0 = g:=by simp [List.getD_eq_getElem?_getD,hg]
    refine .inr (ei6 [] _ g 0 t t ⟨rfl,?_,Nat.le_refl _,by simp,by simp,.inl (by simp)⟩)
    rw [hgd]
    exact .head _
  ·have hm1:=ht1 _ hm0
   have hw9 : ws.length < 1000:=by omega
   generalize τ ++ own = σ at N' w1 ht1 ht2 hm1
   have hgd : gs.getD i 0 = g:=by simp [List.getD_eq_getElem?_getD,hg]
   have hlen : ws.length = ws'.length + 1:=by rw [hws];simp
   walk_at "S2"
   ·have hq : gs.getD (i - 1) 0 + 1 = g:=by assumption
    refine Stop.out (turn_head (pre:=[_]) (τ:=τ) (σ:=σ) (by assumption) (by assumption) rfl ht1 ht2 hIo i1 ht3 of1 ?_ (fun y h1 h2=>by (try dsimp only);rw [if_neg h1,if_neg (by rw [h2];exact Bool.false_ne_true)]) fun o9=>(ei3 (ws' ++ [_]) _ _ ⟨rfl,?_,o9,.tail _ hlt'⟩))
    ·have l9:=‹@LT.lt Nat _ r_0 _∧AllLt _ σ›
     exact List.forall_mem_cons.mpr ⟨⟨Ne.symm (Nat.ne_of_lt l9.1),off1_lt l9.2⟩,List.forall_mem_nil _⟩
    ·refine .inr (ei6 ws' _ a0 0 ta0 t ⟨rfl,?_,by omega,?_,?_,?_⟩)
     ·rw [show i + 1 - 1 = i from by omega,hgd];exact .head _
     ·rw [List.length_append,List.length_singleton,← hlen]
      rcases b4 with b4 | ⟨b5,b6⟩
      ·exact b4
      ·exfalso
       have:=hrun (i - 2) (by omega)
       rw [show i - 2 + 1 = i - 1 from by omega,show i - 2 + 2 = i from by omega] at this
       exact this b6 (by omega)
     ·rw [List.length_append,List.length_singleton,← hlen];omega
     ·refine .inr ⟨by omega,?_⟩
      rw [show i + 1 - 1 = i from by omega,show i + 1 - 2 = i - 1 from by omega]
      omega
   ·rename News _ _ _ ((_,_) :: (_,listOf (Array.push _ _) _) :: _)=>N8
    rw [List.push_toArray] at N8
    refine Stop.out (turn_head (pre:=[_]) (τ:=τ) (σ:=σ) (by assumption) (by assumption) rfl ht1 ht2 hIo i1 ht3 of1 ?_ (fun y h1 h2=>by (try dsimp only);rw [if_neg h1,if_neg (by rw [h2];exact Bool.false_ne_true)]) fun o9=>(ei3 (ws ++ [_]) _ _ ⟨rfl,?_,o9,.tail _ hlt'⟩))
    ·have l9:=‹@LT.lt Nat _ r_0 _∧AllLt _ σ›
     exact List.forall_mem_cons.mpr ⟨⟨Ne.symm (Nat.ne_of_lt l9.1),off1_lt l9.2⟩,List.forall_mem_nil _⟩
    ·refine .inr (ei6 ws _ g 0 t t ⟨rfl,?_,by omega,?_,?_,.inl ?_⟩)
     ·rw [show i + 1 - 1 = i from by omega,hgd];exact .head _
     ·rw [List.length_append,List.length_singleton];omega
     ·rw [List.length_append,List.length_singleton];omega
     ·rw [List.length_append,List.length_singleton];omega
 ·intro u news₁ h tk hJ F' N'
  refine ex3 hJ fun ws c τ q9=>an4 q9 fun e90 hR of1 hlt'=>?_
  clear q9 hJ
  subst e90
  rw [hi.length] at hR
  clear N_0 F_0
  k_steps
  have hb : gs.length ≤ 2 * ws.length∧ws.length ≤ gs.length:=by
   rcases hR with ⟨e1,e2⟩ | ⟨ws',t0,a0,n0,ta0,tb0,hws,hm0,b1,b2,b3,b4⟩
   ·rw [e2,e1];exact ⟨Nat.le_refl _,Nat.le_refl _⟩
   ·exact ⟨b2,b3⟩
  refine hret r_0 ws c _ _ hb.1 hb.2 (by assumption) (news_app (l:=[_]) (news_one1 (by assumption)) (news_hid Nr.1 (Kp.of_keep hg' F'.keep) fun b hb=>by rw [List.mem_singleton.mp hb,(N' _ (.tail _ hlt')).1,(Nr.1 _ hl).1])) (off1_newKs Nr.1 hg' N' (.head _) (List.forall_mem_cons.mpr ⟨a1.symm,List.forall_mem_nil _⟩))
theorem u35 : upto 35:=hk @c_34 u34 (by with_unfolding_all exact rfl)
open kc in
theorem ranges_of_spec {E w p loose mean mg mb dp un gd cn cs a ccd cl outer A₀ base h₀ L m restX1 s QX1 l vs} : s_34 E w p loose mean mg mb dp un gd cn cs a ccd cl outer A₀ base h₀ L m restX1 s QX1 l vs:=@hkT _ u35 (by k_extra "T") _ (by exact rfl)
end NW7
theorem dNW7 : True:=trivial
section NW8
theorem lnNW8_1 : True:=by
 k_with "L63" => ((k_here;(with_reducible show wpAny _ _ (call (Value.builtin "len") [Value.ref _]) _ _ _);k_dflt (first | refine len_tupN (by k_asm) (by k_mem) (by assumption) (by omega) ?_ | refine len_lisN (by k_asm) (by k_mem) (by omega) ?_)))
 k_with "L64" => ((k_here;(with_reducible show wpAny _ _ (call (Value.ref 334) [Value.ref _]) _ _ _);k_dflt (refine' ranges_of_spec ?zB ?zF ?zX ?zT ?zhk ?zN ?zhl ?zhi ?zhr ?zhn ?zhd ?zhu ?_;k_extra "Q";(case zhl=>k_mem);(case zhi=>assumption);(case zhr=>assumption);(case zhn=>omega);k_extra "V");intro _ _ _ _ _ _ _ _ _ o1';(try k_sweep);(try simp only [LCg.Off1,and_true] at o1');(try (revert o1';intro _));(try dsimp only)))
 k_with "call ref" => ((fail_if_success have:=dNW8);first | k_extra "L61" | k_extra "L64" | k_extra "L13" | fail)
 k_with "pyIter ref" => ((fail_if_success have:=dNW8);first | k_extra "L23" | fail)
 k_with "TurnP" => ((fail_if_success have:=dNW8);first | k_extra "L29" | fail)
 k_with "call builtin:len" => ((fail_if_success have:=dNW8);first | k_extra "L63" | fail)
 k_with "A" => ((fail_if_success have:=dNW8);first | k_extra "L28" | k_extra "L27" | fail)
 exact True.intro
open kc in
theorem c_35 : s_35 w p loose mean mg mb dp un cn cs a ccd cl outer A₀ base h₀ L m restX1 s QX1 d k vs c t:=by
 intro B F X T hk N n' gs hc hdd htt hi hrun hn hb hd hu hret
 have N₀ : News h₀ L s.heap [(c,instObj 316 d),(d,dictOf [⟨PyData.keyHash w.params "glyphs",.str "glyphs" k,.ref t⟩] 1),(t,({ cls:=.type "tuple",data:=.seq vs.toArray n'} : Obj))]:=news_sub N fun p hp=>by
  rcases List.mem_cons.mp hp with rfl | hp
  ·exact hc
  ·rcases List.mem_cons.mp hp with rfl | hp
   ·exact hdd
   ·rw [List.mem_singleton.mp hp];exact htt
 have Nr : News h₀ L s.heap restX1∧True:=⟨N,trivial⟩
 clear N
 refine wpG_call ?_
 k_dflt (refine' code_defG [("coverage",.ref c),("form",.int 0 638)] ?k1 ?k2 ?k3 ?k4 ?k5 ?kA ?kF ?kK ?k6 ?k7 ?k8 ?k9 ?kB ?_ ?c2 ?c3 ?c4 ?c5;walk_at "nu_enter";intro g' L' h' FG' F' N' B' X' T' hg')
 (try dsimp only)
 (try k_fold)
 refine G_good ?_
 walk_at "S1"
 (try dsimp only)
 refine G_good ?_
 walk_at "S1"
 (try dsimp only)
 refine G_cons (G_Assign1 rfl rfl rfl ?_)
 refine G_Call_Name rfl ?_
 walk_at "S1"
 (try dsimp only)
 refine G_callWith_K0 (K:=Mine.hd.heap_1 w.params) (by k_in) (by k_is) ?_
 (try dsimp only [List.cons_append,List.nil_append])
 (with_reducible show wpG _ _ (call (Value.ref 266) []) _ _)
 k_dflt (refine' new_out ?B ?F ?X ?T ?hk ?N ?hd ?hu ?_;(case B=>k_asm);(case F=>k_asm);(case X=>k_asm);(case T=>k_asm);(case hk=>first | exact rfl | assumption);(case N=>k_asm);(case hd=>ktr_room);(case hu=>ktr_units))
 intro x' dx' ma' k' h' tk' F' N' l1' l2' l3'
 have e0' : (#[] : Array UInt8).size = 0:=rfl
 (try k_lt l1')
 (try k_lt2 l2')
 (try k_lt2 l3')
 (try k_sweep)
 (try dsimp only)
 walk_at "S1"
 (try dsimp only)
 refine G_cons (G_Expr ?_ rfl rfl)
 refine G_Call_method rfl rfl rfl rfl fun _=>?_
 walk_at "S1"
 (try dsimp only)
 refine G_callWith_K (K:=Mine.hd.heap_1 w.params) (by k_is) ?_ rfl rfl
 walk_at "S1"
 (try dsimp only [List.cons_append,List.nil_append])
 (with_reducible show wpG _ _ (call (Value.ref 207) [Value.ref _,Value.int _ _]) _ _)
 k_dflt (refine' out_u16 ?B ?F ?X ?T ?hk ?N ?hx ?hdx ?U ?n1 ?n2 ?n3 ?hb _ ?c0 ?c1 ?hd ?hu ?_;(case B=>k_asm);(case F=>k_asm);(case X=>k_asm);(case T=>k_asm);(case hk=>first | exact rfl | assumption);(case N=>k_asm);(case hx=>k_mem);(case hdx=>k_mem);(case U=>k_updF);(case n1=>first | assumption | k_ne);(case n2=>first | assumption | k_ne);(case n3=>first | assumption | k_ne);(case hb=>omega);(case c0=>omega);(case c1=>omega);(case hd=>ktr_room);(case hu=>ktr_units))
 intro b1 h1 tk1 be1 bz1 F1 N1
 (try k_sweep)
 (try dsimp only)
 refine G_cons (G_If ?_)
 walk_at "S1"
 (try simp only [if_true,if_false])
 (try dsimp only)
 refine G_cons (G_Expr ?_ rfl rfl)
 refine G_Call_method rfl rfl rfl rfl fun _=>?_
 walk_at "S1"
 (try dsimp only)
 refine G_callWith_K (K:=Mine.hd.heap_1 w.params) (by k_is) ?_ rfl rfl
 walk_at "S1"
 (try dsimp only [List.cons_append,List.nil_append])
 (with_reducible show wpG _ _ (call (Value.ref 207) [Value.ref _,Value.int _ _]) _ _)
 k_dflt (refine' out_u16 ?B ?F ?X ?T ?hk ?N ?hx ?hdx ?U ?n1 ?n2 ?n3 ?hb _ ?c0 ?c1 ?hd ?hu ?_;(case B=>k_asm);(case F=>k_asm);(case X=>k_asm);(case T=>k_asm);(case hk=>first | exact rfl | assumption);(case N=>k_asm);(case hx=>k_mem);(case hdx=>k_mem);(case U=>k_updF);(case n1=>first | assumption | k_ne);(case n2=>first | assumption | k_ne);(case n3=>first | assumption | k_ne);(case hb=>omega);(case c0=>omega);(case c1=>omega);(case hd=>ktr_room);(case hu=>ktr_units))
 intro b2 h2 tk2 be2 bz2 F2 N2
 (try k_sweep)
 (try dsimp only)
 refine G_cons (G_For (fun _=>rfl) ?_)
 walk_at "S1"
 refine Stop.out ?_
 have q1 : KBw.bInts b2 = [0,1] ++ b16 gs.length:=by rw [be2,be1];rfl
 have n1 : @Ne Nat t ma':=by k_ne
 have Nmu : News g' L' h2 [(ma',baObj b2),(x',instObj 266 dx'),(dx',outDict w k' ma'),(c,instObj 316 d),(d,dictOf [⟨PyData.keyHash w.params "glyphs",.str "glyphs" k,.ref t⟩] 1),(t,({ cls:=.type "tuple",data:=.seq vs.toArray n'} : Obj))]:=news_sub N2 fun p hp=>by
  simp only [List.mem_cons,List.not_mem_nil,or_false] at hp ⊢
  rcases hp with z | z | z | z | z | z <;> simp [z]
 refine iterG_seq (its:=vs) [] (fun i nl=>∃ b,nl = [(ma',baObj b),(x',instObj 266 dx'),(dx',outDict w k' ma'),(c,instObj 316 d),(d,dictOf [⟨PyData.keyHash w.params "glyphs",.str "glyphs" k,.ref t⟩] 1),(t,({ cls:=.type "tuple",data:=.seq vs.toArray n'} : Obj))]∧KBw.bInts b = [0,1] ++ b16 gs.length ++ (gs.take i).flatMap b16∧b.size = 4 + 2 * i) rfl rfl rfl (.inr ⟨_,(Nmu _ (.tail _ (.tail _ (.tail _ (.tail _ (.tail _ (.head _))))))).1,rfl,n',rfl⟩) (Nmu _ (.tail _ (.tail _ (.tail _ (.tail _ (.tail _ (.head _))))))).2.1 F2 Nmu ⟨b2,rfl,by rw [q1];simp,by omega⟩ ?_ ?_
 ·intro i v u I news₁ own h tk hv hJ hown hIo hI hne F' N'
  refine ex1 hJ fun b q9=>an3 q9 fun e90 hb8 hz8=>?_
  clear q9 hJ
  subst e90
  refine ex2 (ints_at hi hv) fun g tg q9=>an2 q9 fun hg e93=>?_
  clear q9
  subst e93
  have hlt : i < gs.length:=(List.getElem?_eq_some_iff.mp hg).1
  have hgb:=hb g (List.mem_of_getElem? hg)
  have w1 : LCg.Off1 ma' own:=off1_own (l:=[]) trivial hown (hI _ (.head _)) n1
  simp only [List.cons_append,List.nil_append] at N'
  clear N2 F2 Nmu
  refine G_cons (G_Expr ?_ rfl rfl)
  refine G_Call_method rfl rfl rfl rfl fun _=>?_
  walk_at "S1"
  (try dsimp only)
  refine G_callWith_K (K:=Mine.hd.heap_1 w.params) (by k_is) ?_ rfl rfl
  walk_at "S1"
  (try dsimp only [List.cons_append,List.nil_append])
  (with_reducible show wpG _ _ (call (Value.ref 207) [Value.ref _,Value.int _ _]) _ _)
  k_dflt (refine' out_u16 ?B ?F ?X ?T ?hk ?N ?hx ?hdx ?U ?n1 ?n2 ?n3 ?hb _ ?c0 ?c1 ?hd ?hu ?_;(case B=>k_asm);(case F=>k_asm);(case X=>k_asm);(case T=>k_asm);(case hk=>first | exact rfl | assumption);(case N=>k_asm);(case hx=>k_mem);(case hdx=>k_mem);(case U=>k_updF);(case n1=>first | assumption | k_ne);(case n2=>first | assumption | k_ne);(case n3=>first | assumption | k_ne);(case hb=>omega);(case c0=>omega);(case c1=>omega);(case hd=>ktr_room);(case hu=>ktr_units))
  intro b9 h9 tk9 be9 bz9 F9 N9
  (try k_sweep)
  (try dsimp only)
  refine G_nil ?_
  refine turn_fix (mu:=[(ma',_),(x',instObj 266 dx'),(dx',outDict w k' ma'),(c,instObj 316 d),(d,dictOf [⟨PyData.keyHash w.params "glyphs",.str "glyphs" k,.ref t⟩] 1),(t,({ cls:=.type "tuple",data:=.seq vs.toArray n'} : Obj))]) F9 N9 (List.forall_mem_cons.mpr ⟨show ma' ≠ I from hI _ (.head _),fun p hp=>hI p (.tail _ hp)⟩) (fun y h1 h2=>by (try dsimp only);rw [if_neg h1,if_neg (by rw [h2];exact Bool.false_ne_true)]) ⟨_,rfl,?_,by omega⟩
  rw [be9,hb8,take_next hg,List.flatMap_append]
  simp [b16]
 ·intro u news₁ h tk hJ F' N'
  refine ex1 hJ fun b q9=>an3 q9 fun e90 hb8 hz8=>?_
  clear q9 hJ
  subst e90
  rw [hi.length,List.take_length] at hb8
  rw [hi.length] at hz8
  clear N2 F2 Nmu
  (try dsimp only)
  refine G_nil ?_
  (try dsimp only)
  refine G_good ?_
  walk_at "S1"
  (try dsimp only)
  show QX1 _ _
  refine hret _ _ _ _ hb8 hz8 (by assumption) (news_hid Nr.1 (Kp.of_keep hg' (Fr.keep (by assumption))) ?_)
  refine List.forall_mem_cons.mpr ⟨?_,List.forall_mem_cons.mpr ⟨?_,List.forall_mem_cons.mpr ⟨?_,List.forall_mem_nil _⟩⟩⟩
  ·rw [News.get (by assumption) (by k_mem),(Nr.1 _ hc).1]
  ·rw [News.get (by assumption) (by k_mem),(Nr.1 _ hdd).1]
  ·rw [News.get (by assumption) (by k_mem),(Nr.1 _ htt).1]
theorem u36 : upto 36:=hk @c_35 u35 (by with_unfolding_all exact rfl)
open kc in
theorem write_coverage_spec {w p loose mean mg mb dp un cn cs a ccd cl outer A₀ base h₀ L m restX1 s QX1 d k vs c t} : s_35 w p loose mean mg mb dp un cn cs a ccd cl outer A₀ base h₀ L m restX1 s QX1 d k vs c t:=@hkT _ u36 (by k_extra "T") _ (by exact rfl)
end NW8
theorem dNW8 : True:=trivial
section NW12
theorem lnNW12_1 : True:=by
 k_with "call ref" => ((fail_if_success have:=dNW12);first | k_extra "L13" | fail)
 k_with "pyIter ref" => ((fail_if_success have:=dNW12);first | k_extra "L23" | fail)
 k_with "TurnP" => ((fail_if_success have:=dNW12);first | k_extra "L29" | fail)
 k_with "A" => ((fail_if_success have:=dNW12);first | k_extra "L28" | k_extra "L27" | fail)
 exact True.intro
open kc in
theorem c_36 : s_36 w x p loose mean mg mb dp un cn cs a ccd cl outer A₀ base h₀ L m restX1 s QX1 dx gU k ma l vs:=by
 intro B F X T hk N b hx hdx U hn1 hn2 hn3 hb c0 ns hl hi hbd hnn hb3 hn4 hd hu hret
 have N₀ : News h₀ L s.heap [(ma,baObj b),(x,instObj 266 dx),(dx,outDict w k ma),(l,listOf vs.toArray c0)]:=news_sub N fun p hp=>by
  simp only [List.mem_cons,List.not_mem_nil,or_false] at hp
  rcases hp with rfl | rfl | rfl | rfl
  ·exact updF_mem U
  ·exact hx
  ·exact hdx
  ·exact hl
 have hend : ∀ h' o',Kp [ma,x,dx,l] s.heap h'→News h₀ L h' [(ma,o'),(x,instObj 266 dx),(dx,outDict w k ma),(l,listOf vs.toArray c0)]→News h₀ L h' (gU o'):=fun h' o' kk e=>by
  refine news_updF3 N U hx hdx (fun p o ho hn=>?_) (e _ (.tail _ (.head _))).1 (e _ (.tail _ (.tail _ (.head _)))).1 (e _ (.head _)).1
  by_cases z : p = l
  ·rw [z] at ho ⊢
   rw [(N _ hl).1] at ho
   rw [← Option.some.inj ho]
   exact (e _ (.tail _ (.tail _ (.tail _ (.head _))))).1
  ·refine kk p o ho fun hm=>?_
   simp only [List.mem_cons,List.not_mem_nil,or_false] at hm hn
   rcases hm with h | h | h | h
   ·exact hn (.inr (.inr h))
   ·exact hn (.inl h)
   ·exact hn (.inr (.inl h))
   ·exact z h
 clear N
 refine wpG_call ?_
 k_dflt (refine' code_defG [("self",.ref x),("numbers",.ref l)] ?k1 ?k2 ?k3 ?k4 ?k5 ?kA ?kF ?kK ?k6 ?k7 ?k8 ?k9 ?kB ?_ ?c2 ?c3 ?c4 ?c5;walk_at "nu_enter";intro g' L' h' FG' F' N' B' X' T' hg')
 (try dsimp only)
 (try k_fold)
 refine G_cons (G_For (fun _=>rfl) ?_)
 walk_at "S1"
 refine Stop.out ?_
 have n1 : @Ne Nat l ma:=hn4
 refine iterG_seq (its:=vs) [] (fun i nl=>∃ b1,nl = [(ma,baObj b1),(x,instObj 266 dx),(dx,outDict w k ma),(l,listOf vs.toArray c0)]∧KBw.bInts b1 = KBw.bInts b ++ (ns.take i).flatMap b16∧b1.size = b.size + 2 * i) rfl rfl rfl (.inl ⟨_,(N' _ (.tail _ (.tail _ (.tail _ (.head _))))).1,rfl,c0,rfl⟩) (N' _ (.tail _ (.tail _ (.tail _ (.head _))))).2.1 F' N' ⟨b,rfl,by simp,by omega⟩ ?_ ?_
 ·intro i v u I news₁ own h tk hv hJ hown hIo hI hne F' N'
  refine ex1 hJ fun b1 q9=>an3 q9 fun e90 hb8 hz8=>?_
  clear q9 hJ
  subst e90
  refine ex2 (ints_at hi hv) fun g tg q9=>an2 q9 fun hg e93=>?_
  clear q9
  subst e93
  have hlt : i < ns.length:=(List.getElem?_eq_some_iff.mp hg).1
  have hgb:=hbd g (List.mem_of_getElem? hg)
  have w1 : LCg.Off1 ma own:=off1_own (l:=[]) trivial hown (hI _ (.head _)) n1
  simp only [List.cons_append,List.nil_append] at N'
  refine G_cons (G_Expr ?_ rfl rfl)
  refine G_Call_method rfl rfl rfl rfl fun _=>?_
  walk_at "S1"
  (try dsimp only)
  refine G_callWith_K (K:=Mine.hd.heap_1 w.params) (by k_is) ?_ rfl rfl
  walk_at "S1"
  (try dsimp only [List.cons_append,List.nil_append])
  (with_reducible show wpG _ _ (call (Value.ref 207) [Value.ref _,Value.int _ _]) _ _)
  k_dflt (refine' out_u16 ?B ?F ?X ?T ?hk ?N ?hx ?hdx ?U ?n1 ?n2 ?n3 ?hb _ ?c0 ?c1 ?hd ?hu ?_;(case B=>k_asm);(case F=>k_asm);(case X=>k_asm);(case T=>k_asm);(case hk=>first | exact rfl | assumption);(case N=>k_asm);(case hx=>k_mem);(case hdx=>k_mem);(case U=>k_updF);(case n1=>first | assumption | k_ne);(case n2=>first | assumption | k_ne);(case n3=>first | assumption | k_ne);(case hb=>omega);(case c0=>omega);(case c1=>omega);(case hd=>ktr_room);(case hu=>ktr_units))
  intro b9 h9 tk9 be9 bz9 F9 N9
  (try k_sweep)
  (try dsimp only)
  refine G_nil ?_
  refine turn_fix (mu:=[(ma,_),(x,instObj 266 dx),(dx,outDict w k ma),(l,listOf vs.toArray c0)]) F9 N9 (List.forall_mem_cons.mpr ⟨show ma ≠ I from hI _ (.head _),fun p hp=>hI p (.tail _ hp)⟩) (fun y h1 h2=>by (try dsimp only);rw [if_neg h1,if_neg (by rw [h2];exact Bool.false_ne_true)]) ⟨_,rfl,?_,by omega⟩
  rw [be9,hb8,take_next hg,List.flatMap_append,List.append_assoc]
  simp [b16]
 ·intro u news₁ h tk hJ F' N'
  refine ex1 hJ fun b1 q9=>an3 q9 fun e90 hb8 hz8=>?_
  clear q9 hJ
  subst e90
  rw [hi.length,List.take_length] at hb8
  rw [hi.length] at hz8
  (try dsimp only)
  refine G_nil ?_
  walk_at "S1"
  (try show QX1 _ _)
  exact hret _ _ _ hb8 hz8 (by assumption) (hend _ _ (Kp.of_keep hg' F'.keep) (by assumption))
theorem u37 : upto 37:=hk @c_36 u36 (by with_unfolding_all exact rfl)
open kc in
theorem out_rows {w x p loose mean mg mb dp un cn cs a ccd cl outer A₀ base h₀ L m restX1 s QX1 dx gU k ma l vs} : s_36 w x p loose mean mg mb dp un cn cs a ccd cl outer A₀ base h₀ L m restX1 s QX1 dx gU k ma l vs:=@hkT _ u37 (by k_extra "T") _ (by exact rfl)
end NW12
theorem dNW12 : True:=trivial
section NW13
theorem lnNW13_1 : True:=by
 k_with "call ref" => ((fail_if_success have:=dNW13);first | k_extra "L13" | fail)
 k_with "pyIter ref" => ((fail_if_success have:=dNW13);first | k_extra "L23" | fail)
 k_with "TurnP" => ((fail_if_success have:=dNW13);first | k_extra "L29" | fail)
 k_with "A" => ((fail_if_success have:=dNW13);first | k_extra "L28" | k_extra "L27" | fail)
 exact True.intro
open kc in
theorem c_37 : s_37 w p loose mean mg mb dp un cn cs a ccd cl outer A₀ base h₀ L m restX1 s QX1:=by
 intro B F X T hk N v o hv hz hd hu hret
 have Nr : News h₀ L s.heap restX1∧True:=⟨N,trivial⟩
 cases o with
 | none =>
  have hv' : v = .none:=hv
  subst hv'
  have N₀ : News h₀ L s.heap []:=news_sub N (List.forall_mem_nil _)
  clear N
  refine wpG_call ?_
  k_dflt (refine' code_defG [("anchor",.none)] ?k1 ?k2 ?k3 ?k4 ?k5 ?kA ?kF ?kK ?k6 ?k7 ?k8 ?k9 ?kB ?_ ?c2 ?c3 ?c4 ?c5;walk_at "nu_enter";intro g' L' h' FG' F' N' B' X' T' hg')
  (try dsimp only)
  (try k_fold)
  refine G_good ?_
  walk_at "S1"
  (try dsimp only)
  exact hret _ none _ _ rfl trivial (by assumption) (news_hid Nr.1 (Kp.of_keep hg' (Fr.keep (by assumption))) (List.forall_mem_nil _))
 | some z =>
  refine an4 hz fun z1 z2 z3 z4=>?_
  clear hz
  refine ex6 hv fun r dr k1 k2 tx ty q9=>an3 q9 fun e96 m1 m2=>?_
  clear q9 hv
  subst e96
  have N₀ : News h₀ L s.heap [(r,instObj 394 dr),(dr,ancDict w z.1 z.2 k1 k2 tx ty)]:=news_sub N fun p hp=>by
   rcases List.mem_cons.mp hp with rfl | hp
   ·exact m1
   ·rw [List.mem_singleton.mp hp];exact m2
  clear N
  refine wpG_call ?_
  k_dflt (refine' code_defG [("anchor",.ref r)] ?k1 ?k2 ?k3 ?k4 ?k5 ?kA ?kF ?kK ?k6 ?k7 ?k8 ?k9 ?kB ?_ ?c2 ?c3 ?c4 ?c5;walk_at "nu_enter";intro g' L' h' FG' F' N' B' X' T' hg')
  (try dsimp only)
  (try k_fold)
  refine G_cons (G_Return (G_IfExp ?_))
  walk_at "S1"
  (try simp only [if_true,if_false])
  (try dsimp only)
  refine G_Call_Name rfl ?_
  walk_at "S1"
  (try dsimp only)
  refine G_callWith_K (K:=Mine.hd.heap_1 w.params) (by k_is) ?_ rfl rfl
  walk_at "S1"
  (try dsimp only [List.cons_append,List.nil_append])
  (with_reducible show wpG _ _ (call (Value.ref 419) [Value.ref _]) _ _)
  k_dflt (refine' write_anchor_spec ?B ?F ?X ?T ?hk ?N ?m1 ?m2 ?z1 ?z2 ?z3 ?z4 ?hd ?hu ?_;(case B=>k_asm);(case F=>k_asm);(case X=>k_asm);(case T=>k_asm);(case hk=>first | exact rfl | assumption);(case N=>k_asm);(case m1=>k_mem);(case m2=>k_mem);(case z1=>assumption);(case z2=>assumption);(case z3=>assumption);(case z4=>assumption);(case hd=>ktr_room);(case hu=>ktr_units))
  intro b9 t9 h9 tk9 be9 bz9 F9 N9
  (try k_sweep)
  (try dsimp only)
  walk_at "S1"
  exact hret _ (some b9) _ _ ⟨_,rfl⟩ be9 (by assumption) (news_hid Nr.1 (Kp.of_keep hg' (Fr.keep (by assumption))) (List.forall_mem_cons.mpr ⟨by rw [News.get (by assumption) (by k_mem),(Nr.1 _ m1).1],List.forall_mem_cons.mpr ⟨by rw [News.get (by assumption) (by k_mem),(Nr.1 _ m2).1],List.forall_mem_nil _⟩⟩))
theorem u38 : upto 38:=hk @c_37 u37 (by with_unfolding_all exact rfl)
open kc in
theorem written_spec {w p loose mean mg mb dp un cn cs a ccd cl outer A₀ base h₀ L m restX1 s QX1} : s_37 w p loose mean mg mb dp un cn cs a ccd cl outer A₀ base h₀ L m restX1 s QX1:=@hkT _ u38 (by k_extra "T") _ (by exact rfl)
end NW13
theorem dNW13 : True:=trivial
section NW6
theorem lnNW6_1 : True:=by
 k_with "call ref" => ((fail_if_success have:=dNW6);first | k_extra "L13" | k_extra "L30" | fail)
 k_with "exec For" => ((fail_if_success have:=dNW6);first | k_extra "L34" | fail)
 k_with "exec For Name Attribute cons nil" => ((fail_if_success have:=dNW6);first | k_extra "L23" | fail)
 k_with "exec For Name Name cons nil" => ((fail_if_success have:=dNW6);first | k_extra "L23" | fail)
 k_with "exec For Name Call cons nil" => ((fail_if_success have:=dNW6);first | k_extra "L23" | fail)
 k_with "exec For Name Subscript cons nil" => ((fail_if_success have:=dNW6);first | k_extra "L23" | fail)
 k_with "exec For Name Tuple cons nil" => ((fail_if_success have:=dNW6);first | k_extra "L23" | fail)
 k_with "pyIter ref" => ((fail_if_success have:=dNW6);first | k_extra "L23" | fail)
 k_with "TurnP" => ((fail_if_success have:=dNW6);first | k_extra "L29" | fail)
 k_with "setItem ref int bool" => ((fail_if_success have:=dNW6);first | k_extra "L36" | fail)
 k_with "call builtin:sorted" => ((fail_if_success have:=dNW6);first | k_extra "L44" | fail)
 k_with "A" => ((fail_if_success have:=dNW6);first | k_extra "L28" | k_extra "L27" | fail)
 exact True.intro
open kc in
theorem c_38 : s_38 E w p loose mean mg mb dp un gd cn cs a ccd cl outer A₀ base h₀ L m restX1 s QX1 l vs:=by
 intro B F X T hk N c0 gs hl hi hasc hn hd hu hret
 have N₀ : News h₀ L s.heap [(l,listOf vs.toArray c0)]:=news_sub N fun p hp=>by rw [List.mem_singleton.mp hp];exact hl
 have Nr : News h₀ L s.heap restX1∧True:=⟨N,trivial⟩
 clear N
 refine wpAny_call ?_
 k_dflt (refine' code_defH [("glyphs",.ref l)] ?k1 ?k2 ?k3 ?k4 ?k5 ?kA ?kF ?kK ?k6 ?k7 ?k8 ?k9 ?kB ?_ ?c2 ?c3 ?c4 ?c5;walk_at "nu_enter";intro g' L' h' FG' F' N' B' X' T' hg')
 (try dsimp only)
 k_fold
 k_steps
 refine Stop.out ?_
 rename_i D_0 h_00 o_0 lo_0 hs_0 fs_0 hi_0 fi_0 l1_0 h_0 F_0 N_0
 have a1 : @Ne Nat l D_0:=Nat.ne_of_lt l1_0
 refine For_invVF F_0 rfl rfl ?_
 k_steps
 refine Stop.out (iter_seq (its:=vs) [] (fun i nl=>∃ oD kvs,nl = [(D_0,oD),(l,listOf vs.toArray c0)]∧oD.IsDictOf (intKind pw_nu0185_01 w) kvs∧kvs.map (·.1) = gs.take i) rfl (.inl ⟨_,(N_0 _ (.tail _ (.head _))).1,rfl,c0,rfl⟩) (N_0 _ (.tail _ (.head _))).2.1 F_0 N_0 (ei2 o_0 [] ⟨rfl,hi_0,rfl⟩) ?_ ?_)
 ·intro i v u I news₁ own h tk hv hJ hown hIo hI hne F' N'
  refine ex2 hJ fun oD kvs q9=>an3 q9 fun e90 hD hk=>?_
  clear q9 hJ
  subst e90
  refine ex2 (ints_at hi hv) fun g t q9=>an2 q9 fun hg e93=>?_
  clear q9
  subst e93
  have hlt : i < gs.length:=(List.getElem?_eq_some_iff.mp hg).1
  have hnew : g ∉ kvs.map (·.1):=by rw [hk];exact asc_new hasc hg
  have hk5 : kvs.length ≤ 60:=by
   have:=congrArg List.length hk
   rw [List.length_map,List.length_take] at this
   omega
  have i1 : @Ne Nat D_0 I:=hI _ (.head _)
  have w1 : LCg.Off1 D_0 own:=off1_own (l:=[]) trivial hown i1 a1
  simp only [List.cons_append,List.nil_append] at N'
  clear N_0 F_0
  have i2 : @Ne Nat l I:=hne
  walk_at "S2"
  refine Stop.out (turn_fix (mu:=[(D_0,_),(l,listOf vs.toArray c0)]) (by assumption) (by assumption) ?_ (fun y h1 h2=>by (try dsimp only);rw [if_neg h1,if_neg (by rw [h2];exact Bool.false_ne_true)]) (ei2 _ _ ⟨rfl,by assumption,?_⟩))
  ·exact List.forall_mem_cons.mpr ⟨i1,List.forall_mem_cons.mpr ⟨i2,List.forall_mem_nil _⟩⟩
  ·rw [stored_new hnew,List.map_append,hk,take_next hg];rfl
 ·intro u news₁ h tk hJ F' N'
  refine ex2 hJ fun oD kvs q9=>an3 q9 fun e90 hD hk=>?_
  clear q9 hJ
  subst e90
  rw [hi.length,List.take_length] at hk
  have hasc' : (kvs.map (·.1)).Pairwise (· < ·):=by rw [hk];exact hasc
  have hk6 : kvs.length < 60:=by
   have:=congrArg List.length hk
   rw [List.length_map] at this
   omega
  clear N_0 F_0
  k_steps
  have iv:=‹IntsAre _ (kvs.map (·.1))›
  rw [hk] at iv
  exact hret _ _ _ _ _ _ _ _ iv (by assumption) (news_app (news_three (by assumption)) (news_hid Nr.1 (Kp.of_keep hg' (Fr.keep (by assumption))) fun b hb=>by rw [List.mem_singleton.mp hb,News.get (by assumption) (by k_mem),(Nr.1 _ hl).1])) (off1_newKs Nr.1 hg' (by assumption) (by k_mem) (List.forall_mem_cons.mpr ⟨by k_ne,List.forall_mem_nil _⟩)) (off1_newKs Nr.1 hg' (by assumption) (by k_mem) (List.forall_mem_cons.mpr ⟨by k_ne,List.forall_mem_nil _⟩)) (off1_newKs Nr.1 hg' (by assumption) (by k_mem) (List.forall_mem_cons.mpr ⟨ne_cls (by assumption) (by k_mem) (by k_mem) (by show Value.type "tuple" ≠ Value.type "list";decide),List.forall_mem_nil _⟩)) (by k_ne) (by k_ne) (by k_ne)
theorem u39 : upto 39:=hk @c_38 u38 (by with_unfolding_all exact rfl)
open kc in
theorem coverage_of_spec {E w p loose mean mg mb dp un gd cn cs a ccd cl outer A₀ base h₀ L m restX1 s QX1 l vs} : s_38 E w p loose mean mg mb dp un gd cn cs a ccd cl outer A₀ base h₀ L m restX1 s QX1 l vs:=@hkT _ u39 (by k_extra "T") _ (by exact rfl)
end NW6
theorem dNW6 : True:=trivial
section NW14
theorem lnNW14_1 : True:=by
 k_with "call ref" => ((fail_if_success have:=dNW14);first | k_extra "L13" | fail)
 k_with "pyIter ref" => ((fail_if_success have:=dNW14);first | k_extra "L23" | fail)
 k_with "TurnP" => ((fail_if_success have:=dNW14);first | k_extra "L29" | fail)
 k_with "getMethod ref" => ((fail_if_success have:=dNW14);first | k_extra "L57" | fail)
 k_with "A" => ((fail_if_success have:=dNW14);first | k_extra "L28" | k_extra "L27" | fail)
 k_with "call type:bytes cons nil" => ((fail_if_success have:=dNW14);first | k_extra "L59" | fail)
 k_with "call builtin:len cons nil" => ((fail_if_success have:=dNW14);first | k_extra "L60" | fail)
 exact True.intro
theorem bk_is {prog : Program} {w : World} (b : Array UInt8) (t : Tok) : (bytesKind prog w).is b.toList (.bytes b t) = true:=by
 show (b.toList == b.toList) = true
 simp
theorem dict_kind0 {prog : Program} {w : World} {K K' : Type} [DecidableEq K] [DecidableEq K'] {knd : KeyKind prog w K} {knd' : KeyKind prog w K'} {o : Obj} (h : o.IsDictOf knd []) : o.IsDictOf knd' []:=by
 refine ex2 h fun es ep q9=>an5 q9 fun h1 h2 h3 h4 h5=>?_
 clear q9 h
 have he : es.toList = []:=by
  cases z : es.toList with
  | nil=>rfl
  | cons a l=>rw [z] at h4;cases h4
 refine ei2 es ep ⟨h1,h2,fun e hm=>?_,by rw [he];exact .nil,List.nodup_nil⟩
 have : e ∈ es.toList:=Array.mem_toList_iff.mpr hm
 rw [he] at this
 cases this
theorem PartsV.length {vs : List Value} {ps : List (Option (Array UInt8))} (h : PartsV vs ps) : vs.length = ps.length:=by
 induction h with
 | nil=>rfl
 | cons _ _ ih=>rw [List.length_cons,List.length_cons,ih]
theorem PartsV.at {vs : List Value} {ps : List (Option (Array UInt8))} (h : PartsV vs ps) : ∀ {i : Nat} {v : Value},vs[i]? = some v→∃ p,ps[i]? = some p∧PartV v p:=by
 induction h with
 | nil=>intro i v e;cases e
 | cons a _ ih =>
  intro i v e
  cases i with
  | zero=>exact ⟨_,rfl,(Option.some.inj e) ▸ a⟩
  | succ i=>exact ih e
theorem PartsV.append {vs ws : List Value} {ps qs : List (Option (Array UInt8))} (h : PartsV vs ps) (h' : PartsV ws qs) : PartsV (vs ++ ws) (ps ++ qs):=by
 induction h with
 | nil=>exact h'
 | cons a _ ih=>exact .cons a ih
theorem stored_len {K : Type} [DecidableEq K] (kvs : List (K × Value)) (k : K) (v : Value) : (stored kvs k v).length ≤ kvs.length + 1:=by
 unfold stored
 split <;> simp
theorem places_set {kvs : List (List UInt8 × Value)} {f : List UInt8→Option Int} {k0 : List UInt8} {n : Int} {t : Tok} (h : PlacesV kvs f) (e : valueAt kvs k0 = none) : PlacesV (stored kvs k0 (.int n t)) (fun k=>if k = k0 then some n else f k):=by
 have hn : kvs.find? (fun kv=>kv.1 = k0) = none:=by
  unfold valueAt at e
  exact Option.map_eq_none_iff.mp e
 have hs : stored kvs k0 (.int n t) = kvs ++ [(k0,.int n t)]:=by
  unfold stored
  rw [if_neg]
  intro ha
  refine ex1 (List.any_eq_true.mp ha) fun x q9=>an2 q9 fun hx hk=>?_
  clear q9
  exact (List.find?_eq_none.mp hn x hx) hk
 intro k
 rw [hs]
 by_cases z : k = k0
 ·subst z
  refine .inr (ei2 n t ⟨?_,if_pos rfl⟩)
  unfold valueAt
  rw [List.find?_append,hn]
  simp
 ·have hf : (fun k=>if k = k0 then some n else f k) k = f k:=if_neg z
  rw [hf]
  have hv : valueAt (kvs ++ [(k0,Value.int n t)]) k = valueAt kvs k:=by
   unfold valueAt
   rw [List.find?_append]
   have : ([(k0,Value.int n t)] : List (List UInt8 × Value)).find? (fun kv=>kv.1 = k) = none:=by
    simp [Ne.symm z]
   rw [this,Option.or_none]
  rw [hv]
  exact h k
theorem news_pick14 {h₀ h : Heap} {L : Addr} {a b c d e : Addr × Obj} (N : News h₀ L h [a,b,c,d,e]) : News h₀ L h [a,d]:=fun q hq=>by
 rcases List.mem_cons.mp hq with rfl | hq
 ·exact N _ (.head _)
 ·rw [List.mem_singleton.mp hq];exact N _ (.tail _ (.tail _ (.tail _ (.head _))))
theorem laidF_next {beg : Int} {ps : List (Option (Array UInt8))} {i : Nat} {p : Option (Array UInt8)} (h : ps[i]? = some p) : laidF beg (ps.take (i + 1)) = laidStep beg (laidF beg (ps.take i)) p:=by
 unfold laidF
 rw [List.take_succ,h]
 simp [List.foldl_append]
theorem lnNW14_2 : True:=by
 k_with "L65" => ((k_here;k_dflt (refine kda_in (knd:=bytesKind _ _) (by k_asm) (by k_mem) (by assumption) (by assumption) (bk_is _ _) _ (by assumption) ?_)))
 k_with "L66" => ((k_here;(with_reducible show wpAny _ _ (subscriptTail _ _ (Value.ref _) (Value.bytes _ _)) _ _ _);k_dflt (refine kda_item (knd:=bytesKind _ _) (by k_asm) (by k_mem) (by assumption) (bk_is _ _) (by assumption) ?_)))
 k_with "L67" => ((k_here;k_dflt (refine' kda_set (knd:=bytesKind _ _) ?zF ?zN ?zU ?zd ?zk ?zz ?_;(case zF=>k_asm);(case zN=>k_asm);(case zU=>k_updF);(case zd=>assumption);(case zk=>exact bk_is _ _);(case zz=>exact Nat.le_trans (by assumption) (Nat.le_of_ble_eq_true rfl)));intro _ _ _ N' hd';(try dsimp only at N');(try (revert N';intro _));(try (revert hd';intro _))))
 k_with "compareOp In bytes ref" => ((fail_if_success have:=dNW14);first | k_extra "L65" | fail)
 k_with "subscriptTail Name" => ((fail_if_success have:=dNW14);first | k_extra "L66" | fail)
 k_with "setItem ref bytes int" => ((fail_if_success have:=dNW14);first | k_extra "L67" | fail)
 exact True.intro
open kc in
theorem c_39 : s_39 w p loose mean mg mb dp un cn cs a ccd cl outer A₀ base h₀ L m restX1 s QX1 tb l vs:=by
 intro B F X T hk N c0 ps beg hl hi hsz hnn h0 h1 hd hu hret
 have Nr : News h₀ L s.heap restX1∧True:=⟨N,trivial⟩
 have N₀ : News h₀ L s.heap [(l,listOf vs.toArray c0)]:=news_sub N fun p hp=>by rw [List.mem_singleton.mp hp];exact hl
 clear N
 refine wpG_call ?_
 k_dflt (refine' code_defG [("begin",.int beg tb),("parts",.ref l),("is_shared",.bool true)] ?k1 ?k2 ?k3 ?k4 ?k5 ?kA ?kF ?kK ?k6 ?k7 ?k8 ?k9 ?kB ?_ ?c2 ?c3 ?c4 ?c5;walk_at "nu_enter";intro g' L' h' FG' F' N' B' X' T' hg')
 (try dsimp only)
 (try k_fold)
 refine G_good ?_
 walk_at "S1"
 (try dsimp only)
 refine G_good ?_
 walk_at "S1"
 (try dsimp only)
 refine G_cons (G_Assign1 rfl rfl rfl ?_)
 refine G_Call_Name rfl ?_
 walk_at "S1"
 (try dsimp only)
 refine G_callWith_T0 ?_
 (try dsimp only [List.append_nil,List.nil_append])
 k_dflt (refine' kba_new rfl ?F ?N ?_;(case F=>k_asm);(case N=>k_asm))
 intro ma9 h9 F9 N9 l9
 (try k_lt l9)
 (try k_sweep)
 walk_at "S1"
 (try dsimp only)
 refine G_cons (G_For (fun _=>rfl) ?_)
 walk_at "S1"
 refine Stop.out ?_
 rename_i ob hh1 la1 hh2 pl hh3 oP lo9 hs9 fs9 hi9 fi9 la2 hh4 h8 F8 N8
 have n1 : @Ne Nat l ob:=by k_ne
 have n2 : @Ne Nat l pl:=by k_ne
 have n3 : @Ne Nat l ma9:=by k_ne
 refine iterG_seq (its:=vs) ["place"] (fun i nl=>∃ ovs c oP kvs,nl = [(ma9,baObj (laidF beg (ps.take i)).out),(pl,oP),(ob,listOf ovs.toArray c),(l,listOf vs.toArray c0)]∧IntsAre ovs (laidF beg (ps.take i)).offs∧oP.IsDictOf (bytesKind pw_nu0185_01 w) kvs∧PlacesV kvs (laidF beg (ps.take i)).at_∧kvs.length ≤ i∧(laidF beg (ps.take i)).out.size ≤ 20 * i∧ovs.length = i) rfl rfl rfl (.inl ⟨_,(N8 _ (.tail _ (.tail _ (.tail _ (.head _))))).1,rfl,c0,rfl⟩) (N8 _ (.tail _ (.tail _ (.tail _ (.head _))))).2.1 F8 N8 (ei4 [] 0 oP [] ⟨rfl,.nil,dict_kind0 hi9,fun k=>.inl ⟨rfl,rfl⟩,Nat.le_refl _,Nat.le_refl _,rfl⟩) ?_ ?_
 ·intro i v u I news₁ own h tk hv hJ hown hIo hI hne F' N'
  refine ex4 hJ fun ovs c oP1 kvs q9=>an7 q9 fun e90 hov hdk hpl hkl hos hovl=>?_
  clear q9 hJ
  subst e90
  refine ex1 (hi.at hv) fun p q9=>an2 q9 fun hp hpv=>?_
  clear q9
  have hlt : i < ps.length:=(List.getElem?_eq_some_iff.mp hp).1
  have hst:=laidF_next (beg:=beg) hp
  have hps : ∀ b,p = some b→b.size ≤ 20:=fun b e=>hsz b (e ▸ List.mem_of_getElem? hp)
  have w1 : LCg.Off1 ma9 own:=off1_own (l:=[]) trivial hown (hI _ (.head _)) n3
  have w2 : LCg.Off1 pl own:=off1_own (l:=[]) trivial hown (hI _ (.tail _ (.head _))) n2
  have w3 : LCg.Off1 ob own:=off1_own (l:=[]) trivial hown (hI _ (.tail _ (.tail _ (.head _)))) n1
  have i1 : @Ne Nat ma9 I:=hI _ (.head _)
  have i2 : @Ne Nat pl I:=hI _ (.tail _ (.head _))
  have i3 : @Ne Nat ob I:=hI _ (.tail _ (.tail _ (.head _)))
  have i4 : @Ne Nat l I:=hI _ (.tail _ (.tail _ (.tail _ (.head _))))
  have hmu : ∀ b o ov c9,∀ p ∈ [(ma9,baObj b),(pl,o),(ob,listOf ov c9),(l,listOf vs.toArray c0)],p.1 ≠ I:=fun b o ov c9=>List.forall_mem_cons.mpr ⟨i1,List.forall_mem_cons.mpr ⟨i2,List.forall_mem_cons.mpr ⟨i3,List.forall_mem_cons.mpr ⟨i4,List.forall_mem_nil _⟩⟩⟩⟩
  rw [hst]
  generalize laidF beg (ps.take i) = st at *
  simp only [List.cons_append,List.nil_append] at N'
  have hkz : kvs.length ≤ 1000:=by omega
  clear N8 F8
  cases p with
  | none =>
   have hv' : v = .none:=hpv
   subst hv'
   refine G_cons (G_If ?_)
   walk_at "S1"
   (try simp only [if_true,if_false])
   (try dsimp only)
   refine G_good ?_
   walk_at "S1"
   (try dsimp only)
   repeat (refine G_nil ?_;(try dsimp only))
   rename News _ _ _ (_ :: _ :: (_,listOf (Array.push _ _) _) :: _)=>N9x
   rw [List.push_toArray] at N9x
   refine turn_fix (mu:=[(ma9,_),(pl,_),(ob,_),(l,listOf vs.toArray c0)]) (by assumption) N9x (hmu _ _ _ _) (fun y h1 h2=>by (try dsimp only);rw [if_neg h1,if_neg (by rw [h2];exact Bool.false_ne_true)]) (ei4 _ _ _ _ ⟨rfl,ints_snoc hov,hdk,hpl,by omega,?_,?_⟩)
   ·show st.out.size ≤ _
    omega
   ·simp [hovl]
  | some b =>
   have hbz:=hps b rfl
   refine ex1 hpv fun tp e91=>?_
   clear hpv
   subst e91
   refine G_cons (G_If ?_)
   walk_at "S1"
   (try simp only [if_true,if_false])
   (try dsimp only)
   rcases hpl b.toList with ⟨e1,e2⟩ | ⟨n9,t9,e1,e2⟩
   ·have hin : (valueAt kvs b.toList).isSome = false:=by rw [e1];rfl
    have hls : laidStep beg st (some b) = ⟨st.offs ++ [beg + st.out.size],st.out ++ b,fun k=>if k = b.toList then some (beg + st.out.size) else st.at_ k⟩:=by simp only [laidStep,e2]
    rw [hls]
    refine G_cons (G_If ?_)
    walk_at "S1"
    (try simp only [if_true,if_false])
    (try dsimp only)
    refine G_good ?_
    walk_at "S1"
    (try dsimp only)
    refine G_good ?_
    walk_at "S1"
    (try dsimp only)
    refine G_good ?_
    walk_at "S1"
    (try dsimp only)
    refine G_good ?_
    walk_at "S1"
    (try dsimp only)
    refine G_cons (G_Expr ?_ rfl rfl)
    refine G_Call_method rfl rfl rfl rfl fun _=>?_
    walk_at "S1"
    (try dsimp only)
    refine G_callWith_B ?_ rfl rfl
    walk_at "S1"
    (try dsimp only [List.cons_append,List.nil_append])
    k_dflt (refine' kba_extend rfl ?F ?N ?U ?z ?_;(case F=>k_asm);(case N=>k_asm);(case U=>k_updF);(case z=>omega))
    intro h9 F9 N9
    (try dsimp only at N9)
    repeat (refine G_nil ?_;(try dsimp only))
    rw [List.push_toArray] at N9
    refine turn_fix (mu:=[(ma9,_),(pl,_),(ob,_),(l,listOf vs.toArray c0)]) F9 N9 (hmu _ _ _ _) (fun y h1 h2=>by (try dsimp only);rw [if_neg (ne_c1 h2),if_neg h1,if_neg (by rw [h2];exact Bool.false_ne_true)]) (ei4 _ _ _ _ ⟨rfl,ints_snoc hov,by assumption,places_set hpl e1,?_,?_,?_⟩)
    ·exact Nat.le_trans (stored_len _ _ _) (by omega)
    ·show (st.out ++ b).size ≤ _
     rw [Array.size_append]
     omega
    ·simp [hovl]
   ·have hin : (valueAt kvs b.toList).isSome = true:=by rw [e1];rfl
    have hls : laidStep beg st (some b) = ⟨st.offs ++ [n9],st.out,st.at_⟩:=by simp only [laidStep,e2]
    rw [hls]
    refine G_cons (G_If ?_)
    walk_at "S1"
    (try simp only [if_true,if_false])
    (try dsimp only)
    refine G_good ?_
    walk_at "S1"
    (try dsimp only)
    repeat (refine G_nil ?_;(try dsimp only))
    rename News _ _ _ (_ :: _ :: (_,listOf (Array.push _ _) _) :: _)=>N9x
    rw [List.push_toArray] at N9x
    refine turn_fix (mu:=[(ma9,_),(pl,_),(ob,_),(l,listOf vs.toArray c0)]) (by assumption) N9x (hmu _ _ _ _) (fun y h1 h2=>by (try dsimp only);rw [if_neg h1,if_neg (by rw [h2];exact Bool.false_ne_true)]) (ei4 _ _ _ _ ⟨rfl,?_,hdk,?_,by omega,?_,?_⟩)
    ·exact ints_snoc hov
    ·exact hpl
    ·show st.out.size ≤ _
     omega
    ·simp [hovl]
 ·intro u news₁ h tk hJ F' N'
  refine ex4 hJ fun ovs c oP1 kvs q9=>an7 q9 fun e90 hov hdk hpl hkl hos hovl=>?_
  clear q9 hJ
  subst e90
  rw [hi.length,List.take_length] at hov hpl hos
  rw [hi.length,List.take_length] at N'
  (try dsimp only)
  have hos9 : (laidF beg ps).out.size ≤ 16777216:=by omega
  have hobl : @LT.lt Nat _ ob h.objs.size:=Heap.lt_size (N' _ (.tail _ (.tail _ (.head _)))).1
  have hll : @LT.lt Nat _ l h.objs.size:=Heap.lt_size (N' _ (.tail _ (.tail _ (.tail _ (.head _))))).1
  rw [hi.length] at hovl
  refine G_good ?_
  walk_at "S1"
  (try dsimp only)
  show QX1 _ _
  rename_i kF9 kN9 _ _
  exact hret _ ob ovs c _ _ _ _ hov kF9 (news_app (news_pick14 kN9) (news_hid Nr.1 (Kp.of_keep hg' (Fr.keep (by assumption))) (List.forall_mem_cons.mpr ⟨by rw [News.get (by assumption) (by k_mem),(Nr.1 _ hl).1],List.forall_mem_nil _⟩))) (off1_newKs Nr.1 hg' (by assumption) (by k_mem) (List.forall_mem_cons.mpr ⟨by k_ne,List.forall_mem_nil _⟩)) (off1_newKs Nr.1 hg' (by assumption) (by k_mem) (List.forall_mem_cons.mpr ⟨by k_ne,List.forall_mem_nil _⟩)) (by k_ne)
theorem u40 : upto 40:=hk @c_39 u39 (by with_unfolding_all exact rfl)
open kc in
theorem laid_spec {w p loose mean mg mb dp un cn cs a ccd cl outer A₀ base h₀ L m restX1 s QX1 tb l vs} : s_39 w p loose mean mg mb dp un cn cs a ccd cl outer A₀ base h₀ L m restX1 s QX1 tb l vs:=@hkT _ u40 (by k_extra "T") _ (by exact rfl)
end NW14
theorem dNW14 : True:=trivial
section NW15
theorem lnNW15_1 : True:=by
 k_with "L68" => ((k_here;(with_reducible show wpAny _ _ (call (Value.ref 327) [Value.ref _]) _ _ _);k_dflt (refine' coverage_of_spec ?zB ?zF ?zX ?zT ?zhk ?zN ?zhl ?zhi ?zhasc ?zhn ?zhd ?zhu ?_;k_extra "Q";(case zhl=>first | k_mem | (repeat (first | assumption | refine List.mem_cons_of_mem _ ?_ | refine List.mem_append_left _ ?_)));(case zhi=>assumption);(case zhasc=>assumption);(case zhn=>omega);k_extra "V");intro _ _ _ _ _ _ _ _ _ _ _ _ _ _ _ _ _;(try k_sweep);(try dsimp only)))
 k_with "L69" => ((k_here;(with_reducible show wpAny _ _ (call (Value.ref 454) [Value.ref _,Value.int _ _]) _ _ _);k_dflt (refine' cur_end_spec ?zB ?zF ?zX ?zT ?zhk true 454 rfl ?zN ?zhx ?zhdd ?zhD ?zhi ?zhlo ?zhR ?zhasc ?zhg ?zhd ?zhu ?_;k_extra "Q";(case zhx=>first | k_mem | (repeat (first | assumption | refine List.mem_cons_of_mem _ ?_ | refine List.mem_append_left _ ?_)));(case zhdd=>first | k_mem | (repeat (first | assumption | refine List.mem_cons_of_mem _ ?_ | refine List.mem_append_left _ ?_)));(case zhD=>first | k_mem | (repeat (first | assumption | refine List.mem_cons_of_mem _ ?_ | refine List.mem_append_left _ ?_)));(case zhi=>assumption);(case zhlo=>assumption);(case zhR=>first | assumption | (refine RowsV.mono ?_ (by assumption);intro _ _;repeat (first | assumption | refine List.mem_cons_of_mem _ ?_ | refine List.mem_append_left _ ?_)));(case zhasc=>assumption);(case zhg=>assumption);k_extra "V");intro _ _ _ hv' F' N';(try simp only [eq_self,if_true,Bool.false_eq_true,if_false] at hv');(try (revert hv';intro _));(try (revert F';intro _));(try (revert N';intro _));(try k_sweep);(try dsimp only)))
 k_with "L70" => ((k_here;(with_reducible show wpAny _ _ (call (Value.ref 461) [Value.ref _,Value.int _ _]) _ _ _);k_dflt (refine' cur_end_spec ?zB ?zF ?zX ?zT ?zhk false 461 rfl ?zN ?zhx ?zhdd ?zhD ?zhi ?zhlo ?zhR ?zhasc ?zhg ?zhd ?zhu ?_;k_extra "Q";(case zhx=>first | k_mem | (repeat (first | assumption | refine List.mem_cons_of_mem _ ?_ | refine List.mem_append_left _ ?_)));(case zhdd=>first | k_mem | (repeat (first | assumption | refine List.mem_cons_of_mem _ ?_ | refine List.mem_append_left _ ?_)));(case zhD=>first | k_mem | (repeat (first | assumption | refine List.mem_cons_of_mem _ ?_ | refine List.mem_append_left _ ?_)));(case zhi=>assumption);(case zhlo=>assumption);(case zhR=>first | assumption | (refine RowsV.mono ?_ (by assumption);intro _ _;repeat (first | assumption | refine List.mem_cons_of_mem _ ?_ | refine List.mem_append_left _ ?_)));(case zhasc=>assumption);(case zhg=>assumption);k_extra "V");intro _ _ _ hv' F' N';(try simp only [eq_self,if_true,Bool.false_eq_true,if_false] at hv');(try (revert hv';intro _));(try (revert F';intro _));(try (revert N';intro _));(try k_sweep);(try dsimp only)))
 k_with "call ref" => ((fail_if_success have:=dNW15);first | k_extra "L13" | k_extra "L61" | k_extra "L70" | k_extra "L69" | k_extra "L68" | k_extra "L50" | k_extra "L13" | fail)
 k_with "pyIter ref" => ((fail_if_success have:=dNW15);first | k_extra "L23" | fail)
 k_with "TurnP" => ((fail_if_success have:=dNW15);first | k_extra "L29" | fail)
 k_with "getMethod ref" => ((fail_if_success have:=dNW15);first | k_extra "L57" | fail)
 k_with "A" => ((fail_if_success have:=dNW15);first | k_extra "L28" | k_extra "L27" | fail)
 exact True.intro
theorem news_cons {h₀ h : Heap} {L : Addr} {p : Addr × Obj} {l : List (Addr × Obj)} (N : News h₀ L h l) (hp : p ∈ l) : News h₀ L h (p :: l):=fun z hz=>by
 rcases List.mem_cons.mp hz with rfl | hz
 ·exact N _ hp
 ·exact N _ hz
theorem G_List1K {prog : Program} {w : World} {A : Around} {s : Shared} {env : Env} {h₀ : Heap} {L : Addr} {e : Expr} {pos : Pos} {Q : Value→Shared→Prop} (htrees : backTo pos (starEach [e] env) = [(false,eval e env)])
  (h : wpG (model prog w) A (eval e env) (fun v s₁=>∃ m news,Fr h₀ L s₁.heap m∧News h₀ L s₁.heap news∧∀ l h',Fr h₀ L h' m→News h₀ L h' ((l,listOf #[v] 0) :: news)→(∀ p ∈ news,p.1 < l)→Q (.ref l) { s₁ with heap:=h'}) s) :
  wpG (model prog w) A (eval (.List [e] pos) env) Q s:=by
 refine G_List1 htrees (h.mono fun v s₁ h₁=>?_)
 refine ex2 h₁ fun m news q9=>an3 q9 fun F N k=>?_
 clear q9 h₁
 exact k _ _ (F.push _) (N.push F _) fun p hp=>Heap.lt_size (N p hp).1
theorem endB_size {o : Option Pt} {b : Array UInt8} (h : EndB o (some b)) : b.size = 6:=by
 cases o with
 | none=>exact h.elim
 | some z =>
  have h' : KBw.bInts b = anc8 z:=h
  rw [← KBw.ints_length,h']
  rfl
theorem LaidOk.step {beg : Int} {k : Nat} {st : LaidS} (hb : 0 ≤ beg) (h : LaidOk beg k st) {p : Option (Array UInt8)} (hp : ∀ b,p = some b→b.size ≤ 20) : LaidOk beg (k + 1) (laidStep beg st p):=by
 obtain ⟨h1,h2,h3,h4⟩:=h
 cases p with
 | none =>
  refine ⟨by simp [laidStep,h1],by show st.out.size ≤ _;omega,?_,h4⟩
  intro n hn
  rcases List.mem_append.mp hn with hn | hn
  ·exact h3 n hn
  ·rw [List.mem_singleton.mp hn];show 0 ≤ (0 : Int)∧(0 : Int) ≤ beg + st.out.size;omega
 | some b =>
  have hz:=hp b rfl
  cases e : st.at_ b.toList with
  | some n9 =>
   have hs : laidStep beg st (some b) = ⟨st.offs ++ [n9],st.out,st.at_⟩:=by simp only [laidStep,e]
   rw [hs]
   refine ⟨by simp [h1],by show st.out.size ≤ _;omega,?_,h4⟩
   intro n hn
   rcases List.mem_append.mp hn with hn | hn
   ·exact h3 n hn
   ·rw [List.mem_singleton.mp hn];exact h4 _ _ e
  | none =>
   have hs : laidStep beg st (some b) = ⟨st.offs ++ [beg + st.out.size],st.out ++ b,fun k=>if k = b.toList then some (beg + st.out.size) else st.at_ k⟩:=by simp only [laidStep,e]
   rw [hs]
   have hsz : ((st.out ++ b).size : Int) = st.out.size + b.size:=by rw [Array.size_append];omega
   refine ⟨by simp [h1],by show (st.out ++ b).size ≤ _;rw [Array.size_append];omega,?_,?_⟩
   ·intro n hn
    show 0 ≤ n∧n ≤ beg + ((st.out ++ b).size : Int)
    rw [hsz]
    rcases List.mem_append.mp hn with hn | hn
    ·have:=h3 n hn;omega
    ·rw [List.mem_singleton.mp hn];omega
   ·intro x n hx
    show 0 ≤ n∧n ≤ beg + ((st.out ++ b).size : Int)
    rw [hsz]
    dsimp only at hx
    split at hx
    ·rw [← Option.some.inj hx];omega
    ·have:=h4 x n hx;omega
theorem laid_ok {beg : Int} (hb : 0 ≤ beg) : ∀ (ps : List (Option (Array UInt8))) {k : Nat} {st : LaidS},LaidOk beg k st→(∀ b,some b ∈ ps→b.size ≤ 20)→LaidOk beg (k + ps.length) (ps.foldl (laidStep beg) st):=by
 intro ps
 induction ps with
 | nil=>exact fun h _=>h
 | cons p ps ih =>
  intro k st h hz
  have:=ih (h.step hb (p:=p) fun b e=>hz b (e ▸ .head _)) fun b hm=>hz b (.tail _ hm)
  rw [List.length_cons,show k + (ps.length + 1) = k + 1 + ps.length from by omega]
  exact this
theorem laid_ok0 {beg : Int} (hb : 0 ≤ beg) (ps : List (Option (Array UInt8))) (hz : ∀ b,some b ∈ ps→b.size ≤ 20) : LaidOk beg ps.length (laidF beg ps):=by
 have:=laid_ok hb ps (k:=0) (st:=⟨[],#[],fun _=>none⟩) ⟨rfl,Nat.le_refl _,(fun n h=>nomatch h),(fun x n h=>nomatch h)⟩ hz
 rw [Nat.zero_add] at this
 exact this
theorem laid_len (beg : Int) : ∀ (ps : List (Option (Array UInt8))),(laidF beg ps).offs.length = ps.length:=by
 have gen : ∀ (ps : List (Option (Array UInt8))) (st : LaidS),(ps.foldl (laidStep beg) st).offs.length = st.offs.length + ps.length:=by
  intro ps
  induction ps with
  | nil=>intro st;rfl
  | cons p ps ih =>
   intro st
   rw [List.foldl_cons,ih,List.length_cons]
   have : (laidStep beg st p).offs.length = st.offs.length + 1:=by
    unfold laidStep
    split
    ·simp
    ·split <;> simp
   omega
 intro ps
 have:=gen ps ⟨[],#[],fun _=>none⟩
 rw [show laidF beg ps = ps.foldl (laidStep beg) ⟨[],#[],fun _=>none⟩ from rfl,this]
 simp
theorem laid_bd {beg : Int} {ps : List (Option (Array UInt8))} (hz : ∀ b,some b ∈ ps→b.size ≤ 20) (hn : ps.length < 60) (hb : 0 ≤ beg) (h1 : beg < 1000) : ∀ n ∈ (laidF beg ps).offs,0 ≤ n∧n < 65536:=fun n hm=>by
 obtain ⟨_,h2,h3,_⟩:=laid_ok0 hb ps hz
 have:=h3 n hm
 omega
theorem laid_sz (beg : Int) (ps : List (Option (Array UInt8))) (hz : ∀ b,some b ∈ ps→b.size ≤ 20) : (laidF beg ps).out.size ≤ 20 * ps.length:=by
 have gen : ∀ (ps : List (Option (Array UInt8))) (st : LaidS),(∀ b,some b ∈ ps→b.size ≤ 20)→(ps.foldl (laidStep beg) st).out.size ≤ st.out.size + 20 * ps.length:=by
  intro ps
  induction ps with
  | nil=>intro st _;exact Nat.le_refl _
  | cons p ps ih =>
   intro st hz
   rw [List.foldl_cons,List.length_cons]
   have h1:=ih (laidStep beg st p) fun b hb=>hz b (.tail _ hb)
   have h2 : (laidStep beg st p).out.size ≤ st.out.size + 20:=by
    unfold laidStep
    split
    ·exact Nat.le_add_right _ _
    ·rename_i b
     have hzb:=hz b (.head _)
     split
     ·exact Nat.le_add_right _ _
     ·show (st.out ++ b).size ≤ _
      rw [Array.size_append];omega
   omega
 have:=gen ps ⟨[],#[],fun _=>none⟩ hz
 rw [show laidF beg ps = ps.foldl (laidStep beg) ⟨[],#[],fun _=>none⟩ from rfl]
 exact Nat.le_trans this (by show 0 + _ ≤ _;omega)
theorem allLt_mono {a b : Nat} : ∀ {l : List (Addr × Obj)},AllLt a l→a < b→AllLt b l:=by
 intro l h hb
 induction l with
 | nil=>trivial
 | cons _ _ ih=>exact ⟨Nat.lt_trans h.1 hb,ih h.2⟩
open kc in
theorem c_40 : s_40 w x p loose mean mg mb dp un cn cs a ccd cl outer A₀ base h₀ L m restX1 s QX1 d D k oD:=by
 intro B F X T hk N kvs rows hx hdd hD hi hlo hR hasc hn hrun hgb hpt hd hu hret
 have hke : (keysE rows).length = (rows.filter hasEnd).length:=by unfold keysE;rw [List.length_map]
 have hkl : (keysE rows).length ≤ 8:=by rw [hke];exact Nat.le_trans (List.length_filter_le _ _) hn
 have hn9 : rows.length < 60:=by omega
 have hascE : (keysE rows).Pairwise (· < ·):=hasc.sublist (List.Sublist.map _ List.filter_sublist)
 refine wpG_call ?_
 k_dflt (refine' code_defG [("table",.ref x)] ?k1 ?k2 ?k3 ?k4 ?k5 ?kA ?kF ?kK ?k6 ?k7 ?k8 ?k9 ?kB ?_ ?c2 ?c3 ?c4 ?c5;walk_at "nu_enter";intro g' L' h' FG' F' N' B' X' T' hg')
 (try dsimp only)
 (try k_fold)
 replace N':=news_cons (news_cons (news_cons N' hD) (.tail _ hdd)) (.tail _ (.tail _ hx))
 refine G_good ?_
 walk_at "S1"
 (try dsimp only)
 refine G_cons (G_Assign1 rfl rfl rfl ?_)
 refine G_List1K (h₀:=g') (L:=L') rfl ?_
 refine G_Call_Name rfl ?_
 walk_at "S1"
 (try dsimp only)
 refine G_callWith_K (K:=Mine.hd.heap_1 w.params) (by k_is) ?_ rfl rfl
 walk_at "S1"
 (try dsimp only [List.cons_append,List.nil_append])
 (with_reducible show wpG _ _ (call (Value.ref 370) [Value.ref _]) _ _)
 k_dflt (refine' write_coverage_spec ?B ?F ?X ?T ?hk ?N ?hc ?hdd ?htt ?hi ?hrun ?hn ?hb ?hd ?hu ?_;(case B=>k_asm);(case F=>k_asm);(case X=>k_asm);(case T=>k_asm);(case hk=>first | exact rfl | assumption);(case N=>k_asm);(case hc=>k_mem);(case hdd=>k_mem);(case htt=>k_mem);(case hi=>assumption);(case hrun=>assumption);(case hn=>omega);(case hb=>assumption);(case hd=>ktr_room);(case hu=>ktr_units))
 intro b8 t8 h8 tk8 be8 bz8 F8 N8
 (try k_sweep)
 (try dsimp only)
 rename_i gl gvs gc h1 tk1 ivg og hX cc cdd ck ct cvs cnn h2 tk2 ivc oc1 oc2 oc3 ec1 ec2 ec3
 refine ei2 _ _ ⟨F8,news_sub N8 (fun p hp=>.tail _ (.tail _ (.tail _ hp))),?_⟩
 intro pa h9 F9 N9 la9
 (try k_lt la9)
 clear N8 F8 oc1 oc2 oc3 ec1 ec2 ec3 ivc
 walk_at "S1"
 (try dsimp only)
 refine G_cons (G_For (fun _=>rfl) ?_)
 walk_at "S1"
 refine Stop.out ?_
 rename_i hP FP NP
 have n1 : @Ne Nat gl pa:=Nat.ne_of_lt la9.1
 have ml : (gl,listOf gvs.toArray gc) ∈ (pa,listOf #[.bytes b8 t8] 0) :: (gl,listOf gvs.toArray gc) :: (x,instObj 474 d) :: (d,dictOf [⟨PyData.keyHash w.params "ends",.str "ends" k,.ref D⟩] 1) :: (D,oD) :: restX1:=.tail _ (.head _)
 refine iterG_seq (its:=gvs) [] (fun i nl=>∃ pvs c ps,nl = (pa,listOf pvs.toArray c) :: (gl,listOf gvs.toArray gc) :: (x,instObj 474 d) :: (d,dictOf [⟨PyData.keyHash w.params "ends",.str "ends" k,.ref D⟩] 1) :: (D,oD) :: restX1∧PartsV pvs (some b8 :: ps)∧EndsB ((rows.filter hasEnd).take i) ps∧ps.length = 2 * i∧(∀ b,some b ∈ ps→b.size = 6)) rfl rfl rfl (.inl ⟨_,(NP _ ml).1,rfl,gc,rfl⟩) (NP _ ml).2.1 FP NP (ei3 [.bytes b8 t8] 0 [] ⟨rfl,.cons ⟨_,rfl⟩ .nil,.nil,rfl,fun _ h=>nomatch h⟩) ?_ ?_
 ·intro i v u I news₁ own h tk hv hJ hown hIo hI hne F' N'
  refine ex3 hJ fun pvs c ps q9=>an5 q9 fun e90 hpv hps hpl hpz=>?_
  clear q9 hJ
  subst e90
  refine ex2 (ints_at ivg hv) fun g t q9=>an2 q9 fun hg e93=>?_
  clear q9
  subst e93
  unfold keysE at hg
  obtain ⟨r,hr,rfl⟩ : ∃ r,(rows.filter hasEnd)[i]? = some r∧r.1 = g:=by
   rw [List.getElem?_map] at hg
   cases z : (rows.filter hasEnd)[i]? with
   | none=>rw [z] at hg;cases hg
   | some r=>rw [z] at hg;exact ⟨r,rfl,Option.some.inj hg⟩
  have hrm : r ∈ rows:=(List.mem_filter.mp (List.mem_of_getElem? hr)).1
  have hmem : (r.1,r.2) ∈ rows:=hrm
  have hp1 : PtsOk r.2.1:=(hpt r hrm).1
  have hp2 : PtsOk r.2.2:=(hpt r hrm).2
  have hti : (rows.filter hasEnd).take (i + 1) = (rows.filter hasEnd).take i ++ [r]:=take_nextA hr
  have hil : i < 8:=by
   have:=(List.getElem?_eq_some_iff.mp hr).1
   omega
  have w1 : LCg.Off1 pa own:=off1_own (l:=[]) trivial hown (hI _ (.head _)) n1
  have hpvl : pvs.length = 2 * i + 1:=by rw [hpv.length,List.length_cons,hpl]
  simp only [List.cons_append] at N'
  have la8 : AllLt pa (restX1 ++ own) ∨ True:=.inr trivial
  have w2 : LCg.Off1 pa restX1:=off1_lt la9.2.2.2.2
  have w3 : LCg.Off1 pa (restX1 ++ own):=off1_app w2 w1
  clear NP FP ml
  refine G_cons (G_Expr ?_ rfl rfl)
  refine G_Call_method rfl rfl rfl rfl fun _=>?_
  walk_at "S1"
  (try dsimp only)
  refine G_callWith_Bb rfl ?_
  refine G_Call_Name rfl ?_
  walk_at "S1"
  (try dsimp only)
  refine G_callWith_K (K:=Mine.hd.heap_1 w.params) (by k_is) ?_ rfl rfl
  walk_at "S1"
  (try dsimp only [List.cons_append,List.nil_append])
  (with_reducible show wpG _ _ (call (Value.ref 426) [_]) _ _)
  k_dflt (refine' written_spec ?B ?F ?X ?T ?hk ?N ?hv ?hz ?hd ?hu ?_;(case B=>k_asm);(case F=>k_asm);(case X=>k_asm);(case T=>k_asm);(case hk=>first | exact rfl | assumption);(case N=>k_asm);(case hv=>assumption);(case hz=>assumption);(case hd=>ktr_room);(case hu=>ktr_units))
  intro v7 q7 h7 tk7 pv7 eb7 F7 N7
  (try k_sweep)
  (try dsimp only)
  refine wpG.of ?_
  walk_at "S1"
  (try dsimp only)
  refine G_cons (G_Expr ?_ rfl rfl)
  refine G_Call_method rfl rfl rfl rfl fun _=>?_
  walk_at "S1"
  (try dsimp only)
  refine G_callWith_Bb rfl ?_
  refine G_Call_Name rfl ?_
  walk_at "S1"
  (try dsimp only)
  refine G_callWith_K (K:=Mine.hd.heap_1 w.params) (by k_is) ?_ rfl rfl
  walk_at "S1"
  (try dsimp only [List.cons_append,List.nil_append])
  (with_reducible show wpG _ _ (call (Value.ref 426) [_]) _ _)
  k_dflt (refine' written_spec ?B ?F ?X ?T ?hk ?N ?hv ?hz ?hd ?hu ?_;(case B=>k_asm);(case F=>k_asm);(case X=>k_asm);(case T=>k_asm);(case hk=>first | exact rfl | assumption);(case N=>k_asm);(case hv=>assumption);(case hz=>assumption);(case hd=>ktr_room);(case hu=>ktr_units))
  intro v6 q6 h6 tk6 pv6 eb6 F6 N6
  (try k_sweep)
  (try dsimp only)
  refine wpG.of ?_
  walk_at "S1"
  (try dsimp only)
  repeat (refine G_nil ?_;(try dsimp only))
  rename News _ _ _ ((_,listOf (Array.push _ _) _) :: _)=>N9x
  rw [List.push_toArray,List.push_toArray,List.append_assoc] at N9x
  refine turn_head (pre:=[]) (τ:=(gl,listOf gvs.toArray gc) :: (x,instObj 474 d) :: (d,dictOf [⟨PyData.keyHash w.params "ends",.str "ends" k,.ref D⟩] 1) :: (D,oD) :: restX1) (σ:=(gl,listOf gvs.toArray gc) :: (x,instObj 474 d) :: (d,dictOf [⟨PyData.keyHash w.params "ends",.str "ends" k,.ref D⟩] 1) :: (D,oD) :: (restX1 ++ own)) (by assumption) N9x rfl ?_ ?_ hIo ?_ ?_ ?_ (List.forall_mem_nil _) (fun y h1 h2=>by (try dsimp only);rw [if_neg h1,if_neg (by rw [h2];exact Bool.false_ne_true)]) fun o9=>(ei3 _ _ _ ⟨rfl,hpv.append (.cons pv7 (.cons pv6 .nil)),?_,?_,?_⟩)
  ·intro p hp
   simp only [List.mem_cons,List.mem_append] at hp ⊢
   rcases hp with h | h | h | h | h <;> simp [h]
  ·exact fun p hp=>.tail _ (.tail _ (.tail _ (.tail _ (List.mem_append_right _ hp))))
  ·exact hI _ (.head _)
  ·exact fun p hp=>hI p (.tail _ hp)
  ·exact ⟨Nat.ne_of_lt la9.1,Nat.ne_of_lt la9.2.1,Nat.ne_of_lt la9.2.2.1,Nat.ne_of_lt la9.2.2.2.1,w2⟩
  ·rw [hti];exact .snoc hps eb7 eb6
  ·show (ps ++ [q7,q6]).length = _
   rw [List.length_append,hpl]
   show 2 * i + 2 = _
   omega
  ·intro b hb
   rcases List.mem_append.mp hb with hb | hb
   ·exact hpz b hb
   ·rcases List.mem_cons.mp hb with e | hb
    ·exact endB_size (e ▸ eb7)
    ·exact endB_size ((List.mem_singleton.mp hb) ▸ eb6)
 ·intro u news₁ h tk hJ F' N'
  refine ex3 hJ fun pvs c ps q9=>an5 q9 fun e90 hpv hps hpl hpz=>?_
  clear q9 hJ
  subst e90
  rw [ivg.length,hke,List.take_length] at hps
  rw [ivg.length] at hpl
  (try dsimp only)
  clear NP FP ml
  have hsz9 : ∀ b,some b ∈ some b8 :: ps→b.size ≤ 20:=by
   intro b hb
   rcases List.mem_cons.mp hb with e | hb
   ·rw [Option.some.inj e,bz8];omega
   ·rw [hpz b hb];decide
  have hnn9 : (some b8 :: ps).length < 60:=by rw [List.length_cons];omega
  refine G_cons (G_Assign1 rfl rfl rfl ?_)
  refine G_Call_Name rfl ?_
  walk_at "S1"
  (try dsimp only)
  refine G_callWith_K (K:=Mine.hd.heap_1 w.params) (by k_is) ?_ rfl rfl
  walk_at "S1"
  (try dsimp only [List.cons_append,List.nil_append])
  (with_reducible show wpG _ _ (call (Value.ref 278) [Value.int _ _,Value.ref _]) _ _)
  k_dflt (refine' laid_spec ?B ?F ?X ?T ?hk ?N ?hl ?hi ?hsz ?hnn ?h0 ?h1 ?hd ?hu ?_;(case B=>k_asm);(case F=>k_asm);(case X=>k_asm);(case T=>k_asm);(case hk=>first | exact rfl | assumption);(case N=>k_asm);(case hl=>k_mem);(case hi=>assumption);(case hsz=>assumption);(case hnn=>assumption);(case h0=>omega);(case h1=>omega);(case hd=>ktr_room);(case hu=>ktr_units))
  intro T5 ob5 ovs5 c5 t5 n5 h5 tk5 hov5 F5 N5 oT5 oo5 ne5
  (try k_sweep)
  (try dsimp only)
  have hlen:=laid_len (6 + 4 * ((keysE rows).length : Int)) (some b8 :: ps)
  have hbd:=laid_bd (beg:=6 + 4 * ((keysE rows).length : Int)) (ps:=some b8 :: ps) hsz9 hnn9 (by omega) (by omega)
  have hos:=laid_sz (6 + 4 * ((keysE rows).length : Int)) (some b8 :: ps) hsz9
  have hret':=fun b t h' tk'=>hret b t b8 ps h' tk' be8 hps
  clear hret
  generalize laidF (6 + 4 * ((keysE rows).length : Int)) (some b8 :: ps) = LL at *
  obtain ⟨loffs,lout,lat⟩:=LL
  dsimp only at hov5 N5 hlen hbd hos hret'
  rw [List.length_cons,hpl] at hlen hos
  cases loffs with
  | nil=>exact absurd hlen (by simp)
  | cons o0 os =>
  refine ex2 (hov5.cons_inv) fun t0 ovs' q9=>an2 q9 fun e92 hov'=>?_
  clear q9
  subst e92
  have h00:=hbd o0 (.head _)
  have hbd' : ∀ n ∈ os,0 ≤ n∧n < 65536:=fun n hn=>hbd n (.tail _ hn)
  rw [List.length_cons] at hlen
  clear hov5 oT5 oo5 ne5 hbd hpv
  walk_at "S1"
  (try dsimp only)
  refine G_cons (G_Assign1 rfl rfl rfl ?_)
  refine G_Call_Name rfl ?_
  walk_at "S1"
  (try dsimp only)
  refine G_callWith_K0 (K:=Mine.hd.heap_1 w.params) (by k_in) (by k_is) ?_
  (try dsimp only [List.cons_append,List.nil_append])
  (with_reducible show wpG _ _ (call (Value.ref 266) []) _ _)
  k_dflt (refine' new_out ?B ?F ?X ?T ?hk ?N ?hd ?hu ?_;(case B=>k_asm);(case F=>k_asm);(case X=>k_asm);(case T=>k_asm);(case hk=>first | exact rfl | assumption);(case N=>k_asm);(case hd=>ktr_room);(case hu=>ktr_units))
  intro x' dx' ma' k' h' tk' F' N' l1' l2' l3'
  have e0' : (#[] : Array UInt8).size = 0:=rfl
  (try k_lt l1')
  (try k_lt2 l2')
  (try k_lt2 l3')
  (try k_sweep)
  (try dsimp only)
  have wma : LCg.Off1 ma' restX1:=off1_lt (allLt_mono l1'.2.2.2.2.2.2.2 (Nat.lt_trans l2' l3'))
  walk_at "S1"
  (try dsimp only)
  refine G_cons (G_Expr ?_ rfl rfl)
  refine G_Call_method rfl rfl rfl rfl fun _=>?_
  walk_at "S1"
  (try dsimp only)
  refine G_callWith_K (K:=Mine.hd.heap_1 w.params) (by k_is) ?_ rfl rfl
  walk_at "S1"
  (try dsimp only [List.cons_append,List.nil_append])
  (with_reducible show wpG _ _ (call (Value.ref 207) [Value.ref _,Value.int _ _]) _ _)
  k_dflt (refine' out_u16 ?B ?F ?X ?T ?hk ?N ?hx ?hdx ?U ?n1 ?n2 ?n3 ?hb _ ?c0 ?c1 ?hd ?hu ?_;(case B=>k_asm);(case F=>k_asm);(case X=>k_asm);(case T=>k_asm);(case hk=>first | exact rfl | assumption);(case N=>k_asm);(case hx=>k_mem);(case hdx=>k_mem);(case U=>k_updF);(case n1=>first | assumption | k_ne);(case n2=>first | assumption | k_ne);(case n3=>first | assumption | k_ne);(case hb=>omega);(case c0=>omega);(case c1=>omega);(case hd=>ktr_room);(case hu=>ktr_units))
  intro b1 h1 tk1 be1 bz1 F1 N1
  (try k_sweep)
  (try dsimp only)
  refine G_cons (G_Expr ?_ rfl rfl)
  refine G_Call_method rfl rfl rfl rfl fun _=>?_
  walk_at "S1"
  (try dsimp only)
  refine G_callWith_K (K:=Mine.hd.heap_1 w.params) (by k_is) ?_ rfl rfl
  walk_at "S1"
  (try dsimp only [List.cons_append,List.nil_append])
  (with_reducible show wpG _ _ (call (Value.ref 207) [Value.ref _,Value.int _ _]) _ _)
  k_dflt (refine' out_u16 ?B ?F ?X ?T ?hk ?N ?hx ?hdx ?U ?n1 ?n2 ?n3 ?hb _ ?c0 ?c1 ?hd ?hu ?_;(case B=>k_asm);(case F=>k_asm);(case X=>k_asm);(case T=>k_asm);(case hk=>first | exact rfl | assumption);(case N=>k_asm);(case hx=>k_mem);(case hdx=>k_mem);(case U=>k_updF);(case n1=>first | assumption | k_ne);(case n2=>first | assumption | k_ne);(case n3=>first | assumption | k_ne);(case hb=>omega);(case c0=>exact h00.1);(case c1=>exact h00.2);(case hd=>ktr_room);(case hu=>ktr_units))
  intro b2 h2 tk2 be2 bz2 F2 N2
  (try k_sweep)
  (try dsimp only)
  replace be2 : KBw.bInts b2 = KBw.bInts b1 ++ [o0 / 256,o0 % 256]:=be2
  refine G_cons (G_Expr ?_ rfl rfl)
  refine G_Call_method rfl rfl rfl rfl fun _=>?_
  walk_at "S1"
  (try dsimp only)
  refine G_callWith_K (K:=Mine.hd.heap_1 w.params) (by k_is) ?_ rfl rfl
  walk_at "S1"
  (try dsimp only [List.cons_append,List.nil_append])
  (with_reducible show wpG _ _ (call (Value.ref 207) [Value.ref _,Value.int _ _]) _ _)
  k_dflt (refine' out_u16 ?B ?F ?X ?T ?hk ?N ?hx ?hdx ?U ?n1 ?n2 ?n3 ?hb _ ?c0 ?c1 ?hd ?hu ?_;(case B=>k_asm);(case F=>k_asm);(case X=>k_asm);(case T=>k_asm);(case hk=>first | exact rfl | assumption);(case N=>k_asm);(case hx=>k_mem);(case hdx=>k_mem);(case U=>k_updF);(case n1=>first | assumption | k_ne);(case n2=>first | assumption | k_ne);(case n3=>first | assumption | k_ne);(case hb=>omega);(case c0=>omega);(case c1=>omega);(case hd=>ktr_room);(case hu=>ktr_units))
  intro b3 h3 tk3 be3 bz3 F3 N3
  (try k_sweep)
  (try dsimp only)
  have hdl : (List.drop 1 (o0 :: os)).length = os.length:=rfl
  have he0 : (#[] : Array UInt8).size = 0:=rfl
  refine G_cons (G_Expr ?_ rfl rfl)
  refine G_Call_method rfl rfl rfl rfl fun _=>?_
  walk_at "S1"
  (try dsimp only)
  refine G_callWith_K (K:=Mine.hd.heap_1 w.params) (by k_is) ?_ rfl rfl
  walk_at "S1"
  (try dsimp only [List.cons_append,List.nil_append])
  (with_reducible show wpG _ _ (call (Value.ref 242) [Value.ref _,Value.ref _]) _ _)
  k_dflt (refine' out_rows ?B ?F ?X ?T ?hk ?N ?hx ?hdx ?U ?n1 ?n2 ?n3 ?hb ?rl ?ri ?rb ?rn ?r3 ?r4 ?hd ?hu ?_;(case B=>k_asm);(case F=>k_asm);(case X=>k_asm);(case T=>k_asm);(case hk=>first | exact rfl | assumption);(case N=>k_asm);(case hx=>k_mem);(case hdx=>k_mem);(case U=>k_updF);(case n1=>first | assumption | k_ne);(case n2=>first | assumption | k_ne);(case n3=>first | assumption | k_ne);(case hb=>omega);(case rl=>k_mem);(case ri=>assumption);(case rb=>assumption);(case rn=>omega);(case r3=>omega);(case r4=>k_ne);(case hd=>ktr_room);(case hu=>ktr_units))
  intro b4 h4 tk4 be4 bz4 F4 N4
  (try k_sweep)
  (try dsimp only)
  refine G_cons (G_Expr ?_ rfl rfl)
  refine G_Call_method rfl rfl rfl rfl fun _=>?_
  walk_at "S1"
  (try dsimp only)
  refine G_callWith_K (K:=Mine.hd.heap_1 w.params) (by k_is) ?_ rfl rfl
  walk_at "S1"
  (try dsimp only [List.cons_append,List.nil_append])
  (with_reducible show wpG _ _ (call (Value.ref 249) [Value.ref _,Value.bytes _ _]) _ _)
  k_dflt (refine' out_add ?B ?F ?X ?T ?hk ?N ?hx ?hdx ?U ?n1 ?n2 ?n3 ?hb _ ?c0 ?hd ?hu ?_;(case B=>k_asm);(case F=>k_asm);(case X=>k_asm);(case T=>k_asm);(case hk=>first | exact rfl | assumption);(case N=>k_asm);(case hx=>k_mem);(case hdx=>k_mem);(case U=>k_updF);(case n1=>first | assumption | k_ne);(case n2=>first | assumption | k_ne);(case n3=>first | assumption | k_ne);(case hb=>omega);(case c0=>omega);(case hd=>ktr_room);(case hu=>ktr_units))
  intro b5 h5 tk5 be5 bz5 F5 N5
  (try k_sweep)
  (try dsimp only)
  refine G_good ?_
  walk_at "S1"
  (try dsimp only)
  show QX1 _ _
  rename_i kF9 kN9 _ _
  refine hret' _ _ _ _ ?_ kF9 (fun p hp=>kN9 p ?_)
  ·rw [be5,be4,be3,be2,be1]
   show [] ++ [1 / 256,1 % 256] ++ [o0 / 256,o0 % 256] ++ [((keysE rows).length : Int) / 256,((keysE rows).length : Int) % 256] ++ _ ++ _ = _
   rfl
  ·iterate 10 refine .tail _ ?_
   refine .tail _ ?_
   exact hp
theorem u41 : upto 41:=hk @c_40 u40 (by with_unfolding_all exact rfl)
open kc in
theorem write_cursive_spec {w x p loose mean mg mb dp un cn cs a ccd cl outer A₀ base h₀ L m restX1 s QX1 d D k oD} : s_40 w x p loose mean mg mb dp un cn cs a ccd cl outer A₀ base h₀ L m restX1 s QX1 d D k oD:=@hkT _ u41 (by k_extra "T") _ (by exact rfl)
end NW15
theorem dNW15 : True:=trivial
section NW16
theorem lnNW16_1 : True:=by
 k_with "call ref" => ((fail_if_success have:=dNW16);first | k_extra "L13" | fail)
 k_with "pyIter ref" => ((fail_if_success have:=dNW16);first | k_extra "L23" | fail)
 k_with "TurnP" => ((fail_if_success have:=dNW16);first | k_extra "L29" | fail)
 k_with "A" => ((fail_if_success have:=dNW16);first | k_extra "L28" | k_extra "L27" | fail)
 exact True.intro
theorem news_fst2 {h₀ h : Heap} {L : Addr} {a b : Addr × Obj} {l : List (Addr × Obj)} (N : News h₀ L h (a :: b :: l)) : News h₀ L h [a,b]:=fun q hq=>by
 rcases List.mem_cons.mp hq with rfl | hq
 ·exact N _ (.head _)
 ·rw [List.mem_singleton.mp hq];exact N _ (.tail _ (.head _))
open kc in
theorem c_41 : s_41 E w p loose mean mg mb dp un gd cn cs a ccd cl outer A₀ base h₀ L m restX1 s QX1 gU C S cvs tX1 tl:=by
 intro B F X T hk N cc c cl9 k lim hC U hne hi h1 h2 k0 k1 l0 l1 hd hu hret
 have N₀ : News h₀ L s.heap [(S,srcObj C k tX1 c),(C,listOf cvs.toArray cc)]:=news_sub N fun p hp=>by
  rcases List.mem_cons.mp hp with rfl | hp
  ·exact updF_mem U
  ·rw [List.mem_singleton.mp hp];exact hC
 have hend : ∀ h' o',Kp [S,C] s.heap h'→News h₀ L h' [(S,o'),(C,listOf cvs.toArray cc)]→News h₀ L h' (gU o'):=fun h' o' kk e=>by
  refine news_updF1 N U (fun p o ho hn=>?_) (e _ (.head _)).1
  by_cases z : p = C
  ·rw [z] at ho ⊢
   rw [(N _ hC).1] at ho
   rw [← Option.some.inj ho]
   exact (e _ (.tail _ (.head _))).1
  ·refine kk p o ho fun hm=>?_
   rcases List.mem_cons.mp hm with q | hm
   ·exact hn (q ▸ .head _)
   ·exact z (List.mem_singleton.mp hm)
 clear N
 have hne' : @Ne Nat S C:=hne
 refine wpAny_call ?_
 k_dflt (refine' code_defH [("source",.ref S),("limit",.int lim tl)] ?k1 ?k2 ?k3 ?k4 ?k5 ?kA ?kF ?kK ?k6 ?k7 ?k8 ?k9 ?kB ?_ ?c2 ?c3 ?c4 ?c5;walk_at "nu_enter";intro g' L' h' FG' F' N' B' X' T' hg')
 (try dsimp only)
 k_fold
 k_steps
 exact hret _ _ _ _ _ _ (Int.fmod_nonneg_of_pos _ l0) (Int.fmod_lt_of_pos _ l0) (by assumption) (hend _ _ (Kp.of_keep hg' (Fr.keep (by assumption))) (by assumption))
theorem u42 : upto 42:=hk @c_41 u41 (by with_unfolding_all exact rfl)
open kc in
theorem draw_spec {E w p loose mean mg mb dp un gd cn cs a ccd cl outer A₀ base h₀ L m restX1 s QX1 gU C S cvs tX1 tl} : s_41 E w p loose mean mg mb dp un gd cn cs a ccd cl outer A₀ base h₀ L m restX1 s QX1 gU C S cvs tX1 tl:=@hkT _ u42 (by k_extra "T") _ (by exact rfl)
open kc in
theorem c_42 : s_42 E w p loose mean mg mb dp un gd cn cs a ccd cl outer A₀ base h₀ L m restX1 s QX1 vs sc:=by
 intro B F X T hk N ns hs hi hn hd hu hret
 have Nr : News h₀ L s.heap restX1∧True:=⟨N,trivial⟩
 refine an2 (news_split0 N) fun N₀ hrest=>?_
 clear N
 refine wpAny_call ?_
 k_dflt (refine' code_defH [("script",.ref sc)] ?k1 ?k2 ?k3 ?k4 ?k5 ?kA ?kF ?kK ?k6 ?k7 ?k8 ?k9 ?kB ?_ ?c2 ?c3 ?c4 ?c5;walk_at "nu_enter";intro g' L' h' FG' F' N' B' X' T' hg')
 (try dsimp only)
 k_fold
 have hs' : g'.IsList sc vs.toArray:=hs.at fun o e=>FG'.keep _ o e
 clear hs
 k_steps
 ·rename_i kF9 kN9 _ _
  refine hret _ _ ys _ _ _ _ _ _ ‹IntsAre ys _› ?_ ?_ kF9 (news_app (l:=[_,_]) (news_fst2 kN9) (hrest _ (Kp.of_keep hg' (Fr.keep (by assumption))))) (by k_ne) (off1_new Nr.1 hg' (by assumption) (by k_mem)) (off1_new Nr.1 hg' (by assumption) (by k_mem))
  ·assumption
  ·rw [List.length_map,List.length_take];omega
 ·rename_i kF9 kN9 _ _
  refine hret _ _ [.int 0 _] _ _ _ _ _ _ (.cons 0 _ .nil) (by decide) (by decide) kF9 (news_app (l:=[_,_]) (news_fst2 kN9) (hrest _ (Kp.of_keep hg' (Fr.keep (by assumption))))) (by k_ne) (off1_new Nr.1 hg' (by assumption) (by k_mem)) (off1_new Nr.1 hg' (by assumption) (by k_mem))
theorem u43 : upto 43:=hk @c_42 u42 (by with_unfolding_all exact rfl)
open kc in
theorem source_spec {E w p loose mean mg mb dp un gd cn cs a ccd cl outer A₀ base h₀ L m restX1 s QX1 vs sc} : s_42 E w p loose mean mg mb dp un gd cn cs a ccd cl outer A₀ base h₀ L m restX1 s QX1 vs sc:=@hkT _ u43 (by k_extra "T") _ (by exact rfl)
end NW16
theorem dNW16 : True:=trivial
section NLaw

end NLaw
section NW21
theorem lnNW21_1 : True:=by
 k_with "L71" => ((k_here;k_dflt (refine' nameX_C ?zN ?zc ?zm ?zd ?_ ?za ?zb;(case za=>rfl);(case zb=>rfl);(case zN=>k_asm);(case zc=>rfl);(case zm=>k_mem);(case zd=>assumption);k_whole)))
 k_with "L72" => ((k_here;k_dflt (refine' nameX_F ?zN ?zc ?zm ?zd ?_ ?za ?zb;(case za=>rfl);(case zb=>rfl);(case zN=>k_asm);(case zc=>rfl);(case zm=>k_mem);(case zd=>assumption);k_whole)))
 k_with "L73" => ((k_here;(with_reducible show wpAny _ _ (call (Value.ref 499) [Value.ref _,Value.int _ _]) _ _ _);k_dflt (refine' draw_spec ?zB ?zF ?zX ?zT ?zhk ?zN ?zhC ?zU ?zhne ?zhi ?zh1 ?zh2 ?zk0 ?zk1 ?zl0 ?zl1 ?zhd ?zhu ?_;k_extra "Q";(case zU=>k_updF);(case zhC=>k_mem);(case zhne=>first | assumption | k_ne);(case zhi=>assumption);(case zh1=>assumption);(case zh2=>assumption);(case zk0=>omega);(case zk1=>omega);(case zl0=>decide);(case zl1=>decide);k_extra "V");intro _ _ _ _ _ _ _ _ _ _;(try k_sweep);(try dsimp only)))
 k_with "call ref" => ((fail_if_success have:=dNW21);first | k_extra "L73" | k_extra "L13" | fail)
 k_with "A" => ((fail_if_success have:=dNW21);first | k_extra "L28" | k_extra "L27" | fail)
 k_with "eval Name" => ((fail_if_success have:=dNW21);first | k_extra "L72" | k_extra "L71" | fail)
 k_with "eval ListComp" => ((fail_if_success have:=dNW21);first | k_extra "L49" | fail)
 k_with "CompSrc" => ((fail_if_success have:=dNW21);first | k_extra "L46" | fail)
 exact True.intro
theorem dat_two {l : List (Addr × Obj)} {v1 v2 : Value} {d1 d2 : Dat} (h : DatAll l [v1,v2] [d1,d2]) : DatIn l v1 d1∧DatIn l v2 d2:=by
 cases h with
 | cons a h=>cases h with
  | cons b _=>exact ⟨a,b⟩
theorem off1_split {d : Addr} {l l' : List (Addr × Obj)} (h : LCg.Off1 d (l ++ l')) : LCg.Off1 d l∧LCg.Off1 d l':=⟨off1_of fun p hp=>(off1_all h p (List.mem_append_left _ hp)),off1_of fun p hp=>(off1_all h p (List.mem_append_right _ hp))⟩
theorem sub_seven {a1 a2 a3 a4 a5 a6 q : Addr × Obj} {l : List (Addr × Obj)} : ∀ p ∈ a1 :: a2 :: a3 :: a4 :: a5 :: a6 :: q :: l,p ∈ q :: a1 :: a2 :: a3 :: a4 :: a5 :: a6 :: l:=by
 intro p hp
 simp only [List.mem_cons] at hp ⊢
 rcases hp with h | h | h | h | h | h | h | h <;> simp [h]
open kc in
theorem c_43 : s_43 E w p loose mean mg mb dp un a A₀ base h₀ L m s QX2 C S cvs tX1 c1 c2 c3 c4 c5 o1 σ:=by
 intro B F X T hd hu cc c cl9 k d1 hi h1 h2 k0 k1 e1 e2 e3 w1 N hret
 rw [show bodySt 3 2 = .Assign _ _ _ from rfl]
 k_steps
 refine Stop.out ?_
 rename_i h9 tk9 t9 u9 v9 R9 F9 N9 l9
 refine LCg.CompSrc.range rfl F9 N9 R9 (by first | decide | rfl) (by first | rfl | decide) (Nat.le_of_ble_eq_true rfl) ?_
 intro g9
 refine comp_inv (fun i ys nl=>∃ τ zs t' c',nl = (c1,o1) :: (S,srcObj C (k + 2 * (i : Int)) t' c') :: (C,listOf cvs.toArray cc) :: (τ ++ σ)∧DatAll τ ys (zs.map fun z=>datO (some z))∧zs.length = i∧(∀ z ∈ zs,PtIn z)∧LCg.Off1 S τ∧∀ p ∈ τ,LCg.Off1 p.1 σ) (ei4 [] [] tX1 c ⟨by rw [show k + 2 * ((0 : Nat) : Int) = k from by omega];rfl,.nil,rfl,fun _ h=>(nomatch h),trivial,fun _ h=>(nomatch h)⟩) ?_ ?_
 ·intro ys nl hJ9
  refine ex4 hJ9 fun τ zs t' c' q9=>an6 q9 fun e90 hy hzl hzb of1 ofs=>?_
  clear q9 hJ9
  subst e90
  intro Dn hn tkn Fn Nn on
  replace hzl : zs.length = 2:=hzl
  refine ex2 (two_of hzl) fun z0 z1 e92=>?_
  subst e92
  obtain ⟨v0,v1,rfl⟩:=two_of (show ys.length = 2 by rw [hy.length];rfl)
  refine an2 (dat_two hy) fun d1 d2=>?_
  exact hret Dn _ _ z0 z1 τ _ _ _ _ (hzb _ (.head _)) (hzb _ (.tail _ (.head _))) d1 d2 Fn (by rw [show k + 4 = k + 2 * ((2 : Nat) : Int) from by omega];exact Nn) of1 ofs (by rw [show k + 4 = k + 2 * ((2 : Nat) : Int) from by omega];exact on)
 ·intro i ys nl v I oI C9 oC Dl m₂ h tk E' hin hJ9 hv hC hx9 F8 N8 off ne
  refine ex4 hJ9 fun τ zs t' c' q9=>an6 q9 fun e90 hy hzl hzb of1 ofs=>?_
  clear q9 hJ9
  subst e90
  refine an4 off fun a1 a2 a3 a4=>?_
  clear off
  have s1 : @Ne Nat S I:=a2.1
  have s2 : @Ne Nat S C9:=a2.2.1
  have s3 : @Ne Nat S Dl:=a2.2.2
  have w9 : LCg.Off1 S (τ ++ σ):=off1_app of1 w1
  replace hin : i < 2:=hin
  have hk9 : 0 ≤ k + 2 * (i : Int)∧k + 2 * (i : Int) < 2000:=by omega
  walk_at "S2"
  rename_i v1 t1 u1 cc1 h7 tk7 b1 b2 cE v2 t2 u2 cc2 h6 tk6 b3 b4 T9 h8 F8 N8 l8
  refine LCg.CompEnd.intro F8 N8 ((c1,o1) :: (S,srcObj C (k + 2 * (i : Int) + 1 + 1) _ _) :: (C,listOf cvs.toArray cc) :: ((T9,_) :: τ) ++ σ) sub_seven ⟨a1,a2,a3,⟨Nat.ne_of_gt l8.1,Nat.ne_of_gt l8.2.1,Nat.ne_of_gt l8.2.2.1⟩,a4⟩ trivial (ei4 ((T9,_) :: τ) (zs ++ [(v1 - 3,v2 - 32768)]) _ _ ⟨by rw [show k + 2 * ((i + 1 : Nat) : Int) = k + 2 * (i : Int) + 1 + 1 from by omega];rfl,?_,by rw [List.length_append,hzl];rfl,?_,⟨?_,of1⟩,List.forall_mem_cons.mpr ⟨(off1_split (off1_lt l8.2.2.2.2.2.2)).2,ofs⟩⟩)
  ·rw [List.map_append]
   exact (hy.mono fun p hp=>.tail _ hp).append (.one (.tuple (vs:=[.int _ _,.int _ _]) (.head _) (.cons (.int _ _) (.cons (.int _ _) .nil))))
  ·intro z hz
   rcases List.mem_append.mp hz with hz | hz
   ·exact hzb z hz
   ·rw [List.mem_singleton.mp hz]
    exact ⟨by dsimp only;omega,by dsimp only;omega,by dsimp only;omega,by dsimp only;omega⟩
  ·exact Nat.ne_of_gt l8.2.2.2.2.1
theorem u44 : upto 44:=hk @c_43 u43 (by with_unfolding_all exact rfl)
open kc in
theorem pts_spec {E w p loose mean mg mb dp un a A₀ base h₀ L m s QX2 C S cvs tX1 c1 c2 c3 c4 c5 o1 σ} : s_43 E w p loose mean mg mb dp un a A₀ base h₀ L m s QX2 C S cvs tX1 c1 c2 c3 c4 c5 o1 σ:=@hkT _ u44 (by k_extra "T") _ (by exact rfl)
end NW21
theorem dNW21 : True:=trivial
section NW22
theorem lnNW22_1 : True:=by
 k_with "call ref" => ((fail_if_success have:=dNW22);first | k_extra "L13" | fail)
 exact True.intro
theorem tail_tup {prog : Program} {w : World} {A : Around} {E : Value→Shared→Prop} {s : Shared} {h₀ : Heap} {L l : Addr} {news : List (Addr × Obj)} {xs : Array Value} {c : Nat} {x : Value} {t : Tok} {k : Int} {value slice : Expr} {Q : Value→Shared→Prop} (N : News h₀ L s.heap news) (hm : (l,({ cls:=.type "tuple",data:=.seq xs c} : Obj)) ∈ news) (h0 : 0 ≤ k) (h1 : k < 2 ^ 63) (hk : seqIndex? k xs.size = some k.toNat) (hx : xs[k.toNat]? = some x) (h : Q x s)
  (hs : subscripted slice false (.ref l) (.int k t) = operate [.ref l,.int k t] (getItem (.ref l) (.int k t))) (hg : ∀ r,letTemporaryGo value (.ref l) r = pure ()) : wpAny (model prog w) A (subscriptTail value slice (.ref l) (.int k t)) Q E s :=
 subscriptTail_builtin (T := "tuple") ⟨_,(N _ hm).1,rfl⟩ slot_tuple_getitem.lookup (PyProof.Rows.getItem_tuple (t:=l) (items:=xs) ⟨_,(N _ hm).1,rfl,c,rfl⟩ (by omega) (by omega) hk hx h) hs hg
theorem tail_tup0 {prog : Program} {w : World} {A : Around} {E : Value→Shared→Prop} {s : Shared} {h₀ : Heap} {L l : Addr} {news : List (Addr × Obj)} {va vb : Value} {c : Nat} {t : Tok} {value slice : Expr} {Q : Value→Shared→Prop} (N : News h₀ L s.heap news) (hm : (l,({ cls:=.type "tuple",data:=.seq #[va,vb] c} : Obj)) ∈ news) (h : Q va s)
  (hs : subscripted slice false (.ref l) (.int 0 t) = operate [.ref l,.int 0 t] (getItem (.ref l) (.int 0 t))) (hg : ∀ r,letTemporaryGo value (.ref l) r = pure ()) : wpAny (model prog w) A (subscriptTail value slice (.ref l) (.int 0 t)) Q E s:=tail_tup N hm (by decide) (by decide) rfl rfl h hs hg
theorem tail_tup1 {prog : Program} {w : World} {A : Around} {E : Value→Shared→Prop} {s : Shared} {h₀ : Heap} {L l : Addr} {news : List (Addr × Obj)} {va vb : Value} {c : Nat} {t : Tok} {value slice : Expr} {Q : Value→Shared→Prop} (N : News h₀ L s.heap news) (hm : (l,({ cls:=.type "tuple",data:=.seq #[va,vb] c} : Obj)) ∈ news) (h : Q vb s)
  (hs : subscripted slice false (.ref l) (.int 1 t) = operate [.ref l,.int 1 t] (getItem (.ref l) (.int 1 t))) (hg : ∀ r,letTemporaryGo value (.ref l) r = pure ()) : wpAny (model prog w) A (subscriptTail value slice (.ref l) (.int 1 t)) Q E s:=tail_tup N hm (by decide) (by decide) rfl rfl h hs hg
theorem lnNW22_2 : True:=by
 k_with "L74" => ((k_here;(with_reducible show wpAny _ _ (subscriptTail _ _ (Value.ref _) (Value.int 0 _)) _ _ _);k_dflt (refine tail_tup0 (by k_asm) (by first | exact (by k_mem) | (repeat (first | assumption | refine List.mem_cons_of_mem _ ?_))) ?_ (by with_unfolding_all rfl) (by intro _;with_unfolding_all rfl))))
 k_with "L75" => ((k_here;(with_reducible show wpAny _ _ (subscriptTail _ _ (Value.ref _) (Value.int 1 _)) _ _ _);k_dflt (refine tail_tup1 (by k_asm) (by first | exact (by k_mem) | (repeat (first | assumption | refine List.mem_cons_of_mem _ ?_))) ?_ (by with_unfolding_all rfl) (by intro _;with_unfolding_all rfl))))
 k_with "L76" => ((k_here;k_dflt (refine' kda_set (knd:=PySem.intKind _ _) ?zF ?zN ?zU ?zd (intKind_is _ _ _ _) ?zz ?_;(case zF=>k_asm);(case zN=>k_asm);(case zU=>k_updF);(case zd=>assumption);(case zz=>exact Nat.le_trans (by assumption) (Nat.le_of_ble_eq_true rfl)));intro _ _ _ N' hd';(try dsimp only at N');(try (revert N';intro _));(try (revert hd';intro _))))
 k_with "L77" => ((k_here;k_dflt (refine' nameX_L ?zF ?zv ?_ ?za ?zb;(case za=>rfl);(case zb=>rfl);(case zF=>k_asm);(case zv=>with_reducible assumption);k_whole)))
 k_with "subscriptTail Name" => ((fail_if_success have:=dNW22);first | k_extra "L75" | k_extra "L74" | fail)
 k_with "setItem ref int ref" => ((fail_if_success have:=dNW22);first | k_extra "L76" | fail)
 k_with "A" => ((fail_if_success have:=dNW22);first | k_extra "L28" | k_extra "L27" | fail)
 k_with "call ref" => ((fail_if_success have:=dNW22);first | k_extra "L20" | fail)
 k_with "eval Name" => ((fail_if_success have:=dNW22);first | k_extra "L77" | fail)
 exact True.intro
open kc in
theorem c_44 : s_44 E w p loose mean mg mb dp un a A₀ base h₀ L m s QX2 c1 c2 c3 c4 c5 σ PX1 v0 v1 tw:=by
 intro B F X T hd hu way hP hw N hret
 rw [show bodySt 3 3 = .Assign _ _ _ from rfl]
 k_steps
 ·exact hret _ _ _ (if_pos (by assumption)).symm (by assumption) (by assumption)
 ·exact hret _ _ _ (if_neg (by assumption)).symm (by assumption) (by assumption)
theorem u45 : upto 45:=hk @c_44 u44 (by with_unfolding_all exact rfl)
open kc in
theorem one_spec {E w p loose mean mg mb dp un a A₀ base h₀ L m s QX2 c1 c2 c3 c4 c5 σ PX1 v0 v1 tw} : s_44 E w p loose mean mg mb dp un a A₀ base h₀ L m s QX2 c1 c2 c3 c4 c5 σ PX1 v0 v1 tw:=@hkT _ u45 (by k_extra "T") _ (by exact rfl)
open kc in
theorem c_45 : s_45 E w p loose mean mg mb dp un a A₀ base h₀ L m s QX2 c1 c2 c3 c4 c5 σ PX1 v0 v1 tw:=by
 intro B F X T hd hu way hP hw N hret
 rw [show bodySt 3 4 = .Assign _ _ _ from rfl]
 k_steps
 ·exact hret _ _ _ (if_pos (by assumption)).symm (by assumption) (by assumption)
 ·exact hret _ _ _ (if_neg (by assumption)).symm (by assumption) (by assumption)
theorem u46 : upto 46:=hk @c_45 u45 (by with_unfolding_all exact rfl)
open kc in
theorem two_spec {E w p loose mean mg mb dp un a A₀ base h₀ L m s QX2 c1 c2 c3 c4 c5 σ PX1 v0 v1 tw} : s_45 E w p loose mean mg mb dp un a A₀ base h₀ L m s QX2 c1 c2 c3 c4 c5 σ PX1 v0 v1 tw:=@hkT _ u46 (by k_extra "T") _ (by exact rfl)
theorem dat_none {l : List (Addr × Obj)} {v : Value} (h : DatIn l v (datO none)) : v = .none:=by cases h;rfl
theorem datT_inv {l : List (Addr × Obj)} {v : Value} {ds : List Dat} (h : DatIn l v (.tuple ds)) : ∃ q vs n,v = .ref q∧(q,({ cls:=.type "tuple",data:=.seq vs.toArray n} : Obj)) ∈ l∧DatAll l vs ds:=by cases h with | tuple hm hd=>exact ⟨_,_,_,rfl,hm,hd⟩
theorem datA_inv {l : List (Addr × Obj)} {vs : List Value} {d : Dat} {ds : List Dat} (h : DatAll l vs (d :: ds)) : ∃ v ws,vs = v :: ws∧DatIn l v d∧DatAll l ws ds:=by cases h with | cons a b=>exact ⟨_,_,rfl,a,b⟩
theorem datA_nil {l : List (Addr × Obj)} {vs : List Value} (h : DatAll l vs []) : vs = []:=by cases h;rfl
theorem datI_inv {l : List (Addr × Obj)} {v : Value} {i : Int} (h : DatIn l v (.int i)) : ∃ t,v = .int i t:=by cases h;exact ⟨_,rfl⟩
theorem dat_pt {l : List (Addr × Obj)} {v : Value} {z : Pt} (h : DatIn l v (datO (some z))) : ∃ q n t1 t2,v = .ref q∧(q,({ cls:=.type "tuple",data:=.seq #[.int z.1 t1,.int z.2 t2] n} : Obj)) ∈ l:=by
 refine ex3 (datT_inv h) fun q vs n q9=>an3 q9 fun e93 hm hd=>?_
 clear q9
 subst e93
 obtain ⟨v1,vs,rfl,h1,hd⟩:=datA_inv hd
 obtain ⟨v2,vs,rfl,h2,hd⟩:=datA_inv hd
 obtain rfl:=datA_nil hd
 refine ex1 (datI_inv h1) fun t1 e91=>?_
 subst e91
 refine ex1 (datI_inv h2) fun t2 e91=>?_
 subst e91
 exact ei4 _ _ _ _ ⟨rfl,hm⟩
theorem allLt_up {a b : Addr} : ∀ {l : List (Addr × Obj)},AllLt a l→@LT.lt Nat _ a b→AllLt b l:=by
 intro l h e
 induction l with
 | nil=>trivial
 | cons _ _ ih=>exact ⟨Nat.lt_trans h.1 e,ih h.2⟩
theorem allOff_all {σ : List (Addr × Obj)} : ∀ {l : List (Addr × Obj)},AllOff σ l→∀ q ∈ l,LCg.Off1 q.1 σ:=by
 intro l h
 induction l with
 | nil=>exact List.forall_mem_nil _
 | cons _ _ ih=>exact List.forall_mem_cons.mpr ⟨h.1,ih h.2⟩
theorem mem_mid {x : Addr × Obj} {l l' : List (Addr × Obj)} : ∀ p ∈ x :: (l ++ l'),p ∈ l ++ x :: l':=by
 intro p hp
 simp only [List.mem_cons,List.mem_append] at hp ⊢
 rcases hp with h | h | h <;> simp [h]
theorem lnNW22_3 : True:=by
 k_with "L78" => (((fail_if_success (with_reducible show wpAny _ _ _ (fun v s'=>AncEnd _ _ _ _ _ _ _ v s') _ _));refine Stop.mk ?_))
 k_with "eval IfExp" => ((fail_if_success have:=dNW22);first | k_extra "L78" | fail)
 exact True.intro
theorem anc_join {w : World} {M : Model} {A : Around} {E : Value→Shared→Prop} {s : Shared} {e : Sem Value} {Q : Value→Shared→Prop} {h₀ : Heap} {L : Addr} {m : Str→Option Value} {rest : List (Addr × Obj)} (o : Option Pt) (h1 : wpAny M A e (fun v s'=>AncEnd w h₀ L m rest o s v s') E s)
  (h2 : ∀ v l h' tk',AncV w l v o→Fr h₀ L h' m→News h₀ L h' (rest ++ l)→(∀ p ∈ l,LCg.Off1 p.1 rest)→Q v { s with heap:=h',toks:=tk'}) : Stop (wpAny M A e Q E s) :=
 wpAny_mono h1 (fun v s' h=>by obtain ⟨l,h',tk',rfl,a,F,N,u⟩:=h;exact h2 v l h' tk' a F N u) fun _ _ x=>x
theorem two_back {a b : Addr × Obj} {l : List (Addr × Obj)} : ∀ p ∈ l ++ [a,b],p ∈ a :: b :: l:=fun p hp=>by
 rcases List.mem_append.mp hp with hp | hp
 ·exact .tail _ (.tail _ hp)
 ·rcases List.mem_cons.mp hp with rfl | hp
  ·exact .head _
  ·rw [List.mem_singleton.mp hp];exact .tail _ (.head _)
theorem two_off {x d : Addr} {o1 o2 : Obj} {l : List (Addr × Obj)} (h1 : AllLt d l) (h2 : @LT.lt Nat _ d x) : ∀ p ∈ [(x,o1),(d,o2)],LCg.Off1 p.1 l:=fun p hp=>by
 rcases List.mem_cons.mp hp with rfl | hp
 ·exact off1_lt (allLt_up h1 h2)
 ·rw [List.mem_singleton.mp hp];exact off1_lt h1
theorem ends_back {T D : Addr} {oT oD : Obj} {σ l1 l2 : List (Addr × Obj)} : ∀ p ∈ (D,oD) :: (((T,oT) :: (l1 ++ l2)) ++ σ),p ∈ (T,oT) :: (D,oD) :: ((σ ++ l1) ++ l2):=fun p hp=>by
 simp only [List.mem_cons,List.mem_append,List.cons_append] at hp ⊢
 rcases hp with h | h | (h | h) | h <;> simp [h]
theorem ends_off {T D : Addr} {oT a1 a2 : Obj} {σ l1 l2 : List (Addr × Obj)} (lt : AllLt T ((D,a2) :: ((σ ++ l1) ++ l2))) (u1 : ∀ p ∈ l1,LCg.Off1 p.1 ((D,a1) :: σ)) (u2 : ∀ p ∈ l2,LCg.Off1 p.1 ((D,a2) :: (σ ++ l1))) :
  (∀ p ∈ (T,oT) :: (l1 ++ l2),LCg.Off1 p.1 σ)∧LCg.Off1 D ((T,oT) :: (l1 ++ l2)):=by
 refine ⟨fun p hp=>?_,Nat.ne_of_gt lt.1,off1_of fun p hp=>?_⟩
 ·rcases List.mem_cons.mp hp with rfl | hp
  ·exact off1_left (off1_left (off1_lt lt.2))
  ·rcases List.mem_append.mp hp with hp | hp
   ·exact (u1 p hp).2
   ·exact off1_left (u2 p hp).2
 ·rcases List.mem_append.mp hp with hp | hp
  ·exact Ne.symm (u1 p hp).1
  ·exact Ne.symm (u2 p hp).1
open kc in
theorem c_46 : s_46 E w p loose mean mg mb dp un a A₀ base h₀ L m s QX2 D oD c1 c2 c3 c4 c5 σ tg:=by
 intro B F X T hd hu v1 v2 o1 o2 g kvs hv1 hv2 hg hE N dv1 dv2 hi hkl wD hlo hret
 rw [show bodySt 3 5 = .Assign _ _ _ from rfl]
 k_steps
 refine anc_join (w:=w) (h₀:=h₀) (L:=L) (m:=m) (rest:=(D,oD) :: σ) o1 ?_ ?_
 ·rcases o1 with _ | z1
  ·obtain rfl:=dat_none dv1
   k_steps
   exact ei3 [] _ _ ⟨rfl,rfl,by assumption,by rw [List.append_nil];assumption,List.forall_mem_nil _⟩
  ·refine ex4 (dat_pt dv1) fun q1 n1 t1 t2 q9=>an2 q9 fun e94 m1=>?_
   clear q9
   subst e94
   k_steps
   exact ei3 [_,_] _ _ ⟨rfl,ancV_some (.head _) (.tail _ (.head _)),by assumption,news_sub (by assumption) two_back,two_off (by assumption) (by assumption)⟩
 ·intro e1 l1 h1 tk1 av1 F1 N1 u1
  replace N1 : News h₀ L h1 ((D,oD) :: (σ ++ l1)):=N1
  have dv9 : DatIn (σ ++ l1) v2 (datO o2):=dv2.mono fun p hp=>List.mem_append_left _ hp
  clear dv1 dv2 N F
  k_steps
  refine anc_join (w:=w) (h₀:=h₀) (L:=L) (m:=m) (rest:=(D,oD) :: (σ ++ l1)) o2 ?_ ?_
  ·rcases o2 with _ | z2
   ·obtain rfl:=dat_none dv9
    k_steps
    exact ei3 [] _ _ ⟨rfl,rfl,by assumption,by rw [List.append_nil];assumption,List.forall_mem_nil _⟩
   ·refine ex4 (dat_pt dv9) fun q1 n1 t1 t2 q9=>an2 q9 fun e94 m1=>?_
    clear q9
    subst e94
    k_steps
    exact ei3 [_,_] _ _ ⟨rfl,ancV_some (.head _) (.tail _ (.head _)),by assumption,news_sub (by assumption) two_back,two_off (by assumption) (by assumption)⟩
  ·intro e2 l2 h2 tk2 av2 F2 N2 u2
   replace N2 : News h₀ L h2 ((D,oD) :: ((σ ++ l1) ++ l2)):=N2
   have w9 : LCg.Off1 D ((σ ++ l1) ++ l2):=off1_app (off1_app wD (off1_of fun p hp=>Ne.symm (u1 p hp).1)) (off1_of fun p hp=>Ne.symm (u2 p hp).1)
   clear N1 F1
   k_steps
   refine hret _ _ (_ :: (l1 ++ l2)) _ _ (by assumption) (endV_mk (.head _) (av1.mono fun p hp=>.tail _ (List.mem_append_left _ hp)) (av2.mono fun p hp=>.tail _ (List.mem_append_right _ hp))) (by assumption) (news_sub (by assumption) ends_back) ?_ ?_
   ·exact (ends_off (by assumption) u1 u2).1
   ·exact (ends_off (oT:=_) (by assumption) u1 u2).2
theorem u47 : upto 47:=hk @c_46 u46 (by with_unfolding_all exact rfl)
open kc in
theorem ends_spec {E w p loose mean mg mb dp un a A₀ base h₀ L m s QX2 D oD c1 c2 c3 c4 c5 σ tg} : s_46 E w p loose mean mg mb dp un a A₀ base h₀ L m s QX2 D oD c1 c2 c3 c4 c5 σ tg:=@hkT _ u47 (by k_extra "T") _ (by exact rfl)
end NW22
theorem dNW22 : True:=trivial
section NW23
theorem lnNW23_1 : True:=by
 k_with "call ref" => ((fail_if_success have:=dNW23);first | k_extra "L13" | fail)
 exact True.intro
theorem LtB.of {v b : Int} (h : v < b) : LtB v b:=h
theorem LtB.out {v b : Int} (h : LtB v b) : v < b:=h
theorem lnNW23_2 : True:=by
 k_with "L79" => ((k_here;(with_reducible show wpAny _ _ (call (Value.ref 499) [Value.ref _,Value.int 6 _]) _ _ _);k_dflt (refine' draw_spec ?zB ?zF ?zX ?zT ?zhk ?zN ?zhC ?zU ?zhne ?zhi ?zh1 ?zh2 ?zk0 ?zk1 ?zl0 ?zl1 ?zhd ?zhu ?_;k_extra "Q";(case zU=>k_updF);(case zhC=>k_mem);(case zhne=>first | assumption | k_ne);(case zhi=>assumption);(case zh1=>assumption);(case zh2=>assumption);(case zk0=>omega);(case zk1=>omega);(case zl0=>decide);(case zl1=>decide);k_extra "V");intro _ _ _ _ _ _ _ v1' _ _;(have v60:=Int.lt_trans v1' (show (6 : Int) < 60 by decide));(replace v1':=LtB.of v1');(try k_sweep);(try dsimp only);(try (revert v60;intro _));(try (revert v1';intro _))))
 k_with "L80" => ((k_here;(with_reducible show wpAny _ _ (pyIter _) (fun it s₂=>LoopAtV _ _ _ _ _ (PySem.Str.ofString "turn") _ _ _ it s₂) _ _);refine Stop.mk ?_))
 k_with "call ref" => ((fail_if_success have:=dNW23);first | k_extra "L79" | k_extra "L73" | fail)
 k_with "A" => ((fail_if_success have:=dNW23);first | k_extra "L28" | k_extra "L27" | fail)
 k_with "exec For Name Call cons nil" => ((fail_if_success have:=dNW23);first | k_extra "L23" | fail)
 k_with "pyIter ref" => ((fail_if_success have:=dNW23);first | k_extra "L80" | fail)
 k_with "eval Name" => ((fail_if_success have:=dNW23);first | k_extra "L77" | k_extra "L71" | fail)
 exact True.intro
open kc in
theorem c_47 : s_47 E w p loose mean mg mb dp un a A₀ base h₀ L m s QX2 c1 c2 c3 c4 c5 σ v1 tw tg v2 du dvs τx:=by
 intro B F X T hd hu o1 o2 g way n hv1 hv2 hg hw hdu N dv1 dv2 hdl wD hret
 rw [show bodySt 3 6 = .If _ _ _ _ from rfl]
 k_steps
 ·rename_i hw9 tk9 T9 h9 l9 h8 F9 N9
  rw [List.push_toArray] at N9
  exact hret _ _ [_] _ _ (fun _=>⟨.ref T9,rfl,.tuple (vs:=[.int g tg,v1,v2]) (.head _) (.cons (.int _ _) (.cons (dv1.mono fun p hp=>.tail _ hp) (.cons (dv2.mono fun p hp=>.tail _ hp) .nil)))⟩) (fun h=>absurd hw9 h) F9 (news_sub N9 mem_mid) (List.forall_mem_cons.mpr ⟨off1_lt l9.2,List.forall_mem_nil _⟩) ⟨Nat.ne_of_gt l9.1,trivial⟩
 ·exact hret dvs n [] _ _ (fun h=>absurd h (by assumption)) (fun _=>rfl) F N (List.forall_mem_nil _) trivial
theorem u48 : upto 48:=hk @c_47 u47 (by with_unfolding_all exact rfl)
open kc in
theorem due_spec {E w p loose mean mg mb dp un a A₀ base h₀ L m s QX2 c1 c2 c3 c4 c5 σ v1 tw tg v2 du dvs τx} : s_47 E w p loose mean mg mb dp un a A₀ base h₀ L m s QX2 c1 c2 c3 c4 c5 σ v1 tw tg v2 du dvs τx:=@hkT _ u48 (by k_extra "T") _ (by exact rfl)
theorem mem_perm1 {a b c d x y : Addr × Obj} {l l' : List (Addr × Obj)} : ∀ p ∈ x :: y :: a :: b :: c :: d :: (l ++ l'),p ∈ a :: b :: c :: d :: (l ++ x :: y :: l'):=by
 intro p hp
 simp only [List.mem_cons,List.mem_append] at hp ⊢
 rcases hp with h | h | h | h | h | h | h | h <;> simp [h]
theorem mem_perm2 {a b c d x y : Addr × Obj} {l l' l2 : List (Addr × Obj)} : ∀ p ∈ y :: x :: b :: c :: d :: (l ++ (l2 ++ l')),p ∈ x :: (l2 ++ y :: a :: b :: c :: d :: (l ++ l')):=by
 intro p hp
 simp only [List.mem_cons,List.mem_append] at hp ⊢
 rcases hp with h | h | h | h | h | h | h | h <;> simp [h]
theorem mem_deep4 {a b c d : Addr × Obj} {l l' : List (Addr × Obj)} : ∀ p ∈ l',p ∈ a :: b :: c :: d :: (l ++ l'):=fun p hp=>.tail _ (.tail _ (.tail _ (.tail _ (List.mem_append_right _ hp))))
theorem mem_turn {a b c x y : Addr × Obj} {l1 l2 l3 l4 σ ρ : List (Addr × Obj)} (h1 : ∀ p ∈ l4,p ∈ ρ) (h2 : ∀ p ∈ σ,p ∈ ρ) : ∀ p ∈ a :: b :: c :: x :: y :: ((l1 ++ (l2 ++ (l3 ++ l4))) ++ σ),p ∈ y :: (l1 ++ x :: a :: b :: c :: (l3 ++ (l2 ++ ρ))):=by
 intro p hp
 simp only [List.mem_cons,List.mem_append] at hp ⊢
 rcases hp with h | h | h | h | h | (h | h | h | h) | h <;> first | simp [h] | simp [h1 p h] | simp [h2 p h]
theorem mem_deepL {a b c d e : Addr × Obj} {l l' : List (Addr × Obj)} : ∀ p ∈ l,p ∈ a :: b :: c :: d :: e :: (l ++ l'):=fun p hp=>.tail _ (.tail _ (.tail _ (.tail _ (.tail _ (List.mem_append_left _ hp)))))
theorem mem_deep5 {a b c d e : Addr × Obj} {l l' : List (Addr × Obj)} : ∀ p ∈ l',p ∈ a :: b :: c :: d :: e :: (l ++ l'):=fun p hp=>.tail _ (.tail _ (.tail _ (.tail _ (.tail _ (List.mem_append_right _ hp)))))
theorem ex_cons {prog : Program} {w : World} {A : Around} {s : Shared} {env : Env} {st : Stmt} {rest : List Stmt} {Q : Flow→Shared→Prop} {E : Value→Shared→Prop} (h : wpAny (model prog w) A (exec st env) (fun f s'=>match f with | .next=>wpAny (model prog w) A (execs rest env) Q E s' | f=>Q f s') E s) :
  wpAny (model prog w) A (execs (st :: rest) env) Q E s:=by
 rw [execs_cons]
 refine wpAny_bind (wpAny_mono h (fun f s' h'=>?_) fun _ _ x=>x)
 cases f <;> first | exact h' | exact wpAny_pure h'
theorem ex_one {prog : Program} {w : World} {A : Around} {s : Shared} {env : Env} {st : Stmt} {Q : Flow→Shared→Prop} {E : Value→Shared→Prop} (h : wpAny (model prog w) A (exec st env) Q E s) : wpAny (model prog w) A (execs [st] env) Q E s :=
 ex_cons (wpAny_mono h (fun f s' h'=>by cases f <;> first | exact h' | exact wpAny_execs_nil h') fun _ _ x=>x)
open kc in
theorem c_48 : s_48 E w p loose mean mg mb dp un a A₀ base h₀ L m s QX2 C S cvs tX1 c1 c2 c3 c4 c5 o1 σ ti:=by
 intro B F X T hd hu cc c cl9 k d1 hi h1 h2 i hti k0 k1 e1 e2 w1 N hret
 rw [show bodySt 3 0 = .Assign _ _ _ from rfl]
 k_steps
 exact hret _ _ _ _ _ _ (by assumption) (by assumption) (by assumption) (by assumption)
theorem u49 : upto 49:=hk @c_48 u48 (by with_unfolding_all exact rfl)
open kc in
theorem glyph_spec {E w p loose mean mg mb dp un a A₀ base h₀ L m s QX2 C S cvs tX1 c1 c2 c3 c4 c5 o1 σ ti} : s_48 E w p loose mean mg mb dp un a A₀ base h₀ L m s QX2 C S cvs tX1 c1 c2 c3 c4 c5 o1 σ ti:=@hkT _ u49 (by k_extra "T") _ (by exact rfl)
theorem way_spec {w : World} {p : Program} {loose : List Str} {mean : ExcName→Option Value} {mg mb : Str→Option Value}
  {dp un : Nat} {a c1 c2 c3 c4 c5 : Addr} {A₀ : Around} {base h₀ : Heap} {L : Addr} {m : Str→Option Value} {s : Shared}
  {Q : Flow→Shared→Prop} {E : Value→Shared→Prop}
  (B : Below A₀ base [] h₀) (F : Fr h₀ L s.heap m) (X : (hd.heap_1 w.params).In h₀) (T : Top p loose mean mg mb h₀) (hd : dp + 40 < recursionLimit) (hu : un + 400 < cLine) {S C : Addr} {o1 : Obj} {cvs : List Value} {cc c : Nat} {cl9 : List Int} {k : Int} {t : Tok} (d1 : o1.data = .cell (some (.ref S))) (hi : IntsAre cvs cl9) (h1 : 0 < cl9.length) (h2 : cl9.length < 100) {σ : List (Addr × Obj)} (k0 : 0 ≤ k) (k1 : k < 1000) (e1 : @Ne Nat S C) (e2 : @Ne Nat S c1) (w1 : LCg.Off1 S σ)
  (N : News h₀ L s.heap ((c1,o1) :: (S,srcObj C k t c) :: (C,listOf cvs.toArray cc) :: σ))
  (hret : ∀ v tg t' c' h' tk',0 ≤ v→v < 4→Fr h₀ L h' (fun y=>if y = "way" then some (.int v tg) else m y)→News h₀ L h' ((c1,o1) :: (S,srcObj C (k + 1) t' c') :: (C,listOf cvs.toArray cc) :: σ)→Q .next { s with heap:=h',toks:=tk'}) :
  wpAny (model pw_nu0185_01 w) (ktrTop dp un (some []) "law" lawScope L a (.ref 536) [("octets",c5),("glyphs",c4),("data",c3),("ahead",c2),("source",c1)] []) (exec (bodySt 3 1) (envX "law" lawScope L a (.ref 536) [("octets",c5),("glyphs",c4),("data",c3),("ahead",c2),("source",c1)])) Q E s:=by
 rw [show bodySt 3 1 = .Assign _ _ _ from rfl]
 k_steps
 exact hret _ _ _ _ _ _ (by assumption) (by assumption) (by assumption) (by assumption)
open kc in
theorem c_49 : s_49 w p loose mean mg mb dp un a A₀ base h₀ L m s QX2 C D oD S cvs tX1 c1 c2 c3 c4 c5 o1 σ du:=by
 intro B F X T hd hu cc c cl9 k d1 hi h1 h2 n0 k0 k1 e1 e2 e3 e4 e5 e6 e7 e8 e9 e0 w1 w2 w3 hlo hE hdu hdi N hret
 rw [show lawSt 3 = .For _ _ _ _ _ from rfl]
 refine For_invVF F rfl rfl ?_
 k_steps
 refine Stop.out ?_
 rename_i v t1' t2' c' h9 tk9 v0 F9 N9 v60 v6 h8 tk8 t8 u8 w8 R8 F8 N8 K8
 refine ex1 (Int.eq_ofNat_of_zero_le v0) fun nn e91=>?_
 subst e91
 have hn : nn < 6:=by have:=LtB.out v6;omega
 refine iter_range (n:=nn) LoopN (LoopJ w c1 o1 S C cvs cc D du σ (k + 1)) rfl R8 (range_small (by omega)) (range_size nn) F8 N8 ⟨k + 1,t2',c',oD,[],[],n0,[],[],rfl,hdi,trivial,.nil,rfl,⟨fun j r h=>(nomatch h),fun r h=>(nomatch h)⟩,by omega,trivial,trivial,trivial,fun p h=>(nomatch h)⟩ ?_ ?_
 ·intro i tX1 u I news₁ own h tk hlt hJ hown hIo hI F' N'
  refine ex9 hJ fun k' t9 c9 oD' kvs dvs n9 τ rows q9=>an11 q9 fun e90 hdi' hR hda hrl hlr hk9 f1 f2 f3 f4=>?_
  clear q9 hJ
  subst e90
  have iS : @Ne Nat S I:=hI _ (.tail _ (.head _))
  have iD : @Ne Nat D I:=hI _ (.tail _ (.tail _ (.tail _ (.head _))))
  have id : @Ne Nat du I:=hI _ (.tail _ (.tail _ (.tail _ (.tail _ (.head _)))))
  have g1 : LCg.Off1 S ((τ ++ σ) ++ own):=off1_app (off1_app f1 w1) (off1_of fun q hq=>by rw [hown q hq];exact iS.symm)
  have g2 : LCg.Off1 D ((τ ++ σ) ++ own):=off1_app (off1_app f2 w2) (off1_of fun q hq=>by rw [hown q hq];exact iD.symm)
  have g3 : LCg.Off1 du ((τ ++ σ) ++ own):=off1_app (off1_app f3 w3) (off1_of fun q hq=>by rw [hown q hq];exact id.symm)
  have ht1 : ∀ p ∈ τ,p ∈ (τ ++ σ) ++ own:=fun p hp=>List.mem_append_left _ (List.mem_append_left _ hp)
  have ht2 : ∀ p ∈ σ,p ∈ (τ ++ σ) ++ own:=fun p hp=>List.mem_append_left _ (List.mem_append_right _ hp)
  have ht3 : ∀ p ∈ own,p ∈ (τ ++ σ) ++ own:=fun p hp=>List.mem_append_right _ hp
  have ht4 : ∀ p ∈ τ,p.1 ≠ I:=fun p hp=>hI p (.tail _ (.tail _ (.tail _ (.tail _ (.tail _ (List.mem_append_left _ hp))))))
  simp only [List.cons_append] at N'
  have hkb : 0 ≤ k'∧k' < 200:=by omega
  generalize (τ ++ σ) ++ own = ρ at N' g1 g2 g3 ht1 ht2 ht3
  have gS : LCg.Off1 S ((D,oD') :: (du,listOf dvs.toArray n9) :: ρ):=⟨e5,e8,g1⟩
  refine ex_cons (glyph_spec B F' X T hd hu d1 hi h1 h2 rfl hkb.1 (by omega) e1 e2 gS N' ?_)
  intro vg tg t3 c3' h3 tk3 vg0 vg1 F3 N3
  refine ex_cons (way_spec B F3 X T hd hu d1 hi h1 h2 (by omega) (by omega) e1 e2 gS N3 ?_)
  intro vw tw t4 c4' h4 tk4 vw0 vw1 F4 N4
  refine ex_cons (pts_spec B F4 X T hd hu d1 hi h1 h2 (by omega) (by omega) e1 e2 e3 gS N4 ?_)
  intro P q0 q1 z0 z1 τp t5 c5' h5 tk5 pz0 pz1 dq0 dq1 F5 N5 pS pO oP
  refine ex_cons (one_spec B F5 X T hd hu rfl rfl N5 ?_)
  intro v1 h6 tk6 hv1 F6 N6
  refine ex_cons (two_spec B F6 X T hd hu rfl rfl N6 ?_)
  intro v2 h7 tk7 hv2 F7 N7
  have dv1 : DatIn τp v1 (datO (if vw.fmod 2 = 1 then some z0 else none)):=by
   rw [hv1]
   split
   ·exact dq0
   ·exact .none
  have dv2 : DatIn τp v2 (datO (if vw > 1 then some z1 else none)):=by
   rw [hv2]
   split
   ·exact dq1
   ·exact .none
  have N7' : News h₀ L h7 ((D,oD') :: (du,listOf dvs.toArray n9) :: (P,listOf #[q0,q1] 2) :: (c1,o1) :: (S,srcObj C _ _ _) :: (C,listOf cvs.toArray cc) :: (τp ++ ρ)):=news_sub N7 mem_perm1
  have oPs:=(off1_split oP.2.2.2).2
  have pD : LCg.Off1 D τp:=off1_of fun q hq=>(pO q hq).1.symm
  have pd : LCg.Off1 du τp:=off1_of fun q hq=>(pO q hq).2.1.symm
  have hkl : kvs.length ≤ 8:=by
   have:=congrArg List.length hR.keys
   rw [List.length_map,List.length_map] at this
   omega
  refine ex_cons (ends_spec B F7 X T hd hu rfl rfl rfl hE N7' (dv1.mono mem_deepL) (dv2.mono mem_deepL) hdi' hkl ⟨e0,oPs.1.symm,e4.symm,e5.symm,e6.symm,off1_app pD g2⟩ hlo ?_)
  intro oD2 r μ h8 tk8 hd2 hev F8 N8 μO μD
  have N8' : News h₀ L h8 ((du,listOf dvs.toArray n9) :: (D,oD2) :: (c1,o1) :: (S,srcObj C _ _ _) :: (C,listOf cvs.toArray cc) :: (τp ++ (μ ++ ρ))):=news_sub N8 mem_perm2
  have μd : LCg.Off1 du μ:=off1_of fun q hq=>(μO q hq).1.symm
  refine ex_one (due_spec B F8 X T hd hu rfl rfl rfl rfl hdu N8' dv1 dv2 (by rw [hda.length,List.length_map];exact Nat.lt_of_le_of_lt (List.length_filter_le _ _) (by omega)) ⟨e0.symm,e7.symm,e8.symm,e9.symm,off1_app pd (off1_app μd g3)⟩ ?_)
  intro dvs2 n2 μ2 h9 tk9 hpos hneg F9 N9 μ2O μ2D
  have hkey : ∀ q ∈ kvs.map (·.1),q < 4 * (0 + (i : Int)) + vg:=by
   intro q hq
   rw [hR.keys] at hq
   refine ex1 (List.mem_map.mp hq) fun r9 q9=>an2 q9 fun hr9 e92=>?_
   clear q9
   subst e92
   obtain ⟨j,hj,hjr⟩:=List.getElem_of_mem hr9
   have:=(hlr.1 j r9 (by rw [← hjr];exact List.getElem?_eq_getElem hj)).2
   omega
  have hstored : stored kvs (4 * (0 + (i : Int)) + vg) (.ref r) = kvs ++ [(4 * (0 + (i : Int)) + vg,.ref r)]:=stored_new fun hm=>Int.lt_irrefl _ (hkey _ hm)
  rw [hstored] at hd2
  clear hstored hkey
  generalize ho1 : (if vw.fmod 2 = 1 then some z0 else none) = o1' at *
  generalize ho2 : (if vw > 1 then some z1 else none) = o2' at *
  have hE1 : hasEnd (4 * (0 + (i : Int)) + vg,o1',o2') = decide (0 < vw):=by
   have hc : vw = 0 ∨ vw = 1 ∨ vw = 2 ∨ vw = 3:=by omega
   rw [← ho1,← ho2]
   rcases hc with rfl | rfl | rfl | rfl <;> rfl
  have hp1 : PtsIn o1'∧PtsIn o2':=by
   rw [← ho1,← ho2]
   constructor <;> split <;> first | exact pz0 | exact pz1 | trivial
  refine ex1 hIo fun oI mI=>?_
  clear hIo
  have mρ:=ht3 _ mI
  refine ei5 h9 tk9 _ ((c1,o1) :: (S,srcObj C (k' + 1 + 1 + 4) t5 c5') :: (C,listOf cvs.toArray cc) :: (D,oD2) :: (du,listOf dvs2.toArray n2) :: ((μ2 ++ (μ ++ (τp ++ τ))) ++ σ)) _ ⟨rfl,F9,N9,?_,?_,?_,?_,⟨_,t5,c5',oD2,_,dvs2,n2,μ2 ++ (μ ++ (τp ++ τ)),rows ++ [(4 * (0 + (i : Int)) + vg,o1',o2')],rfl,hd2,?_,?_,?_,?_,?_,?_,?_,?_,?_⟩⟩
  ·exact mem_turn ht1 ht2
  ·exact fun p hp=>.tail _ (List.mem_append_right _ (.tail _ (.tail _ (.tail _ (.tail _ (List.mem_append_right _ (List.mem_append_right _ (ht3 p hp))))))))
  ·refine List.forall_mem_cons.mpr ⟨hI _ (.head _),List.forall_mem_cons.mpr ⟨iS,List.forall_mem_cons.mpr ⟨hI _ (.tail _ (.tail _ (.head _))),List.forall_mem_cons.mpr ⟨iD,List.forall_mem_cons.mpr ⟨id,fun p hp=>?_⟩⟩⟩⟩⟩
   rcases List.mem_append.mp hp with hp | hp
   ·rcases List.mem_append.mp hp with hp | hp
    ·exact (off1_all (μ2O p hp) _ (mem_deep4 _ (List.mem_append_right _ mρ))).symm
    ·rcases List.mem_append.mp hp with hp | hp
     ·exact (off1_all (μO p hp) _ (mem_deep5 _ mρ)).symm
     ·rcases List.mem_append.mp hp with hp | hp
      ·exact (off1_all (pO p hp) _ (.tail _ (.tail _ mρ))).symm
      ·exact ht4 p hp
   ·exact hI p (.tail _ (.tail _ (.tail _ (.tail _ (.tail _ (List.mem_append_right _ hp))))))
  ·intro y h1 h2
   rw [if_neg (ne_in (by decide) h2),if_neg (ne_in (by decide) h2),if_neg (ne_in (by decide) h2),if_neg (ne_in (by decide) h2),if_neg (ne_in (by decide) h2),if_neg h1,if_neg (by rw [h2];exact Bool.false_ne_true)]
  ·exact rows_snoc (hev.mono fun p hp=>List.mem_append_right _ (List.mem_append_left _ hp)) (hR.mono fun p hp=>List.mem_append_right _ (List.mem_append_right _ (List.mem_append_right _ hp)))
  ·rw [List.filter_append,List.map_append]
   have hda' : DatAll (μ2 ++ (μ ++ (τp ++ τ))) dvs ((rows.filter hasEnd).map datR):=hda.mono fun p hp=>List.mem_append_right _ (List.mem_append_right _ (List.mem_append_right _ hp))
   by_cases hvw : 0 < vw
   ·refine ex1 (hpos hvw) fun v9 q9=>an2 q9 fun e91 hv9=>?_
    clear q9
    subst e91
    rw [List.filter_cons,hE1,decide_eq_true hvw]
    exact hda'.append (.one (hv9.mono fun p hp=>(List.mem_append.mp hp).elim (fun h=>List.mem_append_left _ h) fun h=>List.mem_append_right _ (List.mem_append_right _ (List.mem_append_left _ h))))
   ·rw [hneg hvw,List.filter_cons,hE1,decide_eq_false hvw]
    exact (List.append_nil ((rows.filter hasEnd).map datR)).symm ▸ hda'
  ·rw [List.length_append,hrl];rfl
  ·refine ⟨fun j r9 h9=>?_,fun r9 h9=>?_⟩
   ·rw [List.getElem?_append] at h9
    split at h9
    ·exact hlr.1 j r9 h9
    ·rename_i hj
     have hj0 : j - rows.length = 0:=by
      cases e : j - rows.length with
      | zero=>rfl
      | succ n=>rw [e] at h9;cases h9
     have hji : j = i:=by omega
     rw [hj0] at h9
     rw [← Option.some.inj h9,hji]
     exact ⟨by dsimp only;omega,by dsimp only;omega⟩
   ·rcases List.mem_append.mp h9 with h9 | h9
    ·exact hlr.2 r9 h9
    ·rw [List.mem_singleton.mp h9];exact hp1
  ·omega
  ·exact off1_app (off1_of fun q hq=>(μ2O q hq).2.2.1.symm) (off1_app (off1_of fun q hq=>(μO q hq).2.2.2.1.symm) (off1_app pS f1))
  ·exact off1_app (off1_of fun q hq=>(μ2O q hq).1.symm) (off1_app μD (off1_app pD f2))
  ·exact off1_app μ2D (off1_app μd (off1_app pd f3))
  ·intro p hp
   rcases List.mem_append.mp hp with hp | hp
   ·exact off1_of fun q hq=>off1_all (μ2O p hp) q (mem_deep4 _ (List.mem_append_right _ (ht2 q hq)))
   ·rcases List.mem_append.mp hp with hp | hp
    ·exact off1_of fun q hq=>off1_all (μO p hp) q (mem_deep5 _ (ht2 q hq))
    ·rcases List.mem_append.mp hp with hp | hp
     ·exact off1_of fun q hq=>off1_all (pO p hp) q (.tail _ (.tail _ (ht2 q hq)))
     ·exact f4 p hp
 ·intro u news₁ h tk hJ F' N'
  exact hret _ _ _ nn news₁ hn (fun y h1 h2=>by (try dsimp only);rw [if_neg h1,if_neg (by rw [h2];exact Bool.false_ne_true)]) hJ F' N'
theorem u50 : upto 50:=hk @c_49 u49 (by with_unfolding_all exact rfl)
open kc in
theorem loop_spec {w p loose mean mg mb dp un a A₀ base h₀ L m s QX2 C D oD S cvs tX1 c1 c2 c3 c4 c5 o1 σ du} : s_49 w p loose mean mg mb dp un a A₀ base h₀ L m s QX2 C D oD S cvs tX1 c1 c2 c3 c4 c5 o1 σ du:=@hkT _ u50 (by k_extra "T") _ (by exact rfl)
end NW23
theorem dNW23 : True:=trivial
section NW24
theorem lnNW24_1 : True:=by
 k_with "L81" => ((k_here;(with_reducible show wpAny _ _ (call (Value.ref 499) [Value.ref _,Value.int 3 _]) _ _ _);k_dflt (refine' draw_spec ?zB ?zF ?zX ?zT ?zhk ?zN ?zhC ?zU ?zhne ?zhi ?zh1 ?zh2 ?zk0 ?zk1 ?zl0 ?zl1 ?zhd ?zhu ?_;k_extra "Q";(case zU=>k_updF);(case zhC=>k_mem);(case zhne=>first | assumption | k_ne);(case zhi=>assumption);(case zh1=>assumption);(case zh2=>assumption);(case zk0=>omega);(case zk1=>omega);(case zl0=>decide);(case zl1=>decide);k_extra "V");intro _ _ _ _ _ _ _ v1' _ _;(have v60:=Int.lt_trans v1' (show (3 : Int) < 60 by decide));(replace v1':=LtB.of v1');(try k_sweep);(try dsimp only);(try (revert v60;intro _));(try (revert v1';intro _))))
 k_with "L82" => ((k_here;k_dflt (refine' storeX_C ?zF ?zN ?zc ?zU ?zd ?_ ?zhk ?zhx;(case zhk=>rfl);(case zhx=>rfl);(case zF=>k_asm);(case zN=>k_asm);(case zc=>rfl);(case zU=>k_updF);(case zd=>assumption));intro _ _ _ N' d';(try dsimp only at N');(try (revert N';intro _));(try (revert d';intro _))))
 k_with "call ref" => ((fail_if_success have:=dNW24);first | k_extra "L32" | k_extra "L81" | k_extra "L73" | k_extra "L13" | fail)
 k_with "A" => ((fail_if_success have:=dNW24);first | k_extra "L28" | k_extra "L27" | fail)
 k_with "storeName" => ((fail_if_success have:=dNW24);first | k_extra "L82" | fail)
 k_with "eval Name" => ((fail_if_success have:=dNW24);first | k_extra "L71" | k_extra "L77" | fail)
 exact True.intro
theorem table_spec {w : World} {p : Program} {loose : List Str} {mean : ExcName→Option Value} {mg mb : Str→Option Value}
  {dp un : Nat} {a c1 c2 c3 c4 c5 : Addr} {A₀ : Around} {base h₀ : Heap} {L : Addr} {m : Str→Option Value} {s : Shared}
  {Q : Flow→Shared→Prop} {E : Value→Shared→Prop}
  (B : Below A₀ base [] h₀) (F : Fr h₀ L s.heap m) (X : (hd.heap_1 w.params).In h₀) (T : Top p loose mean mg mb h₀) (hd : dp + 40 < recursionLimit) (hu : un + 400 < cLine) {D : Addr} {σ : List (Addr × Obj)} (hE : m "ends" = some (.ref D)) (N : News h₀ L s.heap σ)
  (hret : ∀ x dx kt h' tk',Fr h₀ L h' (fun y=>if y = "table" then some (.ref x) else m y)→News h₀ L h' ((x,instObj 474 dx) :: (dx,dictOf [⟨PyData.keyHash w.params "ends",.str "ends" kt,.ref D⟩] 1) :: σ)→(∀ p ∈ σ,p.1 < dx)→@LT.lt Nat _ dx x→Q .next { s with heap:=h',toks:=tk'}) :
  wpAny (model pw_nu0185_01 w) (ktrTop dp un (some []) "law" lawScope L a (.ref 536) [("octets",c5),("glyphs",c4),("data",c3),("ahead",c2),("source",c1)] []) (exec (lawSt 4) (envX "law" lawScope L a (.ref 536) [("octets",c5),("glyphs",c4),("data",c3),("ahead",c2),("source",c1)])) Q E s:=by
 rw [show lawSt 4 = .Assign _ _ _ from rfl]
 k_steps
 exact hret _ _ _ _ _ (by assumption) (by assumption) (by assumption) (by assumption)
theorem octets_spec {w : World} {p : Program} {loose : List Str} {mean : ExcName→Option Value} {mg mb : Str→Option Value}
  {dp un : Nat} {a c1 c2 c3 c4 c5 : Addr} {A₀ : Around} {base h₀ : Heap} {L : Addr} {m : Str→Option Value} {s : Shared}
  {Q : Flow→Shared→Prop} {E : Value→Shared→Prop}
  (B : Below A₀ base [] h₀) (F : Fr h₀ L s.heap m) (X : (hd.heap_1 w.params).In h₀) (T : Top p loose mean mg mb h₀) (hd : dp + 40 < recursionLimit) (hu : un + 400 < cLine) {x d D : Addr} {kt : Tok} {oD o5 : Obj} {kvs : List (Int × Value)} {rows : List Row} {σ : List (Addr × Obj)} (hT : m "table" = some (.ref x)) (d5 : o5.data = .cell none) (w5 : LCg.Off1 c5 σ)
  (N : News h₀ L s.heap ((c5,o5) :: σ)) (hx : (x,instObj 474 d) ∈ σ) (hdd : (d,dictOf [⟨PyData.keyHash w.params "ends",.str "ends" kt,.ref D⟩] 1) ∈ σ) (hD : (D,oD) ∈ σ) (hi : oD.IsDictOf (intKind pw_nu0185_01 w) kvs) (hlo : (D == sysModules) = false) (hR : RowsV w σ kvs rows) (hasc : (rows.map (·.1)).Pairwise (· < ·)) (hn : rows.length ≤ 8) (hrun : NoRun (keysE rows)) (hgb : ∀ g ∈ keysE rows,0 ≤ g∧g < 65536) (hpt : ∀ r ∈ rows,PtsOk r.2.1∧PtsOk r.2.2)
  (hret : ∀ b t cov ps o5' h' tk',KBw.bInts cov = cov8 (keysE rows)→EndsB (rows.filter hasEnd) ps→KBw.bInts b = [0,1] ++ b16 ((laidF (6 + 4 * (keysE rows).length) (some cov :: ps)).offs.getD 0 0) ++ b16 (keysE rows).length ++ ((laidF (6 + 4 * (keysE rows).length) (some cov :: ps)).offs.drop 1).flatMap b16 ++ KBw.bInts (laidF (6 + 4 * (keysE rows).length) (some cov :: ps)).out→o5'.data = .cell (some (.bytes b t))→Fr h₀ L h' m→News h₀ L h' ((c5,o5') :: σ)→Q .next { s with heap:=h',toks:=tk'}) :
  wpG (model pw_nu0185_01 w) (ktrTop dp un (some []) "law" lawScope L a (.ref 536) [("octets",c5),("glyphs",c4),("data",c3),("ahead",c2),("source",c1)] []) (exec (lawSt 5) (envX "law" lawScope L a (.ref 536) [("octets",c5),("glyphs",c4),("data",c3),("ahead",c2),("source",c1)])) Q s:=by
 rw [show lawSt 5 = .Assign _ _ _ from rfl]
 refine G_Assign1 rfl rfl rfl ?_
 refine G_Call_Name rfl ?_
 walk_at "S1"
 (try dsimp only)
 refine G_callWith_K (K:=Mine.hd.heap_1 w.params) (by k_is) ?_ rfl rfl
 walk_at "S1"
 (try dsimp only [List.cons_append,List.nil_append])
 (with_reducible show wpG _ _ (call (Value.ref 492) [Value.ref _]) _ _)
 k_dflt (refine' write_cursive_spec B ?F X T rfl ?N (.tail _ hx) (.tail _ hdd) (.tail _ hD) hi hlo (hR.mono fun p hp=>.tail _ hp) hasc hn hrun hgb hpt ?hd ?hu ?_;(case F=>k_asm);(case N=>k_asm);(case hd=>omega);(case hu=>omega))
 intro b9 t9 cov9 ps9 h9 tk9 e9 s9 z9 F9 N9
 walk_at "S1"
 exact hret _ _ _ _ _ _ _ e9 s9 z9 (by assumption) (by assumption) (by assumption)
open kc in
theorem c_50 : s_50 E w p loose mean mg mb dp un a A₀ base h₀ L m s QX2 C S cvs tX1 c1 c2 c3 c4 c5 o1 σ o2:=by
 intro B F X T hd hu cc c cl9 k d1 hi h1 h2 d2 k0 k1 e1 e2 f1 f2 f3 w1 w2 N hret
 rw [show lawSt 6 = .Assign _ _ _ from rfl]
 k_steps
 rename_i la h9 l9 v t1 t2 c9 h8 tk8 v0 F8 N8 v60 v3 Da h7 F7 N7 i7 n7 z7 z6 z5 z4 l7
 have v3':=LtB.out v3
 have ef : (List.replicate v.toNat [(9 : Int)]).flatten = List.replicate v.toNat 9:=List.flatten_replicate_singleton
 rw [ef] at i7 z6
 rw [List.length_replicate] at z6
 have hIn : KBa.In (List.replicate v.toNat 9):=fun n hn=>by rw [(List.mem_replicate.mp hn).2];exact ⟨by decide,by decide⟩
 refine KBa.make_K F7 N7 rfl (News.isList N7 (.head _)) i7 hIn (by rw [List.length_replicate];omega) ?_
 intro h6 t6 k6 F6 N6 _
 clear N7 N8 F7 F8
 k_steps
 exact hret _ _ v.toNat _ _ _ _ _ (by omega) (KBa.ints_make hIn) (by assumption) (by assumption) (news_sub (by assumption) fun p hp=>.tail _ (.tail _ hp))
theorem u51 : upto 51:=hk @c_50 u50 (by with_unfolding_all exact rfl)
open kc in
theorem ahead_spec {E w p loose mean mg mb dp un a A₀ base h₀ L m s QX2 C S cvs tX1 c1 c2 c3 c4 c5 o1 σ o2} : s_50 E w p loose mean mg mb dp un a A₀ base h₀ L m s QX2 C S cvs tX1 c1 c2 c3 c4 c5 o1 σ o2:=@hkT _ u51 (by k_extra "T") _ (by exact rfl)
end NW24
theorem dNW24 : True:=trivial
section NW36
theorem lnNW36_1 : True:=by
 k_with "L83" => ((k_here;(with_reducible show wpAny _ _ (call (Value.ref 504) [Value.ref _]) _ _ _);k_dflt (refine' source_spec ?zB ?zF ?zX ?zT ?zhk ?zN ?zhs ?zhi ?zhn ?zhd ?zhu ?_;k_extra "Q";(case zhs=>assumption);(case zhi=>assumption);(case zhn=>assumption);k_extra "V");intro _ _ _ _ _ _ _ _ _ _ _ _ _ _ _ n2' n3';(try simp only [LCg.Off1] at n2' n3');(try (revert n2';intro _));(try (revert n3';intro _));(try k_sweep);(try dsimp only)))
 k_with "call ref" => ((fail_if_success have:=dNW36);first | k_extra "L83" | k_extra "L13" | fail)
 k_with "A" => ((fail_if_success have:=dNW36);first | k_extra "L28" | k_extra "L27" | fail)
 k_with "storeName" => ((fail_if_success have:=dNW36);first | k_extra "L82" | fail)
 k_with "eval Name" => ((fail_if_success have:=dNW36);first | k_extra "L77" | fail)
 exact True.intro
theorem src_spec {w : World} {p : Program} {loose : List Str} {mean : ExcName→Option Value} {mg mb : Str→Option Value}
  {dp un : Nat} {a c1 c2 c3 c4 c5 : Addr} {A₀ : Around} {base h₀ : Heap} {L : Addr} {m : Str→Option Value} {s : Shared}
  {Q : Flow→Shared→Prop} {E : Value→Shared→Prop}
  (B : Below A₀ base [] h₀) (F : Fr h₀ L s.heap m) (X : (hd.heap_1 w.params).In h₀) (T : Top p loose mean mg mb h₀) (hd : dp + 40 < recursionLimit) (hu : un + 400 < cLine) {o1 : Obj} {σ : List (Addr × Obj)} {sc : Addr} {vs : List Value} {ns : List Int} (hm : m "script" = some (.ref sc)) (hs : h₀.IsList sc vs.toArray) (hi : IntsAre vs ns) (hn : ns.length ≤ 63) (d1 : o1.data = .cell none) (w1 : LCg.Off1 c1 σ) (N : News h₀ L s.heap ((c1,o1) :: σ))
  (hret : ∀ S C cvs cc c t cs9 o1' h' tk',IntsAre cvs cs9→0 < cs9.length→cs9.length < 100→o1'.data = .cell (some (.ref S))→Fr h₀ L h' m→News h₀ L h' ((S,srcObj C 0 t c) :: (C,listOf cvs.toArray cc) :: (c1,o1') :: σ)→@Ne Nat S C→LCg.Off1 S ((c1,o1') :: σ)→LCg.Off1 C ((c1,o1') :: σ)→Q .next { s with heap:=h',toks:=tk'}) :
  wpAny (model pw_nu0185_01 w) (ktrTop dp un (some []) "law" lawScope L a (.ref 536) [("octets",c5),("glyphs",c4),("data",c3),("ahead",c2),("source",c1)] []) (exec (lawSt 0) (envX "law" lawScope L a (.ref 536) [("octets",c5),("glyphs",c4),("data",c3),("ahead",c2),("source",c1)])) Q E s:=by
 rw [show lawSt 0 = .Assign _ _ _ from rfl]
 k_steps
 rename_i S C cvs cc c9 t9 cs9 h9 tk9 iv q1 q2 F9 N9 n1 n2 n3 h8 o8 F8 N8 d8
 exact hret S C cvs cc c9 t9 cs9 o8 _ _ iv q1 q2 d8 F8 N8 n1 n2 n3
theorem ends0_spec {w : World} {p : Program} {loose : List Str} {mean : ExcName→Option Value} {mg mb : Str→Option Value}
  {dp un : Nat} {a c1 c2 c3 c4 c5 : Addr} {A₀ : Around} {base h₀ : Heap} {L : Addr} {m : Str→Option Value} {s : Shared}
  {Q : Flow→Shared→Prop} {E : Value→Shared→Prop}
  (B : Below A₀ base [] h₀) (F : Fr h₀ L s.heap m) (X : (hd.heap_1 w.params).In h₀) (T : Top p loose mean mg mb h₀) (hd : dp + 40 < recursionLimit) (hu : un + 400 < cLine) {σ : List (Addr × Obj)} (N : News h₀ L s.heap σ)
  (hret : ∀ D oD h' tk',oD.IsDictOf (intKind pw_nu0185_01 w) []→(D == sysModules) = false→Fr h₀ L h' (fun y=>if y = "ends" then some (.ref D) else m y)→News h₀ L h' ((D,oD) :: σ)→LCg.Off1 D σ→Q .next { s with heap:=h',toks:=tk'}) :
  wpAny (model pw_nu0185_01 w) (ktrTop dp un (some []) "law" lawScope L a (.ref 536) [("octets",c5),("glyphs",c4),("data",c3),("ahead",c2),("source",c1)] []) (exec (lawSt 1) (envX "law" lawScope L a (.ref 536) [("octets",c5),("glyphs",c4),("data",c3),("ahead",c2),("source",c1)])) Q E s:=by
 rw [show lawSt 1 = .Assign _ _ _ from rfl]
 k_steps
 rename_i d9 h9 o9 l9 lo9 _ _ hi9 _ h8 F8 N8
 exact hret d9 o9 _ _ hi9 lo9 F8 N8 (off1_of fun q hq=>Nat.ne_of_lt (l9 q hq))
theorem due0_spec {w : World} {p : Program} {loose : List Str} {mean : ExcName→Option Value} {mg mb : Str→Option Value}
  {dp un : Nat} {a c1 c2 c3 c4 c5 : Addr} {A₀ : Around} {base h₀ : Heap} {L : Addr} {m : Str→Option Value} {s : Shared}
  {Q : Flow→Shared→Prop} {E : Value→Shared→Prop}
  (B : Below A₀ base [] h₀) (F : Fr h₀ L s.heap m) (X : (hd.heap_1 w.params).In h₀) (T : Top p loose mean mg mb h₀) (hd : dp + 40 < recursionLimit) (hu : un + 400 < cLine) {σ : List (Addr × Obj)} (N : News h₀ L s.heap σ)
  (hret : ∀ D n0 h' tk',Fr h₀ L h' (fun y=>if y = "due" then some (.ref D) else m y)→News h₀ L h' ((D,listOf #[] n0) :: σ)→LCg.Off1 D σ→Q .next { s with heap:=h',toks:=tk'}) :
  wpAny (model pw_nu0185_01 w) (ktrTop dp un (some []) "law" lawScope L a (.ref 536) [("octets",c5),("glyphs",c4),("data",c3),("ahead",c2),("source",c1)] []) (exec (lawSt 2) (envX "law" lawScope L a (.ref 536) [("octets",c5),("glyphs",c4),("data",c3),("ahead",c2),("source",c1)])) Q E s:=by
 rw [show lawSt 2 = .Assign _ _ _ from rfl]
 k_steps
 rename_i d9 h9 l9 h8 F8 N8
 exact hret d9 0 _ _ F8 N8 (off1_of fun q hq=>Nat.ne_of_lt (l9 q hq))
end NW36
theorem dNW36 : True:=trivial
section NX20
theorem pick_sub {is : List Nat} {n : Nat} {l : List (Addr × Obj)} : ∀ p ∈ pickL is n l,p ∈ l:=fun p hp=>by
 rcases List.mem_append.mp hp with h | h
 ·refine ex1 (List.mem_filterMap.mp h) fun i q9=>an2 q9 fun _ e=>?_
  clear q9
  exact List.mem_of_getElem? e
 ·exact List.mem_of_mem_drop h
theorem news_pick {h₀ h : Heap} {L : Addr} {l : List (Addr × Obj)} (is : List Nat) (n : Nat) (N : News h₀ L h l) : News h₀ L h (pickL is n l):=news_sub N pick_sub
theorem off1_pick {d : Addr} {l : List (Addr × Obj)} (is : List Nat) (n : Nat) (o : LCg.Off1 d l) : LCg.Off1 d (pickL is n l):=off1_of fun q hq=>off1_all o q (pick_sub q hq)
theorem SepS.ne {c1 c2 c3 c4 c5 S C : Addr} (Z : SepS c1 c2 c3 c4 c5 S C) (i j : Nat) (h : (Nat.blt i j && Nat.blt j 8) = true) : @Ne Nat (keyL c1 c2 c3 c4 c5 S C i) (keyL c1 c2 c3 c4 c5 S C j):=by
 refine an2 (Bool.and_eq_true_iff.mp h) fun h1 h2=>?_
 have h1' : i < j:=Nat.blt_eq.mp h1
 have h2' : j < 8:=Nat.blt_eq.mp h2
 have hl : ([S,C,534,c1,c2,c3,c4,c5] : List Addr).length = 8:=rfl
 have:=List.pairwise_iff_getElem.mp Z i j (Nat.lt_trans h1' h2') h2' h1'
 unfold keyL
 rw [List.getD_eq_getElem?_getD,List.getD_eq_getElem?_getD,List.getElem?_eq_getElem (by rw [hl];omega),List.getElem?_eq_getElem (by rw [hl];omega)]
 exact this
theorem sepS_mk {c1 c2 c3 c4 c5 S C : Addr} (a1 : @LT.lt Nat _ 534 c1) (a2 : @LT.lt Nat _ c1 c2) (a3 : @LT.lt Nat _ c2 c3) (a4 : @LT.lt Nat _ c3 c4) (a5 : @LT.lt Nat _ c4 c5) (e : @Ne Nat S C) {o1 o2 o3 o4 o5 o9 : Obj} (oS : LCg.Off1 S [(c1,o1),(c2,o2),(c3,o3),(c4,o4),(c5,o5),(534,o9)]) (oC : LCg.Off1 C [(c1,o1),(c2,o2),(c3,o3),(c4,o4),(c5,o5),(534,o9)]) : SepS c1 c2 c3 c4 c5 S C:=by
 refine an7 oS fun x1 x2 x3 x4 x5 x9 _=>?_
 clear oS
 refine an7 oC fun y1 y2 y3 y4 y5 y9 _=>?_
 clear oC
 have asc : List.Pairwise (fun a b : Nat=>a < b) [534,c1,c2,c3,c4,c5]:=by
  have up : ∀ {x y : Nat} {l : List Nat},x < y→List.Pairwise (fun a b : Nat=>a < b) (y :: l)→List.Pairwise (fun a b : Nat=>a < b) (x :: y :: l):=fun h p=>List.pairwise_cons.mpr ⟨fun z hz=>by
   rcases List.mem_cons.mp hz with rfl | hz
   ·exact h
   ·exact Nat.lt_trans h ((List.pairwise_cons.mp p).1 z hz),p⟩
  exact up a1 (up a2 (up a3 (up a4 (up a5 (List.pairwise_singleton _ _)))))
 refine List.pairwise_cons.mpr ⟨fun a h=>?_,List.pairwise_cons.mpr ⟨fun a h=>?_,asc.imp Nat.ne_of_lt⟩⟩
 ·simp only [List.mem_cons,List.not_mem_nil,or_false] at h
  rcases h with rfl | rfl | rfl | rfl | rfl | rfl | rfl <;> first | exact e | exact Ne.symm (by assumption)
 ·simp only [List.mem_cons,List.not_mem_nil,or_false] at h
  rcases h with rfl | rfl | rfl | rfl | rfl | rfl <;> exact Ne.symm (by assumption)
section
variable {c1 c2 c3 c4 c5 S C q : Addr} {o1 o2 o3 o4 o5 tab oq : Obj} {k : Int} {t : Tok} {c cc : Nat} {cvs : List Value} {ρ τ : List (Addr × Obj)}
theorem led_off (o : LCg.Off1 q (Led c1 c2 c3 c4 c5 S C o1 o2 o3 o4 o5 tab k t c cvs cc ρ)) : ∀ i,updI i = true→@Ne Nat (keyL c1 c2 c3 c4 c5 S C i) q:=by
 intro i hi
 match i,hi with
 | 4,_=>exact o.2.2.2.1
 | 5,_=>exact o.2.2.2.2.1
 | 6,_=>exact o.2.2.2.2.2.1
 | 7,_=>exact o.2.2.2.2.2.2.1
 | 0,_=>exact o.2.1
 | 2,_=>exact o.2.2.2.2.2.2.2.1
theorem SepR.cons (R : SepR c1 c2 c3 c4 c5 S C ρ) (o : LCg.Off1 q (Led c1 c2 c3 c4 c5 S C o1 o2 o3 o4 o5 tab k t c cvs cc τ)) (oq : Obj) : SepR c1 c2 c3 c4 c5 S C ((q,oq) :: ρ) :=
 fun i hi=>⟨fun e=>led_off o i hi e.symm,R i hi⟩
end
end NX20
section NW40
theorem lnNW40_1 : True:=by
 k_with "call ref" => ((fail_if_success have:=dNW40);first | k_extra "L13" | fail)
 exact True.intro
theorem mem_led {a1 a2 a3 a4 a5 b1 b2 b3 b4 b5 : Addr × Obj} {τ : List (Addr × Obj)} : ∀ p ∈ a1 :: a2 :: a3 :: b1 :: b2 :: b3 :: b4 :: b5 :: a4 :: a5 :: τ,p ∈ a1 :: a2 :: a3 :: a4 :: a5 :: (τ ++ [b1,b2,b3,b4,b5]):=by
 intro p hp
 simp only [List.mem_cons,List.mem_append,List.not_mem_nil,or_false] at hp ⊢
 rcases hp with h | h | h | h | h | h | h | h | h | h | h <;> simp [h]
open kc in
theorem c_51 : s_51 w p loose mean mg mb dp un a A₀ base h₀ L m s QX2 vs sc c1 c2 c3 c4 c5 o1 o2 o3 o4 o5 restX2:=by
 intro B F X T hd hu ns hm hs hi hn d1 a1 a2 a3 a4 a5 N hret
 refine G_good (src_spec B F X T hd hu hm hs hi hn d1 ?w N ?_)
 case w=>exact ⟨Nat.ne_of_gt a2,Nat.ne_of_gt (Nat.lt_trans a2 a3),Nat.ne_of_gt (Nat.lt_trans (Nat.lt_trans a2 a3) a4),Nat.ne_of_gt (Nat.lt_trans (Nat.lt_trans (Nat.lt_trans a2 a3) a4) a5),Nat.ne_of_lt a1,trivial⟩
 intro S C cvs cc c t cs9 o1' h1 tk1 iv q1 q2 dd F1 N1 sC oS oC
 have Z : SepS c1 c2 c3 c4 c5 S C:=sepS_mk a1 a2 a3 a4 a5 sC oS oC
 clear N F oS oC
 refine G_good (ends0_spec B F1 X T hd hu N1 ?_)
 intro D oD h2 tk2 hdi hlo F2 N2 oD1
 refine G_good (due0_spec B F2 X T hd hu N2 ?_)
 intro du n0 h3 tk3 F3 N3 od1
 have N3' : News h₀ L h3 ((c1,o1') :: (S,srcObj C 0 t c) :: (C,listOf cvs.toArray cc) :: (D,oD) :: (du,listOf #[] n0) :: [(c2,o2),(c3,o3),(c4,o4),(c5,o5),(534,tabObj #[])]):=news_pick [4,2,3,1,0] 5 N3
 have oDt:=oD1.2.2.2
 have odt:=od1.2.2.2.2
 clear N1 F1 N2 F2 N3
 refine G_good (loop_spec B F3 X T hd hu dd iv q1 q2 (Int.le_refl 0) (by decide) (Z.ne 0 1 rfl) (Z.ne 0 3 rfl) (Z.ne 1 3 rfl) oD1.2.2.1.symm oD1.1.symm oD1.2.1.symm od1.2.2.2.1.symm od1.2.1.symm od1.2.2.1.symm od1.1.symm ?w oDt odt hlo rfl rfl hdi N3' ?_)
 case w=>exact ⟨(Z.ne 0 4 rfl).symm,(Z.ne 0 5 rfl).symm,(Z.ne 0 6 rfl).symm,(Z.ne 0 7 rfl).symm,(Z.ne 0 2 rfl).symm,trivial⟩
 intro m4 h4 tk4 n nl hn4 hm4 hJ F4 N4
 refine ex9 hJ fun k' t' c' oD4 kvs dvs n9 τ rows q9=>an11 q9 fun e90 hdi4 hR hda hrl hlr hk4 f1 f2 f3 f4=>?_
 clear q9 hJ
 subst e90
 have fx : ∀ i,(i = 2 ∨ i = 4 ∨ i = 5 ∨ i = 6 ∨ i = 7)→LCg.Off1 (keyL c1 c2 c3 c4 c5 S C i) τ:=fun i hi9=>off1_of fun q hq e=>by
  refine an6 (f4 q hq) fun y2 y3 y4 y5 y9 _=>?_
  rcases hi9 with rfl | rfl | rfl | rfl | rfl
  ·exact y9 e.symm
  ·exact y2 e.symm
  ·exact y3 e.symm
  ·exact y4 e.symm
  ·exact y5 e.symm
 have R : SepR c1 c2 c3 c4 c5 S C ((D,oD4) :: (du,listOf dvs.toArray n9) :: τ):=fun i hi9=>by
  match i,hi9 with
  | 0,_=>exact ⟨oD1.1.symm,od1.2.1.symm,f1⟩
  | 2,_=>exact ⟨oDt.2.2.2.2.1.symm,odt.2.2.2.2.1.symm,fx 2 (by decide)⟩
  | 4,_=>exact ⟨oDt.1.symm,odt.1.symm,fx 4 (by decide)⟩
  | 5,_=>exact ⟨oDt.2.1.symm,odt.2.1.symm,fx 5 (by decide)⟩
  | 6,_=>exact ⟨oDt.2.2.1.symm,odt.2.2.1.symm,fx 6 (by decide)⟩
  | 7,_=>exact ⟨oDt.2.2.2.1.symm,odt.2.2.2.1.symm,fx 7 (by decide)⟩
 exact hret m4 h4 tk4 S C cvs cc cs9 o1' k' t' c' D oD4 du kvs dvs n9 τ rows Z R iv q1 q2 dd (by omega) (by omega) ((hm4 "ends" (by decide) rfl).trans rfl) ((hm4 "due" (by decide) rfl).trans rfl) hdi4 hlo hR hda (by omega) hlr F4 (news_sub N4 mem_led)
theorem u52 : upto 52:=hk @c_51 u51 (by with_unfolding_all exact rfl)
open kc in
theorem partA {w p loose mean mg mb dp un a A₀ base h₀ L m s QX2 vs sc c1 c2 c3 c4 c5 o1 o2 o3 o4 o5 restX2} : s_51 w p loose mean mg mb dp un a A₀ base h₀ L m s QX2 vs sc c1 c2 c3 c4 c5 o1 o2 o3 o4 o5 restX2:=@hkT _ u52 (by k_extra "T") _ (by exact rfl)
end NW40
theorem dNW40 : True:=trivial
section NX12
open PySem.Calls
section
variable {prog : Program} {w : World} {A : Around} {R : Result→Shared→Prop} {s : Shared} {env : Env}
theorem turn2_outer (elt t1 t2 it1 it2 c : Expr) (scope : Scope) (pos : Pos) (it acc : Value) (env : Env) :
  compTurn (comp2 elt t1 t2 it1 it2 c scope pos) 0 it acc env = (do
   standAt it1.pos
   match ← pyNext it with
   | none=>pure (.done .next)
   | some v =>
    letOwnedTupleGo t1 it v
    assign t1 env v
    let mut ok:=true
    for c in ([] : List Expr) do
     if ok then ok ← isTrue c env (eval c env)
    if ok then
     let x ← eval it2 env
     standAt it2.pos
     let x ← foldedSetIterable it2 env x
     let _ ← runOwn (.compStart (comp2 elt t1 t2 it1 it2 c scope pos) 1 (← holding [x] (pyIter x)) acc env) env
    again (.compLoop (comp2 elt t1 t2 it1 it2 c scope pos) 0 it acc env)):=by rfl
theorem turn2_inner (elt t1 t2 it1 it2 c : Expr) (scope : Scope) (pos : Pos) (it acc : Value) (env : Env) :
  compTurn (comp2 elt t1 t2 it1 it2 c scope pos) 1 it acc env = (do
   standAt it2.pos
   match ← pyNext it with
   | none=>pure (.done .next)
   | some v =>
    letOwnedTupleGo t2 it v
    assign t2 env v
    let mut ok:=true
    for c in [c] do
     if ok then ok ← isTrue c env (eval c env)
    if ok then
     (do let _ ← call (.builtin "list.append") [acc,← eval elt env])
    again (.compLoop (comp2 elt t1 t2 it1 it2 c scope pos) 1 it acc env)):=by rfl
theorem mono_no {α : Type} {M : Model} {t : Sem α} {Q : α→Shared→Prop} {E : Value→Shared→Prop} (h : wpAny M A t Q noE s) : wpAny M A t Q E s:=wpAny_mono h (fun _ _ x=>x) fun _ _ x=>x.elim
theorem code2_outer {elt t1 t2 it1 it2 c : Expr} {scope : Scope} {pos : Pos} {it acc : Value} (I : Nat→Shared→Prop)
  (turn : ∀ n s,I n s→wpAny (model prog w) A (pyNext it) (fun r s₁=>match r with
   | none=>R (.ok .next) s₁
   | some v=>wpAny (model prog w) A (assign t1 env v) (fun _ s₂=>wpAny (model prog w) A (eval it2 env) (fun x s₃=>wpAny (model prog w) A (pyIter x) (fun i2 s₄ =>
     codeAny (model prog w) A (.compStart (comp2 elt t1 t2 it1 it2 c scope pos) 1 i2 acc env) (fun r s₅=>r = .ok .next∧∃ m,m < n∧I m s₅) s₄) noE s₃) noE s₂) noE s₁) noE s)
  (n : Nat) (h : I n s) (ht : ∀ v,letOwnedTupleGo t1 it v = pure ()) (hf : ∀ x,foldedSetIterable it2 env x = pure x) :
  codeAny (model prog w) A (.compLoop (comp2 elt t1 t2 it1 it2 c scope pos) 0 it acc env) R s:=by
 refine codeAny_loop rfl I (fun n s hI=>?_) n h
 show wpAny _ A ((compTurn (comp2 elt t1 t2 it1 it2 c scope pos) 0 it acc env).onRaise (fun x=>do noteFrame x env;theTreesLotGoes x)) _ _ s
 refine wpAny_noted (mono_no ?_)
 rw [turn2_outer]
 refine wpAny_bind (wpAny_standAt (wpAny_bind (wpAny_mono (turn n s hI) (fun r s₁ h₁=>?_) fun _ _ x=>x)))
 cases r with
 | none=>exact wpAny_pure h₁
 | some v =>
  refine wpAny_bind (wpAny_of_eq (ht v) ?_)
  refine wpAny_bind (wpAny_mono h₁ (fun _ s₂ h₂=>wpAny_bind (wpAny_tests_nil ?_)) fun _ _ x=>x)
  rw [if_pos rfl]
  refine wpAny_bind (wpAny_mono h₂ (fun x s₃ h₃=>wpAny_bind (wpAny_standAt (wpAny_bind (wpAny_of_eq (hf x) (wpAny_bind (wpAny_holding (wpAny_mono h₃ (fun i2 s₄ h₄=>wpAny_bind ?_) fun _ _ x=>x))))))) fun _ _ x=>x)
  refine wpAny_runOwn (h:=none) (codeAny_mono h₄ fun r s₅ z=>?_)
  obtain ⟨rfl,z⟩:=z
  exact wpAny_pure ⟨rfl,z⟩
theorem code2_inner {elt t1 t2 it1 it2 c : Expr} {scope : Scope} {pos : Pos} {it acc : Value} (I : Nat→Shared→Prop)
  (turn : ∀ n s,I n s→wpAny (model prog w) A (pyNext it) (fun r s₁=>match r with
   | none=>R (.ok .next) s₁
   | some v=>wpAny (model prog w) A (assign t2 env v) (fun _ s₂=>wpAny (model prog w) A (isTrue c env (eval c env)) (fun ok s₃ =>
     if ok = true then wpAny (model prog w) A (eval elt env) (fun x s₄=>wpAny (model prog w) A (call (.builtin "list.append") [acc,x]) (fun _ s₅=>∃ m,m < n∧I m s₅) noE s₄) noE s₃
     else ∃ m,m < n∧I m s₃) noE s₂) noE s₁) noE s)
  (n : Nat) (h : I n s) (ht : ∀ v,letOwnedTupleGo t2 it v = pure ()) :
  codeAny (model prog w) A (.compLoop (comp2 elt t1 t2 it1 it2 c scope pos) 1 it acc env) R s:=by
 refine codeAny_loop rfl I (fun n s hI=>?_) n h
 show wpAny _ A ((compTurn (comp2 elt t1 t2 it1 it2 c scope pos) 1 it acc env).onRaise (fun x=>do noteFrame x env;theTreesLotGoes x)) _ _ s
 refine wpAny_noted (mono_no ?_)
 rw [turn2_inner]
 refine wpAny_bind (wpAny_standAt (wpAny_bind (wpAny_mono (turn n s hI) (fun r s₁ h₁=>?_) fun _ _ x=>x)))
 cases r with
 | none=>exact wpAny_pure h₁
 | some v =>
  refine wpAny_bind (wpAny_of_eq (ht v) ?_)
  refine wpAny_bind (wpAny_mono h₁ (fun _ s₂ h₂=>wpAny_bind (wpAny_tests_one (wpAny_mono h₂ (fun ok s₃ h₃=>?_) fun _ _ x=>x))) fun _ _ x=>x)
  cases ok with
  | false=>exact wpAny_pure ⟨rfl,h₃⟩
  | true=>exact wpAny_bind (wpAny_bind (wpAny_mono h₃ (fun x s₄ h₄=>wpAny_bind (wpAny_mono h₄ (fun _ s₅ h₅=>wpAny_pure (wpAny_pure ⟨rfl,h₅⟩)) fun _ _ x=>x)) fun _ _ x=>x))
theorem start2_inner {elt t1 t2 it1 it2 c : Expr} {scope : Scope} {pos : Pos} {it acc : Value}
  (h0 : codeAny (model prog w) A (.compLoop (comp2 elt t1 t2 it1 it2 c scope pos) 1 it acc env) R s)
  (h : wpAny (model prog w) A (pyIter it) (fun it' s'=>codeAny (model prog w) A (.compLoop (comp2 elt t1 t2 it1 it2 c scope pos) 1 it' acc env) R s') noE s) :
  codeAny (model prog w) A (.compStart (comp2 elt t1 t2 it1 it2 c scope pos) 1 it acc env) R s:=by
 refine codeAny_of_tree ?_
 show wpAny _ _ ((compStart (comp2 elt t1 t2 it1 it2 c scope pos) 1 it acc env).onRaise (fun x=>do noteFrame x env;standAt theWindowsPlace)) _ _ s
 refine wpAny_notedAt (mono_no ?_)
 unfold compStart
 show wpAny _ _ (ask >>= _) _ _ s
 refine wpAny_bind (wpAny_askSetting (wpAny_ite ?_))
 split
 ·first
   | exact wpAny_bind (wpAny_pure (wpAny_pure (And.intro rfl h0)))
   | exact wpAny_pure (And.intro rfl h0)
 ·first
   | exact wpAny_bind (wpAny_rule (wpAny_bind (wpAny_standAt (wpAny_bind (wpAny_mono h (fun it' s' h'=>wpAny_pure (And.intro rfl h')) fun _ _ x=>x)))))
   | (refine wpAny_bind (wpAny_rule ?_);show wpAny _ _ (standAt it2.pos >>= _) _ _ s;exact wpAny_bind (wpAny_standAt (wpAny_bind (wpAny_mono h (fun it' s' h'=>wpAny_pure (And.intro rfl h')) fun _ _ x=>x))))
end
end NX12
section NX13
open PySem.Calls LCg
section
variable {prog : Program} {w : World} {A : Around} {s : Shared} {env : Env} {R : Result→Shared→Prop}
theorem pair_get {a b v : Value} {i : Nat} (h : i < 2) (hv : #[a,b][i]? = some v) : v = a ∨ v = b:=by
 rcases i with _ | _ | i
 ·exact .inl (Option.some.inj hv).symm
 ·exact .inr (Option.some.inj hv).symm
 ·omega
end
open kc in
theorem c_52 : s_52 A h prog w R cl s env C elt scope pos D t1X1 it1 it2 y py pe pn pc pk I2 T2 aX1 b ys m':=by
 intro kk tk helt hh hkind hy hyd ha hb hit htup n1 n2 n3 n4 n5 n6 hn hD hyl hR
 have W:=Walks.tuple (prog:=prog) (w:=w) hh I2 T2 n1 #[aX1,b]
 have loop : codeAny (model prog w) A (.compLoop (comp2 elt t1X1 (.Name y py) it1 it2 (.Compare (.Name y pn) [.IsNot] [.Constant .none kk pk] pc) scope pos) 1 (.ref I2) (.ref D) (compEnvC scope cl C env)) R { s with heap:=h,toks:=tk}:=by
  refine code2_inner (fun k s'=>∃ h' tk' i m'',s' = { s with heap:=h',toks:=tk'}∧i ≤ 2∧k = 3 - i∧h'.IsTupleIter I2 T2 i∧h'.IsTuple T2 #[aX1,b]∧h'.Ns C m''∧h'.get? D = some (lst (ys ++ ([aX1,b].take i).filter notNone))∧(∀ x o,x ≠ I2→x ≠ C→x ≠ D→h.get? x = some o→h'.get? x = some o)) ?_ 3
   ⟨h,tk,0,m',rfl,by omega,rfl,hit,htup,hn,by rw [show ys ++ ([aX1,b].take 0).filter notNone = ys from by simp];exact hD,fun _ _ _ _ _ e=>e⟩ (fun _=>rfl)
  intro k s' hJ9
  refine ex4 hJ9 fun h' tk' i m'' q9=>an8 q9 fun e90 hi e92 st1 st2 hn' hD' hk=>?_
  clear q9 hJ9
  subst e90
  subst e92
  by_cases hlt : i < 2
  ·refine W.item i _ _ _ hlt ⟨st1,st2⟩ fun v h₂ tk₂ hv hst₂ hk₂=>?_
   have k2 : ∀ x o,@Ne Nat x I2→h'.get? x = some o→h₂.get? x = some o:=fun x o e=>hk₂ x o (by simpa using e)
   refine wpAny_assign_Name (wpAny_storeName_local (lookup_relabel_local hy) (hn'.at' fun o e=>k2 _ o n2 e) (fun h₃ hn₃ hs₃=>?_) (by simp [compEnvC,relabel,hkind]))
   have hv9 : v = aX1 ∨ v = b:=pair_get hlt hv
   have hvo : OptV v:=hv9.elim (fun e=>e ▸ ha) fun e=>e ▸ hb
   have k3 : ∀ x o,@Ne Nat x C→h₂.get? x = some o→h₃.get? x = some o:=fun x o e=>hs₃.extBut x o e
   have hD₃:=k3 _ _ n6 (k2 _ _ n3 hD')
   have st3 : h₃.IsTupleIter I2 T2 (i + 1)∧h₃.IsTuple T2 #[aX1,b]:=⟨hst₂.1.at fun o e=>k3 _ o n2.symm e,hst₂.2.at fun o e=>k3 _ o n4.symm e⟩
   have hn3 : ∀ t,({ s with heap:=h₃,toks:=t} : Shared).heap.Ns (compEnvC scope cl C env).locals _:=fun _=>hn₃
   have tks : ([aX1,b].take (i + 1)).filter notNone = ([aX1,b].take i).filter notNone ++ (if notNone v then [v] else []):=by
    have:=take_succ_filter notNone [aX1,b] i v (by
     rw [← hv];simp)
    exact this
   have name : ∀ (p : Pos) (t : Nat) (Q' : Value→Shared→Prop),Q' v { s with heap:=h₃,toks:=t}→wpAny (model prog w) A (eval (.Name y p) (compEnvC scope cl C env)) Q' noE { s with heap:=h₃,toks:=t}:=fun p t Q' q =>
    wpAny_Name (wpAny_loadName_local (by simp [compEnvC,relabel,hkind]) (lookup_relabel_local hy) (hn3 t) (if_pos rfl) q) hyd
   have test : ∀ (t : Nat) (Q' : Bool→Shared→Prop),(∀ t',Q' (notNone v) { s with heap:=h₃,toks:=t'})→wpAny (model prog w) A (isTrue (.Compare (.Name y pn) [.IsNot] [.Constant .none kk pk] pc) (compEnvC scope cl C env) (eval (.Compare (.Name y pn) [.IsNot] [.Constant .none kk pk] pc) (compEnvC scope cl C env))) Q' noE { s with heap:=h₃,toks:=t}:=fun t Q' q=>by
    refine wpAny_isTrue_Compare1 (name _ _ _ ?_)
    rcases hvo with rfl | ⟨q9,rfl⟩
    ·k_steps
     exact q _
    ·k_steps
     exact q _
   refine test _ _ fun t'=>?_
   have yl : (ys ++ ([aX1,b].take i).filter notNone).length < 200:=by
    rw [List.length_append]
    have:=List.length_filter_le notNone ([aX1,b].take i)
    have:=List.length_take_le i [aX1,b]
    omega
   cases hvn : notNone v with
   | false =>
    rw [if_neg Bool.false_ne_true]
    refine ⟨3 - (i + 1),by omega,h₃,t',i + 1,_,rfl,hlt,rfl,st3.1,st3.2,hn₃,?_,fun x o e1 e2 e3 e=>k3 _ _ e2 (k2 _ _ e1 (hk x o e1 e2 e3 e))⟩
    rw [tks,hvn]
    simpa using hD₃
   | true =>
    rw [if_pos rfl,helt]
    refine name _ _ _ (append_at (hsz:=by rw [List.size_toArray,sizeLine_eq];exact Nat.le_trans (Nat.le_of_lt yl) (Nat.le_of_ble_eq_true rfl)) hD₃ fun h₅ hs₅ hD₅=>?_)
    refine ⟨3 - (i + 1),by omega,h₅,t',i + 1,_,rfl,hlt,rfl,st3.1.at fun o e=>hs₅.extBut _ o n3.symm e,st3.2.at fun o e=>hs₅.extBut _ o n5.symm e,hn₃.at' fun o e=>hs₅.extBut _ o n6.symm e,?_,fun x o e1 e2 e3 e=>hs₅.extBut x o e3 (k3 _ _ e2 (k2 _ _ e1 (hk x o e1 e2 e3 e)))⟩
    rw [tks,hvn,if_pos rfl,← List.append_assoc]
    exact hD₅.trans (congrArg some (lst_snoc _ v))
  ·obtain rfl : i = 2:=by omega
   refine W.done _ _ _ ⟨st1,st2⟩ fun h₂ tk₂ hk₂=>?_
   refine hR h₂ tk₂ m'' (hn'.at' fun o e=>hk₂ _ o (by simpa using n2) e) ?_ fun x o e1 e2 e3 e=>hk₂ _ _ (by simpa using e1) (hk x o e1 e2 e3 e)
   exact hk₂ _ _ (by simpa using n3) hD'
 exact start2_inner loop (W.self 0 _ _ _ ⟨hit,htup⟩ loop)
theorem u53 : upto 53:=hk @c_52 u52 (by with_unfolding_all exact rfl)
open kc in
theorem inner_pair {A h prog w R cl s env C elt scope pos D t1X1 it1 it2 y py pe pn pc pk I2 T2 aX1 b ys m'} : s_52 A h prog w R cl s env C elt scope pos D t1X1 it1 it2 y py pe pn pc pk I2 T2 aX1 b ys m':=@hkT _ u53 (by k_extra "T") _ (by exact rfl)
section
variable {prog : Program} {w : World} {A : Around} {s : Shared} {env : Env} {R : Result→Shared→Prop}
end
open kc in
theorem c_53 : s_53 A prog w cl h₀ L m xX1 env I news px elt scope pos it1 it2 y py pe pn pc pk s₂ ax its:=by
 intro kk ab RR helt hh hsz hab hcell hkind hx hy hyd hI hl hne F N hIL hI₀ off hax hopt step hf hRR
 refine wpAny_newObj_type (wpAny_newFunctionEnv hcell (by intro y hy;simp at hy) (fun h₁ hns₁ hsb₁=>?_) hkind)
 dsimp only at hns₁ hsb₁ ⊢
 generalize hH2 : s₂.heap.push { cls:=.type "list",dict:=none,data:=.seq ([] : List Value).toArray} = H2 at hns₁ hsb₁ ⊢
 have hC : H2.objs.size = s₂.heap.objs.size + 1:=by rw [← hH2,Heap.size_push]
 have hIlt : I < s₂.heap.objs.size:=by
  refine ex1 hI fun o q9=>an2 q9 fun e _=>?_
  clear q9 hI
  exact Heap.lt_size e
 have hold : ∀ b o,s₂.heap.get? b = some o→h₁.get? b = some o:=fun b o e=>hsb₁.extBut b o (by rw [hC];exact Nat.ne_of_lt (Nat.lt_succ_of_lt (Heap.lt_size e))) (Heap.get?_push_of_some _ (hH2 ▸ Heap.get?_push_of_some _ e))
 have hacc : h₁.get? s₂.heap.objs.size = some (lst []):=hsb₁.extBut _ _ (by rw [hC];exact Nat.ne_of_lt (Nat.lt_succ_self _)) (Heap.get?_push_of_some _ (hH2 ▸ Heap.get?_push_size _ rfl))
 have fresh₀ : ∀ a,s₂.heap.objs.size ≤ a→h₀.get? a = none:=fun a ha=>by
  cases e : h₀.get? a with
  | none=>rfl
  | some o'=>exact absurd (Heap.lt_size (F.keep a o' e)) (Nat.not_lt.mpr ha)
 rw [hC] at hns₁
 rw [← hC] at hf
 rw [← hC] at hns₁
 generalize hCe : H2.objs.size = C at *
 generalize hDe : s₂.heap.objs.size = D at *
 have hCD : @Ne Nat C D:=by rw [hC];exact Nat.succ_ne_self _
 have hCI : @Ne Nat I C:=by rw [hC];exact Nat.ne_of_lt (Nat.lt_succ_of_lt hIlt)
 have hDI : @Ne Nat I D:=Nat.ne_of_lt hIlt
 have hLlt : L < D:=hDe ▸ F.ns.lt
 have hDL : @Ne Nat D L:=Nat.ne_of_gt hLlt
 have hCL : @Ne Nat C L:=by rw [hC];exact Nat.ne_of_gt (Nat.lt_succ_of_lt hLlt)
 have hC₀ : h₀.get? C = none:=fresh₀ C (by rw [hC];exact Nat.le_succ _)
 have hD₀ : h₀.get? D = none:=fresh₀ D (Nat.le_refl _)
 have nlt : ∀ p ∈ news,p.1 < D:=fun p hp=>hDe ▸ Heap.lt_size (N p hp).1
 have nC : ∀ p ∈ news,p.1 ≠ C:=fun p hp=>by rw [hC];exact Nat.ne_of_lt (Nat.lt_succ_of_lt (nlt p hp))
 have nD : ∀ p ∈ news,p.1 ≠ D:=fun p hp=>Nat.ne_of_lt (nlt p hp)
 refine ex1 hax fun oax max=>?_
 clear hax
 have W:=Walks.list (prog:=prog) (w:=w) hh I ax hne its
 have loop : ∀ s₃ : Shared,s₃ = { s₂ with heap:=h₁,toks:=s₂.toks + ([] : List (Str × Value)).length} →
   codeAny (model prog w) A (.compLoop (comp2 elt (.Name xX1 px) (.Name y py) it1 it2 (.Compare (.Name y pn) [.IsNot] [.Constant .none kk pk] pc) scope pos) 0 (.ref I) (.ref D) (compEnvC scope cl C env)) (RR (.ref D) C) s₃:=by
  rintro s₃ rfl
  refine code2_outer (fun k s'=>∃ h' tk i m',s' = { s₂ with heap:=h',toks:=tk}∧i ≤ its.size∧k = its.size + 1 - i∧h'.IsListIter I ax i∧h'.IsList ax its∧Fr h₀ L h' m∧h'.Ns C m'∧News h₀ L h' ((D,lst ((ab.take i).flatMap selV)) :: news)) ?_ (its.size + 1)
   ⟨h₁,_,0,_,rfl,Nat.zero_le _,rfl,hI.at fun o e=>hold _ o e,hl.at fun o e=>hold _ o e,F.keeps hold,hns₁,fun p hp=>?_⟩ (fun _=>rfl) hf
  ·intro k s' hJ9
   refine ex4 hJ9 fun h' tk i m' q9=>an8 q9 fun e90 hi e92 st1 st2 F' hn' N'=>?_
   clear q9 hJ9
   subst e90
   subst e92
   by_cases hlt : i < its.size
   ·refine W.item i _ _ _ hlt ⟨st1,st2⟩ fun v h₂ tk₂ hv st₂ hk₂=>?_
    have k2 : ∀ xX1 o,@Ne Nat xX1 I→h'.get? xX1 = some o→h₂.get? xX1 = some o:=fun xX1 o e=>hk₂ xX1 o (by simpa using e)
    refine wpAny_assign_Name (wpAny_storeName_local (lookup_relabel_local hx) (hn'.at' fun o e=>k2 _ o hCI.symm e) (fun h₃ hn₃ hs₃=>?_) (by simp [compEnvC,relabel,hkind]))
    obtain ⟨p,hp⟩ : ∃ p,ab[i]? = some p:=⟨_,List.getElem?_eq_getElem (by rw [hab];exact hlt)⟩
    have k3 : ∀ xX1 o,@Ne Nat xX1 C→h₂.get? xX1 = some o→h₃.get? xX1 = some o:=fun xX1 o e=>hs₃.extBut xX1 o e
    refine ex1 (st₂.1) fun oI q9=>an2 q9 fun eI hoI=>?_
    clear q9
    refine ex1 (ns_obj hn₃) fun oC q9=>an2 q9 fun eC hoC=>?_
    clear q9
    have F₃ : Fr h₀ L h₃ m:=(fr_but F' (fun b o hb e=>k2 b o (fun z=>hb (z ▸ List.mem_singleton.mpr rfl)) e) hIL hI₀).change hs₃ hCL hC₀
    have N₃ : News h₀ L h₃ ((I,oI) :: (C,oC) :: (D,lst ((ab.take i).flatMap selV)) :: news):=fun q hq=>by
     rcases List.mem_cons.mp hq with rfl | hq
     ·exact ⟨k3 _ _ hCI eI,Ne.symm hIL,hI₀⟩
     ·rcases List.mem_cons.mp hq with rfl | hq
      ·exact ⟨eC,hCL,hC₀⟩
      ·have z:=N' q hq
       rcases List.mem_cons.mp hq with rfl | hq
       ·exact ⟨k3 _ _ hCD.symm (k2 _ _ hDI.symm z.1),z.2⟩
       ·exact ⟨k3 _ _ (nC q hq) (k2 _ _ (off q hq) z.1),z.2⟩
    refine step i v p hv hp I oI C oC D _ _ h₃ _ _ hoC (if_pos rfl) F₃ N₃ fun T2 nT h₄ tk₄ F₄ N₄ l4=>?_
    have hT:=(N₄ _ (.head _)).1
    refine wpAny_pyIter_tuple (t:=T2) (items:=#[p.1,p.2]) ⟨_,hT,rfl,nT,rfl⟩ ?_
    have up : ∀ b o,h₄.get? b = some o→(h₄.push { cls:=.type "tuple_iterator",data:=.fields #[.ref T2,.int 0 0]}).get? b = some o:=fun b o e=>Heap.get?_push_of_some _ e
    have lt4 : ∀ q ∈ (T2,({ cls:=.type "tuple",data:=.seq #[p.1,p.2] nT} : Obj)) :: (I,oI) :: (C,oC) :: (D,lst ((ab.take i).flatMap selV)) :: news,q.1 < h₄.objs.size:=fun q hq=>Heap.lt_size (N₄ q hq).1
    have hyl : ((ab.take i).flatMap selV).length < 100:=by
     have h1 : ∀ (l : List (Value × Value)),(l.flatMap selV).length ≤ 2 * l.length:=fun l=>by
      induction l with
      | nil=>exact Nat.le_refl _
      | cons q l ih =>
       rw [List.flatMap_cons,List.length_append,List.length_cons]
       have : (selV q).length ≤ 2:=List.length_filter_le _ _
       omega
     have:=h1 (ab.take i)
     have:=List.length_take_le i ab
     omega
    refine inner_pair (T2:=T2) (aX1:=p.1) (b:=p.2) (m':=_) helt hh hkind hy hyd (hopt p (List.mem_of_getElem? hp)).1 (hopt p (List.mem_of_getElem? hp)).2 ⟨_,Heap.get?_push_size _ rfl,rfl,rfl⟩ ⟨_,up _ _ hT,rfl,nT,rfl⟩ (Nat.ne_of_lt (lt4 _ (.head _))) (Nat.ne_of_lt (lt4 _ (.tail _ (.tail _ (.head _))))) (Nat.ne_of_lt (lt4 _ (.tail _ (.tail _ (.tail _ (.head _)))))) (Nat.ne_of_lt (l4 _ (.tail _ (.head _)))) (Nat.ne_of_lt (l4 _ (.tail _ (.tail _ (.head _))))) hCD.symm (hoC.ns (up _ _ (N₄ _ (.tail _ (.tail _ (.head _)))).1)) (up _ _ (N₄ _ (.tail _ (.tail _ (.tail _ (.head _))))).1) hyl fun h₅ tk₅ m₅ hn₅ hD₅ hk₅=>⟨rfl,?_⟩
    have old : ∀ q ∈ (I,oI) :: news,q.1 ≠ C→q.1 ≠ D→h₅.get? q.1 = some q.2:=fun q hq e1 e2=>by
     have hq4 : q ∈ (T2,({ cls:=.type "tuple",data:=.seq #[p.1,p.2] nT} : Obj)) :: (I,oI) :: (C,oC) :: (D,lst ((ab.take i).flatMap selV)) :: news:=by
      rcases List.mem_cons.mp hq with rfl | hq
      ·exact .tail _ (.head _)
      ·exact .tail _ (.tail _ (.tail _ (.tail _ hq)))
     exact hk₅ _ _ (Nat.ne_of_lt (lt4 q hq4)) e1 e2 (up _ _ (N₄ q hq4).1)
    have keep0 : ∀ b o,h₀.get? b = some o→h₅.get? b = some o:=fun b o e=>hk₅ b o (Nat.ne_of_lt (Heap.lt_size (F₄.keep b o e))) (fun z=>by rw [z,hC₀] at e;cases e) (fun z=>by rw [z,hD₀] at e;cases e) (up _ _ (F₄.keep b o e))
    refine ⟨its.size + 1 - (i + 1),by omega,h₅,tk₅,i + 1,m₅,rfl,hlt,rfl,⟨oI,old _ (.head _) hCI hDI,hoI⟩,?_,⟨F₄.ns.at' fun o e=>hk₅ _ o (Nat.ne_of_lt (Heap.lt_size e)) hCL.symm hDL.symm (up _ _ e),keep0,F₄.above⟩,hn₅,fun q hq=>?_⟩
    ·refine ex1 st2 fun o9 q9=>an2 q9 fun e9 c9=>?_
     clear q9 st2
     have hax9 : o9 = oax:=by
      have:=(N' _ (.tail _ max)).1
      rw [e9] at this
      exact Option.some.inj this
     exact ⟨o9,by rw [hax9];exact old (ax,oax) (.tail _ max) (nC _ max) (nD _ max),c9⟩
    ·rcases List.mem_cons.mp hq with rfl | hq
     ·refine ⟨?_,hDL,hD₀⟩
      rw [hD₅,List.take_add_one,hp]
      simp [List.flatMap_append]
     ·exact ⟨old q (.tail _ hq) (nC q hq) (nD q hq),(N q hq).2⟩
   ·obtain rfl : i = its.size:=Nat.le_antisymm hi (Nat.not_lt.mp hlt)
    refine W.done _ _ _ ⟨st1,st2⟩ fun h₂ tk₂ hk₂=>?_
    have k2 : ∀ xX1 o,@Ne Nat xX1 I→h'.get? xX1 = some o→h₂.get? xX1 = some o:=fun xX1 o e=>hk₂ xX1 o (by simpa using e)
    rw [← hab,List.take_length] at N'
    exact hRR D C h₂ tk₂ m' (fr_but F' (fun b o hb e=>k2 b o (fun z=>hb (z ▸ List.mem_singleton.mpr rfl)) e) hIL hI₀) (fun q hq=>by
     have z:=N' q hq
     rcases List.mem_cons.mp hq with rfl | hq
     ·exact ⟨k2 _ _ hDI.symm z.1,z.2⟩
     ·exact ⟨k2 _ _ (off q hq) z.1,z.2⟩) (Off3.one (Off3.of (I:=I) (C:=C) fun q hq=>⟨off q hq,nC q hq,nD q hq⟩)) (hn'.at' fun o e=>k2 _ o hCI.symm e) hC₀ hD₀ hCL hDL hCD nC
  ·rcases List.mem_cons.mp hp with rfl | hp
   ·exact ⟨hacc,hDL,hD₀⟩
   ·exact ⟨hold _ _ (N p hp).1,(N p hp).2⟩
 exact codeAny_compStart_list (loop _ rfl) (W.self 0 _ _ _ ⟨hI.at fun o e=>hold _ o e,hl.at fun o e=>hold _ o e⟩ (loop _ rfl))
theorem u54 : upto 54:=hk @c_53 u53 (by with_unfolding_all exact rfl)
open kc in
theorem block2 {A prog w cl h₀ L m xX1 env I news px elt scope pos it1 it2 y py pe pn pc pk s₂ ax its} : s_53 A prog w cl h₀ L m xX1 env I news px elt scope pos it1 it2 y py pe pn pc pk s₂ ax its:=@hkT _ u54 (by k_extra "T") _ (by exact rfl)
section
variable {prog : Program} {w : World} {A : Around} {s : Shared} {env : Env} {R : Result→Shared→Prop}
end
end NX13
section NW25
theorem lnNW25_1 : True:=by
 k_with "call ref" => ((fail_if_success have:=dNW25);first | k_extra "L13" | fail)
 exact True.intro
theorem tup_in {h₀ : Heap} {L : Addr} {h : Heap} {news : List (Addr × Obj)} {t : Addr} {xs : Array Value} {n : Nat} (N : News h₀ L h news) (hm : (t,({ cls:=.type "tuple",data:=.seq xs n} : Obj)) ∈ news) : IsTup h t xs:=⟨_,(N _ hm).1,rfl,n,rfl⟩
theorem lnNW25_2 : True:=by
 k_with "L84" => ((k_here;(with_reducible show wpAny _ _ (subscriptTail _ _ (Value.ref _) (Value.ref _)) _ _ _);k_dflt (refine slice_tuple_from (by k_asm) (by k_asm) (tup_in (by k_asm) (by first | k_mem | (repeat (first | assumption | refine List.mem_cons_of_mem _ ?_)))) (by decide) (Nat.le_of_ble_eq_true rfl) ?_ (by with_unfolding_all rfl) (by intro _;with_unfolding_all rfl) (by rw [sizeLine_eq];exact Nat.le_of_ble_eq_true rfl));intro _ _ _))
 k_with "subscriptTail Name Slice ref ref" => ((fail_if_success have:=dNW25);first | k_extra "L84" | fail)
 k_with "eval Name" => ((fail_if_success have:=dNW25);first | k_extra "L77" | fail)
 exact True.intro
theorem sel_dat {l : List (Addr × Obj)} {v1 v2 : Value} {o1 o2 : Option Pt} (h1 : DatIn l v1 (datO o1)) (h2 : DatIn l v2 (datO o2)) : OptV v1∧OptV v2∧DatAll l (selV (v1,v2)) (([o1,o2].filterMap id).map datP):=by
 have opt : ∀ {v : Value} {o : Option Pt},DatIn l v (datO o)→(o = none∧v = .none) ∨ ∃ z q,o = some z∧v = .ref q:=fun {v o} h=>by
  cases o with
  | none=>exact .inl ⟨rfl,dat_none h⟩
  | some z =>
   refine ex4 (dat_pt h) fun q _ _ _ q9=>an2 q9 fun e _=>?_
   clear q9
   exact .inr (ei2 z q ⟨rfl,e⟩)
 rcases opt h1 with ⟨rfl,rfl⟩ | ⟨z1,q1,rfl,rfl⟩ <;> rcases opt h2 with ⟨rfl,rfl⟩ | ⟨z2,q2,rfl,rfl⟩
 ·exact ⟨.inl rfl,.inl rfl,.nil⟩
 ·exact ⟨.inl rfl,.inr ⟨_,rfl⟩,.cons h2 .nil⟩
 ·exact ⟨.inr ⟨_,rfl⟩,.inl rfl,.cons h1 .nil⟩
 ·exact ⟨.inr ⟨_,rfl⟩,.inr ⟨_,rfl⟩,.cons h1 (.cons h2 .nil)⟩
theorem trip_in {l : List (Addr × Obj)} {v : Value} {r : Row} (h : DatIn l v (datR r)) : ∃ t n tg a b,v = .ref t∧(t,({ cls:=.type "tuple",data:=.seq #[.int r.1 tg,a,b] n} : Obj)) ∈ l∧DatIn l a (datO r.2.1)∧DatIn l b (datO r.2.2):=by
 refine ex3 (datT_inv h) fun q vs n q9=>an3 q9 fun e93 hm hd=>?_
 clear q9
 subst e93
 obtain ⟨v1,vs,rfl,h1,hd⟩:=datA_inv hd
 obtain ⟨v2,vs,rfl,h2,hd⟩:=datA_inv hd
 obtain ⟨v3,vs,rfl,h3,hd⟩:=datA_inv hd
 obtain rfl:=datA_nil hd
 refine ex1 (datI_inv h1) fun t1 e91=>?_
 subst e91
 exact ei5 _ _ _ _ _ ⟨rfl,hm,h2,h3⟩
theorem trips_of {l : List (Addr × Obj)} : ∀ {rows : List Row} {vs : List Value},DatAll l vs (rows.map datR)→∃ ab : List (Value × Value),ab.length = vs.length ∧
  (∀ (i : Nat) v p,vs[i]? = some v→ab[i]? = some p→∃ t n g tg,v = .ref t∧(t,({ cls:=.type "tuple",data:=.seq #[.int g tg,p.1,p.2] n} : Obj)) ∈ l)∧(∀ p ∈ ab,OptV p.1∧OptV p.2)∧DatAll l (ab.flatMap selV) ((ptsOf rows).map datP):=by
 intro rows
 induction rows with
 | nil =>
  intro vs h
  cases h
  exact ⟨[],rfl,fun i v p h=>(nomatch h),fun p h=>(nomatch h),.nil⟩
 | cons r rows ih =>
  intro vs h
  cases h with
  | cons h1 h2 =>
   refine ex5 (trip_in h1) fun t n tg a b q9=>an4 q9 fun e95 hm da db=>?_
   clear q9
   subst e95
   refine ex1 (ih h2) fun ab q9=>an4 q9 fun e1 e2 e3 e4=>?_
   clear q9
   refine an3 (sel_dat da db) fun o1 o2 o3=>?_
   refine ⟨(a,b) :: ab,by rw [List.length_cons,e1,List.length_cons],fun i v p hv hp=>?_,List.forall_mem_cons.mpr ⟨⟨o1,o2⟩,e3⟩,?_⟩
   ·cases i with
    | zero =>
     rw [← Option.some.inj hv,← Option.some.inj hp]
     exact ei4 t n r.1 tg ⟨rfl,hm⟩
    | succ i=>exact e2 i v p hv hp
   ·rw [List.flatMap_cons]
    show DatAll l _ ((([r.2.1,r.2.2].filterMap id) ++ ptsOf rows).map datP)
    rw [List.map_append]
    exact o3.append e4
open kc in
theorem c_54 : s_54 w p loose mean mg mb dp un a A₀ base h₀ L m s QX2 c1 c2 c3 c4 c5 σ du dvs:=by
 intro B F X T hd hu n rows hdu N hm hda hl hret
 refine ex1 (trips_of hda) fun ab q9=>an4 q9 fun a1 a2 a3 a4=>?_
 clear q9
 have hdl : dvs.length = rows.length:=by rw [hda.length,List.length_map]
 rw [show lawSt 7 = .Assign [.Name "points" _] (comp2 (.Name "point" _) (.Name "row" _) (.Name "point" _) _ _ (.Compare (.Name "point" _) [.IsNot] [.Constant .none _ _] _) _ _) _ from rfl]
 rw [exec_Assign_Name_used _ _ _ _ rfl]
 refine wpAny_bind (wpAny_standAt (wpAny_bind ?_))
 refine wpAny_bind (wpAny_mono (wpAny_comprehension_free (use:=some (assign (.Name "points" _) (envX "law" lawScope L a (.ref 536) [("octets",c5),("glyphs",c4),("data",c3),("ahead",c2),("source",c1)]))) (Q:=fun _ s'=>QX2 .next s') rfl (fun _=>rfl) rfl rfl (by decide) ?_) (fun _ s' hq=>wpAny_pure (wpAny_pure hq)) fun _ _ e=>e)
 show wpAny _ _ (eval (.Name "due" _) _) _ _ _
 refine nameX_L F hdu ?_
 have hl9 : s.heap.IsList du dvs.toArray:=News.isList N hm
 refine wpAny_pyIter_list hl9 ?_
 refine block2 (its:=dvs.toArray) (ab:=ab) (news:=σ) (h₀:=h₀) (L:=L) (m:=m) rfl rfl (by rw [List.size_toArray];omega) (by rw [a1,List.size_toArray]) (by decide) rfl rfl rfl (by decide) ⟨_,Heap.get?_push_size _ rfl,rfl,rfl⟩ (hl9.push _) (Nat.ne_of_lt (Heap.lt_size (N _ hm).1)) (F.push _) (N.grown fun _ _ e=>Heap.get?_push_of_some _ e) (Nat.ne_of_lt F.ns.lt) (next_is_new F) (fun p hp=>Nat.ne_of_lt (Heap.lt_size (N p hp).1)) ⟨_,hm⟩ a3 ?_ (fun _=>rfl) ?_
 ·intro i v p hv hp
  refine ex4 (a2 i v p (by simpa using hv) hp) fun t n2 g tg q9=>an2 q9 fun e94 hmt=>?_
  clear q9
  subst e94
  intro I oI C oC D ys m₂ h tk Q' hC hx F' N' hq
  clear N F
  walk_at "S2"
  rename_i h9 F9 N9
  exact hq _ _ _ _ F9 N9 fun p hp=>Nat.lt_succ_of_lt (Heap.lt_size (N' p hp).1)
 ·intro D C h tk m' F' N' o1 hn hC₀ hD₀ hCL hDL hCD offC
  show wpAny _ _ (assign (.Name "points" _) (envX "law" lawScope L a (.ref 536) [("octets",c5),("glyphs",c4),("data",c3),("ahead",c2),("source",c1)]) (.ref D)) _ _ _
  refine wpAny_assign_Name (wpAny_storeName_local rfl F'.ns (fun h₂ hn₂ hs₂=>?_) rfl)
  have hL₀ : h₀.get? L = none:=Heap.get?_none_of_le F'.above
  have F₂ : Fr h₀ L h₂ (fun z=>if z = "points" then some (.ref D) else m z):=⟨hn₂,fun b o e=>hs₂.extBut b o (fun q=>by rw [show b = L from q,hL₀] at e;cases e) (F'.keep b o e),F'.above⟩
  refine ⟨m',hn.sameBut hs₂ hCL,fun h'' hs''=>hret D _ (ab.flatMap selV).length h'' _ a4 (F₂.change hs'' hCL hC₀) (fun p hp=>?_) o1⟩
  have z : h₂.get? p.1 = some p.2:=hs₂.extBut _ _ (N' p hp).2.1 (N' p hp).1
  refine ⟨hs''.extBut _ _ ?_ z,(N' p hp).2⟩
  rcases List.mem_cons.mp hp with rfl | hp
  ·exact Ne.symm hCD
  ·exact offC p hp
theorem u55 : upto 55:=hk @c_54 u54 (by with_unfolding_all exact rfl)
open kc in
theorem pts2_spec {w p loose mean mg mb dp un a A₀ base h₀ L m s QX2 c1 c2 c3 c4 c5 σ du dvs} : s_54 w p loose mean mg mb dp un a A₀ base h₀ L m s QX2 c1 c2 c3 c4 c5 σ du dvs:=@hkT _ u55 (by k_extra "T") _ (by exact rfl)
end NW25
theorem dNW25 : True:=trivial
section NX14
open PySem.Calls
section
variable {prog : Program} {w : World} {A : Around} {E : Value→Shared→Prop} {s : Shared} {a : Addr}
theorem perm_keys {es : List (Int × Value)} {D : List (List UInt8)} (h : (es.map fun e=>keyB e.2).Perm D) : es.length = D.length:=by
 rw [← h.length_eq,List.length_map]
theorem key_is {k : List UInt8} {v : Value} (h : (bytesKind prog w).is k v = true) : keyB v = k:=by
 refine ex1 (isBytes_shape h) fun t e91=>?_
 subst e91
 rfl
theorem is_key {es : List (Int × Value)} (hel : ElemsOf (bytesKind prog w) es) {e : Int × Value} (he : e ∈ es) (k : List UInt8) : (bytesKind prog w).is k e.2 = decide (keyB e.2 = k):=by
 refine an2 (hel e he) fun e90 _=>?_
 obtain ⟨k',hk',_⟩:=e90
 rw [(bytesKind prog w).is_eq_decide hk' k,key_is hk']
 exact decide_eq_decide.mpr ⟨fun h=>h.symm,fun h=>h.symm⟩
theorem orStandIn_led (t : SetTable) (n : Nat) : (t.orStandIn n).led = t.led∧(t.plain = false→(t.orStandIn n).plain = false):=by
 unfold SetTable.orStandIn
 split
 ·exact ⟨rfl,id⟩
 ·exact ⟨rfl,fun _=>rfl⟩
theorem layNew_led (t : SetTable) (es : Array (Int × Value)) (h : Int) (x : Value) : (layNew t es h x).2.1.led = t.led∧(t.plain = false→(layNew t es h x).2.1.plain = false):=by
 unfold layNew
 rcases t.freeSlot h with _ | ⟨slot,wd⟩
 ·exact ⟨rfl,fun _=>rfl⟩
 ·have:=orStandIn_led (t.put slot).1 (SetTable.insertAt es (t.put slot).2 (h,x)).size
  exact ⟨this.1,this.2⟩
theorem relaid_led {t t' : SetTable} {hs : Array Int} {n : Nat} {o : Array Nat} (h : t.relaid hs n = some (t',o)) : t'.led = t.led∧t'.plain = t.plain:=by
 unfold SetTable.relaid SetTable.laid at h
 refine ex1 (Option.bind_eq_some_iff.mp h) fun ow q9=>an2 q9 fun _ h2=>?_
 clear q9
 have h3:=Option.some.inj h2
 have:=(Prod.mk.inj h3).1
 rw [← this]
 exact ⟨rfl,rfl⟩
theorem relayAll_led (t : SetTable) (es : Array (Int × Value)) (n : Nat) : (relayAll t es n).2.1.led = t.led∧(t.plain = false→(relayAll t es n).2.1.plain = false):=by
 unfold relayAll
 cases h : t.relaid (es.map (·.1)) n with
 | none=>exact ⟨rfl,fun _=>rfl⟩
 | some to =>
  obtain ⟨t',o⟩:=to
  refine an2 (relaid_led h) fun h1 h2=>?_
  dsimp only
  split
  ·exact ⟨h1,fun h=>h2.trans h⟩
  ·exact ⟨rfl,fun _=>rfl⟩
theorem bset0_ok : BSet prog w (bset0 w) []:=⟨⟨#[],0,_,⟨rfl,rfl,rfl⟩,rfl,fun e he=>by simp at he,.rfl,by rfl,rfl,.inl rfl⟩,.nil,by decide⟩
theorem bset_new {Q : Value→Shared→Prop} (h : Q (.ref s.heap.objs.size) { s with heap:=s.heap.push (bset0 w)}) : wpAny (model prog w) A (newSet (.type "set")) Q E s:=by
 unfold newSet setsByText
 refine wpAny_bind (wpAny_bind (wpAny_askSetting (wpAny_pure ?_)))
 dsimp only
 simp only [newObj]
 exact wpAny_bind (wpAny_alloc (wpAny_pure h))
theorem store_at {o : Obj} {es : Array (Int × Value)} {ep : Nat} {t : SetTable} (ho : s.heap.get? a = some o) (hex : o.ExactSet) (hd : o.data = .set es ep t) (es' : Array (Int × Value)) (t' : SetTable) (hz : es'.size < 2000) {Q : Unit→Shared→Prop}
  (h : ∀ h',Heap.SameBut a s.heap h'→h'.get? a = some { o with data:=.set es' (ep + 1) t'}→Q () { s with heap:=h'}) : wpAny (model prog w) A (storeSet a es' t') Q E s:=by
 have hg : (s.heap.update a (Obj.putSet es' t')).get? a = some { o with data:=.set es' (ep + 1) t'}:=by
  have:=Heap.get?_update_self (Obj.putSet es' t') ho (by rw [putSet_of es' t' hd];rfl)
  rw [putSet_of es' t' hd] at this;exact this
 refine wpAny_storeSet_of ho hd (h _ (Heap.SameBut.update _ a _) hg) ?_
 rw [sizeLine_eq]
 exact Nat.le_trans (Nat.le_of_lt hz) (Nat.le_of_ble_eq_true rfl)
theorem addD_nodup {D : List (List UInt8)} {k : List UInt8} (h : D.Nodup) : (addD D k).Nodup:=by
 unfold addD
 split
 ·exact h
 ·rename_i hk
  exact List.nodup_append.mpr ⟨h,List.nodup_cons.mpr ⟨List.not_mem_nil,.nil⟩,fun x hx y hy e=>hk (by rw [← List.mem_singleton.mp hy,← e];exact hx)⟩
theorem addD_len {D : List (List UInt8)} {k : List UInt8} : (addD D k).length ≤ D.length + 1:=by
 unfold addD
 split
 ·omega
 ·rw [List.length_append];exact Nat.le_refl _
end
open kc in
theorem c_55 : s_55 A E prog w a s tx o:=by
 intro D k Q ho hS hroom h
 obtain ⟨⟨es,ep,t,hex,hd,hel,hp,hf,hled,hpl⟩,hnd,hfew⟩:=hS
 have hkey : (bytesKind prog w).is k (.bytes k.toArray tx) = true:=bytesKind_is _ _ _ _
 have hsz : es.size = D.length:=by rw [← Array.length_toList];exact perm_keys hp
 have hb : es.size < scanBound:=by rw [hsz];unfold scanBound;omega
 unfold setAddHashed setAddHashedIn
 refine wpAny_holding (wpAny_bind (wpAny_setState_of ho hd hf ?_))
 dsimp only
 rw [byScan_of (x:=.bytes k.toArray tx) rfl hb hel]
 rw [if_pos rfl]
 unfold setAddByScan
 refine wpAny_bind ?_
 refine wpAny_bind (wpAny_rule ?_)
 refine wpAny_bind (wpAny_setScan_of hkey ho hd hf hel ?_)
 cases hr : List.findIdx? (fun e=>(bytesKind prog w).is k e.2) es.toList with
 | some j =>
  dsimp only
  obtain ⟨hj,hpj,_⟩:=List.findIdx?_eq_some_iff_getElem.mp hr
  have hkD : k ∈ D:=hp.mem_iff.mp (List.mem_map.mpr ⟨es.toList[j],List.getElem_mem hj,key_is hpj⟩)
  refine wpAny_pure (wpAny_pure ?_)
  have e : s = { s with heap:=s.heap}:=by cases s;rfl
  rw [e]
  refine h s.heap o _ (Heap.SameBut.refl a s.heap) ho ?_
  rw [addD,if_pos hkD]
  exact ⟨(ei3 es ep t ⟨hex,hd,hel,hp,hf,hled,hpl⟩),hnd,hfew⟩
 | none =>
  dsimp only
  have hkD : k ∉ D:=fun hm=>by
   refine ex1 (List.mem_map.mp (hp.mem_iff.mpr hm)) fun e q9=>an2 q9 fun he hke=>?_
   clear q9
   have:=List.findIdx?_eq_none_iff.mp hr e he
   rw [is_key hel he,decide_eq_false_iff_not] at this
   exact this hke
  have hgw : ∀ (b : Bool) {s₁ : Shared} {Q' : Unit→Shared→Prop},Q' () s₁→wpAny (model prog w) A (match b with | true=>rule "set.scan.the-table-gave-way" | false=>pure ()) Q' E s₁ :=
   fun b s₁ Q' hq=>by cases b <;> first | exact wpAny_pure hq | exact wpAny_rule hq
  have hperm:=layNew_perm t es ((bytesKind prog w).hash k) (.bytes k.toArray tx)
  have hfits:=layNew_fits t es ((bytesKind prog w).hash k) (.bytes k.toArray tx)
  have hl:=layNew_led t es ((bytesKind prog w).hash k) (.bytes k.toArray tx)
  generalize layNew t es ((bytesKind prog w).hash k) (.bytes k.toArray tx) = LN at hperm hfits hl ⊢
  obtain ⟨es1,t1,wasDummy,gave⟩:=LN
  dsimp only at hperm hfits hl ⊢
  rw [Array.toList_push] at hperm
  have hel1 : ElemsOf (bytesKind prog w) es1.toList:=(hel.push hkey rfl).perm hperm
  have hp1 : (es1.toList.map fun e=>keyB e.2).Perm (addD D k):=by
   refine (hperm.map _).trans ?_
   rw [List.map_append,addD,if_neg hkD]
   exact hp.append_right _
  have hs1 : es1.size < 2000:=by
   rw [← Array.length_toList,perm_keys hp1]
   have:=addD_len (D:=D) (k:=k)
   omega
  have fin : ∀ (t2 : SetTable),t2.fits es1.size = true→t2.led = t.led→t2.plain = false→wpAny (model prog w) A (do
    storeSet a es1 t2
    if (!wasDummy && t2.tooFull) = true then do
      (match (relayAll t2 es1 (SetTable.grown es1.size)).2.2 with | true=>rule "set.scan.the-table-gave-way" | false=>pure ())
      storeSet a (relayAll t2 es1 (SetTable.grown es1.size)).1 (relayAll t2 es1 (SetTable.grown es1.size)).2.1
      pure (some true)
     else pure (some true)) (fun r s'=>wpAny (model prog w) A (match r with | some added=>pure added | none=>setAddHashedIn a (.bytes k.toArray tx) ((bytesKind prog w).hash k) 99999) Q E s') E s:=fun t2 hf2 hl2 hpl2=>by
   refine wpAny_bind (store_at ho hex hd es1 t2 hs1 fun h1 hsb1 ho1=>?_)
   split
   ·have hpr:=relayAll_perm t2 es1 (SetTable.grown es1.size)
    have hfr:=relayAll_fits t2 es1 (SetTable.grown es1.size)
    have hlr:=relayAll_led t2 es1 (SetTable.grown es1.size)
    generalize relayAll t2 es1 (SetTable.grown es1.size) = Rl at hpr hfr hlr ⊢
    obtain ⟨es2,t3,gave2⟩:=Rl
    dsimp only at hpr hfr hlr ⊢
    have hs2 : es2.size < 2000:=by rw [← Array.length_toList,hpr.length_eq,Array.length_toList];exact hs1
    refine wpAny_bind (hgw _ ?_)
    refine wpAny_bind (store_at (s:={ s with heap:=h1}) ho1 (by exact hex) rfl es2 t3 hs2 fun h2 hsb2 ho2=>?_)
    refine wpAny_pure (wpAny_pure (h h2 _ _ (hsb1.trans hsb2) ho2 ⟨(ei3 es2 _ t3 ⟨by exact hex,rfl,hel1.perm hpr,(hpr.map _).trans hp1,hfr,(hlr.1.trans hl2).trans hled,.inr (hlr.2 hpl2)⟩),addD_nodup hnd,by have:=addD_len (D:=D) (k:=k);omega⟩))
   ·exact wpAny_pure (wpAny_pure (h h1 _ _ hsb1 ho1 ⟨(ei3 es1 _ t2 ⟨by exact hex,rfl,hel1,hp1,hf2,hl2.trans hled,.inr hpl2⟩),addD_nodup hnd,by have:=addD_len (D:=D) (k:=k);omega⟩))
  refine wpAny_bind (hgw _ ?_)
  split
  ·refine wpAny_bind ?_
   rw [hashByValue_scannable 8 (x:=.bytes k.toArray tx) rfl]
   refine wpAny_pure ?_
   exact fin _ (SetTable.fits_plain_off hfits) hl.1 rfl
  ·rename_i hpl1
   refine wpAny_bind (wpAny_pure ?_)
   exact fin _ hfits hl.1 (by simpa using hpl1)
theorem u56 : upto 56:=hk @c_55 u55 (by with_unfolding_all exact rfl)
open kc in
theorem bset_addHashed {A E prog w a s tx o} : s_55 A E prog w a s tx o:=@hkT _ u56 (by k_extra "T") _ (by exact rfl)
section
variable {prog : Program} {w : World} {A : Around} {E : Value→Shared→Prop} {s : Shared} {a : Addr}
end
end NX14
section NX15
open PySem.Calls
theorem foldD_snoc (ks : List (List UInt8)) (k : List UInt8) : foldD (ks ++ [k]) = addD (foldD ks) k:=by unfold foldD;rw [List.foldl_append];rfl
theorem foldD_len : ∀ (ks : List (List UInt8)) (D : List (List UInt8)),(ks.foldl addD D).length ≤ D.length + ks.length:=by
 intro ks
 induction ks with
 | nil=>exact fun D=>Nat.le_refl _
 | cons k ks ih =>
  intro D
  rw [List.foldl_cons,List.length_cons]
  have h1:=ih (addD D k)
  have h2:=addD_len (D:=D) (k:=k)
  omega
section
variable {prog : Program} {w : World} {A : Around} {E : Value→Shared→Prop} {s : Shared} {a : Addr}
theorem BSet.typeIs {o : Obj} {D : List (List UInt8)} (hS : BSet prog w o D) (ho : s.heap.get? a = some o) : s.TypeIs (.ref a) "set" := by
 obtain ⟨⟨_,_,_,hex,_⟩,_⟩:=hS
 exact ⟨o,ho,hex.1⟩
theorem bset_setAdd {o : Obj} {D : List (List UInt8)} {k : List UInt8} {tx : Tok} {Q : Bool→Shared→Prop} (ho : s.heap.get? a = some o) (hS : BSet prog w o D) (hroom : D.length + 1 < 1000)
  (h : ∀ h' o' r,Heap.SameBut a s.heap h'→h'.get? a = some o'→BSet prog w o' (addD D k)→Q r { s with heap:=h',toks:=s.toks + 1}) :
  wpAny (model prog w) A (setAdd a (.bytes k.toArray tx)) Q E s:=by
 unfold setAdd
 refine wpAny_holding (wpAny_bind ((bytesKind prog w).pyHash (k:=k) (bytesKind_is _ _ _ _) ?_))
 exact bset_addHashed (s:={ s with toks:=s.toks + 1}) ho hS hroom h
theorem bset_method {o : Obj} {D : List (List UInt8)} {pl : Sem Bool} {Q : Value × List Value→Shared→Prop} (ho : s.heap.get? a = some o) (hS : BSet prog w o D) (h : Q (.builtin "set.add",[.ref a]) s) :
  wpAny (model prog w) A (getMethod (.ref a) "add" pl) Q E s :=
 getMethod_builtin (hS.typeIs ho) F.plainAttrs_set F.slot_set_add F.type_set_add (fun b e=>by
  injection e with e
  subst e
  obtain ⟨⟨_,_,_,hex,_⟩,_⟩:=hS
  exact ⟨o,ho,hex.2.1⟩) h
theorem bset_callAdd {o : Obj} {D : List (List UInt8)} {k : List UInt8} {tx : Tok} {Q : Value→Shared→Prop} (ho : s.heap.get? a = some o) (hS : BSet prog w o D) (hroom : D.length + 1 < 1000)
  (h : ∀ h' o',Heap.SameBut a s.heap h'→h'.get? a = some o'→BSet prog w o' (addD D k)→Q .none { s with heap:=h',toks:=s.toks + 1}) :
  wpAny (model prog w) A (call (.builtin "set.add") [.ref a,.bytes k.toArray tx]) Q E s:=by
 refine wpAny_call_entry F.slot_set_add (hS.typeIs ho) F.entry_set_add ?_ (F.args_set_add_2 _ _)
 unfold Builtin.«set.add» Builtin.Frozenset.oneOther
 simp only [List.isEmpty_nil,bind_assoc]
 unfold Builtin.Frozenset.addrOf
 refine wpAny_bind (wpAny_pure ?_)
 try dsimp only
 refine wpAny_bind (wpAny_pure ?_)
 try dsimp only
 refine wpAny_bind ?_
 refine bset_setAdd ho hS hroom fun h' o' r hsb ho' hS'=>?_
 show wpAny _ _ (ret Value.none) _ _ _
 exact wpAny_pure ⟨_,rfl,h h' o' hsb ho' hS'⟩
end
section
variable {prog : Program} {w : World} {A : Around} {R : Result→Shared→Prop} {I : Addr} {fp wr : List Addr} {G : Array GenState→Array GenState→Prop} {n : Nat} {P : Nat→Value→Prop} {St : Nat→Shared→Prop}
theorem bset_loop (W : WalksS prog w A.in1 I fp wr G n P St) (S : Addr) (hSf : S ∉ fp) (ks : List (List UInt8)) (hkl : ks.length = n) (hval : ∀ i v,P i v→∃ t k,ks[i]? = some k∧v = .bytes k.toArray t) (hb : n < 500) :
  ∀ (k i : Nat) (s : Shared) (o : Obj),n - i = k→i ≤ n→St i s→s.heap.get? S = some o→BSet prog w o (foldD (ks.take i)) →
   (∀ s' o',Moved (S :: wr) G s s'→s'.heap.get? S = some o'→BSet prog w o' (foldD ks)→R (.ok (.ret .none)) s') →
   codeAny (model prog w) A (.builtin "set.update.loop" ⟨[.ref S,.ref I],[]⟩) R s:=by
 have hSw : S ∉ wr:=fun h=>hSf (W.sub _ h)
 have hsub : ∀ b ∈ wr,b ∈ S :: wr:=fun b hb=>List.mem_cons_of_mem _ hb
 intro k
 induction k with
 | zero =>
  intro i s o hk hi hst ho hS hR
  have hin : i = n:=by omega
  subst hin
  refine codeAny_builtin F.entry_set_update_loop ?_
  rw [Around.under_plainId F.plain_set_update_loop _]
  show wpAny _ A.in1 (pyNext (.ref I) >>= _) _ _ s
  refine wpAny_bind (W.done s _ _ hst fun s' hm=>?_)
  show wpAny _ A.in1 (ret Value.none) _ _ s'
  rw [← hkl,List.take_length] at hS
  exact wpAny_pure (hR s' o (hm.mono hsub) (hm.heap S _ hSw ho) hS)
 | succ k ih =>
  intro i s o hk hi hst ho hS hR
  have hlt : i < n:=by omega
  refine codeAny_builtin F.entry_set_update_loop ?_
  rw [Around.under_plainId F.plain_set_update_loop _]
  show wpAny _ A.in1 (pyNext (.ref I) >>= _) _ _ s
  refine wpAny_bind (W.item i s _ _ hlt hst fun v s' hP hst' hm=>?_)
  refine ex2 (hval i v hP) fun t k9 q9=>an2 q9 fun hk9 e93=>?_
  clear q9
  subst e93
  show wpAny _ A.in1 (holding [Value.bytes k9.toArray t] (setAdd S (.bytes k9.toArray t)) >>= _) _ _ s'
  refine wpAny_bind (wpAny_holding ?_)
  have hroom : (foldD (ks.take i)).length + 1 < 1000:=by
   have h1:=foldD_len (ks.take i) []
   have h2:=List.length_take_le i ks
   have h3 : (foldD (ks.take i)).length ≤ 0 + (ks.take i).length:=h1
   omega
  refine bset_setAdd (hm.heap S _ hSw ho) hS hroom fun h' o' r hsb ho' hS2=>?_
  have hSi : BSet prog w o' (foldD (ks.take (i + 1))):=by
   rw [List.take_add_one,hk9]
   show BSet prog w o' (foldD (ks.take i ++ [k9]))
   rw [foldD_snoc]
   exact hS2
  refine wpAny_pure ⟨plainId_quiet F.plain_set_update_loop _,ih (i + 1) _ o' (by omega) hlt (W.frame _ s' _ _ hst' (Nat.le_succ _) fun b hb o e=>?_) ho' hSi fun s'' o'' hm'' ho'' hS''=>?_⟩
  ·rw [hsb.2 b (fun h : b = S=>hSf (by rw [← h];exact hb))];exact e
  ·refine hR s'' o'' (Moved.trans W.gtrans ((hm.mono hsub).then_heap (Nat.le_succ _) fun b o hb e=>?_) hm'') ho'' hS''
   rw [hsb.2 b (fun h : b = S=>hb (by rw [h];exact List.mem_cons_self))];exact e
end
section
variable {prog : Program} {w : World} {A : Around} {E : Value→Shared→Prop} {s : Shared}
theorem code_bset_new (a : Value) {Q₁ : Value→Shared→Prop} (h : Q₁ (.ref s.heap.objs.size) { s with heap:=s.heap.push (bset0 w)}) :
  codeAny (model prog w) A (.call (.builtin "set.__new__") ⟨[.type "set",a],[]⟩) (wants Q₁ E) s:=by
 refine codeAny_of_tree ?_
 show wpAny _ A.in1 (do checkBuiltinCall "set.__new__" ⟨[.type "set",a],[]⟩;again (.builtin "set.__new__" ⟨[.type "set",a],[]⟩)) _ _ s
 refine wpAny_bind (wpAny_of_eq (F.newCall_set_1 a) (wpAny_pure ⟨plainId_quiet F.plain_set_new _,codeAny_builtin F.entry_set_new ?_⟩))
 rw [Around.under_plainId F.plain_set_new _]
 unfold Builtin.«set.__new__» Builtin.Frozenset.newClass
 have hsub:=sub_set_self
 obtain ⟨hp,g,d,tk,os⟩:=s
 dsimp only
 generalize hns : newSet = NS
 wp_walk
 subst hns
 exact bset_new (wpAny_pure h)
end
open kc in
theorem c_56 : s_56 A E prog w s QX1 l items:=by
 intro ks hh hl hkl hi hb h
 refine ex2 (F.called_set.mro) fun c tl hmro=>?_
 have hmade:=F.called_set.made
 have hsub:=F.called_set.sub
 refine wpAny_call (codeAny_of_tree ?_)
 show wpAny _ _ (callAny (.type "set") _) _ _ _
 refine wpAny_pure ⟨Code.quiet_builtin _ (by decide +kernel),codeAny_builtin F.entry_type_call ?_⟩
 rw [Around.under_plain (weight_type_call_type "set" [.ref l] []) rfl]
 have h1:=F.called_set.notType
 have h2:=F.called_set.canCreate
 have hct:=F.typeCall_set_1 (.ref l)
 repeat (any_goals (first | assumption | wp_step))
 refine codeAny_mono (code_bset_new (.ref l) (E:=E) (Q₁:=fun obj s₁=>obj = .ref s.heap.objs.size∧s₁ = { s with heap:=s.heap.push (bset0 w)}) ⟨rfl,rfl⟩) fun r s₁ hr=>?_
 cases r with
 | error e=>exact hr
 | ok fl =>
  cases fl with
  | ret obj =>
   refine an2 hr fun e90 e91=>?_
   clear hr
   subst e90
   subst e91
   have hS : (s.heap.push (bset0 w)).get? s.heap.objs.size = some (bset0 w):=Heap.get?_push_size _ rfl
   have hT : Shared.TypeIs { s with heap:=s.heap.push (bset0 w)} (.ref s.heap.objs.size) "set" := ⟨_,hS,rfl⟩
   have hli:=F.called_set.init.lookup
   have hbi:=F.called_set.init.bind (.ref s.heap.objs.size)
   repeat (any_goals (first | assumption | wp_step))
   refine codeAny_mono (codeAny_call_builtin (R:=wants (fun r s₂=>r = .none∧∃ h' tk o,s₂ = { s with heap:=h',toks:=tk}∧h'.get? s.heap.objs.size = some o∧BSet prog w o (foldD ks) ∧
     (∀ b o,b < s.heap.objs.size→s.heap.get? b = some o→h'.get? b = some o)) E) F.called_set.init.plain F.entry_set_init (check_set_init_1 hT ?_)) fun r₂ s₂ hr₂=>?_
   ·obtain ⟨ol,hol,hcl,nl,hdl⟩:=hl
    obtain ⟨ocls,odict,odata,oslots⟩:=ol
    simp only at hcl hdl
    subst hcl;subst hdl
    have hol' : (s.heap.push (bset0 w)).get? l = some { cls:=.type "list",dict:=odict,data:=.seq items nl,slots:=oslots}:=Heap.get?_push_of_some _ hol
    have hsls:=F.sub_list_set
    have hslf:=F.sub_list_frozenset
    have hne : (Value.type "list" == Value.type "dict") = false:=by decide
    have hl1 : (s.heap.push (bset0 w)).IsList l items:=⟨_,hol',rfl,nl,rfl⟩
    unfold Builtin.«set.__init__» noKeywords Builtin.Frozenset.updateFrom
    generalize hPI : pyIter = PI
    wp_walk
    subst hPI
    refine wpAny_pyIter_list hl1 ?_
    refine wpAny_bind (wpAny_runValue ?_)
    have hlS : l < s.heap.objs.size:=Heap.lt_size hol
    have hh3 : A.in1.in1.in1.handled = none:=by simp [hh]
    have hneI : l ≠ (s.heap.push (bset0 w)).objs.size:=by
     rw [Heap.size_push];exact Nat.ne_of_lt (Nat.lt_succ_of_lt hlS)
    have hSf : s.heap.objs.size ∉ [(s.heap.push (bset0 w)).objs.size,l]:=by
     rw [Heap.size_push];simp only [List.mem_cons,List.mem_singleton,List.not_mem_nil,or_false,not_or]
     exact ⟨Nat.ne_of_lt (Nat.lt_succ_self _),Nat.ne_of_gt hlS⟩
    refine bset_loop ((Walks.list hh3 _ l hneI items).toS) s.heap.objs.size hSf ks hkl hi hb (items.size - 0) 0 _ (bset0 w) (by omega) (Nat.zero_le _)
     ⟨⟨_,Heap.get?_push_size _ rfl,rfl,rfl⟩,(hl1.push _)⟩ (Heap.get?_push_of_some _ hS) bset0_ok ?hR
    case hR =>
     intro s' o' hm ho' hS'
     obtain ⟨h',g',d',tk',os'⟩:=s'
     have eg : g' = s.gens:=hm.gens
     have ed : d' = s.drawn:=hm.drawn
     have eo : os' = s.os:=hm.os
     subst eg;subst ed;subst eo
     show wpAny _ _ _ _ _ _
     refine wpAny_pure ?_
     show wpAny _ _ (ret Value.none) _ _ _
     refine wpAny_pure ⟨rfl,h',tk',o',rfl,ho',hS',fun b o hb e=>?_⟩
     have hb1 : b ≠ s.heap.objs.size:=Nat.ne_of_lt hb
     have hb2 : b ≠ (s.heap.push (bset0 w)).objs.size:=by
      rw [Heap.size_push];exact Nat.ne_of_lt (Nat.lt_succ_of_lt hb)
     exact hm.heap b o (by simp only [List.mem_cons,List.mem_singleton,List.not_mem_nil,or_false,not_or];exact ⟨hb1,hb2⟩) (Heap.get?_push_of_some _ (Heap.get?_push_of_some _ e))
   ·cases r₂ with
    | error e=>exact hr₂
    | ok fl₂ =>
     cases fl₂ with
     | ret r =>
      obtain ⟨rfl,h',tk,o,rfl,ho',hS',hk'⟩:=hr₂
      repeat (any_goals (first | assumption | wp_step))
      exact h _ _ _ ho' hS' hk'
     | _=>exact hr₂.elim
  | _=>exact hr.elim
theorem u57 : upto 57:=hk @c_56 u56 (by with_unfolding_all exact rfl)
open kc in
theorem call_bset {A E prog w s QX1 l items} : s_56 A E prog w s QX1 l items:=@hkT _ u57 (by k_extra "T") _ (by exact rfl)
section
variable {prog : Program} {w : World} {A : Around} {E : Value→Shared→Prop} {s : Shared}
end
end NX15
section NW26
theorem lnNW26_1 : True:=by
 k_with "L85" => ((k_here;k_dflt (refine LCp.ListComp_P (F₀:=by k_asm) (by with_unfolding_all rfl) (by decide) (by rfl) (by decide) (by rfl) (by rfl) (by decide) ?_)))
 k_with "L86" => ((k_here;(with_reducible show wpAny _ _ (call (Value.type "bytes") [Value.ref _]) _ _ _);refine Stop.mk ?_))
 k_with "call ref" => ((fail_if_success have:=dNW26);first | k_extra "L13" | fail)
 k_with "A" => ((fail_if_success have:=dNW26);first | k_extra "L28" | k_extra "L27" | fail)
 k_with "eval ListComp" => ((fail_if_success have:=dNW26);first | k_extra "L85" | fail)
 k_with "SrcLP" => ((fail_if_success have:=dNW26);first | k_extra "L46" | fail)
 k_with "eval Name" => ((fail_if_success have:=dNW26);first | k_extra "L77" | fail)
 k_with "call type:bytes" => ((fail_if_success have:=dNW26);first | k_extra "L86" | fail)
 exact True.intro
open kc in
open LCg LCp in
theorem c_57 : s_57 A prog w cl h₀ L m s xX1 env P elt scope x₂ SX1 news₀:=by
 intro Fin n J h0 fin step
 have gen : ∀ k i ys news,i + k = n→J i ys news→CompRestP prog w A h₀ L m env elt xX1 x₂ scope cl s SX1 P Fin k i ys news:=by
  intro k
  induction k with
  | zero =>
   intro i ys news e hJ
   have e' : i = n:=by simpa using e
   subst e'
   exact CompRestP.zero (fin _ _ hJ)
  | succ k ih =>
   intro i ys news e hJ
   refine CompRestP.succ fun v hP=>?_
   refine ex5 (step i ys news v (by omega) hJ hP) fun t ot v₁ v₂ nt q9=>an5 q9 fun e1 e2 e3 e4 st=>?_
   clear q9
   refine ei5 t ot v₁ v₂ nt ⟨e1,e2,e3,e4,fun I oI C oC D m₂ h tk E' hC hx hx2 F N off ne=>?_⟩
   refine wpAny_mono (st I oI C oC D m₂ h tk E' hC hx hx2 F N off ne) (fun y s'=>?_) fun _ _ e=>e
   rintro ⟨h',tk',news',rfl,F',N',off',hS,hJ'⟩
   exact ei3 h' tk' news' ⟨rfl,F',N',off',hS,ih (i + 1) _ _ (by omega) hJ'⟩
 exact gen n 0 [] news₀ (by omega) h0
theorem u58 : upto 58:=hk @c_57 u57 (by with_unfolding_all exact rfl)
open kc in
theorem compP_inv {A prog w cl h₀ L m s xX1 env P elt scope x₂ SX1 news₀} : s_57 A prog w cl h₀ L m s xX1 env P elt scope x₂ SX1 news₀:=@hkT _ u58 (by k_extra "T") _ (by exact rfl)
theorem datAll_get {l : List (Addr × Obj)} : ∀ {vs : List Value} {ds : List Dat},DatAll l vs ds→∀ {i : Nat} {v : Value},vs[i]? = some v→∃ d,ds[i]? = some d∧DatIn l v d:=by
 intro vs
 induction vs with
 | nil=>intro ds _ i v h;cases h
 | cons x vs ih =>
  intro ds h i v hv
  cases h with
  | cons a r =>
   cases i with
   | zero=>exact ⟨_,rfl,by rw [← Option.some.inj hv];exact a⟩
   | succ i=>exact ih r (i:=i) hv
theorem fd_in {x : Int} : 0 ≤ (x.fmod 65536).fdiv 256∧(x.fmod 65536).fdiv 256 < 256∧0 ≤ x.fmod 256∧x.fmod 256 < 256:=by
 rw [Int.fmod_eq_emod_of_nonneg _ (by decide),Int.fmod_eq_emod_of_nonneg _ (by decide),Int.fdiv_eq_ediv_of_nonneg _ (by decide)]
 omega
theorem ptB_in (z : Pt) : KBa.In (ptB z):=by
 refine an4 (fd_in (x:=z.1)) fun a1 a2 a3 a4=>?_
 refine an4 (fd_in (x:=z.2)) fun b1 b2 b3 b4=>?_
 intro n hn
 simp only [ptB,List.mem_cons,List.not_mem_nil,or_false] at hn
 rcases hn with rfl | rfl | rfl | rfl | rfl | rfl
 ·decide
 ·decide
 ·exact ⟨a1,a2⟩
 ·exact ⟨a3,a4⟩
 ·exact ⟨b1,b2⟩
 ·exact ⟨b3,b4⟩
theorem mem_skip2 {a b : Addr × Obj} {l : List (Addr × Obj)} : ∀ p ∈ a :: l,p ∈ a :: b :: l:=fun p hp=>by
 rcases List.mem_cons.mp hp with h | h
 ·exact h ▸ .head _
 ·exact .tail _ (.tail _ h)
theorem call_bsetN {prog : Program} {w : World} {A : Around} {E : Value→Shared→Prop} {s : Shared} {h₀ : Heap} {L : Addr} {m : Str→Option Value} {news : List (Addr × Obj)} {l : Addr} {items : Array Value} {ks : List (List UInt8)} {Q : Value→Shared→Prop} (F : Fr h₀ L s.heap m) (N : News h₀ L s.heap news)
  (hh : A.handled = none) (hl : s.heap.IsList l items) (hkl : ks.length = items.size) (hi : ∀ (i : Nat) v,items[i]? = some v→∃ t k,ks[i]? = some k∧v = .bytes k.toArray t) (hb : items.size < 500)
  (h : ∀ S o h' tk,BSet prog w o (foldD ks)→Fr h₀ L h' m→News h₀ L h' ((S,o) :: news)→(∀ p ∈ news,p.1 < S)∧AllLt S news→Q (.ref S) { s with heap:=h',toks:=tk}) :
  wpAny (model prog w) A (call (.type "set") [.ref l]) Q E s:=by
 refine call_bset hh hl hkl hi hb fun h' tk o ho hS hk=>?_
 have hLlt : L < s.heap.objs.size:=F.ns.lt
 have hlt : ∀ p ∈ news,p.1 < s.heap.objs.size:=fun p hp=>Heap.lt_size (N p hp).1
 have hal : ∀ (l : List (Addr × Obj)),(∀ p ∈ l,p.1 < s.heap.objs.size)→AllLt s.heap.objs.size l:=fun l=>by
  induction l with
  | nil=>intro _;trivial
  | cons q l ih=>intro hq;exact ⟨hq q (.head _),ih fun p hp=>hq p (.tail _ hp)⟩
 refine h _ o h' tk hS ⟨F.ns.at' fun o' e=>hk L o' hLlt e,fun b o' e=>hk b o' (Heap.lt_size (F.keep b o' e)) (F.keep b o' e),F.above⟩ (fun p hp=>?_) ⟨hlt,hal news hlt⟩
 rcases List.mem_cons.mp hp with rfl | hp
 ·refine ⟨ho,Nat.ne_of_gt hLlt,?_⟩
  cases hq : h₀.get? s.heap.objs.size with
  | none=>rfl
  | some o'=>exact absurd (Heap.lt_size (F.keep _ _ hq)) (Nat.lt_irrefl _)
 ·exact ⟨hk _ _ (hlt p hp) (N p hp).1,(N p hp).2⟩
open kc in
theorem c_58 : s_58 w p loose mean mg mb dp un a A₀ base h₀ L m s QX2 c1 c2 c3 c4 c5 PX1 pvs:=by
 intro B F X T hd hu n zs σ hp N hm hda hl hret
 have hpl : pvs.length = zs.length:=by rw [hda.length,List.length_map]
 rw [show lawSt 8 = .Assign _ _ _ from rfl]
 k_steps
 refine Stop.out ?_
 refine LCp.SrcLP.ledger rfl F N hm (by rw [List.size_toArray,sizeLine_eq];exact Nat.le_trans (Nat.le_of_lt (show pvs.length < 60 by omega)) (Nat.le_of_ble_eq_true rfl)) ?_
 intro g9
 refine compP_inv (fun i ys nl=>nl = σ∧∃ kb : List (List Int),ys.length = i∧kb.length = i∧kb = (zs.map ptB).take i∧∀ (j : Nat) v,ys[j]? = some v→∃ t k,kb[j]? = some k∧v = .bytes (byteArr k) t) ⟨rfl,[],rfl,rfl,rfl,fun j v h=>(nomatch h)⟩ ?_ ?_
 ·rintro ys nl ⟨rfl,kb,e1,e2,e3,e4⟩
  intro D9 h9 tk9 F9 N9 o9
  have hkb : kb = zs.map ptB:=by rw [e3,List.take_of_length_le];rw [List.length_map,List.size_toArray];omega
  clear N F
  k_steps
  refine call_bsetN (ks:=zs.map fun z=>keyI (ptB z)) F9 N9 rfl (News.isList N9 (.head _)) (by rw [List.size_toArray,List.length_map,e1,List.size_toArray,hpl]) (fun j v hj=>?_) (by rw [List.size_toArray,e1,List.size_toArray];omega) ?_
  ·refine ex2 (e4 j v (by simpa using hj)) fun t k q9=>an2 q9 fun k1 e93=>?_
   clear q9
   subst e93
   rw [hkb,List.getElem?_map] at k1
   refine ei2 t (keyI k) ⟨?_,?_⟩
   ·rw [List.getElem?_map]
    cases hz : zs[j]? with
    | none=>rw [hz] at k1;cases k1
    | some z=>rw [hz] at k1;rw [← Option.some.inj k1];rfl
   ·unfold keyI;rw [Array.toArray_toList]
  ·intro S oS h8 tk8 hS F8 N8 l8
   clear N9 F9
   k_steps
   exact hret _ _ _ _ hS (by assumption) (news_sub (by assumption) mem_skip2) (off1_lt l8.2.2)
 ·rintro i ys nl v hin ⟨rfl,kb,e1,e2,e3,e4⟩ hv
  have hv' : pvs[i]? = some v:=by simpa using hv
  refine ex1 (datAll_get hda hv') fun d q9=>an2 q9 fun hd9 hdi=>?_
  clear q9
  rw [List.getElem?_map] at hd9
  obtain ⟨z,hz,rfl⟩ : ∃ z,zs[i]? = some z∧datP z = d:=by
   cases hz : zs[i]? with
   | none=>rw [hz] at hd9;cases hd9
   | some z=>rw [hz] at hd9;exact ⟨z,rfl,Option.some.inj hd9⟩
  refine ex4 (dat_pt hdi) fun q n2 t1 t2 q9=>an2 q9 fun e94 hq=>?_
  clear q9
  subst e94
  refine ei5 q _ _ _ _ ⟨rfl,hq,rfl,rfl,?_⟩
  intro I oI C9 oC Dl m₂ h tk E' hC hx9 hy9 F8 N8 off ne
  clear N F
  walk_at "S2"
  refine Stop.out ?_
  rename News _ _ _ ((_,listOf _ _) :: _)=>N7
  (with_reducible rename Fr _ _ _ _=>F7)
  refine KBa.make_K (ns:=ptB z) F7 N7 rfl (News.isList N7 (.head _)) (.cons _ _ (.cons _ _ (.cons _ _ (.cons _ _ (.cons _ _ (.cons _ _ .nil)))))) (ptB_in z) (Nat.le_of_ble_eq_true rfl) ?_
  intro h6 t6 k6 F6 N6 _
  refine LCg.CompEnd.intro F6 N6 nl (fun p hp=>.tail _ hp) off (.inr ⟨_,hm,rfl,_,rfl⟩) ⟨rfl,kb ++ [ptB z],by rw [List.length_append,e1];rfl,by rw [List.length_append,e2];rfl,?_,?_⟩
  ·rw [List.take_add_one,List.getElem?_map,hz,e3]
   rfl
  ·intro j v hj
   rw [List.getElem?_append] at hj ⊢
   split at hj
   ·rename_i hjl
    refine ex2 (e4 j v hj) fun t k q9=>an2 q9 fun k1 k2=>?_
    clear q9
    exact ei2 t k ⟨by rw [if_pos (by omega)];exact k1,k2⟩
   ·rename_i hjl
    have hj0 : j - ys.length = 0:=by
     cases e : j - ys.length with
     | zero=>rfl
     | succ n=>rw [e] at hj;cases hj
    rw [hj0] at hj
    refine ei2 t6 (ptB z) ⟨?_,(Option.some.inj hj).symm⟩
    rw [if_neg (by omega),show j - kb.length = 0 from by omega]
    rfl
theorem u59 : upto 59:=hk @c_58 u58 (by with_unfolding_all exact rfl)
open kc in
theorem parts_spec {w p loose mean mg mb dp un a A₀ base h₀ L m s QX2 c1 c2 c3 c4 c5 PX1 pvs} : s_58 w p loose mean mg mb dp un a A₀ base h₀ L m s QX2 c1 c2 c3 c4 c5 PX1 pvs:=@hkT _ u59 (by k_extra "T") _ (by exact rfl)
end NW26
theorem dNW26 : True:=trivial
section NW27
theorem lnNW27_1 : True:=by
 k_with "call ref" => ((fail_if_success have:=dNW27);first | k_extra "L68" | k_extra "L13" | fail)
 exact True.intro
theorem bset_methodN {prog : Program} {w : World} {A : Around} {E : Value→Shared→Prop} {s : Shared} {h₀ : Heap} {L a : Addr} {news : List (Addr × Obj)} {o : Obj} {D : List (List UInt8)} {pl : Sem Bool} {Q : Value × List Value→Shared→Prop} (N : News h₀ L s.heap news) (hm : (a,o) ∈ news) (hS : BSet prog w o D) (h : Q (.builtin "set.add",[.ref a]) s) :
  wpAny (model prog w) A (getMethod (.ref a) "add" pl) Q E s:=bset_method (N _ hm).1 hS h
theorem bset_addN {prog : Program} {w : World} {A : Around} {E : Value→Shared→Prop} {s : Shared} {h₀ : Heap} {L a : Addr} {m : Str→Option Value} {news : List (Addr × Obj)} {g : Obj→List (Addr × Obj)} {o : Obj} {D : List (List UInt8)} {b : Array UInt8} {tx : Tok} {Q : Value→Shared→Prop} (F : Fr h₀ L s.heap m) (N : News h₀ L s.heap news) (U : UpdF a o news g) (hS : BSet prog w o D) (hroom : D.length + 1 < 1000)
  (h : ∀ h' o',Fr h₀ L h' m→News h₀ L h' (g o')→BSet prog w o' (addD D b.toList)→Q .none { s with heap:=h',toks:=s.toks + 1}) :
  wpAny (model prog w) A (call (.builtin "set.add") [.ref a,.bytes b tx]) Q E s:=by
 refine ex2 (U.split) fun own rest q9=>an4 q9 fun e92 hg h1 h2=>?_
 clear q9
 subst e92
 have hm:=N (a,o) (List.mem_append_right _ (.head _))
 have:=bset_callAdd (k:=b.toList) (tx:=tx) (A:=A) (E:=E) (s:=s) (Q:=Q) hm.1 hS hroom fun h' o' hs ho' hS'=>h h' o' (F.change hs hm.2.1 hm.2.2) (hg o' ▸ N.setAt h1 h2 hs ho') hS'
 rwa [Array.toArray_toList] at this
theorem lnNW27_2 : True:=by
 k_with "L87" => ((k_here;(with_reducible show wpAny _ _ (getMethod (Value.ref _) (Str.ofString "add") _) _ _ _);k_dflt (refine' bset_methodN ?zN ?zm ?zS ?_;(case zN=>k_asm);(case zS=>assumption);(case zm=>k_mem))))
 k_with "L88" => ((k_here;(with_reducible show wpAny _ _ (subscriptTail _ _ (Value.ref _) (Value.int 0 _)) _ _ _);k_dflt (refine tail_tup (by k_asm) (by first | k_mem | (repeat (first | assumption | refine List.mem_cons_of_mem _ ?_))) (by decide) (by decide) rfl rfl ?_ (by with_unfolding_all rfl) (by intro _;with_unfolding_all rfl))))
 k_with "A" => ((fail_if_success have:=dNW27);first | k_extra "L28" | k_extra "L27" | fail)
 k_with "eval Name" => ((fail_if_success have:=dNW27);first | k_extra "L77" | fail)
 k_with "getMethod ref" => ((fail_if_success have:=dNW27);first | k_extra "L87" | fail)
 k_with "eval ListComp" => ((fail_if_success have:=dNW27);first | k_extra "L49" | fail)
 k_with "CompSrc" => ((fail_if_success have:=dNW27);first | k_extra "L46" | fail)
 k_with "subscriptTail Name" => ((fail_if_success have:=dNW27);first | k_extra "L88" | fail)
 exact True.intro
open kc in
theorem c_59 : s_59 w p loose mean mg mb dp un a A₀ base h₀ L m s QX2 S c1 c2 c3 c4 c5 σ du dvs oS:=by
 intro B F X T hd hu n rows D hS hdu N wS hm hda hl hB hDl hasc hrun hgb hret
 have hdl : dvs.length = rows.length:=by rw [hda.length,List.length_map]
 have hkl : (rows.map (·.1)).length = rows.length:=List.length_map _
 rw [show lawSt 9 = .Expr (.Call (.Attribute _ _ _) _ _ _) _ from rfl]
 refine G_Expr ?_ rfl rfl
 refine G_Call_method rfl rfl rfl rfl fun _=>?_
 walk_at "S1"
 (try dsimp only)
 refine G_callWith_Bb rfl ?_
 refine G_Call_Name rfl ?_
 walk_at "S1"
 (try dsimp only)
 refine G_callWith_K (K:=Mine.hd.heap_1 w.params) (by k_is) ?_ rfl rfl
 walk_at "S1"
 (try dsimp only [List.cons_append,List.nil_append])
 refine Stop.out ?_
 rename News _ _ _ _=>NK9
 (with_reducible rename Fr _ _ _ _=>FK9)
 refine LCg.CompSrc.ledger rfl FK9 NK9 (.tail _ hm) (by rw [List.size_toArray,sizeLine_eq];exact Nat.le_trans (Nat.le_of_lt (show dvs.length < 60 by omega)) (Nat.le_of_ble_eq_true rfl)) ?_
 intro g9
 refine comp_inv (fun i ys nl=>nl = (S,oS) :: σ∧IntsAre ys ((rows.map (·.1)).take i)) ⟨rfl,.nil⟩ ?_ ?_
 ·intro ys nl hJ9
  refine an2 hJ9 fun e90 hy=>?_
  clear hJ9
  subst e90
  rw [List.size_toArray,hdl,List.take_of_length_le (by rw [List.length_map];exact Nat.le_refl _)] at hy
  intro Dn hn tkn Fn Nn on
  clear NK9 FK9
  walk_at "S1"
  (try dsimp only)
  (with_reducible show wpG _ _ (call (Value.ref 370) [Value.ref _]) _ _)
  k_dflt (refine' write_coverage_spec ?B ?F ?X ?T ?hk ?N ?hc ?hdd ?htt ?hi ?hrun ?hn ?hb ?hd ?hu ?_;(case B=>k_asm);(case F=>k_asm);(case X=>k_asm);(case T=>k_asm);(case hk=>first | exact rfl | assumption);(case N=>k_asm);(case hc=>k_mem);(case hdd=>k_mem);(case htt=>k_mem);(case hi=>assumption);(case hrun=>assumption);(case hn=>omega);(case hb=>assumption);(case hd=>ktr_room);(case hu=>ktr_units))
  intro b8 t8 h8 tk8 be8 bz8 F8 N8
  (try k_sweep)
  (try dsimp only)
  refine wpG.of ?_
  (try dsimp only [List.cons_append,List.nil_append])
  have N8' : News h₀ L h8 ((S,oS) :: σ):=news_sub N8 fun p hp=>.tail _ (.tail _ (.tail _ (.tail _ hp)))
  clear N8
  k_dflt (refine' bset_addN F8 N8' ?U hB (by omega) ?_;(case U=>k_updF))
  intro h4 o4 F4 N4 hS4
  exact hret _ _ _ _ be8 (by rw [bz8,hkl]) hS4 F4 N4
 ·intro i ys nl v I oI C oC Dl m₂ h tk E' hin hJ9 hv hC hx9 F8 N8 off ne
  refine an2 hJ9 fun e90 hy=>?_
  clear hJ9
  subst e90
  have hv' : dvs[i]? = some v:=by simpa using hv
  refine ex1 (datAll_get hda hv') fun d q9=>an2 q9 fun hd9 hdi=>?_
  clear q9
  rw [List.getElem?_map] at hd9
  obtain ⟨r,hr,rfl⟩ : ∃ r,rows[i]? = some r∧datR r = d:=by
   cases hr : rows[i]? with
   | none=>rw [hr] at hd9;cases hd9
   | some r=>rw [hr] at hd9;exact ⟨r,rfl,Option.some.inj hd9⟩
  refine ex5 (trip_in hdi) fun q n2 tg va vb q9=>an3 q9 fun e95 hq _=>?_
  clear q9
  subst e95
  have hti : (rows.map (·.1)).take (i + 1) = (rows.map (·.1)).take i ++ [r.1]:=by rw [List.take_add_one,List.getElem?_map,hr];rfl
  clear NK9 FK9
  walk_at "S2"
  refine LCg.CompEnd.intro (by assumption) (by assumption) _ (fun _ h=>h) off (.inr ⟨_,(.tail _ hm),rfl,_,rfl⟩) ⟨rfl,?_⟩
  rw [hti]
  exact ints_snoc hy
theorem u60 : upto 60:=hk @c_59 u59 (by with_unfolding_all exact rfl)
open kc in
theorem add_spec {w p loose mean mg mb dp un a A₀ base h₀ L m s QX2 S c1 c2 c3 c4 c5 σ du dvs oS} : s_59 w p loose mean mg mb dp un a A₀ base h₀ L m s QX2 S c1 c2 c3 c4 c5 σ du dvs oS:=@hkT _ u60 (by k_extra "T") _ (by exact rfl)
end NW27
theorem dNW27 : True:=trivial
section NX9
open PySem.Calls
section
variable {prog : Program} {w : World} {A₀ : Around} {E : Value→Shared→Prop} {s' : Shared} {base g G : Heap} {outer : List Env} {L a e : Addr} {m : Str→Option Value} {name : Str} {scope : Scope} {cd : Value}
 {n : Str} {b₀ : Stmt} {suite : List Stmt} {pos np : Pos} {rest : List ExceptHandler} {Q : Flow→Shared→Prop} {news : List (Addr × Obj)} {KF : Frag} {at_ : Int}
 {p : Program} {loose : List Str} {mean : ExcName→Option Value} {mg mb : Str→Option Value} {x : Str}
theorem fly_there {b : Heap} {l : List Env} {e dx : Addr} {fl : Value} {h : Heap} (R : Fly b l e dx fl h) : ∃ vs sl,h.get? e = some (flObj dx vs sl):=by
 obtain ⟨_,_,_,vs,sl,_,_,_,he,_⟩:=R
 exact ei2 vs sl he
end
open kc in
theorem c_60 : s_60 E prog w name p loose mean mg mb a outer A₀ base L m xX1 QX2 news scope pos s' g G e cd n suite np bX:=by
 intro b₀ rest KF at_ R F K N XB TB hh ex q k hk hlo hx hd
 refine ex4 R fun B dx es kn w3=>an7 w3 fun hB hBG' hfl hdx hat hU hfd=>?_
 clear w3 R
 have hBG : ∀ b o,G.get? b = some o→b ∉ (envOf name scope L a cd :: outer).filterMap (·.frame)→B.get? b = some o:=fun b o q h=>hBG' b o q List.not_mem_nil h
 have hsm : G.UpToSlots s'.heap:=fun b o q h=>hU b o q List.not_mem_nil h
 have hL : B.get? L = none:=by
  refine an3 (hfl.2.2.1) fun _ e91 _=>?_
  obtain ⟨L',_,hf,hn',_⟩:=e91
  obtain rfl : L = L':=Option.some.inj hf
  exact hn'
 refine note_next (Around.frames_deeper K.stack) rfl hfl fun h₄ hheld₄ hsm₄=>?_
 refine flight_none hheld₄ fun h₅ hheld hsm₅'=>?_
 have hsm₅:=hsm₄.trans hsm₅'
 refine ex1 (kts_ground K F hBG hheld.1 (hsm.trans hsm₅)) fun g₅ q9=>an3 q9 fun T₅ F₅ K₅=>?_
 clear q9
 have X₅ : KF.In g₅:=XB.keeps (fun b o q=>T₅.other b o (hh b o q).1 (hh b o q).2)
 have P₅ : TopRead p loose mg mb g₅:=topRead_of (TB.keeps (fun b o q=>T₅.other b o (hh b o q).1 (hh b o q).2))
 refine ex2 (fly_there hheld) fun vs₅ sl₅ hob=>?_
 refine ex10 (kts_cls X₅ q) fun nm q' N' bs bm hdct sn sub ab col w1=>ex7 w1 fun dd k0 k1 k2 k3 k5 newId w2=>an3 w2 fun hC hbase hbT=>?_
 clear w1 w2
 have hC₅:=F₅.keep _ _ hC
 refine wpAny_handleBy_cons (codeAny_handlers_test (name_K F₅ X₅ P₅ ex ?_ hk hx hd)) (by intro q;cases q)
 refine wpAny_excMatches_sub_self hC₅ hob rfl hbase (codeAny_handlers_suite_as ?_)
 refine flight_none hheld fun h₆ hfl₆ hsm₆=>?_
 refine ex1 (kts_ground K F hBG hfl₆.1 ((hsm.trans hsm₅).trans hsm₆)) fun g₆ q9=>an3 q9 fun T₆ F₆ K₆=>?_
 clear q9
 refine ex2 (fly_there hfl₆) fun vs sl hoe=>?_
 have ne₆ : g₆.get? e = none:=T₆.none_ _ (kts_fresh F hBG hfl₆.2.1 fun o ho m=>by
  obtain ⟨_,o',ho',hd⟩:=K.frames.mem m
  rw [ho] at ho'
  cases ho'
  refine ex1 (((hsm.trans hsm₅).trans hsm₆) _ _ (F.keep _ _ ho) hd) fun sl hs=>?_
  rw [hoe] at hs
  exact hd vs (congrArg (·.data) (Option.some.inj hs)).symm)
 have nd₆ : g₆.get? dx = none:=T₆.none_ _ (kts_none F.keep (hfd List.not_mem_nil))
 have hdL : dx ≠ L:=fun z=>by rw [z,hL] at hdx;cases hdx
 have heL : e ≠ L:=fun z=>by
  obtain ⟨_,o,ho,hnf⟩:=hfl₆.2.2.1.mem (b:=L) (List.mem_filterMap.mpr ⟨_,.head _,rfl⟩)
  rw [← z,hoe] at ho
  exact hnf vs (by rw [← Option.some.inj ho])
 have Nl : News g₆ L h₆ news:=fun q hq=>⟨hfl₆.1 _ _ (hBG _ _ (N q hq).1 fun hm=>by
   rcases kts_mem hm with z | z
   ·exact (N q hq).2.1 z
   ·refine ex1 ((K.frames.mem z).2) fun o q9=>an2 q9 fun ho _=>?_
    clear q9
    rw [(N q hq).2.2] at ho
    cases ho),(N q hq).2.1,T₆.none_ _ (N q hq).2.2⟩
 have X₆ : KF.In g₆:=XB.keeps (fun b o q=>T₆.other b o (hh b o q).1 (hh b o q).2)
 have P₆ : Top p loose mean mg mb g₆:=TB.keeps (fun b o q=>T₆.other b o (hh b o q).1 (hh b o q).2)
 have N₆ : News g₆ L h₆ ((e,flObj dx vs sl) :: (dx,dictOf es kn) :: news):=fun q hq=>by
  rcases List.mem_cons.mp hq with rfl | hq
  ·exact ⟨hoe,heL,ne₆⟩
  ·rcases List.mem_cons.mp hq with rfl | hq
   ·exact ⟨hfl₆.1 _ _ hdx,hdL,nd₆⟩
   ·exact Nl q hq
 refine stN F₆ N₆ (fun h₇ F₇ N₇=>?_) hk hlo
 exact k h₇ g₆ _ _ _ _ _ _ F₇ N₇ hat T₆ K₆ X₆ P₆
theorem u61 : upto 61:=hk @c_60 u60 (by with_unfolding_all exact rfl)
open kc in
theorem caught_fly {E prog w name p loose mean mg mb a outer A₀ base L m xX1 QX2 news scope pos s' g G e cd n suite np bX} : s_60 E prog w name p loose mean mg mb a outer A₀ base L m xX1 QX2 news scope pos s' g G e cd n suite np bX:=@hkT _ u61 (by k_extra "T") _ (by exact rfl)
section
variable {prog : Program} {w : World} {A₀ : Around} {E : Value→Shared→Prop} {s' : Shared} {base g G : Heap} {outer : List Env} {L a e : Addr} {m : Str→Option Value} {name : Str} {scope : Scope} {cd : Value}
 {n : Str} {b₀ : Stmt} {suite : List Stmt} {pos np : Pos} {rest : List ExceptHandler} {Q : Flow→Shared→Prop} {news : List (Addr × Obj)} {KF : Frag} {at_ : Int}
 {p : Program} {loose : List Str} {mean : ExcName→Option Value} {mg mb : Str→Option Value} {x : Str}
end
theorem mem_one {cn : Str} {cs : Scope} {L a b : Addr} {ccd : Value} {cl : List (Str × Addr)} (hm : b ∈ [envX cn cs L a ccd cl].filterMap (·.frame)) : b = L:=List.mem_singleton.mp (show b ∈ [L] from hm)
section
variable {prog : Program} {w : World} {A₀ A : Around} {s : Shared} {base h₀ : Heap} {L a : Addr} {m : Str→Option Value} {cn : Str} {cs : Scope} {ccd : Value} {cl : List (Str × Addr)} {news : List (Addr × Obj)} {K : Frag} {p : Program} {loose : List Str} {mean : ExcName→Option Value} {mg mb : Str→Option Value}
  {R : Result→Shared→Prop} {name qual : Str} {params : Arguments} {body : List Stmt} {scope : Scope} {dV kV doc pm cdv ct oc : Value} {an od : Option Addr} {osl : Array (Option Value)} {f : Addr} {args : Args}
theorem enterT (B : Below A₀ base [] h₀) (F : Fr h₀ L s.heap m) (N : News h₀ L s.heap news) (hA : A.frames = some [envX cn cs L a ccd cl]) (hck : cs.kind = .function) :
  ∃ oL es ep,(hideAll s.heap (news.map (·.1))).get? L = some oL∧oL.data = .dict es ep∧(∀ h',h'.get? L = some oL→Heap.Ns h' L m)∧(∀ (sl : Array (Option Value)) h',h'.get? L = some { oL with slots:=sl}→Heap.Ns h' L m) ∧
   h₀.StaysIn (hideAll s.heap (news.map (·.1)))∧Below A base [envX cn cs L a ccd cl] (hideAll s.heap (news.map (·.1))):=by
 have nm : ∀ b o,h₀.get? b = some o→b ∉ news.map (·.1):=fun b o e q=>by
  refine ex1 (List.mem_map.mp q) fun p q9=>an2 q9 fun hp e92=>?_
  clear q9
  subst e92
  rw [(N p hp).2.2] at e;cases e
 have st : h₀.StaysIn (hideAll s.heap (news.map (·.1))):=fun b o e=>hideAll_get _ (F.keep b o e) (nm b o e)
 refine ex3 (F.ns) fun oL es ep q9=>an4 q9 fun hL hLd hLk hLf=>?_
 clear q9
 have nL : L ∉ news.map (·.1):=fun q=>by
  refine ex1 (List.mem_map.mp q) fun p q9=>an2 q9 fun hp e=>?_
  clear q9
  exact (N p hp).2.1 e
 have hLg:=hideAll_get (news.map (·.1)) hL nL
 have B₁:=pushX (env:=envX cn cs L a ccd cl) B F rfl hck
 exact ⟨oL,es,ep,hLg,hLd,fun h' e=>⟨oL,es,ep,e,hLd,hLk,hLf⟩,fun sl h' e=>⟨_,es,ep,e,hLd,hLk,hLf⟩,st,⟨hA,fun b o e=>st b o (B.stays b o e),funFrames_hideAll B₁.frames fun env he b hb hf=>by
  cases he with
  | head=>exact nL ((Option.some.inj hf : L = b) ▸ hb)
  | tail _ he=>cases he⟩⟩
theorem code_defT (binds : List (Str × Value)) (B : Below A₀ base [] h₀) (F : Fr h₀ L s.heap m) (X₀ : K.In h₀) (N : News h₀ L s.heap news) (T : Top p loose mean mg mb h₀) (hA : A.frames = some [envX cn cs L a ccd cl])
  (hck : cs.kind = .function) (ho : K.lookup f = some ⟨oc,od,.func (fnOf name qual params body scope dV kV doc pm an cdv ct),osl⟩) (hcd : codeIn K cdv qual = true) (hroom : A.depth < recursionLimit)
  (hbind : BindsTo s (fnOf name qual params body scope dV kV doc pm an cdv ct) args binds) (hloc : ∀ y ∈ binds,scope.names.lookup y.1 = some .local)
  (h : ∀ g L' h₁,Fr h₀ L g m→Fr g L' h₁ (fun y=>binds.reverse.lookup y)→News g L' h₁ news→Below A base [envX cn cs L a ccd cl] g→K.In g→Top p loose mean mg mb g→Kp (news.map (·.1)) s.heap g →
   wpAny (model prog w) (A.deeper (envOf qual scope L' f cdv)) (execs body (envOf qual scope L' f cdv))
    (fun fl s'=>LeaveS0 ([envX cn cs L a ccd cl].filterMap (·.frame)) h₀ L m g R (match fl with | .ret v=>v | _=>.none) s')
    (fun e s'=>wpAny (model prog w) (A.deeper (envOf qual scope L' f cdv)) (leaving (envOf qual scope L' f cdv) e) (fun _ s''=>R (.error e) s'') (fun e' s''=>R (.error e') s'') s')
    { s with heap:=h₁,toks:=s.toks + binds.length})
  (hco : scope.isCoroutine = false) (hgen : scope.isGenerator = false) (hk : scope.kind = .function)
  (hcell : ∀ x ∈ scope.names,x.2 ≠ .cell) : codeAny (model prog w) A (.call (.ref f) args) R s:=by
 have X:=X₀.keeps F.keep
 refine codeAny_call_def (fd:=fnOf name qual params body scope dV kV doc pm an cdv ct) (body:=body) (binds:=binds) hroom (X _ _ ho) rfl (T.nolimit.keeps F.keep) (codeRec_of X hcd) rfl hbind hcell hloc (fun h₁ hns hk₁=>?_) hco hgen hk
 refine ex3 (enterT B F N hA hck) fun oL es ep q9=>an6 q9 fun hLg hLd hN hNs st B₂=>?_
 clear q9
 refine wpAny_mono (h _ s.heap.objs.size h₁ ⟨hN _ hLg,st,F.above⟩ ⟨hns,fun b o e=>hk₁ b o (of_hideAll _ e),Nat.le_of_eq (hideAll_size _ _)⟩
  (fun p hp=>⟨hk₁ _ _ (N p hp).1,Nat.ne_of_lt (Heap.lt_size (N p hp).1),hideAll_none _ (List.mem_map_of_mem hp)⟩) B₂ (X₀.keeps st) (T.keeps st) (fun b o e n=>hideAll_get _ e n)) (fun fl s' hl=>?_) fun _ _ y=>y
 refine ex4 hl fun g' L' m' news' q9=>an4 q9 fun T' F' N' k=>?_
 clear q9 hl
 have nL₀ : h₀.get? L = none:=kts_self F
 refine ex1 (T'.up hLg) fun sl hs=>?_
 refine k ⟨hNs sl _ (F'.keep _ _ hs),fun b o e=>F'.keep b o (T'.other b o (st b o e) (fun q=>by
  rw [mem_one q,nL₀] at e
  cases e)),F.above⟩ fun p hp=>⟨(N' p hp).1,fun q=>?_,?_⟩
 ·have:=(N' p hp).2.2;rw [q,hs] at this;cases this
 ·cases q : h₀.get? p.1 with
  | none=>rfl
  | some o =>
   refine ex1 (T'.up (st _ _ q)) fun sl' hs'=>?_
   have:=(N' p hp).2.2
   rw [hs'] at this
   cases this
end
section
variable {M : Model} {A : Around} {E : Value→Shared→Prop} {s' : Shared} {base g h : Heap} {outer : List Env} {L a e : Addr} {m : Str→Option Value} {name : Str} {scope : Scope} {cd : Value} {Q : Unit→Shared→Prop} {news ns : List (Addr × Obj)}
theorem rz_nextN {G g₂ : Heap} {keys : List Addr} {at_ : Int} {cl : List (Str × Addr)} (K : Below A base outer g) (F : Fr g L g₂ m) (k : Kp [] g G) (N : News g L G news) (hk : ∀ b o,g.get? b = some o→b ∉ keys) (hn : ∀ q ∈ ns,q ∈ news∧q.1 ∉ keys) (R : Rz base G keys (envX name scope L a cd cl :: outer) at_ e s'.heap)
  (hQ : ∀ h',RzN base g ns outer at_ e h'→Q () { s' with heap:=h'}) :
  wpAny M (A.deeper (envX name scope L a cd cl)) (leaving (envX name scope L a cd cl) (.ref e)) Q E s':=by
 refine ex4 R fun Bs dx es n w3=>an7 w3 fun r1 r2 r3 r4 r5 r6 r7=>?_
 clear w3 R
 refine fly_next (Around.frames_deeper K.stack) rfl r3 fun h' R' U'=>hQ h' ?_
 refine ei4 Bs dx es n ⟨r1,fun b o q nf=>r2 b o (k b o q (List.not_mem_nil)) (hk b o q) (frame_out F q nf),fun q hq=>r2 _ _ (N q (hn q hq).1).1 (hn q hq).2 fun hm=>?_,R',r4,r5,fun b o q _ hn=>?_,fun b o q _ _=>⟨o.slots,R'.1 b o q⟩,?_,fun q hq z=>?_⟩
 ·rcases List.mem_cons.mp (show q.1 ∈ L :: outer.filterMap (·.frame) from hm) with z | z
  ·exact (N q (hn q hq).1).2.1 z
  ·refine ex1 ((K.frames.mem z).2) fun o q9=>an2 q9 fun ho _=>?_
   clear q9
   rw [(N q (hn q hq).1).2.2] at ho
   cases ho
 ·refine ex1 (r6 b o (k b o q (List.not_mem_nil)) (hk b o q) hn) fun sl hs=>?_
  refine ex1 (U' b _ hs hn) fun sl2 h2=>?_
  exact ⟨sl2,h2⟩
 ·cases z : g.get? dx with
  | none=>rfl
  | some o=>have:=k dx o z (List.not_mem_nil);rw [r7 (hk dx o z)] at this;cases this
 ·have:=(N q (hn q hq).1).1
  rw [← z,r7 (by rw [z];exact (hn q hq).2)] at this
  cases this
theorem rz_firstK {s₀ : Heap} {dx t : Addr} {es : List DictEntry} {n : Nat} {at_ : Int} {cl : List (Str × Addr)} (_ : KeepIt s₀ ns) (K : Below A base outer g) (F : Fr g L s'.heap m) (N : News g L s'.heap ((e,flObj dx #[.ref t,.none,.none,.none,.bool false,.none] #[]) :: (dx,dictOf es n) :: news)) (hne : e ≠ dx) (hat : AtIs es at_)
  (l1 : ∀ p ∈ news,p.1 < e) (l2 : ∀ p ∈ news,p.1 < dx) (hn₀ : ∀ q ∈ ns,q ∈ news) (hQ : ∀ h',RzN base g ns outer at_ e h'→Q () { s' with heap:=h'}) (hk : scope.kind = .function) :
  wpAny M (A.deeper (envX name scope L a cd cl)) (leaving (envX name scope L a cd cl) (.ref e)) Q E s':=by
 have hn : ∀ q ∈ ns,q ∈ news∧q.1 ≠ e∧q.1 ≠ dx:=fun q hq=>⟨hn₀ q hq,Nat.ne_of_lt (l1 q (hn₀ q hq)),Nat.ne_of_lt (l2 q (hn₀ q hq))⟩
 have K':=pushX (env:=envX name scope L a cd cl) K F rfl hk
 have he:=N _ (.head _)
 have hdx:=N _ (.tail _ (.head _))
 have hfr : ∀ b o,s'.heap.get? b = some o→b ∉ e :: (envX name scope L a cd cl :: outer).filterMap (·.frame)→(hideAll s'.heap (e :: (envX name scope L a cd cl :: outer).filterMap (·.frame))).get? b = some o:=fun b o q hm=>hideAll_get _ q hm
 have hb0 : ∀ b,g.get? b = none→base.get? b = none:=fun b q=>by
  cases z : base.get? b with
  | none=>rfl
  | some o=>have:=K.stays b o z;rw [q] at this;cases this
 have outF : ∀ b,g.get? b = none→b ≠ L→b ∉ (envX name scope L a cd cl :: outer).filterMap (·.frame):=fun b h2 h3 hm=>by
  rcases List.mem_cons.mp (show b ∈ L :: outer.filterMap (·.frame) from hm) with z | z
  ·exact h3 z
  ·refine ex1 ((K.frames.mem z).2) fun o q9=>an2 q9 fun ho _=>?_
   clear q9
   rw [h2] at ho;cases ho
 refine fly_first (base:=hideAll s'.heap (e :: (envX name scope L a cd cl :: outer).filterMap (·.frame))) K'.stack (funFrames_hide K'.frames fun env he b hb=>.tail _ (List.mem_filterMap.mpr ⟨env,he,hb⟩)) rfl he.1 rfl (fun b o q=>of_hideAll _ q) (hideAll_none _ (.head _)) fun h' R U=>hQ h' ?_
 refine ei4 _ dx es n ⟨fun b o q=>hfr b o (K'.stays b o q) fun hm=>?_,fun b o q nf=>hfr b o (F.keep b o q) fun hm=>?_,fun q hq=>hfr _ _ (N q (.tail _ (.tail _ (hn q hq).1))).1 fun hm=>?_,R,hfr dx _ hdx.1 fun hm=>?_,hat,fun b o q _ hn=>U b o (F.keep b o q) hn,fun b o q _ _=>⟨o.slots,R.1 b o q⟩,hdx.2.2,fun q hq z=>(hn q hq).2.2 z.symm⟩
 ·rcases List.mem_cons.mp hm with z | z
  ·rw [z,hb0 e he.2.2] at q;cases q
  ·rw [(K'.frames.mem z).1] at q;cases q
 ·rcases List.mem_cons.mp hm with z | z
  ·rw [z,he.2.2] at q;cases q
  ·exact frame_out F q nf z
 ·have P:=(N q (.tail _ (.tail _ (hn q hq).1))).2
  rcases List.mem_cons.mp hm with z | z
  ·exact (hn q hq).2.1 z
  ·exact outF _ P.2 P.1 z
 ·rcases List.mem_cons.mp hm with z | z
  ·exact hne z.symm
  ·exact outF dx hdx.2.2 hdx.2.1 z
theorem RzN.whole {G : Heap} {keys : List Addr} {at_ : Int} (R : RzN base g ns outer at_ e h) (k : Kp keys G g) (hk : ∀ b o,G.get? b = some o→b ∈ keys→(b,o) ∈ ns) : Rz base G [] outer at_ e h:=by
 obtain ⟨Bs,dx,es,n,r1,r2,r3,r4,r5,r6,r7,r8,r9,r10⟩:=R
 have all : ∀ b o,G.get? b = some o→b ∉ outer.filterMap (·.frame)→Bs.get? b = some o:=fun b o q nf=>by
  by_cases hm : b ∈ keys
  ·exact r3 _ (hk b o q hm)
  ·exact r2 b o (k b o q hm) nf
 refine ei4 Bs dx es n ⟨r1,fun b o q _ nf=>all b o q nf,r4,r5,r6,fun b o q _ hn=>?_,fun _=>?_⟩
 ·by_cases hm : b ∈ keys
  ·exact r8 b o (r3 _ (hk b o q hm)) List.not_mem_nil hn
  ·exact r7 b o (k b o q hm) List.not_mem_nil hn
 ·cases z : G.get? dx with
  | none=>rfl
  | some o =>
   by_cases hm : dx ∈ keys
   ·exact absurd rfl (r10 _ (hk dx o z hm))
   ·have:=k dx o z hm
    rw [r9] at this
    cases this
theorem rz_nextK {G g₂ s₀ : Heap} {keys : List Addr} {at_ : Int} {cl : List (Str × Addr)} (_ : KeepIt s₀ ns) (K : Below A base outer g) (F : Fr g L g₂ m) (k : Kp [] g G) (N : News g L G news) (hk : ∀ b o,g.get? b = some o→b ∉ keys) (hn : ∀ q ∈ ns,q ∈ news∧q.1 ∉ keys) (R : Rz base G keys (envX name scope L a cd cl :: outer) at_ e s'.heap)
  (hQ : ∀ h',RzN base g ns outer at_ e h'→Q () { s' with heap:=h'}) :
  wpAny M (A.deeper (envX name scope L a cd cl)) (leaving (envX name scope L a cd cl) (.ref e)) Q E s':=rz_nextN K F k N hk hn R hQ
theorem RzN.full {G : Heap} {at_ : Int} (R : RzN base g ns outer at_ e h) (k : Kp (ns.map (·.1)) G g) (hk : KeepIt G ns) : Rz base G [] outer at_ e h:=R.whole k fun b o q hm=>by
 refine ex1 (List.mem_map.mp hm) fun p q9=>an2 q9 fun hp e92=>?_
 clear q9
 subst e92
 have:=hk p hp
 rw [q] at this
 rw [Option.some.inj this]
 exact hp
end
theorem under_one {h₀ g : Heap} {L a : Addr} {m : Str→Option Value} {cn : Str} {cs : Scope} {ccd : Value} {cl : List (Str × Addr)} (F : Fr h₀ L g m) : ∀ b o,h₀.get? b = some o→g.get? b = some o∧b ∉ [envX cn cs L a ccd cl].filterMap (·.frame):=fun b o q=>⟨F.keep b o q,fun hm=>by
 rw [mem_one hm,kts_self F] at q
 cases q⟩
end NX9
section NX11
open PySem.Calls
section
variable {prog : Program} {w : World} {A A₀ : Around} {s : Shared} {K : Frag} {L : Addr} {h₀ base : Heap} {m mg mb : Str→Option Value} {news : List (Addr × Obj)} {p : Program} {loose : List Str} {mean : ExcName→Option Value}
theorem lam_codeH {env : Env} {outer : List Env} {R : Result→Shared→Prop} {name qual : Str} {params : Arguments} {body : Expr} {scope : Scope} {cl : List (Str × Addr)} {pm ctv : Value} {c' : Addr} {f : Addr}
  (B : Below A₀ base outer h₀) (F : Fr h₀ L s.heap m) (X₀ : K.In h₀) (N : News h₀ L s.heap news) (T : Top p loose mean mg mb h₀) (hA : A.frames = some (env :: outer)) (hf : env.frame = some L) (hke : env.scope.kind = .function)
  (ho : (f,kla_obj name qual params body scope cl pm c' ctv) ∈ news) (hcd : s.heap.CodeRec (.ref c') qual) (hroom : A.depth < recursionLimit)
  (hbind : bindArgs (kla_fn name qual params body scope cl pm (.ref c') ctv) ⟨[],[]⟩ = pure [])
  (h : ∀ g L' h₁,Fr h₀ L g m→Fr g L' h₁ (fun _=>none)→News g L' h₁ news→Below A base (env :: outer) g→K.In g→Top p loose mean mg mb g→Kp (news.map (·.1)) s.heap g →
   wpAny (model prog w) (A.deeper (envX qual scope L' f (.ref c') cl)) (eval body (envX qual scope L' f (.ref c') cl))
    (fun v s'=>LeaveK h₀ L m g R v s')
    (fun e s'=>wpAny (model prog w) (A.deeper (envX qual scope L' f (.ref c') cl)) (leaving (envX qual scope L' f (.ref c') cl) e) (fun _ s''=>R (.error e) s'') (fun e' s''=>R (.error e') s'') s')
    { s with heap:=h₁})
  (hco : scope.isCoroutine = false) (hgen : scope.isGenerator = false) (hk : scope.kind = .function)
  (hcell : ∀ x ∈ scope.names,x.2 ≠ .cell) : codeAny (model prog w) A (.call (.ref f) ⟨[],[]⟩) R s:=by
 refine an4 (groundX (R:=R) B F N hA hf hke) fun FG BG st lv=>?_
 refine kla_callFunE hroom (N _ ho).1 rfl hco hgen rfl hcd ?_
 rw [hbind]
 refine wpAny_pure (wpAny_newFunctionEnv hcell (fun _ q=>nomatch q) (fun h₁ hns hsb=>⟨(T.nolimit.keeps F.keep).fresh _ hsb,?_⟩) hk)
 have up : ∀ b o,s.heap.get? b = some o→h₁.get? b = some o:=fun b o e=>hsb.extBut b o (Nat.ne_of_lt (Heap.lt_size e)) (Heap.get?_push_of_some _ e)
 refine kla_codeExpr ?_
 refine wpAny_mono (h _ s.heap.objs.size h₁ FG ⟨hns,fun b o e=>up b o (of_hideAll _ e),Nat.le_of_eq (hideAll_size _ _)⟩ (fun q hq=>⟨up _ _ (N q hq).1,Nat.ne_of_lt (Heap.lt_size (N q hq).1),hideAll_none _ (List.mem_map_of_mem hq)⟩) BG (X₀.keeps st) (T.keeps st) (fun b o e n=>hideAll_get _ e n)) (fun v s' hl=>lv _ _ hl) fun _ _ y=>y
end
end NX11
section NW17
theorem lnNW17_1 : True:=by
 k_with "call ref" => ((fail_if_success have:=dNW17);first | k_extra "L13" | fail)
 exact True.intro
open kc in
theorem c_61 : s_61 E w p loose mean mg mb dp un gd cn cs a ccd cl outer A₀ base h₀ L m restX1 s QX1 t1 t2:=by
 intro B F X T hk N b ks hks at_ h0 h1 hb hd hu hret hE
 have hsz : b.size = ks.length:=by rw [← hks,KBw.ints_length]
 have bd:=u16v_bd hks at_
 refine an2 (news_split0 N) fun N₀ hrest=>?_
 clear N
 refine wpAny_call ?_
 k_dflt (refine' code_defH [("data",.bytes b t1),("at",.int at_ t2)] ?k1 ?k2 ?k3 ?k4 ?k5 ?kA ?kF ?kK ?k6 ?k7 ?k8 ?k9 ?kB ?_ ?c2 ?c3 ?c4 ?c5;walk_at "nu_enter";intro g' L' h' FG' F' N' B' X' T' hg')
 (try dsimp only)
 k_fold
 k_steps
 ·exact hE (by omega) _ _ _ (Rz.of_kp (by assumption) hg' fun _ _ _ n=>n)
 ·have e : 256 * ks.getD at_.toNat 0 + ks.getD (at_ + 1).toNat 0 = u16v ks at_:=by
   unfold u16v
   rw [show (at_ + 1).toNat = at_.toNat + 1 from by omega]
  refine hret (by omega) _ _ _ _ e ?_ ?_ (by assumption) (hrest _ (Kp.of_keep hg' (Fr.keep (by assumption))))
  ·rw [e];exact bd.1
  ·rw [e];exact bd.2
theorem u62 : upto 62:=hk @c_61 u61 (by with_unfolding_all exact rfl)
open kc in
theorem law_u16_spec {E w p loose mean mg mb dp un gd cn cs a ccd cl outer A₀ base h₀ L m restX1 s QX1 t1 t2} : s_61 E w p loose mean mg mb dp un gd cn cs a ccd cl outer A₀ base h₀ L m restX1 s QX1 t1 t2:=@hkT _ u62 (by k_extra "T") _ (by exact rfl)
theorem lnNW17_2 : True:=by
 k_with "L89" => ((k_here;(with_reducible show wpAny _ _ (call (Value.ref 511) [Value.bytes _ _,Value.int _ _]) _ _ _);k_dflt (refine' law_u16_spec ?zB ?zF ?zX ?zT ?zhk ?zN _ _ ?zhks _ ?zh0 ?zh1 ?zhb ?zhd ?zhu ?_ ?_;k_extra "Q";(case zhks=>assumption);(case zh0=>omega);(case zh1=>omega);(case zhb=>omega);k_extra "V";(intro _ _ _ _ _ _ _ _ _ _;(try k_sweep);(try dsimp only));rotate_left;(intro _ _ _ _ _;(first | (exfalso;omega) | (try dsimp only)));rotate_right)))
 k_with "call ref" => ((fail_if_success have:=dNW17);first | k_extra "L89" | fail)
 exact True.intro
theorem form_in {v : Int} (h : ([1,2,3].any fun x=>x == v) = true) : 1 ≤ v∧v ≤ 3:=by
 simp only [List.any_cons,List.any_nil,Bool.or_false,Bool.or_eq_true,beq_iff_eq] at h
 omega
theorem form_out {v : Int} (h : ([1,2,3].any fun x=>x == v) = false) : v < 1 ∨ 3 < v:=by
 simp only [List.any_cons,List.any_nil,Bool.or_false,Bool.or_eq_false_iff,beq_eq_false_iff_ne] at h
 omega
theorem tail_at {prog : Program} {w : World} {A : Around} {E : Value→Shared→Prop} {s : Shared} {h₀ : Heap} {L l : Addr} {news : List (Addr × Obj)} {xs : Array Value} {c : Nat} {x : Value} {t : Tok} {k : Int} {value slice : Expr} {Q : Value→Shared→Prop} (N : News h₀ L s.heap news) (hm : (l,listOf xs c) ∈ news) (h0 : 0 ≤ k) (h1 : k < 2 ^ 63) (hx : xs[k.toNat]? = some x) (h : Q x s)
  (hs : subscripted slice false (.ref l) (.int k t) = operate [.ref l,.int k t] (getItem (.ref l) (.int k t))) (hg : ∀ r,letTemporaryGo value (.ref l) r = pure ()) : wpAny (model prog w) A (subscriptTail value slice (.ref l) (.int k t)) Q E s :=
 have hl : s.heap.IsList l xs:=⟨_,(N _ hm).1,rfl,c,rfl⟩
 PyProof.Rows.subscriptTail_builtin (T := "list") hl.typeIs slot_list_getitem.lookup (wpAny_getItem_list hl h0 h1 hx h) hs hg
theorem lnNW17_3 : True:=by
 k_with "L90" => ((k_here;(with_reducible show wpAny _ _ (subscriptTail _ _ (Value.ref _) (Value.int _ _)) _ _ _);k_dflt (refine tail_at (by k_asm) (by k_mem) (by decide) (by decide) rfl ?_ (by with_unfolding_all rfl) (by intro _;with_unfolding_all rfl))))
 k_with "subscriptTail Name Constant ref int" => ((fail_if_success have:=dNW17);first | k_extra "L90" | fail)
 exact True.intro
theorem lnNW17_4 : True:=by
 k_with "L91" => (((fail_if_success (with_reducible show wpAny _ _ _ (fun v s'=>IntEnd _ _ v s') _ _));refine Stop.mk ?_))
 k_with "eval IfExp" => ((fail_if_success have:=dNW17);first | k_extra "L91" | fail)
 exact True.intro
theorem ifexp_join {M : Model} {A : Around} {E : Value→Shared→Prop} {s : Shared} {e : Sem Value} {Q : Value→Shared→Prop} (n : Int) (h1 : wpAny M A e (fun v s'=>IntEnd n s v s') E s) (h2 : ∀ t k,Q (.int n t) { s with toks:=k}) : Stop (wpAny M A e Q E s) :=
 wpAny_mono h1 (fun v s' ⟨t,k,e1,e2⟩=>by subst e1;subst e2;exact h2 t k) fun _ _ x=>x
theorem s16_hi {v u : Int} (h : 32767 < v) (e : v = u) : v - 65536 = s16 u:=by subst e;exact (if_pos h).symm
theorem s16_lo {v u : Int} (h : ¬ 32767 < v) (e : v = u) : v = s16 u:=by subst e;exact (if_neg h).symm
open kc in
theorem c_62 : s_62 E w p loose mean mg mb dp un gd cn cs a ccd cl outer A₀ base h₀ L m restX1 s QX1 t1 t2:=by
 intro B F X T hk N b ks hks at_ h0 h1 hb hd hu hret hE
 have hsz : b.size = ks.length:=by rw [← hks,KBw.ints_length]
 refine an2 (news_split0 N) fun N₀ hrest=>?_
 have Nr : News h₀ L s.heap restX1∧True:=⟨N,trivial⟩
 clear N
 refine wpAny_call ?_
 k_dflt (refine' code_defH [("data",.bytes b t1),("at",.int at_ t2)] ?k1 ?k2 ?k3 ?k4 ?k5 ?kA ?kF ?kK ?k6 ?k7 ?k8 ?k9 ?kB ?_ ?c2 ?c3 ?c4 ?c5;walk_at "nu_enter";intro g' L' h' FG' F' N' B' X' T' hg')
 (try dsimp only)
 k_fold
 k_steps
 rotate_left
 ·have hf9:=form_in (by assumption)
  (refine hE _ ?_ _ _ _ (Rz.of_kp (by assumption) hg' fun _ _ _ n=>n);first | exact rdA1 (by omega) (by omega) | exact rdA2 (by omega) (by omega) (by omega) | exact rdA3 (by omega) (by omega) (by omega) (by omega) (by omega) | exact rdA4 (by omega) (by omega) (by omega) (by omega) (by omega) | exact rdA5 (by omega) (by omega) (by omega) (by omega) (by omega))
 ·have hf9:=form_out (by assumption)
  (refine hE _ ?_ _ _ _ (Rz.of_kp (by assumption) hg' fun _ _ _ n=>n);first | exact rdA1 (by omega) (by omega) | exact rdA2 (by omega) (by omega) (by omega) | exact rdA3 (by omega) (by omega) (by omega) (by omega) (by omega) | exact rdA4 (by omega) (by omega) (by omega) (by omega) (by omega) | exact rdA5 (by omega) (by omega) (by omega) (by omega) (by omega))
 ·(refine hE _ ?_ _ _ _ (Rz.of_kp (by assumption) hg' fun _ _ _ n=>n);first | exact rdA1 (by omega) (by omega) | exact rdA2 (by omega) (by omega) (by omega) | exact rdA3 (by omega) (by omega) (by omega) (by omega) (by omega) | exact rdA4 (by omega) (by omega) (by omega) (by omega) (by omega) | exact rdA5 (by omega) (by omega) (by omega) (by omega) (by omega))
 have hf9:=form_in (by assumption)
 refine ifexp_join (s16 (u16v ks (at_ + 2))) ?_ ?_
 ·k_steps
  all_goals first | exact ⟨_,_,congrArg (fun z=>Value.int z _) (s16_hi (by omega) (by assumption)),rfl⟩ | exact ⟨_,_,congrArg (fun z=>Value.int z _) (s16_lo (by omega) (by assumption)),rfl⟩
 intro t8 k8
 k_steps
 rotate_left
 ·(refine hE _ ?_ _ _ _ (Rz.of_kp (by assumption) hg' fun _ _ _ n=>n);first | exact rdA1 (by omega) (by omega) | exact rdA2 (by omega) (by omega) (by omega) | exact rdA3 (by omega) (by omega) (by omega) (by omega) (by omega) | exact rdA4 (by omega) (by omega) (by omega) (by omega) (by omega) | exact rdA5 (by omega) (by omega) (by omega) (by omega) (by omega))
 refine ifexp_join (s16 (u16v ks (at_ + 4))) ?_ ?_
 ·k_steps
  all_goals first | exact ⟨_,_,congrArg (fun z=>Value.int z _) (s16_hi (by omega) (by assumption)),rfl⟩ | exact ⟨_,_,congrArg (fun z=>Value.int z _) (s16_lo (by omega) (by assumption)),rfl⟩
 intro t9 k9
 k_steps
 ·(refine hE _ ?_ _ _ _ (Rz.of_kp (by assumption) hg' fun _ _ _ n=>n);first | exact rdA1 (by omega) (by omega) | exact rdA2 (by omega) (by omega) (by omega) | exact rdA3 (by omega) (by omega) (by omega) (by omega) (by omega) | exact rdA4 (by omega) (by omega) (by omega) (by omega) (by omega) | exact rdA5 (by omega) (by omega) (by omega) (by omega) (by omega))
 ·refine hret _ _ ?_ _ _ _ _ _ (by assumption) (news_app (l:=[_]) (news_one1 (by assumption)) (hrest _ (Kp.of_keep hg' (Fr.keep (by assumption))))) (off1_new Nr.1 hg' (by assumption) (by k_mem))
  exact rdA0 (by omega) (by omega) (by omega) (by omega)
theorem u63 : upto 63:=hk @c_62 u62 (by with_unfolding_all exact rfl)
open kc in
theorem law_anchor_spec {E w p loose mean mg mb dp un gd cn cs a ccd cl outer A₀ base h₀ L m restX1 s QX1 t1 t2} : s_62 E w p loose mean mg mb dp un gd cn cs a ccd cl outer A₀ base h₀ L m restX1 s QX1 t1 t2:=@hkT _ u63 (by k_extra "T") _ (by exact rfl)
end NW17
theorem dNW17 : True:=trivial
section NW18
theorem lnNW18_1 : True:=by
 k_with "L92" => ((k_here;(rename Rz _ _ _ _ _ _ _=>rzR);(rename KeepIt _ _=>kpI);k_dflt (refine' rz_nextK kpI ?zK ?zF ?zk ?zN ?zhh ?zhn rzR ?_;(case zK=>k_asm);(case zk=>exact fun b o e _=>Fr.keep (by assumption) b o e);(case zF=>k_asm);(case zN=>k_asm);(case zhh=>exact fun _ _ _=>List.not_mem_nil);(case zhn=>exact List.forall_mem_cons.mpr ⟨⟨(by first | k_mem | (repeat (first | assumption | refine List.mem_cons_of_mem _ ?_))),List.not_mem_nil⟩,List.forall_mem_nil _⟩));clear rzR;intro _ _))
 k_with "L93" => ((k_here;(rename KeepIt _ _=>kpI);k_dflt (refine' rz_firstK kpI ?zK ?zF ?zN ?zne ?zaa ?zl1 ?zl2 ?zhn ?_ ?zhk;(case zK=>k_asm);(case zF=>k_asm);(case zN=>k_asm);(case zne=>assumption);(case zaa=>exact ⟨⟨_,rfl⟩,⟨_,_,rfl⟩,rfl⟩);(case zl1=>assumption);(case zl2=>assumption);(case zhn=>exact List.forall_mem_cons.mpr ⟨(by first | k_mem | (repeat (first | assumption | refine List.mem_cons_of_mem _ ?_))),List.forall_mem_nil _⟩);(case zhk=>exact rfl));intro _ _))
 k_with "L94" => ((k_here;(with_reducible show wpAny _ _ (pyIter _) (fun it s₂=>LoopAtV _ _ _ _ _ (PySem.Str.ofString "place") _ _ _ it s₂) _ _);refine Stop.mk ?_))
 k_with "L95" => ((k_here;(with_reducible show wpAny _ _ (pyIter _) (fun it s₂=>LoopAtV _ _ _ _ _ (PySem.Str.ofString "spot") _ _ _ it s₂) _ _);refine Stop.mk ?_))
 k_with "L96" => ((k_here;(with_reducible show wpAny _ _ (call (Value.builtin "len") [Value.ref _]) _ _ _);k_dflt (refine len_lisN (by k_asm) (by k_mem) (by omega) ?_)))
 k_with "L97" => ((k_here;(with_reducible show wpAny _ _ (call (Value.ref 518) [Value.bytes _ _,Value.int _ _]) _ _ _);k_dflt (refine' law_anchor_spec ?zB ?zF ?zX ?zT ?zhk ?zN _ _ ?zhks _ ?zh0 ?zh1 ?zhb ?zhd ?zhu ?_ ?_;k_extra "Q";(case zhks=>assumption);(case zh0=>omega);(case zh1=>omega);(case zhb=>omega);k_extra "V");(intro _ _ _ _ _ _ _ _ _ _ n1';(try k_sweep);(try simp only [LCg.Off1,and_true] at n1');(try (revert n1';intro _));(try dsimp only));rotate_left;(intro _ _ _ _ _ _;(try dsimp only));rotate_right))
 k_with "call ref" => ((fail_if_success have:=dNW18);first | k_extra "L97" | k_extra "L89" | k_extra "L13" | fail)
 k_with "leaving ref" => ((fail_if_success have:=dNW18);first | k_extra "L93" | k_extra "L92" | fail)
 k_with "exec For Name Tuple cons nil" => ((fail_if_success have:=dNW18);first | k_extra "L23" | fail)
 k_with "exec For Name Call cons nil" => ((fail_if_success have:=dNW18);first | k_extra "L23" | fail)
 k_with "pyIter ref" => ((fail_if_success have:=dNW18);first | k_extra "L95" | k_extra "L94" | fail)
 k_with "TurnP" => ((fail_if_success have:=dNW18);first | k_extra "L29" | fail)
 k_with "A" => ((fail_if_success have:=dNW18);first | k_extra "L28" | k_extra "L27" | fail)
 k_with "call builtin:len" => ((fail_if_success have:=dNW18);first | k_extra "L96" | fail)
 k_with "call type:tuple" => ((fail_if_success have:=dNW18);first | k_extra "L54" | fail)
 exact True.intro
theorem rdTwo_one (ks : List Int) (beg spot : Int) : rdTwo ks beg spot = (match rdOne ks beg spot with
  | .error e=>.error e
  | .ok a=>match rdOne ks beg (spot + 2) with
   | .error e=>.error e
   | .ok c=>.ok (a,c)):=by
 unfold rdTwo rdOne
 by_cases h1 : (ks.length : Int) < spot + 2
 ·rw [if_pos h1,if_pos h1]
 ·rw [if_neg h1,if_neg h1]
  cases rdBehind ks beg (u16v ks spot) with
  | error e=>rfl
  | ok a =>
   dsimp only
   by_cases h2 : (ks.length : Int) < spot + 2 + 2
   ·first | rw [if_pos h2,if_pos h2] | (rw [if_pos (by omega),if_pos h2])
   ·rw [if_neg (by omega),if_neg h2]
    all_goals (cases rdBehind ks beg (u16v ks (spot + 2)) <;> rfl)
theorem OnesOk.next {ks : List Int} {beg spot : Int} {j : Nat} {os : List (Option Pt)} (h : OnesOk ks beg spot j os) {o : Option Pt} (ho : rdOne ks beg (spot + 2 * (j : Int)) = .ok o) : OnesOk ks beg spot (j + 1) (os ++ [o]):=by
 refine ⟨by rw [List.length_append,h.1];rfl,fun k x hx=>?_⟩
 rw [List.getElem?_append] at hx
 split at hx
 ·exact h.2 k x hx
 ·rename_i hk
  have : k - os.length = 0:=by
   cases e : k - os.length with
   | zero=>rfl
   | succ n=>rw [e] at hx;cases hx
  rw [this] at hx
  have hkj : k = j:=by rw [← h.1];omega
  rw [hkj,ho]
  exact congrArg Except.ok (Option.some.inj hx)
theorem OnesOk.fault {ks : List Int} {beg spot z : Int} {j : Nat} {os : List (Option Pt)} (h : OnesOk ks beg spot j os) (hj : j < 2) (e : rdOne ks beg (spot + 2 * (j : Int)) = .error z) : rdTwo ks beg spot = .error z:=by
 rw [rdTwo_one]
 have hc : j = 0 ∨ j = 1:=by omega
 rcases hc with rfl | rfl
 ·rw [show spot + 2 * ((0 : Nat) : Int) = spot from by omega] at e
  rw [e]
 ·obtain ⟨o,ho⟩ : ∃ o,os[0]? = some o:=⟨_,List.getElem?_eq_getElem (by rw [h.1];decide)⟩
  have h0:=h.2 0 o ho
  rw [show spot + 2 * ((0 : Nat) : Int) = spot from by omega] at h0
  rw [show spot + 2 * ((1 : Nat) : Int) = spot + 2 from by omega] at e
  rw [h0]
  dsimp only
  rw [e]
theorem OnesOk.done {ks : List Int} {beg spot : Int} {os : List (Option Pt)} (h : OnesOk ks beg spot 2 os) : ∃ o1 o2,os = [o1,o2]∧rdTwo ks beg spot = .ok (o1,o2):=by
 refine an2 h fun hl ha=>?_
 clear h
 refine ex2 (two_of hl) fun o1 o2 e92=>?_
 subst e92
 refine ei2 o1 o2 ⟨rfl,?_⟩
 have h0:=ha 0 o1 rfl
 have h1:=ha 1 o2 rfl
 rw [show spot + 2 * ((0 : Nat) : Int) = spot from by omega] at h0
 rw [show spot + 2 * ((1 : Nat) : Int) = spot + 2 from by omega] at h1
 rw [rdTwo_one,h0]
 dsimp only
 rw [h1]
theorem two_at {a b e : Int} {ta tb : Tok} {j : Nat} {v : Value} (h : [Value.int a ta,.int b tb][j]? = some v) (h0 : j = 0→a = e) (h1 : j = 1→b = e) : ∃ t,v = .int e t:=by
 rcases j with _ | _ | j
 ·exact ⟨ta,by rw [← Option.some.inj h,h0 rfl]⟩
 ·exact ⟨tb,by rw [← Option.some.inj h,h1 rfl]⟩
 ·cases h
theorem rdOne_e1 {ks : List Int} {beg sp : Int} (h : ks.length < sp + 2) : rdOne ks beg sp = .error sp:=if_pos h
theorem rdOne_of {ks : List Int} {beg sp v : Int} (h : sp + 2 ≤ ks.length) (e : v = u16v ks sp) : rdOne ks beg sp = rdBehind ks beg v:=by rw [e];exact if_neg (by omega)
theorem turn_law {g' h' : Heap} {L I en : Addr} {x : Str} {stored : List Str} {m₀ mm : Str→Option Value} {J : List (Addr × Obj)→Prop} {own q τ σ ρ : List (Addr × Obj)} {oE : Obj} {b c : Addr × Obj} {s₁ : Shared} {tk : Nat}
  (F : Fr g' L h' mm) (N : News g' L h' (q ++ (en,oE) :: b :: c :: ρ)) (u1 : ∀ p ∈ τ,p ∈ ρ) (u2 : ∀ p ∈ σ,p ∈ ρ) (u3 : ∀ p ∈ own,p ∈ ρ) (hIo : ∃ o,(I,o) ∈ own) (i1 : en ≠ I) (i2 : b.1 ≠ I) (i3 : c.1 ≠ I) (u4 : ∀ p ∈ τ ++ σ,p.1 ≠ I)
  (hq : ∀ p ∈ q,LCg.Off1 p.1 ρ) (hm : ∀ y,y ≠ x→stored.contains y = false→mm y = m₀ y) (hJ : J ((en,oE) :: b :: c :: ((q ++ τ) ++ σ))) : TurnT g' L I x stored m₀ J own s₁ { s₁ with heap:=h',toks:=tk}:=by
 refine ex1 hIo fun oI mI=>?_
 clear hIo
 refine ei5 h' tk mm _ _ ⟨rfl,F,N,?_,fun p hp=>List.mem_append_right _ (.tail _ (.tail _ (.tail _ (u3 p hp)))),?_,hm,hJ⟩
 ·intro p hp
  rcases List.mem_cons.mp hp with rfl | hp
  ·exact List.mem_append_right _ (.head _)
  ·rcases List.mem_cons.mp hp with rfl | hp
   ·exact List.mem_append_right _ (.tail _ (.head _))
   ·rcases List.mem_cons.mp hp with rfl | hp
    ·exact List.mem_append_right _ (.tail _ (.tail _ (.head _)))
    ·rcases List.mem_append.mp hp with hp | hp
     ·rcases List.mem_append.mp hp with hp | hp
      ·exact List.mem_append_left _ hp
      ·exact List.mem_append_right _ (.tail _ (.tail _ (.tail _ (u1 p hp))))
     ·exact List.mem_append_right _ (.tail _ (.tail _ (.tail _ (u2 p hp))))
 ·intro p hp
  rcases List.mem_cons.mp hp with rfl | hp
  ·exact i1
  ·rcases List.mem_cons.mp hp with rfl | hp
   ·exact i2
   ·rcases List.mem_cons.mp hp with rfl | hp
    ·exact i3
    ·rcases List.mem_append.mp hp with hp | hp
     ·rcases List.mem_append.mp hp with hp | hp
      ·exact (off1_all (hq p hp) _ (u3 _ mI)).symm
      ·exact u4 p (List.mem_append_left _ hp)
     ·exact u4 p (List.mem_append_right _ hp)
theorem datO_ok (o : Option Pt) : kqdOk 8 (datO o) = true:=by cases o <;> rfl
theorem ints_get : ∀ {vs : List Value} {ns : List Int},IntsAre vs ns→∀ {i : Nat} {g : Int},ns[i]? = some g→∃ t,vs[i]? = some (.int g t):=by
 intro vs ns h
 induction h with
 | nil=>intro i g h;cases h
 | cons n t _ ih =>
  intro i g h
  cases i with
  | zero=>exact ⟨t,by rw [← Option.some.inj h];rfl⟩
  | succ i=>exact ih h
open Classical in
theorem ne_hasEnd (g : Int) {o1 o2 : Option Pt} : (!decide ([o1,o2].map datO = [Dat.none,Dat.none])) = hasEnd (g,o1,o2):=by
 rcases o1 with _ | z1 <;> rcases o2 with _ | z2 <;> simp [hasEnd,datO]
theorem ne_off {l l' : List Str} {y : Str} (h : l.contains y = false) (hs : ∀ x ∈ l',l.contains x = true) : ¬ (l'.contains y = true):=fun e=>by
 have:=hs y (by simpa using e)
 rw [this] at h;cases h
theorem lnNW18_2 : True:=by
 k_with "L98" => ((k_here;(with_reducible show wpAny _ _ (subscriptTail _ _ (Value.ref _) (Value.int _ _)) _ _ _);k_dflt (refine tail_at (by k_asm) (by k_mem) (by omega) (by omega) (by assumption) ?_ (by with_unfolding_all rfl) (by intro _;with_unfolding_all rfl))))
 k_with "subscriptTail Name Constant ref int" => ((fail_if_success have:=dNW18);first | k_extra "L90" | fail)
 k_with "subscriptTail Name Name ref int" => ((fail_if_success have:=dNW18);first | k_extra "L98" | fail)
 exact True.intro
open kc in
theorem c_63 : s_63 E w p loose mean mg mb dp un gd cn cs a ccd cl outer A₀ base h₀ L m restX1 s QX1 t1 t2 gl gvs:=by
 intro B F X T hk N gc gs hg hi hl b ks hks at_ h0 h1 hb hroom hd hu hret hE
 have Nr : News h₀ L s.heap restX1∧True:=⟨N,trivial⟩
 have Kq : KeepIt s.heap [(gl,listOf gvs.toArray gc)]:=fun q hq=>by rw [List.mem_singleton.mp hq];exact (N _ hg).1
 have hvl : gvs.length = gs.length:=hi.length
 have Hi : IntsAre gvs gs∧True:=⟨hi,trivial⟩
 have N₀ : News h₀ L s.heap [(gl,listOf gvs.toArray gc)]:=news_sub N fun p hp=>by rw [List.mem_singleton.mp hp];exact hg
 clear N
 refine wpAny_call ?_
 k_dflt (refine' code_defH [("data",.bytes b t1),("at",.int at_ t2),("glyphs",.ref gl)] ?k1 ?k2 ?k3 ?k4 ?k5 ?kA ?kF ?kK ?k6 ?k7 ?k8 ?k9 ?kB ?_ ?c2 ?c3 ?c4 ?c5;walk_at "nu_enter";intro g' L' h' FG' F' N' B' X' T' hg')
 (try dsimp only)
 k_fold
 k_steps
 ·refine hE _ ?_ _ _ _ (RzN.full (by assumption) hg' (by assumption))
  rw [rdCur,if_pos (by omega)]
 ·refine hE _ ?_ _ _ _ (RzN.full (by assumption) hg' (by assumption))
  rw [rdCur,if_neg (by omega),if_pos (by omega)]
 refine Stop.out ?_
 rename_i fo h8 la8 h9 F9 N9
 refine For_invVF F9 rfl rfl ?_
 k_steps
 refine Stop.out ?_
 rename_i e8 h7 tk7 t7 u7 v7 R7 F7 N7 K7
 have hcur : rdCur ks at_ gs = rdEnds ks at_ gs (at_ + 6):=by
  rw [rdCur,if_neg (by omega),if_neg (by omega)]
 have n1 : @Ne Nat gl fo:=Nat.ne_of_lt la8
 refine iter_range (n:=gs.length) ["ends", "spot", "offset"] (fun i nl=>∃ fvs c τ rows,nl = (fo,listOf fvs.toArray c) :: (gl,listOf gvs.toArray gc) :: τ∧DatAll τ fvs ((rows.filter hasEnd).map datR)∧rows.length = i∧LCg.Off1 fo τ∧rdEnds ks at_ gs (at_ + 6) = catR rows (rdEnds ks at_ (gs.drop i) (at_ + 6 + 4 * (i : Int)))) rfl R7 (range_small hl) (range_size _) F7 N7 ⟨[],0,[],[],rfl,.nil,rfl,trivial,by
  rw [show at_ + 6 + 4 * ((0 : Nat) : Int) = at_ + 6 from by omega];exact (catR_nil _).symm⟩ ?_ ?_
 ·intro i t u I news₁ own h tk hlt hJ hown hIo hI F' N'
  refine ex4 hJ fun fvs c τ rows q9=>an5 q9 fun e90 hda hrl of1 hE9=>?_
  clear q9 hJ
  subst e90
  obtain ⟨g,hgi⟩ : ∃ g,gs[i]? = some g:=⟨_,List.getElem?_eq_getElem hlt⟩
  refine ex1 (ints_get Hi.1 hgi) fun tg hgv=>?_
  rw [drop_at hgi] at hE9
  have i1 : @Ne Nat fo I:=hI _ (.head _)
  have i2 : @Ne Nat gl I:=hI _ (.tail _ (.head _))
  have hown1 : ∀ p ∈ own,p.1 = I:=hown
  have w1 : LCg.Off1 fo own:=off1_of fun q hq=>by rw [hown q hq];exact Ne.symm i1
  have w2:=off1_app of1 w1
  have ht1 : ∀ p ∈ τ,p ∈ τ ++ own:=fun p hp=>List.mem_append_left _ hp
  have ht2 : ∀ p ∈ own,p ∈ τ ++ own:=fun p hp=>List.mem_append_right _ hp
  have ht3 : ∀ p ∈ τ,p.1 ≠ I:=fun p hp=>hI p (.tail _ (.tail _ hp))
  have hfl : fvs.length ≤ i:=by
   rw [hda.length,List.length_map,← hrl]
   exact List.length_filter_le _ _
  simp only [List.cons_append] at N'
  refine ex1 (id hIo) fun oI mI=>?_
  have hspot : 0 ≤ at_ + 6 + 4 * (i : Int)∧at_ + 6 + 4 * (i : Int) < 2^31:=by omega
  generalize τ ++ own = σ at N' w2 ht1 ht2
  clear F7 N7 R7 K7
  walk_at "S2"
  refine Stop.out ?_
  rename_i en h5 F5 N5 la5 hq5 Fq Nq
  refine For_invVF Fq rfl rfl ?_
  walk_at "S2"
  rename_i h6 D6 h4 F4 N4 l4
  have e1 : @Ne Nat D6 en:=Nat.ne_of_gt l4.1
  have e2 : @Ne Nat D6 fo:=Nat.ne_of_gt l4.2.1
  have e3 : @Ne Nat D6 gl:=Nat.ne_of_gt l4.2.2.1
  have wen : LCg.Off1 en σ:=off1_lt la5.2.2
  have hD6 : LCg.Off1 D6 σ:=off1_lt l4.2.2.2
  have N3 : News g' L' h4 ((en,listOf #[] 0) :: (fo,listOf fvs.toArray c) :: (gl,listOf gvs.toArray gc) :: σ):=news_sub N4 fun p hp=>.tail _ hp
  refine Stop.out (iter_seq (its:=[.int (at_ + 6 + 4 * (0 + (i : Int))) _,.int (at_ + 8 + 4 * (0 + (i : Int))) _]) ["offset"] (fun j nl=>∃ evs c5 τ5 os,nl = (en,listOf evs.toArray c5) :: (fo,listOf fvs.toArray c) :: (gl,listOf gvs.toArray gc) :: (τ5 ++ σ)∧DatAll τ5 evs (os.map datO)∧OnesOk ks at_ (at_ + 6 + 4 * (i : Int)) j os∧LCg.Off1 en τ5∧LCg.Off1 fo τ5∧(∀ p ∈ τ5,@Ne Nat p.1 I)) rfl (.inr ⟨_,(N4 _ (.head _)).1,rfl,_,rfl⟩) (N4 _ (.head _)).2.1 F4 N3 (ei4 [] 0 [] [] ⟨rfl,.nil,⟨rfl,fun k o h=>by cases h⟩,trivial,trivial,(List.forall_mem_nil _)⟩) ?_ ?_)
  ·intro j v u2 I2 news2 own2 h tk hv hJ hown2 hIo2 hI2 hne2 F' N'
   refine ex4 hJ fun evs c5 τ5 os q9=>an6 q9 fun e90 hde hos of5 of6 of8=>?_
   clear q9 hJ
   subst e90
   have hj : j < 2:=by
    have:=(List.getElem?_eq_some_iff.mp hv).1
    simpa using this
   obtain ⟨tv,rfl⟩:=two_at (e:=at_ + 6 + 4 * (i : Int) + 2 * (j : Int)) hv (fun h=>by subst h;omega) (fun h=>by subst h;omega)
   simp only [List.cons_append,List.append_assoc] at N'
   have j1 : @Ne Nat en I2:=hI2 _ (.head _)
   have wen2 : LCg.Off1 en (τ5 ++ (σ ++ own2)):=off1_app of5 (off1_app wen (off1_own (l:=[]) trivial hown2 j1 e1))
   have hu1 : ∀ p ∈ τ5,p ∈ τ5 ++ (σ ++ own2):=fun p hp=>List.mem_append_left _ hp
   have hu2 : ∀ p ∈ σ,p ∈ τ5 ++ (σ ++ own2):=fun p hp=>List.mem_append_right _ (List.mem_append_left _ hp)
   have hu3 : ∀ p ∈ own2,p ∈ τ5 ++ (σ ++ own2):=fun p hp=>List.mem_append_right _ (List.mem_append_right _ hp)
   have hu4 : ∀ p ∈ τ5 ++ σ,p.1 ≠ I2:=fun p hp=>hI2 p (.tail _ (.tail _ (.tail _ hp)))
   have hevl : evs.length ≤ 2:=by rw [hde.length,List.length_map,hos.1];omega
   have hsj : 0 ≤ at_ + 6 + 4 * (i : Int) + 2 * (j : Int)∧at_ + 6 + 4 * (i : Int) + 2 * (j : Int) < 2^32:=by omega
   have hof:=@OnesOk.fault ks at_ (at_ + 6 + 4 * (i : Int))
   have hon:=@OnesOk.next ks at_ (at_ + 6 + 4 * (i : Int)) j os hos
   replace hof:=fun z=>@hof z j os hos hj
   generalize τ5 ++ (σ ++ own2) = ρ at N' wen2 hu1 hu2 hu3
   generalize at_ + 6 + 4 * (i : Int) + 2 * (j : Int) = sp at F' hsj hof hon
   clear N4 F4 N3
   walk_at "S2"
   ·refine Stop.out ?_
    (with_reducible rename Fr _ _ _ _=>F9x)
    rename News _ _ _ ((_,listOf (Array.push _ _) _) :: _ :: _ :: _)=>N9x
    rw [List.push_toArray] at N9x
    refine turn_law (q:=[]) (τ:=τ5) (σ:=σ) (ρ:=ρ) F9x N9x hu1 hu2 hu3 hIo2 j1 (hI2 _ (.tail _ (.head _))) (hI2 _ (.tail _ (.tail _ (.head _)))) hu4 (List.forall_mem_nil _) (fun y h1 h2=>by (try dsimp only);rw [if_neg (ne_c1 h2),if_neg h1,if_neg (by rw [h2];exact Bool.false_ne_true)]) (ei4 _ _ τ5 _ ⟨rfl,?_,hon ((rdOne_of (by assumption) (by assumption)).trans (rdBehind_none (by assumption))),of5,of6,of8⟩)
    rw [List.map_append]
    exact hde.append (.one .none)
   ·refine Stop.out ?_
    (with_reducible rename Fr _ _ _ _=>F9x)
    rename News _ _ _ (_ :: (_,listOf (Array.push _ _) _) :: _ :: _ :: _)=>N9x
    rw [List.push_toArray] at N9x
    have n9:=‹en ≠ _∧fo ≠ _∧gl ≠ _∧LCg.Off1 _ ρ›
    refine turn_law (q:=[_]) (τ:=τ5) (σ:=σ) (ρ:=ρ) F9x N9x hu1 hu2 hu3 hIo2 j1 (hI2 _ (.tail _ (.head _))) (hI2 _ (.tail _ (.tail _ (.head _)))) hu4 ?_ (fun y h1 h2=>by (try dsimp only);rw [if_neg (ne_c1 h2),if_neg h1,if_neg (by rw [h2];exact Bool.false_ne_true)]) (ei4 _ _ (_ :: τ5) _ ⟨rfl,?_,hon ((rdOne_of (by assumption) (by assumption)).trans (rdBehind_some (by assumption) (by assumption))),⟨Ne.symm n9.1,of5⟩,⟨Ne.symm n9.2.1,of6⟩,List.forall_mem_cons.mpr ⟨Ne.symm (off1_all n9.2.2.2 _ (hu2 _ (ht2 _ mI))),of8⟩⟩)
    ·exact List.forall_mem_cons.mpr ⟨n9.2.2.2,List.forall_mem_nil _⟩
    ·rw [List.map_append]
     exact (hde.mono fun p hp=>.tail _ hp).append (.one (.tuple (vs:=[.int _ _,.int _ _]) (.head _) (.cons (.int _ _) (.cons (.int _ _) .nil))))
   ·exact hE _ (hcur.trans (rdEnds_fault hE9 (hof _ ((rdOne_of (by assumption) (by assumption)).trans (rdBehind_err (by assumption) (by assumption)))))) _ _ _ (RzN.full (by assumption) hg' (by assumption))
   ·exact hE _ (hcur.trans (rdEnds_fault hE9 (hof _ (rdOne_e1 (by assumption))))) _ _ _ (RzN.full (by assumption) hg' (by assumption))
  ·intro u2 news2 h tk hJ F' N'
   refine ex4 hJ fun evs c5 τ5 os q9=>an6 q9 fun e90 hde hos of5 of6 of8=>?_
   clear q9 hJ
   subst e90
   refine ex2 (hos.done) fun o1 o2 q9=>an2 q9 fun e92 hT=>?_
   clear q9
   subst e92
   clear N4 F4 N3
   have hE8:=rdEnds_step hE9 hT
   have hE7 : rdEnds ks at_ gs (at_ + 6) = catR (rows ++ [(g,o1,o2)]) (rdEnds ks at_ (gs.drop (i + 1)) (at_ + 6 + 4 * ((i + 1 : Nat) : Int))):=by
    rw [show at_ + 6 + 4 * ((i + 1 : Nat) : Int) = at_ + 6 + 4 * (i : Int) + 4 from by omega];exact hE8
   have w5 : LCg.Off1 fo (τ5 ++ σ):=off1_app of6 w2
   have he2 : evs.length = 2:=by rw [hde.length];rfl
   refine ex2 (two_of he2) fun v1 v2 e92=>?_
   subst e92
   walk_at "S2"
   refine kqd_ne (n₂:=[]) (xs:=[v1,v2]) (ys:=[.none,.none]) (by assumption) (by k_mem) rfl rfl hde ?_ (by k_mem) rfl rfl (.cons .none (.cons .none .nil)) (List.forall_mem_nil _) ?_ ?_ (by ktr_units) ?_
   ·exact fun p hp=>.tail _ (.tail _ (.tail _ (.tail _ (List.mem_append_left _ hp))))
   ·exact List.forall_mem_cons.mpr ⟨datO_ok _,List.forall_mem_cons.mpr ⟨datO_ok _,List.forall_mem_nil _⟩⟩
   ·exact List.forall_mem_cons.mpr ⟨rfl,List.forall_mem_cons.mpr ⟨rfl,List.forall_mem_nil _⟩⟩
   ·have hgv' : gvs.toArray[(0 + (i : Int)).toNat]? = some (.int g tg):=by
     rw [show (0 + (i : Int)).toNat = i from by omega,List.getElem?_toArray,hgv]
    have hie : 0 ≤ 0 + (i : Int)∧0 + (i : Int) < 1000:=by omega
    rw [ne_hasEnd g]
    cases hhe : hasEnd (g,o1,o2)
    ·walk_at "S2"
     refine Stop.out ?_
     (with_reducible rename Fr _ _ _ _=>F9x)
     rename News _ _ _ (_ :: _ :: (_,listOf _ _) :: _ :: _)=>N9x
     refine ei5 _ _ _ ((fo,listOf fvs.toArray c) :: (gl,listOf gvs.toArray gc) :: τ) _ ⟨rfl,F9x,N9x,?_,fun p hp=>.tail _ (.tail _ (.tail _ (.tail _ (List.mem_append_right _ (ht2 p hp))))),?_,(fun y h1 h2=>by (try dsimp only);rw [if_neg (ne_in (by decide) h2),if_neg (ne_off h2 (by decide)),if_neg (ne_in (by decide) h2),if_neg h1,if_neg (by rw [h2];exact Bool.false_ne_true)]),(ei4 fvs c τ (rows ++ [(g,o1,o2)]) ⟨rfl,?_,by rw [List.length_append,hrl];rfl,of1,hE7⟩)⟩
     ·exact List.forall_mem_cons.mpr ⟨.tail _ (.tail _ (.head _)),List.forall_mem_cons.mpr ⟨.tail _ (.tail _ (.tail _ (.head _))),fun p hp=>.tail _ (.tail _ (.tail _ (.tail _ (List.mem_append_right _ (ht1 p hp)))))⟩⟩
     ·exact List.forall_mem_cons.mpr ⟨i1,List.forall_mem_cons.mpr ⟨i2,ht3⟩⟩
     ·rw [List.filter_append,show [(g,o1,o2)].filter hasEnd = [] from by rw [List.filter_cons,hhe];rfl,List.append_nil]
      exact hda
    ·walk_at "S2"
     refine Stop.out ?_
     rename_i T9 h9 l9 h8 F9x N9x
     rw [List.push_toArray] at N9x
     refine an2 (dat_two hde) fun d1 d2=>?_
     refine ei5 _ _ _ ((fo,listOf (fvs ++ [Value.ref T9]).toArray (c + 1)) :: (gl,listOf gvs.toArray gc) :: (T9,({ cls:=.type "tuple",data:=.seq #[.int g tg,v1,v2]} : Obj)) :: (τ5 ++ τ)) _ ⟨rfl,F9x,N9x,?_,fun p hp=>.tail _ (.tail _ (.tail _ (.tail _ (.tail _ (List.mem_append_right _ (ht2 p hp)))))),?_,(fun y h1 h2=>by (try dsimp only);rw [if_neg (ne_in (by decide) h2),if_neg (ne_off h2 (by decide)),if_neg (ne_in (by decide) h2),if_neg h1,if_neg (by rw [h2];exact Bool.false_ne_true)]),(ei4 _ _ ((T9,({ cls:=.type "tuple",data:=.seq #[.int g tg,v1,v2]} : Obj)) :: (τ5 ++ τ)) (rows ++ [(g,o1,o2)]) ⟨rfl,?_,by rw [List.length_append,hrl];rfl,⟨Nat.ne_of_gt l9.2.2.1,off1_app of6 of1⟩,hE7⟩)⟩
     ·refine List.forall_mem_cons.mpr ⟨.tail _ (.tail _ (.tail _ (.head _))),List.forall_mem_cons.mpr ⟨.tail _ (.tail _ (.tail _ (.tail _ (.head _)))),List.forall_mem_cons.mpr ⟨.head _,fun p hp=>?_⟩⟩⟩
      rcases List.mem_append.mp hp with hp | hp
      ·exact .tail _ (.tail _ (.tail _ (.tail _ (.tail _ (List.mem_append_left _ hp)))))
      ·exact .tail _ (.tail _ (.tail _ (.tail _ (.tail _ (List.mem_append_right _ (ht1 p hp))))))
     ·refine List.forall_mem_cons.mpr ⟨i1,List.forall_mem_cons.mpr ⟨i2,List.forall_mem_cons.mpr ⟨Ne.symm (off1_all (off1_lt l9.2.2.2.2) _ (List.mem_append_right _ (ht2 _ mI))),fun p hp=>?_⟩⟩⟩
      exact (List.mem_append.mp hp).elim (of8 p) (ht3 p)
     ·rw [List.filter_append,show [(g,o1,o2)].filter hasEnd = [(g,o1,o2)] from by rw [List.filter_cons,hhe];rfl,List.map_append]
      exact (hda.mono fun p hp=>.tail _ (List.mem_append_right _ hp)).append (.one (.tuple (vs:=[.int g tg,v1,v2]) (.head _) (.cons (.int _ _) (.cons (d1.mono fun p hp=>.tail _ (List.mem_append_left _ hp)) (.cons (d2.mono fun p hp=>.tail _ (List.mem_append_left _ hp)) .nil)))))
 ·intro u news₁ h tk hJ F' N'
  refine ex4 hJ fun fvs c τ rows q9=>an5 q9 fun e90 hda hrl of1 hE9=>?_
  clear q9 hJ
  subst e90
  rw [List.drop_length] at hE9
  have hyl : fvs.length < 60:=by
   rw [hda.length,List.length_map]
   exact Nat.lt_of_le_of_lt (List.length_filter_le _ _) (by omega)
  clear F7 N7 R7 K7
  k_steps
  rename_i T9 h9 Fx Nx l9 kF9 kN9 _ _
  refine hret rows ?_ (.ref T9) ((T9,({ cls:=.type "tuple",data:=.seq fvs.toArray} : Obj)) :: τ) h9 _ (.tuple (.head _) (hda.mono fun p hp=>.tail _ hp)) kF9 (news_app (news_sub kN9 ?_) (news_hid Nr.1 (Kp.of_keep hg' (Fr.keep (by assumption))) (List.forall_mem_cons.mpr ⟨by rw [News.get (by assumption) (by k_mem),(Nr.1 _ hg).1],List.forall_mem_nil _⟩)))
  ·rw [hcur,hE9,rdEnds_nil,catR_end]
  ·exact List.forall_mem_cons.mpr ⟨.head _,fun p hp=>.tail _ (.tail _ (.tail _ hp))⟩
theorem u64 : upto 64:=hk @c_63 u63 (by with_unfolding_all exact rfl)
open kc in
theorem law_read_spec {E w p loose mean mg mb dp un gd cn cs a ccd cl outer A₀ base h₀ L m restX1 s QX1 t1 t2 gl gvs} : s_63 E w p loose mean mg mb dp un gd cn cs a ccd cl outer A₀ base h₀ L m restX1 s QX1 t1 t2 gl gvs:=@hkT _ u64 (by k_extra "T") _ (by exact rfl)
end NW18
theorem dNW18 : True:=trivial
section NX10
theorem ga9 {w : World} : findIn (hd.heap_1 w.params) (.ref 61) "__getattribute__" = some (some (.builtin "BaseException.__getattribute__")):=by k_is
theorem hook9 {w : World} : findIn (hd.heap_1 w.params) (.ref 61) "__getattr__" = some none:=by k_is
section
variable {w : World} {A : Around} {E : Value→Shared→Prop} {h : Heap} {g : Array GenState} {d : Drawn} {t : Nat} {os : OsState} {e : Addr} {ox : Obj} {od : Option Obj} {name : Str} {v : Value}
theorem fly_own {tk : Tok} {Q : Fin→Shared→Prop} (X : (hd.heap_1 w.params).In h) (I : InstAt h e ox 61 od) (hf : findObj (hd.heap_1 w.params) 61 od name = some (.value v)) (hq : Q (.done (.ret v)) ⟨h,g,d,t,os⟩) :
  wpAny (model pw_nu0185_01 w) A (Builtin.«object.__getattribute__» ⟨[.ref e,.str name tk],[]⟩) Q E ⟨h,g,d,t,os⟩:=by
 have L0:=I.type (M:=model pw_nu0185_01 w)
 have L2:=looks_find (M:=model pw_nu0185_01 w) X I hf
 unfold Builtin.«object.__getattribute__»
 refine wpAny_bind (wpAny_pure (wpAny_bind (wpAny_pure (wpAny_bind (L0.at (wpAny_bind (L2.at ?_)))))))
 exact wpAny_pure hq
theorem fly_check {M : Model} {nameV : Value} {Q : Unit→Shared→Prop} (X : (hd.heap_1 w.params).In h) (hx : h.get? e = some ox) (hc : ox.cls = .ref 61) (hq : Q () ⟨h,g,d,t,os⟩) : wpAny M A (checkBuiltinCall "BaseException.__getattribute__" ⟨[.ref e,nameV],[]⟩) Q E ⟨h,g,d,t,os⟩:=by
 refine ex7 (fault_cls X) fun nm q k0 k1 k2 k3 k5 hC=>?_
 have hk : builtinKind "BaseException.__getattribute__" = some .slot:=by decide +kernel
 have hsplit : splitId "BaseException.__getattribute__" = some ("BaseException", "__getattribute__"):=by decide +kernel
 have hcB : (Value.ref 61 :: excMro).contains (.type "BaseException") = true:=by decide +kernel
 have ha:=F.args_bexc_ga (.ref e) nameV
 unfold checkBuiltinCall
 rw [hk,hsplit]
 refine wpAny_bind ?_
 ·unfold isInstance
  repeat (first | (with_reducible refine wpAny_loadPart_at hx ?_;rw [hc]) | (with_reducible refine wpAny_isSubtype_exc hC ?_;rw [hcB]) | wp_step)
  exact hq
theorem fly_get {expr : Bool} {Q : Value→Shared→Prop} (X : (hd.heap_1 w.params).In h) (I : InstAt h e ox 61 od) (hc : ox.cls = .ref 61) (hf : findObj (hd.heap_1 w.params) 61 od name = some (.value v)) (hv9 : handedIn v = true) (hq : Q v ⟨h,g,d,t + 1,os⟩) :
  wpAny (model pw_nu0185_01 w) A (getAttr (.ref e) name expr) Q E ⟨h,g,d,t,os⟩:=by
 have L0:=I.type (M:=model pw_nu0185_01 w)
 have L1:=looks_findIn (M:=model pw_nu0185_01 w) X ga9
 have L3:=looks_findIn (M:=model pw_nu0185_01 w) X hook9
 have hx0 : (expr && onTheHeap (Value.builtin "BaseException.__getattribute__")) = false:=by cases expr <;> rfl
 have hx2 : (Value.builtin "BaseException.__getattribute__" == Value.builtin "object.__getattribute__") = false:=by decide +kernel
 have hx1 : (onTheHeap (Value.ref 61) && Value.builtin "BaseException.__getattribute__" == Value.builtin "object.__getattribute__") = false:=by rw [hx2];rfl
 unfold getAttr getAttrBy
 refine wpAny_bind (wpAny_mkText (wpAny_holding (wpAny_bind (L0.at (wpAny_bind (L1.at ?_))))))
 dsimp only
 rw [hx1,if_neg (by decide)]
 unfold getAttrByItsOwn hookBefore
 refine wpAny_bind ?_
 rw [if_pos (show onTheHeap (Value.ref 61) = true from rfl)]
 refine L3.at ?_
 unfold callGetattribute boundAndCalled
 rw [hx0,if_neg (by decide)]
 refine wpAny_bind (wpAny_attempt (wpAny_holding ?_))
 refine wpAny_bind (wpAny_of_eq (F.attr_TypeError.ga.bind _) ?_)
 refine wpAny_mono (Q:=fun v' s'=>v' = v∧s' = ⟨h,g,d,t + 1,os⟩) (E:=fun _ _=>False)
  (wpAny_call (codeAny_call_builtin F.attr_TypeError.ga.plain F.entry_bexc_ga (fly_check X I.at_ hc (fly_own X I hf ⟨rfl,rfl⟩)))) (fun v' s' hv=>?_) fun _ _ z=>z.elim
 refine an2 hv fun e90 e91=>?_
 clear hv
 subst e90
 subst e91
 show wpAny _ _ (handedOut v') _ _ _
 rw [handedOut_of hv9]
 exact wpAny_pure hq
end
end NX10
section NW19a
theorem lnNW19a_1 : True:=by
 k_with "call ref" => ((fail_if_success have:=dNW19a);first | k_extra "L13" | fail)
 exact True.intro
theorem fly_attr {w : World} {A : Around} {E : Value→Shared→Prop} {s : Shared} {g : Heap} {L e dx : Addr} {m : Str→Option Value} {es : List DictEntry} {n : Nat} {vs : Array Value} {sl : Array (Option Value)} {news : List (Addr × Obj)} {name : Str} {expr : Bool} {v : Value} {Q : Value→Shared→Prop}
  (F : Fr g L s.heap m) (X : (hd.heap_1 w.params).In g) (N : News g L s.heap ((e,flObj dx vs sl) :: (dx,dictOf es n) :: news)) (ha : findIn (hd.heap_1 w.params) (.ref 61) name = some none) (hh : hasDictIn (hd.heap_1 w.params) 61 = true) (hl : getL name es = some (some v)) (hv : handedIn v = true) (h : Q v { s with toks:=s.toks + 1}) :
  wpAny (model pw_nu0185_01 w) A (getAttr (.ref e) name expr) Q E s :=
 fly_get (od:=some (dictOf es n)) (X.keeps F.keep) ⟨(N _ (.head _)).1,rfl,rfl,(N _ (.tail _ (.head _))).1⟩ rfl (findObj_own hh ha rfl (by rw [lookIn_dict];exact hl)) hv h
theorem lnNW19a_2 : True:=by
 k_with "L99" => ((k_here;k_dflt (refine' fly_attr ?zF ?zX ?zN ?za ?zb ?zl ?zv ?_;(case zF=>k_asm);(case zX=>k_asm);(case zN=>k_asm);(case za=>k_is);(case zb=>k_is);(case zl=>assumption);(case zv=>rfl))))
 k_with "getAttr ref" => ((fail_if_success have:=dNW19a);first | k_extra "L99" | fail)
 exact True.intro
open kc in
theorem c_64 : s_64 A E w p loose mean mg mb outer A₀ base h₀ L m restX1 s QX1 dx env e es vsX1 sl:=by
 intro n at_ B F X T hA hf hke N hat hroom hret
 refine an3 hat fun e90 e91 hto=>?_
 clear hat
 obtain ⟨ti,hti⟩:=e90
 obtain ⟨x,tx,htx⟩:=e91
 refine wpAny_call ?_
 k_dflt (refine' code_defH [("self",.ref e)] B F X N T hA hf hke ?k6 ?k7 hroom ?k9 ?kB ?_ ?c2 ?c3 ?c4 ?c5;(case k6=>k_is);(case k7=>k_is);(case k9=>first | exact BindsTo.of_eq rfl | exact binds_K (by k_in) rfl (by k_is) rfl rfl rfl);(case c5=>decide);(case kB=>exact locs rfl);(case c2=>exact rfl);(case c3=>exact rfl);(case c4=>exact rfl);intro g' L' h' FG' F' N' B' X' T' hg')
 (try dsimp only)
 k_steps
 exact hret _ _ _ _ _ _ (by assumption) (by assumption)
theorem u65 : upto 65:=hk @c_64 u64 (by with_unfolding_all exact rfl)
open kc in
theorem told_fault_spec {A E w p loose mean mg mb outer A₀ base h₀ L m restX1 s QX1 dx env e es vsX1 sl} : s_64 A E w p loose mean mg mb outer A₀ base h₀ L m restX1 s QX1 dx env e es vsX1 sl:=@hkT _ u65 (by k_extra "T") _ (by exact rfl)
end NW19a
theorem dNW19a : True:=trivial
section NW19
theorem lnNW19_1 : True:=by
 k_with "call ref" => ((fail_if_success have:=dNW19);first | k_extra "L13" | fail)
 k_with "subscriptTail Call" => ((fail_if_success have:=dNW19);first | k_extra "L42" | k_extra "L41" | fail)
 exact True.intro
theorem lnNW19_2 : True:=by
 k_with "L100" => (((case kA=>exact rfl);(case kK=>first | exact rfl | assumption);(case k1=>k_asm);(case k2=>k_asm);(case k3=>k_asm);(case k4=>k_asm);(case k5=>k_asm);(case k6=>k_is);(case k7=>k_is);(case k8=>ktr_room);(case k9=>first | exact BindsTo.of_eq rfl | exact binds_K (by k_in) rfl (by k_is) rfl rfl rfl);(case c5=>decide);(case kB=>exact locs rfl);(case c2=>exact rfl);(case c3=>exact rfl);(case c4=>exact rfl);k_whole))
 k_with "L101" => ((k_here;(rename WorkC _ _ _ _ _ _ _ _ _ _ _ _=>hW);(with_reducible show wpAny _ _ (call (Value.ref _) []) _ _ _);k_dflt (refine' hW ?zB ?zF ?zX ?zT ?zhk ?zN ?zhd ?zhu ?_ ?_;k_extra "Q";k_extra "V");clear hW;(intro _ _ _ _ _ _ _ _ _;(try k_sweep);(try dsimp only));rotate_left;(intro _ _ _ _ _ _;(try dsimp only));rotate_right))
 k_with "L102" => ((k_here;k_dflt (refine' callWith_F0 ?zk1 ?_;(case zk1=>exact FnAt.of (by k_asm) (by assumption));k_whole;try dsimp only [List.nil_append,List.cons_append])))
 k_with "L103" => ((k_here;(rename Rz _ _ _ _ _ _ _=>rzR);k_dflt (refine' caught_fly rzR ?zF ?zK ?zN ?zXB ?zTB ?zhh ?zex ?zq ?_ rfl rfl rfl (by decide);(case zF=>k_asm);(case zK=>k_asm);(case zN=>k_asm);(case zhh=>exact under_one (by assumption));(case zXB=>assumption);(case zTB=>assumption);(case zex=>k_is);(case zq=>kts_isx));clear rzR;intro _ _ _ _ _ _ _ _ _ _ _ _ K' _ _;(try k_lift K');(try (revert K';intro _));(try k_sweep)))
 k_with "nu_enterT" => ((fail_if_success have:=dNW19);first | k_extra "L100" | fail)
 k_with "call ref" => ((fail_if_success have:=dNW19);first | k_extra "L101" | fail)
 k_with "callWith ref" => ((fail_if_success have:=dNW19);first | k_extra "L102" | fail)
 k_with "noteFrame ref" => ((fail_if_success have:=dNW19);first | k_extra "L103" | fail)
 exact True.intro
theorem can9 : Manifest.canonical "BaseException.__getattribute__" = "object.__getattribute__" := by decide +kernel
open kc in
theorem c_65 : s_65 A E w L m s dx news g e es vsX1 sl:=by
 intro n at_ pl Q F X N A' h
 have X':=X.keeps F.keep
 have I : InstAt s.heap e (flObj dx vsX1 sl) 61 (some (dictOf es n)):=⟨(N _ (.head _)).1,rfl,rfl,(N _ (.tail _ (.head _))).1⟩
 have hk : findIn (hd.heap_1 w.params) (.ref 61) "__getattr__" = some none:=by k_is
 have hf : findIn (hd.heap_1 w.params) (.ref 61) "told" = some (some (.ref 45)):=by k_is
 have ht : typeIn (hd.heap_1 w.params) (.ref 45) = some (.type "function"):=by k_is
 have hdx:=(N _ (.tail _ (.head _))).1
 unfold getMethod specialOf
 refine wpAny_bind (wpAny_bind (I.type.here ((looks_findIn X' ga9).here ?_)))
 dsimp only
 rw [can9,if_neg (by decide)]
 refine wpAny_bind (wpAny_bind (I.type.here ((looks_findIn X' hk).here ?_)))
 refine wpAny_bind (wpAny_bind (I.type.here ((looks_findIn X' hf).here (wpAny_bind ((looks_typeIn X' ht).here ?_)))))
 rw [if_neg (by decide +kernel)]
 refine wpAny_bind (wpAny_loadPart I.at_ ?_)
 refine wpAny_bind (wpAny_bind (wpAny_loadPart hdx ?_))
 rw [nsLook_of (show lookIn "told" (dictOf es n) = some none from by rw [lookIn_dict];exact A'.2.2)]
 refine wpAny_pure ?_
 exact wpAny_bind (wpAny_rule (wpAny_pure h))
theorem u66 : upto 66:=hk @c_65 u65 (by with_unfolding_all exact rfl)
open kc in
theorem told_method {A E w L m s dx news g e es vsX1 sl} : s_65 A E w L m s dx news g e es vsX1 sl:=@hkT _ u66 (by k_extra "T") _ (by exact rfl)
theorem lnNW19_3 : True:=by
 k_with "L104" => ((k_here;(with_reducible show wpAny _ _ (getMethod (Value.ref _) (Str.ofString "told") _) _ _ _);k_dflt (refine' told_method ?zF ?zX ?zN ?zA ?_;(case zF=>k_asm);(case zX=>k_asm);(case zN=>k_asm);(case zA=>assumption))))
 k_with "L105" => ((k_here;(with_reducible show wpAny _ _ (call (Value.ref 45) [Value.ref _]) _ _ _);k_dflt (refine' told_fault_spec ?zB ?zF ?zX ?zT ?zhA ?zhf ?zhk ?zN ?zhat ?zhroom ?_;(case zB=>k_asm);(case zF=>k_asm);(case zX=>k_asm);(case zT=>k_asm);(case zhA=>exact rfl);(case zhf=>exact rfl);(case zhk=>exact rfl);(case zN=>k_asm);(case zhat=>assumption);(case zhroom=>first | ktr_room | (with_unfolding_all (refine Nat.lt_of_succ_lt ?_);ktr_room) | (show dp + 1 < recursionLimit;omega) | (simp only [Around.mark,Around.deeper,ktrTop];omega)));intro _ _ _ _ _ _ _ _;(try k_sweep);(try dsimp only)))
 k_with "getMethod ref" => ((fail_if_success have:=dNW19);first | k_extra "L104" | fail)
 k_with "call ref" => ((fail_if_success have:=dNW19);first | k_extra "L105" | fail)
 exact True.intro
open kc in
theorem c_66 : s_66 E w p loose mean mg mb dp un gd cn cs a ccd cl A₀ base h₀ L m restX1 s QX1 f oc od fsl:=by
 intro B F X T hk N fd hfn res D U hW hd hu hret
 refine wpAny_call ?_
 k_dflt (refine' code_defT [("work",.ref f)] ?k1 ?k2 ?k3 ?k4 ?k5 ?kA ?kK ?k6 ?k7 ?k8 ?k9 ?kB ?_ ?c2 ?c3 ?c4 ?c5;walk_at "nu_enterT";intro g' L' h' FG' F' N' B' X' T' hg')
 (try dsimp only)
 (try k_fold)
 k_steps
 all_goals (subst_vars)
 ·exact hret _ _ _ _ (by dsimp only;assumption) (by assumption) (by assumption)
 ·exact hret _ [_,_,_,_] _ _ (.tuple (vs:=[.str _ _,.int _ _]) (.head _) (.cons (.str _ _) (.cons (.int _ _) .nil))) (by assumption) (by assumption)
theorem u67 : upto 67:=hk @c_66 u66 (by with_unfolding_all exact rfl)
open kc in
theorem law_caught_spec {E w p loose mean mg mb dp un gd cn cs a ccd cl A₀ base h₀ L m restX1 s QX1 f oc od fsl} : s_66 E w p loose mean mg mb dp un gd cn cs a ccd cl A₀ base h₀ L m restX1 s QX1 f oc od fsl:=@hkT _ u67 (by k_extra "T") _ (by exact rfl)
end NW19
theorem dNW19 : True:=trivial
section NW20
theorem lnNW20_1 : True:=by
 k_with "L106" => ((k_here;(with_reducible show wpAny _ _ (binaryOp Operator.Add (Value.bytes _ _) (Value.bytes _ _)) _ _ _);k_dflt (refine KBa.add_K (by assumption) (by assumption) (by omega) ?_);intro _ _ _))
 k_with "L107" => ((k_here;(with_reducible show wpAny _ _ (call (Value.builtin "len") [Value.bytes _ _]) _ _ _);k_dflt (refine KBw.len_K (by assumption) (by omega) ?_)))
 k_with "call ref" => ((fail_if_success have:=dNW20);first | k_extra "L13" | fail)
 k_with "eval Name" => ((fail_if_success have:=dNW20);first | k_extra "L72" | fail)
 k_with "binaryOp Add bytes bytes" => ((fail_if_success have:=dNW20);first | k_extra "L106" | fail)
 k_with "call builtin:len" => ((fail_if_success have:=dNW20);first | k_extra "L107" | fail)
 k_with "A" => ((fail_if_success have:=dNW20);first | k_extra "L28" | k_extra "L27" | fail)
 exact True.intro
theorem news_back {h₀ h g h' : Heap} {L L' : Addr} {rest ns all : List (Addr × Obj)} (N : News h₀ L h rest) (hr : KeepIt h ns) (k : Kp (ns.map (·.1)) h g) (up : ∀ b o,g.get? b = some o→h'.get? b = some o) (Nn : News g L' h' all) (hs : ∀ q ∈ ns,q ∈ all) : News h₀ L h' rest:=news_hid N (Kp.of_keep k up) fun b hb=>by
 refine ex1 (List.mem_map.mp hb) fun q q9=>an2 q9 fun hq e92=>?_
 clear q9
 subst e92
 rw [(Nn q (hs q hq)).1,hr q hq]
theorem rdEnds_keys {ks : List Int} {beg : Int} : ∀ {gs : List Int} {spot : Int} {rows : List Row},rdEnds ks beg gs spot = .ok rows→rows.map (·.1) = gs:=by
 intro gs
 induction gs with
 | nil =>
  intro _ rows h
  have : ([] : List Row) = rows:=Except.ok.inj h
  rw [← this];rfl
 | cons g gs ih =>
  intro spot rows h
  rw [rdEnds] at h
  cases h1 : rdTwo ks beg spot with
  | error z=>rw [h1] at h;cases h
  | ok o =>
   rw [h1] at h
   dsimp only at h
   cases h2 : rdEnds ks beg gs (spot + 4) with
   | error z=>rw [h2] at h;cases h
   | ok r =>
    rw [h2] at h
    rw [← Except.ok.inj h,List.map_cons,ih h2]
theorem rdCur_keys {ks : List Int} {at_ : Int} {gs : List Int} {rows : List Row} (h : rdCur ks at_ gs = .ok rows) : rows.map (·.1) = gs:=by
 unfold rdCur at h
 repeat' (split at h)
 all_goals first | (cases h;done) | exact rdEnds_keys h
theorem rdCur_len {ks : List Int} {at_ : Int} {gs : List Int} {rows : List Row} (h : rdCur ks at_ gs = .ok rows) : rows.length = gs.length:=by
 rw [← rdCur_keys h,List.length_map]
theorem told_ok {ks : List Int} {at_ : Int} {gs : List Int} {rows : List Row} (h : rdCur ks at_ gs = .ok rows) : toldRes ks at_ gs = .ok (.tuple ((rows.filter hasEnd).map datR)):=by rw [toldRes,h]
theorem told_err {ks : List Int} {at_ z : Int} {gs : List Int} (h : rdCur ks at_ gs = .error z) : toldRes ks at_ gs = .error z:=by rw [toldRes,h]
theorem lnNW20_2 : True:=by
 k_with "L108" => ((k_here;(with_reducible show wpAny _ _ (call (Value.ref 485) [Value.bytes _ _,Value.int _ _]) _ _ _);k_dflt (refine' read_cursive_spec ?zB ?zF ?zX ?zT ?zhk ?zN _ _ ?zhks _ ?zh0 ?zh1 ?zhb _ ?zhl ?zhroom ?zhc ?zhasc ?zhd ?zhu ?_ ?_;k_extra "Q";(case zhks=>assumption);(case zhc=>assumption);(case zh0=>omega);(case zh1=>omega);(case zhb=>omega);(case zhl=>omega);(case zhroom=>omega);(case zhasc=>assumption);k_extra "V");(intro _ _ _ _ _ _ _ _ _ _ _ _ _ _ _ _;(try k_sweep);(try dsimp only));rotate_left;(intro _ _ _ _ _ _;(try dsimp only));rotate_right))
 k_with "L109" => ((k_here;(with_reducible show wpAny _ _ (call (Value.ref 471) [Value.ref _]) _ _ _);k_dflt (refine' cur_told_spec ?zB ?zF ?zX ?zT ?zhk ?zN ?zhx ?zhdd ?zhD ?zhi ?zhlo ?zhR ?zhasc ?zhn ?zhd ?zhu ?_;k_extra "Q";(case zhx=>first | k_mem | (repeat (first | assumption | refine List.mem_cons_of_mem _ ?_ | refine List.mem_append_left _ ?_)));(case zhdd=>first | k_mem | (repeat (first | assumption | refine List.mem_cons_of_mem _ ?_ | refine List.mem_append_left _ ?_)));(case zhD=>first | k_mem | (repeat (first | assumption | refine List.mem_cons_of_mem _ ?_ | refine List.mem_append_left _ ?_)));(case zhi=>assumption);(case zhlo=>assumption);(case zhR=>first | assumption | (refine RowsV.mono ?_ (by assumption);intro _ _;repeat (first | assumption | refine List.mem_cons_of_mem _ ?_ | refine List.mem_append_left _ ?_)));(case zhasc=>first | assumption | (rw [rdCur_keys (by assumption)];assumption));(case zhn=>first | omega | (rw [rdCur_len (by assumption)];omega));k_extra "V");intro _ _ _ _ _ _ _;(try k_sweep);(try dsimp only)))
 k_with "L110" => ((k_here;(with_reducible show wpAny _ _ (call (Value.ref 525) [Value.bytes _ _,Value.int _ _,Value.ref _]) _ _ _);k_dflt (refine' law_read_spec ?zB ?zF ?zX ?zT ?zhk ?zN ?zhg ?zhi ?zhl _ _ ?zhks _ ?zh0 ?zh1 ?zhb ?zhroom ?zhd ?zhu ?_ ?_;k_extra "Q";(case zhg=>k_mem);(case zhi=>assumption);(case zhl=>omega);(case zhks=>assumption);(case zh0=>omega);(case zh1=>omega);(case zhb=>omega);(case zhroom=>omega);k_extra "V");(intro _ _ _ _ _ _ _ _ _;(try k_sweep);(try dsimp only));rotate_left;(intro _ _ _ _ _ _;(try dsimp only));rotate_right))
 k_with "L111" => ((k_here;(rename Rz _ _ _ _ _ _ _=>rzR);(rename KeepIt _ _=>kpI);k_dflt (refine' rz_nextK kpI ?zK ?zF ?zk ?zN ?zhh ?zhn rzR ?_;(case zK=>k_asm);(case zk=>exact fun b o e _=>Fr.keep (by assumption) b o e);(case zF=>k_asm);(case zN=>k_asm);(case zhh=>exact fun _ _ _=>List.not_mem_nil);(case zhn=>exact List.forall_mem_cons.mpr ⟨⟨(by first | k_mem | (repeat (first | assumption | refine List.mem_cons_of_mem _ ?_))),List.not_mem_nil⟩,List.forall_mem_cons.mpr ⟨⟨(by first | k_mem | (repeat (first | assumption | refine List.mem_cons_of_mem _ ?_))),List.not_mem_nil⟩,List.forall_mem_cons.mpr ⟨⟨(by first | k_mem | (repeat (first | assumption | refine List.mem_cons_of_mem _ ?_))),List.not_mem_nil⟩,List.forall_mem_cons.mpr ⟨⟨(by first | k_mem | (repeat (first | assumption | refine List.mem_cons_of_mem _ ?_))),List.not_mem_nil⟩,List.forall_mem_nil _⟩⟩⟩⟩));clear rzR;intro _ _))
 k_with "L112" => ((k_here;(rename KeepIt _ _=>kpI);k_dflt (refine' rz_firstK kpI ?zK ?zF ?zN ?zne ?zaa ?zl1 ?zl2 ?zhn ?_ ?zhk;(case zK=>k_asm);(case zF=>k_asm);(case zN=>k_asm);(case zne=>assumption);(case zaa=>exact ⟨⟨_,rfl⟩,⟨_,_,rfl⟩,rfl⟩);(case zl1=>assumption);(case zl2=>assumption);(case zhn=>exact List.forall_mem_cons.mpr ⟨(by first | k_mem | (repeat (first | assumption | refine List.mem_cons_of_mem _ ?_))),List.forall_mem_cons.mpr ⟨(by first | k_mem | (repeat (first | assumption | refine List.mem_cons_of_mem _ ?_))),List.forall_mem_cons.mpr ⟨(by first | k_mem | (repeat (first | assumption | refine List.mem_cons_of_mem _ ?_))),List.forall_mem_cons.mpr ⟨(by first | k_mem | (repeat (first | assumption | refine List.mem_cons_of_mem _ ?_))),List.forall_mem_nil _⟩⟩⟩⟩);(case zhk=>exact rfl));intro _ _))
 k_with "call ref" => ((fail_if_success have:=dNW20);first | k_extra "L110" | k_extra "L109" | k_extra "L108" | fail)
 k_with "leaving ref" => ((fail_if_success have:=dNW20);first | k_extra "L112" | k_extra "L111" | fail)
 exact True.intro
theorem lam0_spec {w : World} {p : Program} {loose : List Str} {mean : ExcName→Option Value} {mg mb : Str→Option Value} {law : Env} {rest : List (Addr × Obj)} {f c' ca co : Addr} {oc oa oo : Obj} {pm ctv : Value} {vs : Array Value} {t : Tok}
  (hf : (f,kla_obj "<lambda>" "law.<locals>.<lambda>" (lamP 0) (lamB 0) (lamS 0) [("octets",co),("ahead",ca)] pm c' ctv) ∈ rest) (hc : (c',oc) ∈ rest) (hoc : oc.data = .fields vs) (hvs : vs[1]? = some (.str "law.<locals>.<lambda>" t))
  (mca : (ca,oa) ∈ rest) (dca : oa.data = .cell (some (.bytes ba ta))) (mco : (co,oo) ∈ rest) (dco : oo.data = .cell (some (.bytes bo tb)))
  {ka ko : List Int} (hka : KBw.bInts ba = ka) (hko : KBw.bInts bo = ko) (za : ka.length < 2^18) (zo : ko.length < 2^18) (hb : (ka ++ ko).length < 2^20) (gs : List Int) (hl : gs.length ≤ 5) (hroom : (ka.length : Int) + 6 ≤ (ka ++ ko).length) (hcov : CovAt (ka ++ ko) ((ka.length : Int) + u16v (ka ++ ko) ((ka.length : Int) + 2)) gs) (hasc : gs.Pairwise (· < ·)) : WorkC w p loose mean mg mb law f rest (toldRes (ka ++ ko) ka.length gs) 24 260:=by
 intro dp un gd cn cs a ccd cl A₀ base h₀ L m s Q E B F X T hk N hd hu hret hE
 have Nr : News h₀ L s.heap rest∧True:=⟨N,trivial⟩
 have Kq : KeepIt s.heap [(f,kla_obj "<lambda>" "law.<locals>.<lambda>" (lamP 0) (lamB 0) (lamS 0) [("octets",co),("ahead",ca)] pm c' ctv),(c',oc),(ca,oa),(co,oo)]:=List.forall_mem_cons.mpr ⟨(N _ hf).1,List.forall_mem_cons.mpr ⟨(N _ hc).1,List.forall_mem_cons.mpr ⟨(N _ mca).1,List.forall_mem_cons.mpr ⟨(N _ mco).1,List.forall_mem_nil _⟩⟩⟩⟩
 have N₀ : News h₀ L s.heap [(f,kla_obj "<lambda>" "law.<locals>.<lambda>" (lamP 0) (lamB 0) (lamS 0) [("octets",co),("ahead",ca)] pm c' ctv),(c',oc),(ca,oa),(co,oo)]:=news_sub N (List.forall_mem_cons.mpr ⟨hf,List.forall_mem_cons.mpr ⟨hc,List.forall_mem_cons.mpr ⟨mca,List.forall_mem_cons.mpr ⟨mco,List.forall_mem_nil _⟩⟩⟩⟩)
 clear N
 refine wpAny_call ?_
 k_dflt (refine' lam_codeH ?k1 ?k2 ?k3 ?k4 ?k5 ?kA ?kF ?kK ?k6 ?k7 ?k8 ?k9 ?_ ?c2 ?c3 ?c4 ?c5;(case kA=>exact rfl);(case kF=>exact rfl);(case kK=>first | exact rfl | assumption);(case k1=>k_asm);(case k2=>k_asm);(case k3=>k_asm);(case k4=>k_asm);(case k5=>k_asm);(case k6=>k_mem);(case k7=>exact codeRec_news (by k_asm) (by k_mem) (by assumption) (by assumption));(case k8=>ktr_room);(case k9=>exact rfl);(case c5=>decide);(case c2=>exact rfl);(case c3=>exact rfl);(case c4=>exact rfl);k_whole;intro g' L' h' FG' F' N' B' X' T' hg')
 (try dsimp only)
 k_fold
 rw [show lamB 0 = .Call _ _ _ _ from rfl]
 k_steps
 ·exact hret _ (told_ok (by assumption)) _ _ _ _ (by assumption) (by assumption) (news_app (news_sub (by assumption) fun q hq=>List.mem_append_left _ hq) (news_back Nr.1 Kq hg' (Fr.keep (by assumption)) (by assumption) (by intro q hq;repeat (first | assumption | refine List.mem_cons_of_mem _ ?_ | refine List.mem_append_right _ ?_))))
 ·exact hE _ (told_err (by assumption)) _ _ _ (RzN.full (by assumption) hg' (by assumption))
theorem lnNW20_3 : True:=by
 k_with "leaving ref" => ((fail_if_success have:=dNW20);first | k_extra "L112" | k_extra "L111" | fail)
 exact True.intro
theorem lam1_spec {w : World} {p : Program} {loose : List Str} {mean : ExcName→Option Value} {mg mb : Str→Option Value} {law : Env} {rest : List (Addr × Obj)} {f c' ca co : Addr} {oc oa oo : Obj} {pm ctv : Value} {vs : Array Value} {t : Tok}
  (hf : (f,kla_obj "<lambda>" "law.<locals>.<lambda>" (lamP 1) (lamB 1) (lamS 1) [("data",co),("ahead",ca)] pm c' ctv) ∈ rest) (hc : (c',oc) ∈ rest) (hoc : oc.data = .fields vs) (hvs : vs[1]? = some (.str "law.<locals>.<lambda>" t))
  (mca : (ca,oa) ∈ rest) (dca : oa.data = .cell (some (.bytes ba ta))) (mco : (co,oo) ∈ rest) (dco : oo.data = .cell (some (.bytes bo tb)))
  {ka ko : List Int} (hka : KBw.bInts ba = ka) (hko : KBw.bInts bo = ko) (za : ka.length < 2^18) (hb : ko.length < 2^20) (gs : List Int) (hl : gs.length ≤ 5) (hroom : (ka.length : Int) + 6 ≤ ko.length) (hcov : CovAt ko ((ka.length : Int) + u16v ko ((ka.length : Int) + 2)) gs) (hasc : gs.Pairwise (· < ·)) : WorkC w p loose mean mg mb law f rest (toldRes ko ka.length gs) 24 260:=by
 intro dp un gd cn cs a ccd cl A₀ base h₀ L m s Q E B F X T hk N hd hu hret hE
 have Nr : News h₀ L s.heap rest∧True:=⟨N,trivial⟩
 have Kq : KeepIt s.heap [(f,kla_obj "<lambda>" "law.<locals>.<lambda>" (lamP 1) (lamB 1) (lamS 1) [("data",co),("ahead",ca)] pm c' ctv),(c',oc),(ca,oa),(co,oo)]:=List.forall_mem_cons.mpr ⟨(N _ hf).1,List.forall_mem_cons.mpr ⟨(N _ hc).1,List.forall_mem_cons.mpr ⟨(N _ mca).1,List.forall_mem_cons.mpr ⟨(N _ mco).1,List.forall_mem_nil _⟩⟩⟩⟩
 have N₀ : News h₀ L s.heap [(f,kla_obj "<lambda>" "law.<locals>.<lambda>" (lamP 1) (lamB 1) (lamS 1) [("data",co),("ahead",ca)] pm c' ctv),(c',oc),(ca,oa),(co,oo)]:=news_sub N (List.forall_mem_cons.mpr ⟨hf,List.forall_mem_cons.mpr ⟨hc,List.forall_mem_cons.mpr ⟨mca,List.forall_mem_cons.mpr ⟨mco,List.forall_mem_nil _⟩⟩⟩⟩)
 clear N
 refine wpAny_call ?_
 k_dflt (refine' lam_codeH ?k1 ?k2 ?k3 ?k4 ?k5 ?kA ?kF ?kK ?k6 ?k7 ?k8 ?k9 ?_ ?c2 ?c3 ?c4 ?c5;(case kA=>exact rfl);(case kF=>exact rfl);(case kK=>first | exact rfl | assumption);(case k1=>k_asm);(case k2=>k_asm);(case k3=>k_asm);(case k4=>k_asm);(case k5=>k_asm);(case k6=>k_mem);(case k7=>exact codeRec_news (by k_asm) (by k_mem) (by assumption) (by assumption));(case k8=>ktr_room);(case k9=>exact rfl);(case c5=>decide);(case c2=>exact rfl);(case c3=>exact rfl);(case c4=>exact rfl);k_whole;intro g' L' h' FG' F' N' B' X' T' hg')
 (try dsimp only)
 k_fold
 rw [show lamB 1 = .Call _ _ _ _ from rfl]
 k_steps
 ·exact hret _ (told_ok (by assumption)) _ _ _ _ (by assumption) (by assumption) (news_app (news_sub (by assumption) fun q hq=>List.mem_append_left _ hq) (news_back Nr.1 Kq hg' (Fr.keep (by assumption)) (by assumption) (by intro q hq;repeat (first | assumption | refine List.mem_cons_of_mem _ ?_ | refine List.mem_append_right _ ?_))))
 ·exact hE _ (told_err (by assumption)) _ _ _ (RzN.full (by assumption) hg' (by assumption))
theorem lnNW20_4 : True:=by
 k_with "L113" => ((k_here;(rename Rz _ _ _ _ _ _ _=>rzR);(rename KeepIt _ _=>kpI);k_dflt (refine' rz_nextK kpI ?zK ?zF ?zk ?zN ?zhh ?zhn rzR ?_;(case zK=>k_asm);(case zk=>exact fun b o e _=>Fr.keep (by assumption) b o e);(case zF=>k_asm);(case zN=>k_asm);(case zhh=>exact fun _ _ _=>List.not_mem_nil);(case zhn=>exact List.forall_mem_cons.mpr ⟨⟨(by first | k_mem | (repeat (first | assumption | refine List.mem_cons_of_mem _ ?_))),List.not_mem_nil⟩,List.forall_mem_cons.mpr ⟨⟨(by first | k_mem | (repeat (first | assumption | refine List.mem_cons_of_mem _ ?_))),List.not_mem_nil⟩,List.forall_mem_cons.mpr ⟨⟨(by first | k_mem | (repeat (first | assumption | refine List.mem_cons_of_mem _ ?_))),List.not_mem_nil⟩,List.forall_mem_cons.mpr ⟨⟨(by first | k_mem | (repeat (first | assumption | refine List.mem_cons_of_mem _ ?_))),List.not_mem_nil⟩,List.forall_mem_cons.mpr ⟨⟨(by first | k_mem | (repeat (first | assumption | refine List.mem_cons_of_mem _ ?_))),List.not_mem_nil⟩,List.forall_mem_cons.mpr ⟨⟨(by first | k_mem | (repeat (first | assumption | refine List.mem_cons_of_mem _ ?_))),List.not_mem_nil⟩,List.forall_mem_nil _⟩⟩⟩⟩⟩⟩));clear rzR;intro _ _))
 k_with "L114" => ((k_here;(rename KeepIt _ _=>kpI);k_dflt (refine' rz_firstK kpI ?zK ?zF ?zN ?zne ?zaa ?zl1 ?zl2 ?zhn ?_ ?zhk;(case zK=>k_asm);(case zF=>k_asm);(case zN=>k_asm);(case zne=>assumption);(case zaa=>exact ⟨⟨_,rfl⟩,⟨_,_,rfl⟩,rfl⟩);(case zl1=>assumption);(case zl2=>assumption);(case zhn=>exact List.forall_mem_cons.mpr ⟨(by first | k_mem | (repeat (first | assumption | refine List.mem_cons_of_mem _ ?_))),List.forall_mem_cons.mpr ⟨(by first | k_mem | (repeat (first | assumption | refine List.mem_cons_of_mem _ ?_))),List.forall_mem_cons.mpr ⟨(by first | k_mem | (repeat (first | assumption | refine List.mem_cons_of_mem _ ?_))),List.forall_mem_cons.mpr ⟨(by first | k_mem | (repeat (first | assumption | refine List.mem_cons_of_mem _ ?_))),List.forall_mem_cons.mpr ⟨(by first | k_mem | (repeat (first | assumption | refine List.mem_cons_of_mem _ ?_))),List.forall_mem_cons.mpr ⟨(by first | k_mem | (repeat (first | assumption | refine List.mem_cons_of_mem _ ?_))),List.forall_mem_nil _⟩⟩⟩⟩⟩⟩);(case zhk=>exact rfl));intro _ _))
 k_with "leaving ref" => ((fail_if_success have:=dNW20);first | k_extra "L114" | k_extra "L113" | fail)
 exact True.intro
theorem lam2_spec {w : World} {p : Program} {loose : List Str} {mean : ExcName→Option Value} {mg mb : Str→Option Value} {law : Env} {rest : List (Addr × Obj)} {f c' ca co cg gl : Addr} {oc oa oo og : Obj} {pm ctv : Value} {vs : Array Value} {t : Tok}
  (hf : (f,kla_obj "<lambda>" "law.<locals>.<lambda>" (lamP 2) (lamB 2) (lamS 2) [("glyphs",cg),("data",co),("ahead",ca)] pm c' ctv) ∈ rest) (hc : (c',oc) ∈ rest) (hoc : oc.data = .fields vs) (hvs : vs[1]? = some (.str "law.<locals>.<lambda>" t))
  (mca : (ca,oa) ∈ rest) (dca : oa.data = .cell (some (.bytes ba ta))) (mco : (co,oo) ∈ rest) (dco : oo.data = .cell (some (.bytes bo tb))) (mcg : (cg,og) ∈ rest) (dcg : og.data = .cell (some (.ref gl)))
  {ka ko : List Int} (hka : KBw.bInts ba = ka) (hko : KBw.bInts bo = ko) (za : ka.length < 2^18) (hb : ko.length < 2^20) {gvs : List Value} {gc : Nat} {gs : List Int} (hgl : (gl,listOf gvs.toArray gc) ∈ rest) (hi : IntsAre gvs gs) (hl : gs.length < 60) (hroom : (ka.length : Int) + 6 ≤ ko.length) : WorkC w p loose mean mg mb law f rest (toldRes ko ka.length gs) 24 260:=by
 intro dp un gd cn cs a ccd cl A₀ base h₀ L m s Q E B F X T hk N hd hu hret hE
 have Nr : News h₀ L s.heap rest∧True:=⟨N,trivial⟩
 have Kq : KeepIt s.heap [(f,kla_obj "<lambda>" "law.<locals>.<lambda>" (lamP 2) (lamB 2) (lamS 2) [("glyphs",cg),("data",co),("ahead",ca)] pm c' ctv),(c',oc),(ca,oa),(co,oo),(cg,og),(gl,listOf gvs.toArray gc)]:=List.forall_mem_cons.mpr ⟨(N _ hf).1,List.forall_mem_cons.mpr ⟨(N _ hc).1,List.forall_mem_cons.mpr ⟨(N _ mca).1,List.forall_mem_cons.mpr ⟨(N _ mco).1,List.forall_mem_cons.mpr ⟨(N _ mcg).1,List.forall_mem_cons.mpr ⟨(N _ hgl).1,List.forall_mem_nil _⟩⟩⟩⟩⟩⟩
 have N₀ : News h₀ L s.heap [(f,kla_obj "<lambda>" "law.<locals>.<lambda>" (lamP 2) (lamB 2) (lamS 2) [("glyphs",cg),("data",co),("ahead",ca)] pm c' ctv),(c',oc),(ca,oa),(co,oo),(cg,og),(gl,listOf gvs.toArray gc)]:=news_sub N (List.forall_mem_cons.mpr ⟨hf,List.forall_mem_cons.mpr ⟨hc,List.forall_mem_cons.mpr ⟨mca,List.forall_mem_cons.mpr ⟨mco,List.forall_mem_cons.mpr ⟨mcg,List.forall_mem_cons.mpr ⟨hgl,List.forall_mem_nil _⟩⟩⟩⟩⟩⟩)
 clear N
 refine wpAny_call ?_
 k_dflt (refine' lam_codeH ?k1 ?k2 ?k3 ?k4 ?k5 ?kA ?kF ?kK ?k6 ?k7 ?k8 ?k9 ?_ ?c2 ?c3 ?c4 ?c5;(case kA=>exact rfl);(case kF=>exact rfl);(case kK=>first | exact rfl | assumption);(case k1=>k_asm);(case k2=>k_asm);(case k3=>k_asm);(case k4=>k_asm);(case k5=>k_asm);(case k6=>k_mem);(case k7=>exact codeRec_news (by k_asm) (by k_mem) (by assumption) (by assumption));(case k8=>ktr_room);(case k9=>exact rfl);(case c5=>decide);(case c2=>exact rfl);(case c3=>exact rfl);(case c4=>exact rfl);k_whole;intro g' L' h' FG' F' N' B' X' T' hg')
 (try dsimp only)
 k_fold
 rw [show lamB 2 = .Call _ _ _ _ from rfl]
 k_steps
 ·exact hret _ (told_ok (by assumption)) _ _ _ _ (by assumption) (by assumption) (news_app (news_sub (by assumption) fun q hq=>List.mem_append_left _ hq) (news_back Nr.1 Kq hg' (Fr.keep (by assumption)) (by assumption) (by intro q hq;repeat (first | assumption | refine List.mem_cons_of_mem _ ?_ | refine List.mem_append_right _ ?_))))
 ·exact hE _ (told_err (by assumption)) _ _ _ (RzN.full (by assumption) hg' (by assumption))
end NW20
theorem dNW20 : True:=trivial
section NW28
theorem lnNW28_1 : True:=by
 k_with "call ref" => ((fail_if_success have:=dNW28);first | k_extra "L13" | fail)
 exact True.intro
theorem dat_ne_same {prog : Program} {w : World} {A : Around} {E : Value→Shared→Prop} {s : Shared} {h₀ : Heap} {L : Addr} {news n₁ n₂ : List (Addr × Obj)} {v1 v2 : Value} {d : Dat} {Q : Value→Shared→Prop} (N : News h₀ L s.heap news) (h1 : DatIn n₁ v1 d) (s1 : ∀ p ∈ n₁,p ∈ news) (h2 : DatIn n₂ v2 d) (s2 : ∀ p ∈ n₂,p ∈ news) (ok : kqdOk 9 d = true) (hu : A.units + 64 < cLine) (h : Q (.bool false) s) :
  wpAny (model prog w) A (compareOp .NotEq v1 v2) Q E s:=by
 refine ex1 (kqd_in N 9 (h1.mono s1) ok) fun as ra=>?_
 refine ex1 (kqd_in N 9 (h2.mono s2) ok) fun bs rb=>?_
 have la:=kqd_lay 9 d ok
 have sh : SeqAt.shaped (kqdP d) = true:=by unfold SeqAt.shaped;rw [la.1,Bool.true_and];exact decide_eq_true (Nat.le_trans la.2 (by decide))
 refine ne_dataH ra rb sh sh hu ?_
 rw [(kqd_eqv 9 d d 9 ok ok).mpr rfl]
 exact h
theorem dat_eq_same {prog : Program} {w : World} {A : Around} {E : Value→Shared→Prop} {s : Shared} {h₀ : Heap} {L : Addr} {news n₁ n₂ : List (Addr × Obj)} {v1 v2 : Value} {d : Dat} {Q : Value→Shared→Prop} (N : News h₀ L s.heap news) (h1 : DatIn n₁ v1 d) (s1 : ∀ p ∈ n₁,p ∈ news) (h2 : DatIn n₂ v2 d) (s2 : ∀ p ∈ n₂,p ∈ news) (ok : kqdOk 9 d = true) (hu : A.units + 64 < cLine) (h : Q (.bool true) s) :
  wpAny (model prog w) A (compareOp .Eq v1 v2) Q E s:=by
 refine ex1 (kqd_in N 9 (h1.mono s1) ok) fun as ra=>?_
 refine ex1 (kqd_in N 9 (h2.mono s2) ok) fun bs rb=>?_
 have la:=kqd_lay 9 d ok
 have sh : SeqAt.shaped (kqdP d) = true:=by unfold SeqAt.shaped;rw [la.1,Bool.true_and];exact decide_eq_true (Nat.le_trans la.2 (by decide))
 refine eq_dataH ra rb sh sh hu ?_
 rw [(kqd_eqv 9 d d 9 ok ok).mpr rfl]
 exact h
theorem ints_dat {l : List (Addr × Obj)} : ∀ {vs : List Value} {ns : List Int},IntsAre vs ns→DatAll l vs (ns.map Dat.int):=by
 intro vs ns h
 induction h with
 | nil=>exact .nil
 | cons n t _ ih=>exact .cons (.int n t) ih
theorem ints_ok9 (ns : List Int) : kqdOk 9 (.list (ns.map Dat.int)) = true:=by
 simp only [kqdOk,List.all_map,List.all_eq_true]
 intro r _
 rfl
theorem told_ok9 (rows : List Row) : kqdOk 9 (.tuple (rows.map datR)) = true:=by
 simp only [kqdOk,List.all_map,List.all_eq_true]
 intro r _
 show kqdOk 8 (datR r) = true
 unfold datR
 have : ∀ (o : Option Pt),kqdOk 7 (datO o) = true:=fun o=>by cases o <;> rfl
 simp [kqdOk,this]
theorem lnNW28_2 : True:=by
 k_with "call ref" => ((fail_if_success have:=dNW28);first | k_extra "L50" | k_extra "L109" | fail)
 k_with "call type:tuple" => ((fail_if_success have:=dNW28);first | k_extra "L54" | fail)
 k_with "A" => ((fail_if_success have:=dNW28);first | k_extra "L28" | k_extra "L27" | fail)
 k_with "eval Name" => ((fail_if_success have:=dNW28);first | k_extra "L77" | fail)
 k_with "compareOp NotEq" => ((fail_if_success have:=dNW28);first | k_extra "L46" | fail)
 k_with "compareOp NotEq ref" => ((fail_if_success have:=dNW28);first | k_extra "L46" | fail)
 k_with "compareOp NotEq ref ref" => ((fail_if_success have:=dNW28);first | k_extra "L46" | fail)
 k_with "eval ListComp" => ((fail_if_success have:=dNW28);first | k_extra "L49" | fail)
 k_with "CompSrc" => ((fail_if_success have:=dNW28);first | k_extra "L46" | fail)
 k_with "subscriptTail Name" => ((fail_if_success have:=dNW28);first | k_extra "L88" | fail)
 exact True.intro
open kc in
theorem c_67 : s_67 E w x p loose mean mg mb dp un a A₀ base h₀ L m s dx QX2 D oD c1 c2 c3 c4 c5 σ du dvs kt:=by
 intro B F X T hd hu kvs n rows9 rows hT hdu N hm hx hdd hD hi hlo hR hasc9 hn9 hrw hda hret
 have hl : rows.length < 60:=by
  rw [← hrw]
  exact Nat.lt_of_le_of_lt (List.length_filter_le _ _) (by omega)
 have hdl : dvs.length = rows.length:=by rw [hda.length,List.length_map]
 rw [show lawSt 10 = .If _ _ _ _ from rfl]
 k_steps
 refine Stop.out ?_
 rename_i v1 τ1 h9 tk9 dv1 T9 h8 F8 N8 l8
 rw [hrw] at dv1
 refine dat_ne_same (d:=.tuple (rows.map datR)) N8 dv1 (fun p hp=>.tail _ (List.mem_append_left _ hp)) (DatIn.tuple (.head _) (hda.mono fun p hp=>.tail _ (List.mem_append_right _ hp))) (fun p hp=>hp) (told_ok9 rows) (by ktr_units) ?_
 replace N8 : News h₀ L h8 σ:=news_sub N8 fun p hp=>.tail _ (List.mem_append_right _ hp)
 have hke : keysE rows9 = rows.map (·.1):=by unfold keysE;rw [hrw]
 walk_at "S2"
 rename_i gl9 gvs9 gc9 h7 tk7 iv9 F7 N7 o7
 refine Stop.out ?_
 rename News _ _ _ _=>NK9
 (with_reducible rename Fr _ _ _ _=>FK9)
 refine LCg.CompSrc.ledger rfl FK9 NK9 (.tail _ hm) (by rw [List.size_toArray,sizeLine_eq];exact Nat.le_trans (Nat.le_of_lt (show dvs.length < 60 by omega)) (Nat.le_of_ble_eq_true rfl)) ?_
 intro g9
 refine comp_inv (fun i ys nl=>nl = (gl9,listOf gvs9.toArray gc9) :: σ∧IntsAre ys ((rows.map (·.1)).take i)) ⟨rfl,.nil⟩ ?_ ?_
 ·intro ys nl hJ9
  refine an2 hJ9 fun e90 hy=>?_
  clear hJ9
  subst e90
  rw [List.size_toArray,hdl,List.take_of_length_le (by rw [List.length_map];exact Nat.le_refl _)] at hy
  intro Dn hn tkn Fn Nn on
  clear NK9 FK9
  walk_at "S2"
  refine Stop.out ?_
  (with_reducible rename Fr _ _ _ _=>F6)
  rename News _ _ _ _=>N6
  refine dat_ne_same (d:=.list ((rows.map (·.1)).map Dat.int)) N6 (DatIn.list (.tail _ (.head _)) (ints_dat (by rw [← hke];exact iv9))) (fun p hp=>hp) (DatIn.list (.head _) (ints_dat hy)) (fun p hp=>hp) (ints_ok9 _) (by ktr_units) ?_
  walk_at "S2"
  exact hret _ _ F6 (news_sub N6 fun p hp=>.tail _ (.tail _ hp))
 ·intro i ys nl v I oI C oC Dl m₂ h tk E' hin hJ9 hv hC hx9 F8 N8 off ne
  refine an2 hJ9 fun e90 hy=>?_
  clear hJ9
  subst e90
  have hv' : dvs[i]? = some v:=by simpa using hv
  refine ex1 (datAll_get hda hv') fun d q9=>an2 q9 fun hd9 hdi=>?_
  clear q9
  rw [List.getElem?_map] at hd9
  obtain ⟨r,hr,rfl⟩ : ∃ r,rows[i]? = some r∧datR r = d:=by
   cases hr : rows[i]? with
   | none=>rw [hr] at hd9;cases hd9
   | some r=>rw [hr] at hd9;exact ⟨r,rfl,Option.some.inj hd9⟩
  refine ex5 (trip_in hdi) fun q n2 tg va vb q9=>an3 q9 fun e95 hq _=>?_
  clear q9
  subst e95
  have hti : (rows.map (·.1)).take (i + 1) = (rows.map (·.1)).take i ++ [r.1]:=by rw [List.take_add_one,List.getElem?_map,hr];rfl
  clear NK9 FK9
  walk_at "S2"
  refine LCg.CompEnd.intro (by assumption) (by assumption) _ (fun _ h=>h) off (.inr ⟨_,(.tail _ hm),rfl,_,rfl⟩) ⟨rfl,?_⟩
  rw [hti]
  exact ints_snoc hy
theorem u68 : upto 68:=hk @c_67 u67 (by with_unfolding_all exact rfl)
open kc in
theorem told_if_spec {E w x p loose mean mg mb dp un a A₀ base h₀ L m s dx QX2 D oD c1 c2 c3 c4 c5 σ du dvs kt} : s_67 E w x p loose mean mg mb dp un a A₀ base h₀ L m s dx QX2 D oD c1 c2 c3 c4 c5 σ du dvs kt:=@hkT _ u68 (by k_extra "T") _ (by exact rfl)
end NW28
theorem dNW28 : True:=trivial
section NX16
open PySem.Calls
theorem si_slot_next : Slot "set_iterator" "__next__" "set_iterator.__next__" :=
 .of (owner := "set_iterator") (n := "__next__") (by rw [typeLookup_type,builtinLookup_eq_fast];kernel_rfl) (by decide +kernel) (by decide +kernel) (by decide +kernel)
  (by first | exact .inl (by decide +kernel) | exact .inr (by decide +kernel)) (by rw [isSubtype_type];kernel_rfl)
theorem si_slot_iter : Slot "set_iterator" "__iter__" "set_iterator.__iter__" :=
 .of (owner := "set_iterator") (n := "__iter__") (by rw [typeLookup_type,builtinLookup_eq_fast];kernel_rfl) (by decide +kernel) (by decide +kernel) (by decide +kernel)
  (by first | exact .inl (by decide +kernel) | exact .inr (by decide +kernel)) (by rw [isSubtype_type];kernel_rfl)
theorem si_entry_next : entryFor table "set_iterator.__next__" = some Builtin.«set_iterator.__next__»:=by first | exact entryFor_of_tree (by kernel_rfl) | exact entryFor_of_fast (by kernel_rfl)
theorem si_entry_iter : entryFor table "set_iterator.__iter__" = some Builtin.«dict_keyiterator.__iter__» :=
 entryFor_alias (id' := "dict_keyiterator.__iter__") (by kernel_rfl) (by first | rfl | decide +kernel | (unfold String.splitOn;simp +decide [String.splitOnAux])) (by decide +kernel) (by kernel_rfl)
theorem si_owner : Manifest.owners.lookup (String.ofList ['r','o','t','a','r','e','t','i','_','t','e','s'].reverse) = some Manifest.sig_set_iterator:=by kernel_rfl
theorem si_args_next (a : Value) : argsOk "set_iterator.__next__" ⟨[a],[]⟩:=by
 unfold argsOk;rw [signature?_of (id := "set_iterator.__next__") (n:=['_','_','t','x','e','n','_','_']) (o:=['r','o','t','a','r','e','t','i','_','t','e','s']) (by kernel_rfl) si_owner];kernel_rfl
theorem si_args_iter (a : Value) : argsOk "set_iterator.__iter__" ⟨[a],[]⟩:=by
 unfold argsOk;rw [signature?_of (id := "set_iterator.__iter__") (n:=['_','_','r','e','t','i','_','_']) (o:=['r','o','t','a','r','e','t','i','_','t','e','s']) (by kernel_rfl) si_owner];kernel_rfl
theorem set_entry_iter : entryFor table "set.__iter__" = some Builtin.«frozenset.__iter__» :=
 entryFor_alias (id' := "frozenset.__iter__") (by kernel_rfl) (by first | rfl | decide +kernel | (unfold String.splitOn;simp +decide [String.splitOnAux])) (by decide +kernel) (by kernel_rfl)
theorem erase_perm {α : Type} : ∀ (l : List α) (i : Nat) (h : i < l.length),(l[i] :: l.eraseIdx i).Perm l:=by
 intro l
 induction l with
 | nil=>intro i h;cases h
 | cons x xs ih =>
  intro i h
  cases i with
  | zero=>exact .rfl
  | succ i =>
   have h' : i < xs.length:=Nat.lt_of_succ_lt_succ h
   show (xs[i] :: x :: xs.eraseIdx i).Perm (x :: xs)
   exact (List.Perm.swap x xs[i] _).trans ((ih i h').cons x)
section
variable {M : Model} {A : Around} {E : Value→Shared→Prop} {s : Shared}
theorem wpAny_choose {src : Source} {n : Nat} {Q : Nat→Shared→Prop} (hn : n ≠ 0) (h : ∀ i d,i < n→Q i { s with drawn:=d}) : wpAny M A (choose src n) Q E s:=fun Γ p _ =>
 ⟨hn,h _ _ (Nat.mod_lt _ (Nat.pos_of_ne_zero hn))⟩
theorem drawOrder_any {α : Type} : ∀ (xs : List α) (s : Shared) (Q : List α→Shared→Prop),(∀ ys d,ys.Perm xs→Q ys { s with drawn:=d})→wpAny M A (drawOrder xs.length xs) Q E s:=by
 intro xs
 generalize hn : xs.length = n
 induction n generalizing xs with
 | zero =>
  intro s Q h
  have : xs = []:=List.length_eq_zero_iff.mp hn
  subst this
  exact wpAny_pure (h [] s.drawn .rfl)
 | succ n ih =>
  intro s Q h
  cases xs with
  | nil=>simp at hn
  | cons x xs =>
   refine wpAny_bind (m:=choose .order (x :: xs).length) (wpAny_choose (Nat.succ_ne_zero _) fun i d hi=>?_)
   obtain ⟨y,hy⟩ : ∃ y,(x :: xs)[i]? = some y:=⟨_,List.getElem?_eq_getElem hi⟩
   rw [hy]
   refine wpAny_bind (m:=drawOrder n _) (ih ((x :: xs).eraseIdx i) (by rw [List.length_eraseIdx,if_pos hi,hn];rfl) _ _ fun ys d' hp=>?_)
   refine wpAny_pure (h (y :: ys) d' ?_)
   have hg:=List.getElem?_eq_some_iff.mp hy
   exact ((hp.cons y).trans (by rw [← hg.2];exact erase_perm _ i hi))
end
theorem pickOrder_perm {α : Type} (next : Nat→Nat) (xs : Array α) : (pickOrder next xs).toList.Perm xs.toList:=by
 have go : ∀ (n k : Nat) (left : List α) (out : Array α),left.length = n→(pickOrder.go next n k left out).toList.Perm (out.toList ++ left):=by
  intro n
  induction n with
  | zero =>
   intro k left out h
   rw [List.length_eq_zero_iff.mp h,List.append_nil]
   exact .rfl
  | succ n ih =>
   intro k left out h
   have hlt : next k % left.length < left.length:=Nat.mod_lt _ (by omega)
   have e : pickOrder.go next (n + 1) k left out = pickOrder.go next n (k + 1) (left.eraseIdx (next k % left.length)) (out.push left[next k % left.length]):=by
    show @pickOrder.go.match_1 α (fun _=>Array α) left[next k % left.length]? (fun x=>pickOrder.go next n (k + 1) (left.eraseIdx (next k % left.length)) (out.push x)) (fun _=>out) = _
    rw [List.getElem?_eq_getElem hlt]
   rw [e]
   refine (ih _ _ _ (by rw [List.length_eraseIdx,if_pos hlt,h];rfl)).trans ?_
   rw [Array.toList_push,List.append_assoc]
   refine List.Perm.append_left _ ?_
   exact erase_perm _ _ hlt
 have:=go xs.size 0 xs.toList #[] (by simp)
 simpa [pickOrder] using this
section
variable {prog : Program} {w : World} {A : Around} {E : Value→Shared→Prop} {s : Shared} {I a T : Addr} {n ep i : Nat} {oS : Obj} {es : Array (Int × Value)} {t : SetTable}
theorem si_type {first : Value} (hI : s.heap.get? I = some (itObj first i a n ep)) : s.TypeIs (.ref I) "set_iterator" := ⟨_,hI,rfl⟩
theorem si_self {first : Value} {Q : Value→Shared→Prop} (hI : s.heap.get? I = some (itObj first i a n ep)) (h : Q (.ref I) s) : wpAny (model prog w) A (pyIter (.ref I)) Q E s:=by
 refine wpAny_pyIter_slot (si_type hI) si_slot_iter (wpAny_call_entry si_slot_iter (si_type hI) si_entry_iter ?_ (si_args_iter _))
 show wpAny _ _ (ret (.ref I)) _ _ s
 exact wpAny_pure ⟨_,rfl, "set_iterator",_,si_type hI,si_slot_next.lookup,h⟩
theorem lnNX16_1 : True:=by
 k_with "L115" => ((refine wpAny_bind (wpAny_of_eq (a:=(Value.ref I,[])) (by exact rfl) ?_);refine wpAny_bind (wpAny_fieldsOf hI rfl ?_);refine wpAny_bind (m:=setEntries a) (wpAny_bind (m:=setState a) (wpAny_setState_of ha hd hf (wpAny_pure ?_)));refine anyNeg (by rw [hn];simp) ?_))
 k_with "L116" => ((refine wpAny_bind (m:=newExc (.type "StopIteration") []) (wpAny_bind (m:=newTuple []) (wpAny_newObj_type ?_ (by size_fits)));refine wpAny_bind (m:=firstArgMember (.type "StopIteration") []) (wpAny_of_eq (a:=Value.none) (by first | rfl | (simp only [firstArgMember];rfl)) ?_);refine wpAny_newObj_type ?_ (by size_fits);refine wpAny_raiseNew_none hh ?_;refine wpAny_bind (wpAny_isInstance (T := "StopIteration") (b:=true) ⟨_,Heap.get?_push_size _ rfl,rfl⟩ isSubtype_stop ?_)))
 k_with "sib" => ((fail_if_success have:=dNX16);first | k_extra "L115" | fail)
 k_with "sie" => ((fail_if_success have:=dNX16);first | k_extra "L116" | fail)
 exact True.intro
theorem slot_item {slot next : Nat} {x : Value} {Q : Option Value→Shared→Prop} (hI : s.heap.get? I = some (itObj (.int slot 0) i a n ep)) (ha : s.heap.get? a = some oS) (hd : oS.data = .set es ep t) (hf : t.fits es.size = true) (hn : es.size = n)
  (hx : ∀ (B : Around) (E' : Value→Shared→Prop) (Q' : Option (Value × Nat)→Shared→Prop),Q' (some (x,next)) s→wpAny (model prog w) B (setNext a slot i ep) Q' E' s)
  (hQ : ∀ h',h'.get? I = some (itObj (.int next 0) (i + 1) a n ep)→Heap.SameBut I s.heap h'→Q (some x) { s with heap:=h'}) : wpAny (model prog w) A (pyNext (.ref I)) Q E s:=by
 unfold pyNext
 refine wpAny_bind (wpAny_attempt (wpAny_callSpecial?_slot (name:=Str.ofString "__next__") (si_type hI) si_slot_next (wpAny_call_entry si_slot_next (si_type hI) si_entry_next ?_ (si_args_next _))))
 walk_at "sib"
 refine wpAny_bind (m:=setNext a slot i ep) (hx _ _ _ ?_)
 refine wpAny_bind (wpAny_setField_rec hI (by simp) fun h1 g1 k1=>?_)
 refine wpAny_bind (wpAny_setField_rec (s:={ s with heap:=h1}) g1 (by simp) fun h2 g2 k2=>?_)
 exact wpAny_pure ⟨x,rfl,wpAny_pure (hQ h2 (by unfold itObj;rw [show (((i + 1 : Nat)) : Int) = (i : Int) + 1 from by omega];simpa [rawInt] using g2) (k1.trans k2))⟩
theorem tup_item {n9 place : Nat} {places : Array Value} {x : Value} {hx : Int} {Q : Option Value→Shared→Prop} (hI : s.heap.get? I = some (itObj (.ref T) i a n ep)) (ha : s.heap.get? a = some oS) (hd : oS.data = .set es ep t) (hf : t.fits es.size = true) (hn : es.size = n)
  (hT : s.heap.get? T = some { cls:=.type "tuple",data:=.seq places n9}) (hp : places[i]? = some (.int place 0)) (he : es[place]? = some (hx,x))
  (hQ : ∀ h',h'.get? I = some (itObj (.ref T) (i + 1) a n ep)→Heap.SameBut I s.heap h'→Q (some x) { s with heap:=h'}) : wpAny (model prog w) A (pyNext (.ref I)) Q E s:=by
 unfold pyNext
 refine wpAny_bind (wpAny_attempt (wpAny_callSpecial?_slot (name:=Str.ofString "__next__") (si_type hI) si_slot_next (wpAny_call_entry si_slot_next (si_type hI) si_entry_next ?_ (si_args_next _))))
 walk_at "sib"
 refine wpAny_bind (wpAny_seqItems hT rfl ?_)
 dsimp only
 rw [show places[((i : Nat) : Int).toNat]? = _ from hp]
 refine wpAny_bind (m:=setNextDrawn a place ep) (wpAny_bind (m:=setState a) (wpAny_setState_of ha hd hf ?_))
 refine anyNeg (by simp) ?_
 rw [he]
 refine wpAny_pure ?_
 refine wpAny_bind (wpAny_setField_rec hI (by simp) fun h2 g2 k2=>?_)
 exact wpAny_pure ⟨x,rfl,wpAny_pure (hQ h2 (by unfold itObj;rw [show (((i + 1 : Nat)) : Int) = (i : Int) + 1 from by omega];simpa [rawInt] using g2) k2)⟩
theorem slot_end {slot : Nat} {Q : Option Value→Shared→Prop} (hh : A.handled = none) (hI : s.heap.get? I = some (itObj (.int slot 0) i a n ep)) (ha : s.heap.get? a = some oS) (hd : oS.data = .set es ep t) (hf : t.fits es.size = true) (hn : es.size = n)
  (hx : ∀ (B : Around) (E' : Value→Shared→Prop) (Q' : Option (Value × Nat)→Shared→Prop),Q' none s→wpAny (model prog w) B (setNext a slot i ep) Q' E' s)
  (hQ : ∀ h',Heap.ExtBut I s.heap h'→Q none { s with heap:=h'}) : wpAny (model prog w) A (pyNext (.ref I)) Q E s:=by
 unfold pyNext
 refine wpAny_bind (wpAny_attempt (wpAny_callSpecial?_slot (name:=Str.ofString "__next__") (si_type hI) si_slot_next (wpAny_call_entry si_slot_next (si_type hI) si_entry_next ?_ (si_args_next _))))
 walk_at "sib"
 refine wpAny_bind (m:=setNext a slot i ep) (hx _ _ _ ?_)
 refine wpAny_bind (wpAny_setField hI rfl (by simp) ?_)
 walk_at "sie"
 exact wpAny_pure (hQ _ (((Heap.SameBut.update ..).extBut.push _).push _))
theorem tup_end {n9 : Nat} {places : Array Value} {Q : Option Value→Shared→Prop} (hh : A.handled = none) (hI : s.heap.get? I = some (itObj (.ref T) i a n ep)) (ha : s.heap.get? a = some oS) (hd : oS.data = .set es ep t) (hf : t.fits es.size = true) (hn : es.size = n)
  (hT : s.heap.get? T = some { cls:=.type "tuple",data:=.seq places n9}) (hp : places[i]? = none)
  (hQ : ∀ h',Heap.ExtBut I s.heap h'→Q none { s with heap:=h'}) : wpAny (model prog w) A (pyNext (.ref I)) Q E s:=by
 unfold pyNext
 refine wpAny_bind (wpAny_attempt (wpAny_callSpecial?_slot (name:=Str.ofString "__next__") (si_type hI) si_slot_next (wpAny_call_entry si_slot_next (si_type hI) si_entry_next ?_ (si_args_next _))))
 walk_at "sib"
 refine wpAny_bind (wpAny_seqItems hT rfl ?_)
 dsimp only
 rw [show places[((i : Nat) : Int).toNat]? = _ from hp]
 refine wpAny_bind (wpAny_setField_rec hI (by simp) fun h1 g1 k1=>?_)
 refine wpAny_bind (wpAny_setField (s:={ s with heap:=h1}) g1 rfl (by simp) ?_)
 walk_at "sie"
 exact wpAny_pure (hQ _ (((k1.trans (Heap.SameBut.update ..)).extBut.push _).push _))
end
end NX16
theorem dNX16 : True:=trivial
section NX17
open PySem.Calls
section
variable {prog : Program} {w : World} {A : Around} {E : Value→Shared→Prop} {s : Shared} {I a T : Addr} {n ep i : Nat} {oS : Obj} {es : Array (Int × Value)} {t : SetTable}
theorem drawOrder_n {α : Type} {M : Model} {xs : List α} {n : Nat} {Q : List α→Shared→Prop} (hn : xs.length = n) (h : ∀ ys d,ys.Perm xs→Q ys { s with drawn:=d}) : wpAny M A (drawOrder n xs) Q E s:=by
 subst hn
 exact drawOrder_any xs s Q h
theorem next_text {slot : Nat} {Q : Option (Value × Nat)→Shared→Prop} (hb : byText w = true) (ha : s.heap.get? a = some oS) (hd : oS.data = .set es ep t) (hf : t.fits es.size = true)
  (h : Q (((pickOrder (w.params.setOrder a ep) es)[i]?).map fun e=>(e.2,slot)) s) : wpAny (model prog w) A (setNext a slot i ep) Q E s:=by
 unfold setNext
 refine wpAny_bind (wpAny_setState_of ha hd hf ?_)
 dsimp only
 unfold setsByText
 refine wpAny_bind (wpAny_bind (wpAny_askSetting (wpAny_pure ?_)))
 dsimp only
 rw [if_pos (show (model prog w).w.params.followText "set-order" = true from hb),if_neg (by simp)]
 unfold setWalk setsByText
 refine wpAny_bind (m:=(setState a >>= _)) (wpAny_bind (wpAny_setState_of ha hd hf ?_))
 dsimp only
 refine wpAny_bind (wpAny_bind (wpAny_askSetting (wpAny_pure ?_)))
 dsimp only
 rw [if_pos (show (model prog w).w.params.followText "set-order" = true from hb)]
 exact wpAny_bind (wpAny_askSetting (wpAny_pure (wpAny_pure h)))
theorem below_one (j k : Nat) : SetTable.below #[j] k = if j < k then 1 else 0:=by
 have e : SetTable.below.go #[j] k 1 0 1 = if (0 : Nat) < 1 then (if #[j].getD ((0 + 1) / 2) 0 < k then SetTable.below.go #[j] k 0 ((0 + 1) / 2 + 1) 1 else SetTable.below.go #[j] k 0 0 ((0 + 1) / 2)) else 0:=rfl
 show SetTable.below.go #[j] k 1 0 1 = _
 rw [e,if_pos (by decide)]
 rfl
theorem next_slot {slot : Nat} {Q : Option (Value × Nat)→Shared→Prop} (hb : byText w = false) (ha : s.heap.get? a = some oS) (hd : oS.data = .set es ep t) (hf : t.fits es.size = true) (hled : t.led = true) (hz : es.size ≤ 1)
  (h : Q ((es[SetTable.below t.place slot]?).bind fun e=>(t.place[SetTable.below t.place slot]?).map fun j=>(e.2,j + 1)) s) : wpAny (model prog w) A (setNext a slot i ep) Q E s:=by
 unfold setNext
 refine wpAny_bind (wpAny_setState_of ha hd hf ?_)
 dsimp only
 unfold setsByText
 refine wpAny_bind (wpAny_bind (wpAny_askSetting (wpAny_pure ?_)))
 dsimp only
 rw [if_neg (show ¬ ((model prog w).w.params.followText "set-order" = true) from by rw [show (model prog w).w.params.followText "set-order" = false from hb];exact Bool.false_ne_true)]
 have hdrn : (!t.plain && decide (es.size > 1)) = false:=by
  rw [decide_eq_false (by omega),Bool.and_false]
 refine wpAny_ite_false (show decide ((!t.plain && decide (es.size > 1)) = true) = false from by rw [hdrn];rfl) ?_
 refine wpAny_bind ?_
 show wpAny _ _ (if (!t.led && !es.isEmpty) = true then (unsupported "set:maker-not-led" : Sem Unit) else pure ()) _ _ _
 rw [hled,if_neg (by simp)]
 refine wpAny_pure (wpAny_pure ?_)
 revert h
 cases es[SetTable.below t.place slot]? with
 | none=>exact id
 | some e=>cases t.place[SetTable.below t.place slot]? <;> exact id
theorem set_iterS {first : Value} {Q : Value→Shared→Prop} (ha : s.heap.get? a = some oS) (hex : oS.ExactSet) (hd : oS.data = .set es ep t) (hf : t.fits es.size = true)
  (hdr : ∀ (B : Around) (E' : Value→Shared→Prop) (Q' : Bool→Shared→Prop),Q' false s→wpAny (model prog w) B (setDrawn a) Q' E' s)
  (h : Q (.ref s.heap.objs.size) { s with heap:=s.heap.push (itObj (.int 0 0) 0 a es.size ep)}) : wpAny (model prog w) A (pyIter (.ref a)) Q E s:=by
 have hT : s.TypeIs (.ref a) "set" := ⟨oS,ha,hex.1⟩
 refine wpAny_pyIter_slot hT F.slot_set_iter (wpAny_call_entry F.slot_set_iter hT set_entry_iter ?_ (F.args_set_iter_1 _))
 refine wpAny_bind (m:=Builtin.Frozenset.slot0 "__iter__" ⟨[.ref a],[]⟩) (wpAny_bind (m:=slotArgs "__iter__" 0 ⟨[.ref a],[]⟩) (wpAny_of_eq (a:=(.ref a,[])) (by exact rfl) (wpAny_pure ?_)))
 refine wpAny_bind (m:=Builtin.Frozenset.sizeOf a) (wpAny_bind (m:=setEntries a) (wpAny_bind (m:=setState a) (wpAny_setState_of ha hd hf (wpAny_pure (wpAny_pure ?_)))))
 refine wpAny_bind (m:=setDrawn a) (hdr _ _ _ ?_)
 rw [if_neg Bool.false_ne_true]
 refine wpAny_bind (wpAny_pure ?_)
 refine wpAny_bind (wpAny_setEpoch_of ha hd hf ?_)
 exact wpAny_bind (wpAny_newObj_type (wpAny_pure ⟨_,rfl, "set_iterator",_,⟨_,Heap.get?_push_size _ rfl,rfl⟩,si_slot_next.lookup,h⟩))
theorem set_iterT {Q : Value→Shared→Prop} (ha : s.heap.get? a = some oS) (hex : oS.ExactSet) (hd : oS.data = .set es ep t) (hf : t.fits es.size = true) (hz : es.size < 1000)
  (hdr : ∀ (B : Around) (E' : Value→Shared→Prop) (Q' : Bool→Shared→Prop),Q' true s→wpAny (model prog w) B (setDrawn a) Q' E' s)
  (h : ∀ (ps : List Nat) d,ps.Perm (List.range es.size)→Q (.ref (s.heap.objs.size + 1)) { s with heap:=(s.heap.push { cls:=.type "tuple",data:=.seq (ps.map fun i : Nat=>Value.int (i : Int) 0).toArray}).push (itObj (.ref s.heap.objs.size) 0 a es.size ep),drawn:=d}) : wpAny (model prog w) A (pyIter (.ref a)) Q E s:=by
 have hT : s.TypeIs (.ref a) "set" := ⟨oS,ha,hex.1⟩
 refine wpAny_pyIter_slot hT F.slot_set_iter (wpAny_call_entry F.slot_set_iter hT set_entry_iter ?_ (F.args_set_iter_1 _))
 refine wpAny_bind (m:=Builtin.Frozenset.slot0 "__iter__" ⟨[.ref a],[]⟩) (wpAny_bind (m:=slotArgs "__iter__" 0 ⟨[.ref a],[]⟩) (wpAny_of_eq (a:=(.ref a,[])) (by exact rfl) (wpAny_pure ?_)))
 refine wpAny_bind (m:=Builtin.Frozenset.sizeOf a) (wpAny_bind (m:=setEntries a) (wpAny_bind (m:=setState a) (wpAny_setState_of ha hd hf (wpAny_pure (wpAny_pure ?_)))))
 refine wpAny_bind (m:=setDrawn a) (hdr _ _ _ ?_)
 rw [if_pos rfl]
 dsimp only
 refine wpAny_bind (drawOrder_n (by simp) fun ps d hp=>?_)
 unfold newTuple
 refine wpAny_bind (wpAny_newObj_type ?_ ?_)
 ·have up : (s.heap.push { cls:=.type "tuple",data:=.seq (ps.map fun i : Nat=>rawInt (i : Int)).toArray}).get? a = some oS:=Heap.get?_push_of_some _ ha
  refine wpAny_bind (wpAny_setEpoch_of up hd hf ?_)
  unfold newFields
  refine wpAny_bind (wpAny_newObj_type (wpAny_pure ⟨_,rfl, "set_iterator",_,⟨_,Heap.get?_push_size _ rfl,rfl⟩,si_slot_next.lookup,?_⟩) (by size_fits))
  have:=h ps d hp
  rw [Heap.size_push]
  exact this
 ·show (ps.map _).toArray.size ≤ sizeLine
  rw [List.size_toArray,List.length_map,hp.length_eq,List.length_range,sizeLine_eq]
  exact Nat.le_trans (Nat.le_of_lt hz) (Nat.le_of_ble_eq_true rfl)
theorem drawn_eval {Q : Bool→Shared→Prop} (ha : s.heap.get? a = some oS) (hd : oS.data = .set es ep t) (hf : t.fits es.size = true) (h : Q (!byText w && (!t.plain && decide (es.size > 1))) s) : wpAny (model prog w) A (setDrawn a) Q E s:=by
 unfold setDrawn setsByText
 refine wpAny_bind (wpAny_setState_of ha hd hf ?_)
 dsimp only
 refine wpAny_bind (wpAny_bind (wpAny_askSetting (wpAny_pure ?_)))
 exact wpAny_pure h
theorem walksS {vs : List Value} {slot : Nat→Nat} (hh : A.handled = none) (hne : @Ne Nat a I) (hd : oS.data = .set es ep t) (hf : t.fits es.size = true) (hn : es.size = vs.length)
  (hnext : ∀ (i : Nat) (x : Value) (s : Shared),vs[i]? = some x→s.heap.get? a = some oS→∀ (B : Around) (E' : Value→Shared→Prop) (Q' : Option (Value × Nat)→Shared→Prop),Q' (some (x,slot (i + 1))) s→wpAny (model prog w) B (setNext a (slot i) i ep) Q' E' s)
  (hend : ∀ (s : Shared),s.heap.get? a = some oS→∀ (B : Around) (E' : Value→Shared→Prop) (Q' : Option (Value × Nat)→Shared→Prop),Q' none s→wpAny (model prog w) B (setNext a (slot vs.length) vs.length ep) Q' E' s) :
  Walks prog w A I [I,a] [I] vs.length (fun i v=>vs[i]? = some v) (fun i h=>h.get? I = some (itObj (.int (slot i) 0) i a vs.length ep)∧h.get? a = some oS) where
 sub:=fun b hb=>by simp at hb;simp [hb]
 frame:=fun _ _ _ st hk=>⟨hk I (by simp) _ st.1,hk a (by simp) _ st.2⟩
 item:=fun i s Q E hi st hQ=>by
  obtain ⟨x,hx⟩ : ∃ x,vs[i]? = some x:=⟨_,List.getElem?_eq_getElem hi⟩
  refine slot_item st.1 st.2 hd hf hn (hnext i x s hx st.2) fun h' g' k'=>?_
  exact hQ x h' s.toks hx ⟨g',(k'.2 a hne).trans st.2⟩ fun b o hb e=>(k'.2 b (by simpa using hb)).trans e
 done:=fun s Q E st hQ=>slot_end hh st.1 st.2 hd hf hn (hend s st.2) fun h' k'=>hQ h' s.toks fun b o hb e=>k' b o (by simpa using hb) e
 self:=fun _ _ _ _ st hQ=>si_self st.1 hQ
theorem walksT {vs : List Value} {ps : List Nat} {n9 : Nat} (hh : A.handled = none) (hne : @Ne Nat a I) (hnT : @Ne Nat T I) (hd : oS.data = .set es ep t) (hf : t.fits es.size = true) (hn : es.size = vs.length) (hpl : ps.length = vs.length)
  (hv : ∀ (i : Nat) (x : Value),vs[i]? = some x→∃ q hx,ps[i]? = some q∧es[q]? = some (hx,x)) :
  Walks prog w A I [I,a,T] [I] vs.length (fun i v=>vs[i]? = some v) (fun i h=>h.get? I = some (itObj (.ref T) i a vs.length ep)∧h.get? a = some oS∧h.get? T = some { cls:=.type "tuple",data:=.seq (ps.map fun i : Nat=>Value.int (i : Int) 0).toArray n9}) where
 sub:=fun b hb=>by simp at hb;simp [hb]
 frame:=fun _ _ _ st hk=>⟨hk I (by simp) _ st.1,hk a (by simp) _ st.2.1,hk T (by simp) _ st.2.2⟩
 item:=fun i s Q E hi st hQ=>by
  obtain ⟨x,hx⟩ : ∃ x,vs[i]? = some x:=⟨_,List.getElem?_eq_getElem hi⟩
  refine ex2 (hv i x hx) fun q hx9 q9=>an2 q9 fun h1 h2=>?_
  clear q9
  refine tup_item st.1 st.2.1 hd hf hn st.2.2 (by simp [h1]) h2 fun h' g' k'=>?_
  exact hQ x h' s.toks hx ⟨g',(k'.2 a hne).trans st.2.1,(k'.2 T hnT).trans st.2.2⟩ fun b o hb e=>(k'.2 b (by simpa using hb)).trans e
 done:=fun s Q E st hQ=>tup_end hh st.1 st.2.1 hd hf hn st.2.2 (by simp [hpl]) fun h' k'=>hQ h' s.toks fun b o hb e=>k' b o (by simpa using hb) e
 self:=fun _ _ _ _ st hQ=>si_self st.1 hQ
theorem bset_iter {D : List (List UInt8)} {Q : Value→Shared→Prop} (hh : A.handled = none) (ha : s.heap.get? a = some oS) (hS : BSet prog w oS D)
  (h : ∀ (vs : List Value) (St : Nat→Heap→Prop) (I : Addr) (extra : List (Addr × Obj)) (fp : List Addr) (h' : Heap) d,(vs.map keyB).Perm D→(∀ v ∈ vs,∃ (k : List UInt8) (t : Tok),v = .bytes k.toArray t) →
   Walks prog w A I fp [I] vs.length (fun i v=>vs[i]? = some v) St→St 0 h'→(∀ i h,St i h→∃ o,h.get? I = some o) →
   (∀ i h h2 o,St i h→h.get? I = some o→h2.get? I = some o→h2.get? a = some oS→(∀ p ∈ extra,h2.get? p.1 = some p.2)→St i h2)→(∀ b ∈ fp,b < h'.objs.size) →
   (∀ b o,s.heap.get? b = some o→h'.get? b = some o)→s.heap.objs.size ≤ I→(∀ p ∈ extra,h'.get? p.1 = some p.2∧s.heap.objs.size ≤ p.1∧@Ne Nat p.1 I)→Q (.ref I) { s with heap:=h',drawn:=d}) :
  wpAny (model prog w) A (pyIter (.ref a)) Q E s:=by
 obtain ⟨⟨es,ep,t,hex,hd,hel,hp,hf,hled,hpl⟩,hnd,hfew⟩:=hS
 have hlt : a < s.heap.objs.size:=Heap.lt_size ha
 have hsz : es.size = D.length:=by rw [← Array.length_toList];exact perm_keys hp
 have hall : ∀ (l : List (Int × Value)),l.Perm es.toList→((l.map (·.2)).map keyB).Perm D∧(∀ v ∈ l.map (·.2),∃ (k : List UInt8) (t : Tok),v = .bytes k.toArray t)∧(l.map (·.2)).length = es.size:=fun l hl=>by
  refine ⟨?_,fun v hv=>?_,?_⟩
  ·rw [List.map_map]
   exact (hl.map _).trans hp
  ·refine ex1 (List.mem_map.mp hv) fun e q9=>an2 q9 fun he e92=>?_
   clear q9
   subst e92
   refine an2 (hel e (hl.mem_iff.mp he)) fun e90 _=>?_
   obtain ⟨k,hk,_⟩:=e90
   refine ex1 (isBytes_shape hk) fun t ht=>?_
   exact ei2 k t ht
  ·rw [List.length_map,hl.length_eq,Array.length_toList]
 -- the slots' two ways
 have way : ∀ (l : List (Int × Value)) (slot : Nat→Nat),l.Perm es.toList→slot 0 = 0→(∀ (B : Around) (E' : Value→Shared→Prop) (Q' : Bool→Shared→Prop),Q' false s→wpAny (model prog w) B (setDrawn a) Q' E' s) →
   (∀ (i : Nat) (x : Value) (s : Shared),(l.map (·.2))[i]? = some x→s.heap.get? a = some oS→∀ (B : Around) (E' : Value→Shared→Prop) (Q' : Option (Value × Nat)→Shared→Prop),Q' (some (x,slot (i + 1))) s→wpAny (model prog w) B (setNext a (slot i) i ep) Q' E' s) →
   (∀ (s : Shared),s.heap.get? a = some oS→∀ (B : Around) (E' : Value→Shared→Prop) (Q' : Option (Value × Nat)→Shared→Prop),Q' none s→wpAny (model prog w) B (setNext a (slot (l.map (·.2)).length) (l.map (·.2)).length ep) Q' E' s) →
   wpAny (model prog w) A (pyIter (.ref a)) Q E s:=fun l slot hl h0 hdr h1 h2=>by
  refine an3 (hall l hl) fun p1 p2 p3=>?_
  refine set_iterS (first:=.none) ha hex hd hf hdr ?_
  refine h (l.map fun e : Int × Value=>e.2) _ s.heap.objs.size [] [s.heap.objs.size,a] _ s.drawn p1 p2 (walksS (slot:=slot) hh (Nat.ne_of_lt hlt) hd hf p3.symm h1 h2) ⟨?_,Heap.get?_push_of_some _ ha⟩ (fun i h st=>⟨_,st.1⟩) (fun i h h2 o st e e2 e3 _=>⟨by rw [e2,← e];exact st.1,e3⟩) (fun b hb=>?_) (fun b o e=>Heap.get?_push_of_some _ e) (Nat.le_refl _) (List.forall_mem_nil _)
  ·rw [h0,p3]
   exact Heap.get?_push_size _ rfl
  ·rw [Heap.size_push]
   rcases List.mem_cons.mp hb with rfl | hb
   ·exact Nat.lt_succ_self _
   ·rw [List.mem_singleton.mp hb];exact Nat.lt_succ_of_lt hlt
 cases hbt : byText w with
 | true =>
  refine way (pickOrder (w.params.setOrder a ep) es).toList (fun _=>0) (pickOrder_perm _ _) rfl (fun B E' Q' q=>drawn_eval ha hd hf (by rw [hbt];exact q)) (fun i x s hx hs B E' Q' q=>?_) (fun s hs B E' Q' q=>?_)
  ·refine next_text hbt hs hd hf ?_
   rw [← Array.getElem?_toList]
   rw [List.getElem?_map] at hx
   cases hg : (pickOrder (w.params.setOrder a ep) es).toList[i]? with
   | none=>rw [hg] at hx;cases hx
   | some e=>rw [hg] at hx;rw [← Option.some.inj hx] at q;exact q
  ·refine next_text hbt hs hd hf ?_
   rw [← Array.getElem?_toList,List.getElem?_eq_none (by rw [List.length_map];exact Nat.le_refl _)]
   exact q
 | false =>
  rw [hbt] at hled
  by_cases hz : es.size ≤ 1
  ·have hdr : ∀ (B : Around) (E' : Value→Shared→Prop) (Q' : Bool→Shared→Prop),Q' false s→wpAny (model prog w) B (setDrawn a) Q' E' s:=fun B E' Q' q=>drawn_eval ha hd hf (by rw [decide_eq_false (by omega),Bool.and_false,Bool.and_false];exact q)
   have hps : t.place.size = es.size:=by
    unfold SetTable.fits at hf
    simp only [Bool.and_eq_true,beq_iff_eq] at hf
    exact hf.1
   have hc : es.size = 0 ∨ es.size = 1:=by omega
   rcases hc with hc | hc
   ·have hes : es = #[]:=Array.eq_empty_of_size_eq_zero hc
    have hpe : t.place = #[]:=Array.eq_empty_of_size_eq_zero (hps.trans hc)
    refine way es.toList (fun _=>0) .rfl rfl hdr (fun i x s hx hs B E' Q' q=>?_) (fun s hs B E' Q' q=>?_)
    ·rw [hes] at hx;simp at hx
    ·refine next_slot hbt hs hd hf hled hz ?_
     rw [hes]
     exact q
   ·refine ex1 (Array.size_eq_one_iff.mp hc) fun e he=>?_
    refine ex1 (Array.size_eq_one_iff.mp (hps.trans hc)) fun j hj=>?_
    refine way es.toList (fun i=>if i = 0 then 0 else j + 1) .rfl rfl hdr (fun i x s hx hs B E' Q' q=>?_) (fun s hs B E' Q' q=>?_)
    ·have hi0 : i = 0∧x = e.2:=by
      rw [he] at hx
      cases i with
      | zero=>exact ⟨rfl,(Option.some.inj hx).symm⟩
      | succ i=>simp at hx
     refine an2 hi0 fun e90 e91=>?_
     clear hi0
     subst e90
     subst e91
     refine next_slot hbt hs hd hf hled hz ?_
     rw [hj,if_pos rfl,below_one,if_neg (Nat.not_lt_zero _),he]
     exact q
    ·refine next_slot hbt hs hd hf hled hz ?_
     rw [he]
     show Q' ((#[e][SetTable.below t.place (if 1 = 0 then 0 else j + 1)]?).bind fun e=>(t.place[SetTable.below t.place (if 1 = 0 then 0 else j + 1)]?).map fun j=>(e.2,j + 1)) s
     rw [hj,if_neg (by decide),below_one,if_pos (Nat.lt_succ_self _)]
     exact q
  ·have hpl' : t.plain = false:=hpl.resolve_left (by omega)
   have hlt9 : es.size < 1000:=by rw [hsz];exact hfew
   refine set_iterT ha hex hd hf hlt9 (fun B E' Q' q=>drawn_eval ha hd hf (by rw [hbt,hpl',decide_eq_true (by omega)];exact q)) fun ps d hps=>?_
   have hl : (ps.filterMap (es.toList[·]?)).Perm es.toList:=(hps.filterMap _).trans (by
    rw [← Array.length_toList,List.filterMap_getElem?_range_length])
   have hpin : ∀ q ∈ ps,q < es.size:=fun q hq=>List.mem_range.mp (hps.mem_iff.mp hq)
   have hmap : ∀ (l : List Nat),(∀ q ∈ l,q < es.size)→∀ (i : Nat) e,(l.filterMap (es.toList[·]?))[i]? = some e→∃ q,l[i]? = some q∧es.toList[q]? = some e:=by
    intro l
    induction l with
    | nil=>intro _ i e he;simp at he
    | cons q l ih =>
     intro hl i e he
     have hq : q < es.toList.length:=by rw [Array.length_toList];exact hl q (.head _)
     rw [List.filterMap_cons,List.getElem?_eq_getElem hq] at he
     cases i with
     | zero=>exact ⟨q,rfl,by rw [List.getElem?_eq_getElem hq];exact he⟩
     | succ i=>exact ih (fun x hx=>hl x (.tail _ hx)) i e he
   refine an3 (hall _ hl) fun p1 p2 p3=>?_
   refine h ((ps.filterMap (es.toList[·]?)).map fun e : Int × Value=>e.2) _ (s.heap.objs.size + 1) [(s.heap.objs.size,_)] [s.heap.objs.size + 1,a,s.heap.objs.size] _ d p1 p2 (walksT (T:=s.heap.objs.size) (ps:=ps) (n9:=0) hh (Nat.ne_of_lt (Nat.lt_succ_of_lt hlt)) (Nat.ne_of_lt (Nat.lt_succ_self _)) hd hf p3.symm (by rw [p3,hps.length_eq,List.length_range]) (fun i x hx=>?_)) ⟨?_,?_,?_⟩ (fun i h st=>⟨_,st.1⟩)
    (fun i h h2 o st e e2 e3 ex=>⟨by rw [e2,← e];exact st.1,e3,ex _ (.head _)⟩) (fun b hb=>?_) (fun b o e=>Heap.get?_push_of_some _ (Heap.get?_push_of_some _ e)) (Nat.le_succ _) (fun p hp=>?_)
   ·rw [List.getElem?_map] at hx
    cases hg : (ps.filterMap (es.toList[·]?))[i]? with
    | none=>rw [hg] at hx;cases hx
    | some e =>
     rw [hg] at hx
     refine ex1 (hmap ps hpin i e hg) fun q q9=>an2 q9 fun q1 q2=>?_
     clear q9
     refine ei2 q e.1 ⟨q1,?_⟩
     rw [← Array.getElem?_toList,q2,← Option.some.inj hx]
   ·have:=Heap.get?_push_size (s.heap.push { cls:=.type "tuple",data:=.seq (ps.map fun i : Nat=>Value.int (i : Int) 0).toArray}) (o:=itObj (.ref s.heap.objs.size) 0 a es.size ep) rfl
    rw [Heap.size_push] at this
    rw [p3]
    exact this
   ·exact Heap.get?_push_of_some _ (Heap.get?_push_of_some _ ha)
   ·exact Heap.get?_push_of_some _ (Heap.get?_push_size _ rfl)
   ·rw [Heap.size_push,Heap.size_push]
    rcases List.mem_cons.mp hb with rfl | hb
    ·exact Nat.lt_succ_self _
    ·rcases List.mem_cons.mp hb with rfl | hb
     ·exact Nat.lt_succ_of_lt (Nat.lt_succ_of_lt hlt)
     ·rw [List.mem_singleton.mp hb];exact Nat.lt_succ_of_lt (Nat.lt_succ_self _)
   ·rw [List.mem_singleton.mp hp]
    exact ⟨Heap.get?_push_of_some _ (Heap.get?_push_size _ rfl),Nat.le_refl _,Nat.ne_of_lt (Nat.lt_succ_self _)⟩
end
end NX17
section NW29
theorem lnNW29_1 : True:=by
 k_with "call ref" => ((fail_if_success have:=dNW29);first | k_extra "L13" | fail)
 exact True.intro
open kc in
open LCg in
theorem c_68 : s_68 A E prog w cl h₀ L m s QX1 xX1 env px elt iter scope pos:=by
 intro F₀ hclos hcell hkind hnames hx h hs
 rw [eval_ListComp]
 refine wpAny_comprehension_free (use:=none) rfl hs hclos hkind hnames (wpAny_mono h (fun xv s₁ h₁=>?_) fun _ _ e=>e)
 refine ex4 h₁ fun a oS D news q9=>an7 q9 fun e94 hh F N hm hS R=>?_
 clear q9 h₁
 subst e94
 refine bset_iter hh (N _ hm).1 hS fun vs St I extra fp h' d hp hv W st0 hIo hst hfp up hI ex=>?_
 have hlen : vs.length ≤ 1000:=by
  have:=hp.length_eq
  rw [List.length_map] at this
  have:=hS.few
  omega
 have nI : ∀ p ∈ extra ++ news,@Ne Nat p.1 I:=fun p hp=>by
  rcases List.mem_append.mp hp with hp | hp
  ·exact (ex p hp).2.2
  ·exact Nat.ne_of_lt (Nat.lt_of_lt_of_le (Heap.lt_size (N p hp).1) hI)
 have fresh : ∀ b,s₁.heap.objs.size ≤ b→h₀.get? b = none:=fun b hb=>by
  cases e : h₀.get? b with
  | none=>rfl
  | some o'=>exact absurd (Heap.lt_size (F.keep b o' e)) (Nat.not_lt.mpr hb)
 have hLlt : L < s₁.heap.objs.size:=F.ns.lt
 have N' : News h₀ L h' (extra ++ news):=fun p hp=>by
  rcases List.mem_append.mp hp with hp | hp
  ·exact ⟨(ex p hp).1,Nat.ne_of_gt (Nat.lt_of_lt_of_le hLlt (ex p hp).2.1),fresh _ (ex p hp).2.1⟩
  ·exact ⟨up _ _ (N p hp).1,(N p hp).2⟩
 refine block_U (s₂:={ s₁ with heap:=h',drawn:=d}) W (by rw [sizeLine_eq];exact Nat.le_trans hlen (Nat.le_of_ble_eq_true rfl)) hIo (S:=fun nw=>(a,oS) ∈ nw∧∀ p ∈ extra,p ∈ nw) (fun i h h2 o nw st e e2 k Nn hSn=>hst i h h2 o st e e2 (Nn _ hSn.1).1 fun p hp=>(Nn _ (hSn.2 p hp)).1) hcell hkind hx st0 hfp
  (F.keeps up) N' (Nat.ne_of_lt (Nat.lt_of_lt_of_le hLlt hI)) (fresh I hI) nI ⟨List.mem_append_right _ hm,fun p hp=>List.mem_append_left _ hp⟩ (R vs extra _ ⟨h',d,rfl⟩ hp hv) ?_
 intro D9 C h tk m' ys news' F' N' o1 hn hC₀ hD₀ hCL hDL hCD offC fin
 refine ⟨m',hn,fun h'' hs''=>fin D9 h'' tk (F'.change hs'' hCL hC₀) (fun p hp=>?_) o1⟩
 refine ⟨hs''.extBut _ _ ?_ (N' p hp).1,(N' p hp).2⟩
 rcases List.mem_cons.mp hp with rfl | hp
 ·exact Ne.symm hCD
 ·exact offC p hp
theorem u69 : upto 69:=hk @c_68 u68 (by with_unfolding_all exact rfl)
open kc in
theorem ListComp_set {A E prog w cl h₀ L m s QX1 xX1 env px elt iter scope pos} : s_68 A E prog w cl h₀ L m s QX1 xX1 env px elt iter scope pos:=@hkT _ u69 (by k_extra "T") _ (by exact rfl)
theorem lnNW29_2 : True:=by
 k_with "L117" => ((k_here;(with_reducible show wpAny _ _ (call (Value.builtin "sum") [Value.ref _]) _ _ _);k_dflt (refine' LCg.sum_ints ?zF ?zN rfl ?zl ?zi ?_;(case zF=>k_asm);(case zN=>k_asm);(case zl=>exact News.isList (by k_asm) (by k_mem));(case zi=>assumption));intro _ _ _ _ _))
 k_with "L118" => ((k_here;k_dflt (refine ListComp_set (F₀:=by k_asm) (by with_unfolding_all rfl) (by decide) (by rfl) (by decide) (by rfl) ?_ (by intro _;rfl))))
 k_with "A" => ((fail_if_success have:=dNW29);first | k_extra "L28" | k_extra "L27" | fail)
 k_with "eval Name" => ((fail_if_success have:=dNW29);first | k_extra "L71" | k_extra "L77" | fail)
 k_with "call builtin:len" => ((fail_if_success have:=dNW29);first | k_extra "L107" | k_extra "L96" | fail)
 k_with "call builtin:sum" => ((fail_if_success have:=dNW29);first | k_extra "L117" | fail)
 k_with "eval ListComp" => ((fail_if_success have:=dNW29);first | k_extra "L118" | fail)
 k_with "SrcSet" => ((fail_if_success have:=dNW29);first | k_extra "L46" | fail)
 exact True.intro
theorem perm_sum {l1 l2 : List Int} (h : l1.Perm l2) : l1.sum = l2.sum:=by
 induction h with
 | nil=>rfl
 | cons x _ ih=>rw [List.sum_cons,List.sum_cons,ih]
 | swap x y l=>simp only [List.sum_cons];omega
 | trans _ _ h1 h2=>exact h1.trans h2
open kc in
theorem c_69 : s_69 E w p loose mean mg mb dp un a A₀ base h₀ L m s QX2 S c1 c2 c3 c4 c5 σ du dvs o5 oS t5:=by
 intro B F X T hd hu b5 ks n D hS hdu N hm hdl hm5 d5 hks hkl hmS hB hDl heq hDs hret
 rw [show lawSt 11 = .If _ _ _ _ from rfl]
 k_steps
 refine Stop.out ?_
 refine ei4 S oS D σ ⟨rfl,rfl,F,N,hmS,hB,?_⟩
 rintro vs extra s₂ ⟨g9,d9,rfl⟩ hp hv
 have hsum : (vs.map fun v=>((keyB v).length : Int)).sum = (D.map fun k=>(k.length : Int)).sum:=by
  have:=perm_sum (hp.map fun k=>(k.length : Int))
  rw [List.map_map] at this
  exact this
 refine comp_inv (fun i ys nl=>nl = extra ++ σ∧IntsAre ys ((vs.map fun v=>((keyB v).length : Int)).take i)) ⟨rfl,.nil⟩ ?_ ?_
 ·intro ys nl hJ9
  refine an2 hJ9 fun e90 hy=>?_
  clear hJ9
  subst e90
  rw [List.take_of_length_le (by rw [List.length_map];exact Nat.le_refl _)] at hy
  intro Dn hn tkn Fn Nn on
  clear N F
  walk_at "S2"
  (try (rename_i hne9;exact absurd (by rw [hsum];exact heq) hne9))
  ·exact hret _ _ d9 (by assumption) (news_sub (by assumption) fun p hp=>.tail _ (List.mem_append_right _ hp))
 ·intro i ys nl v I oI C oC Dl m₂ h tk E' hin hJ9 hv9 hC hx9 F8 N8 off ne
  refine an2 hJ9 fun e90 hy=>?_
  clear hJ9
  subst e90
  refine ex2 (hv v (List.mem_of_getElem? hv9)) fun k t e92=>?_
  subst e92
  have hkD : k ∈ D:=hp.mem_iff.mp (List.mem_map.mpr ⟨_,List.mem_of_getElem? hv9,rfl⟩)
  have hk9 : KBw.bInts k.toArray = k.map (fun c=>(c.toNat : Int)):=KBw.ints_list k
  have hk8 : (k.map (fun c=>(c.toNat : Int))).length < 10000:=by rw [List.length_map];exact hDs k hkD
  have hti : (vs.map fun v=>((keyB v).length : Int)).take (i + 1) = (vs.map fun v=>((keyB v).length : Int)).take i ++ [((k.map (fun c=>(c.toNat : Int))).length : Int)]:=by
   rw [List.take_add_one,List.getElem?_map,hv9,List.length_map];rfl
  clear N F
  walk_at "S2"
  refine LCg.CompEnd.intro (by assumption) (by assumption) _ (fun _ h=>h) off ⟨List.mem_append_right _ hmS,fun p hp=>List.mem_append_left _ hp⟩ ⟨rfl,?_⟩
  rw [hti];exact ints_snoc hy
theorem u70 : upto 70:=hk @c_69 u69 (by with_unfolding_all exact rfl)
open kc in
theorem sum_if_spec {E w p loose mean mg mb dp un a A₀ base h₀ L m s QX2 S c1 c2 c3 c4 c5 σ du dvs o5 oS t5} : s_69 E w p loose mean mg mb dp un a A₀ base h₀ L m s QX2 S c1 c2 c3 c4 c5 σ du dvs o5 oS t5:=@hkT _ u70 (by k_extra "T") _ (by exact rfl)
end NW29
theorem dNW29 : True:=trivial
section NW30
theorem lnNW30_1 : True:=by
 k_with "L119" => ((k_here;(with_reducible show wpAny _ _ (call (Value.ref 532) [Value.ref _]) _ _ _);refine Stop.mk ?_))
 k_with "call ref" => ((fail_if_success have:=dNW30);first | k_extra "L119" | k_extra "L13" | fail)
 k_with "call type:tuple" => ((fail_if_success have:=dNW30);first | k_extra "L54" | fail)
 k_with "A" => ((fail_if_success have:=dNW30);first | k_extra "L28" | k_extra "L27" | fail)
 k_with "eval Name" => ((fail_if_success have:=dNW30);first | k_extra "L77" | fail)
 k_with "compareOp NotEq" => ((fail_if_success have:=dNW30);first | k_extra "L46" | fail)
 k_with "compareOp NotEq ref" => ((fail_if_success have:=dNW30);first | k_extra "L46" | fail)
 k_with "compareOp NotEq ref ref" => ((fail_if_success have:=dNW30);first | k_extra "L46" | fail)
 exact True.intro
open kc in
theorem c_70 : s_70 E w p loose mean mg mb dp un a A₀ base h₀ L m s t2 QX2 c1 c2 c3 c4 c5 σ du dvs o2 o5 t5:=by
 intro B F X T hd hu CH w9 b2 b5 ka ko n rows gs hdu N hm hda hl m2 d2 m5 d5 hka hko za zo hb hgl hroom hcov hasc hres hret
 have hdl : dvs.length = rows.length:=by rw [hda.length,List.length_map]
 rw [show lawSt 12 = .If _ _ _ _ from rfl]
 k_steps
 refine Stop.out ?_
 rename_i f9 c9 oc9 vs9 t9 ct9 h9 tk9 F9 N9 e9 v9 l9 l8
 refine law_caught_spec B F9 X T rfl N9 (.head _) (lam0_spec (.head _) (.tail _ (.head _)) e9 v9 (.tail _ (.tail _ (.tail _ m2))) d2 (.tail _ (.tail _ (.tail _ m5))) d5 hka hko za zo hb gs hgl hroom hcov hasc) (by omega) (by omega) ?_
 intro v8 τ8 h8 tk8 dv8 F8 N8
 rw [hres] at dv8
 clear N9 F9
 replace N8 : News h₀ L h8 ((du,listOf dvs.toArray n) :: (τ8 ++ (534,tabObj (#[] ++ #[rawInt (lamPos 0).line,rawInt (lamPos 0).col,.ref c9])) :: σ)):=fun p hp=>by
  rcases List.mem_cons.mp hp with rfl | hp
  ·exact N8 _ (List.mem_append_right _ (.tail _ (.tail _ (.tail _ hm))))
  ·exact N8 _ ((List.mem_append.mp hp).elim (fun h=>List.mem_append_left _ h) fun h=>List.mem_append_right _ (.tail _ (.tail _ h)))
 walk_at "S2"
 refine Stop.out ?_
 rename_i T7 h7 F7 N7 l7
 refine dat_ne_same (d:=.tuple (rows.map datR)) N7 dv8 (fun p hp=>.tail _ (.tail _ (List.mem_append_left _ hp))) (DatIn.tuple (.head _) (hda.mono fun p hp=>.tail _ (.tail _ (List.mem_append_right _ (.tail _ hp))))) (fun p hp=>hp) (told_ok9 rows) (by ktr_units) ?_
 replace N7:=news_sub N7 fun p hp=>List.mem_cons_of_mem _ (List.mem_cons_of_mem _ (List.mem_append_right _ hp))
 walk_at "S2"
 exact hret _ _ _ F7 N7
theorem u71 : upto 71:=hk @c_70 u70 (by with_unfolding_all exact rfl)
open kc in
theorem read_if_spec {E w p loose mean mg mb dp un a A₀ base h₀ L m s t2 QX2 c1 c2 c3 c4 c5 σ du dvs o2 o5 t5} : s_70 E w p loose mean mg mb dp un a A₀ base h₀ L m s t2 QX2 c1 c2 c3 c4 c5 σ du dvs o2 o5 t5:=@hkT _ u71 (by k_extra "T") _ (by exact rfl)
end NW30
theorem dNW30 : True:=trivial
section NP4
section
variable {ks bs b1 b2 : List Int} {p : Nat}
theorem Sits.len (h : Sits ks p bs) : p + bs.length ≤ ks.length:=by
 refine ex2 h fun a c q9=>an2 q9 fun e92 e93=>?_
 clear q9 h
 subst e92
 subst e93
 simp only [List.length_append];omega
theorem Sits.right (h : Sits ks p bs) (r : List Int) : Sits (ks ++ r) p bs:=by
 refine ex2 h fun a c q9=>an2 q9 fun e92 e93=>?_
 clear q9 h
 subst e92
 subst e93
 exact ei2 a (c ++ r) ⟨by simp only [List.append_assoc],rfl⟩
theorem Sits.left (h : Sits ks p bs) (l : List Int) : Sits (l ++ ks) (l.length + p) bs:=by
 refine ex2 h fun a c q9=>an2 q9 fun e92 e93=>?_
 clear q9 h
 subst e92
 subst e93
 exact ei2 (l ++ a) c ⟨by simp only [List.append_assoc],List.length_append⟩
theorem Sits.whole : Sits ks 0 ks:=⟨[],[],by simp,rfl⟩
theorem Sits.fst (h : Sits ks p (b1 ++ b2)) : Sits ks p b1:=by
 refine ex2 h fun a c q9=>an2 q9 fun e92 e93=>?_
 clear q9 h
 subst e92
 subst e93
 exact ei2 a (b2 ++ c) ⟨by simp only [List.append_assoc],rfl⟩
theorem Sits.snd (h : Sits ks p (b1 ++ b2)) : Sits ks (p + b1.length) b2:=by
 refine ex2 h fun a c q9=>an2 q9 fun e92 e93=>?_
 clear q9 h
 subst e92
 subst e93
 exact ei2 (a ++ b1) c ⟨by simp only [List.append_assoc],List.length_append⟩
theorem Sits.trans {q : Nat} (h : Sits ks q b1) (h' : Sits b1 p bs) : Sits ks (q + p) bs:=by
 refine ex2 h fun a c q9=>an2 q9 fun e92 e93=>?_
 clear q9 h
 subst e92
 subst e93
 exact (h'.right c).left a
theorem getD_at {a c : List Int} {x : Int} : (a ++ x :: c).getD a.length 0 = x:=by
 rw [List.getD_eq_getElem?_getD,List.getElem?_append_right (Nat.le_refl _),Nat.sub_self];rfl
theorem Sits.u16 {x y : Int} {r : List Int} (h : Sits ks p (x :: y :: r)) {q : Int} (hq : q = p) : u16v ks q = 256 * x + y:=by
 refine ex2 h fun a c q9=>an2 q9 fun e92 e93=>?_
 clear q9 h
 subst e92
 subst e93
 subst hq
 unfold u16v
 rw [Int.toNat_natCast]
 have e1 : (a ++ (x :: y :: r ++ c)).getD a.length 0 = x:=getD_at
 have e2 : (a ++ (x :: y :: r ++ c)).getD (a.length + 1) 0 = y:=by
  have : a ++ (x :: y :: r ++ c) = (a ++ [x]) ++ y :: (r ++ c):=by simp
  rw [this,show a.length + 1 = (a ++ [x]).length from by simp]
  exact getD_at
 rw [e1,e2]
theorem Sits.num {n : Int} {r : List Int} (h : Sits ks p (b16 n ++ r)) {q : Int} (hq : q = p) : u16v ks q = n:=by
 rw [Sits.u16 (x:=n / 256) (y:=n % 256) (r:=r) h hq]
 omega
theorem Sits.num' {n : Int} (h : Sits ks p (b16 n)) {q : Int} (hq : q = p) : u16v ks q = n :=
 Sits.num (r:=[]) (by rw [List.append_nil];exact h) hq
theorem Sits.item : ∀ {l : List Int} {p : Nat},Sits ks p (l.flatMap b16)→∀ {i : Nat} {n : Int},l[i]? = some n→∀ {q : Int},q = (p : Int) + 2 * (i : Int)→u16v ks q = n:=by
 intro l
 induction l with
 | nil=>intro p h i n e q hq;cases e
 | cons x l ih =>
  intro p h i n e q hq
  rw [List.flatMap_cons] at h
  cases i with
  | zero =>
   rw [← Option.some.inj (show some x = some n from e)]
   exact h.num (by omega)
  | succ i=>exact ih (p:=p + 2) h.snd (i:=i) (n:=n) e (by omega)
theorem flat_len : ∀ (l : List Int),(l.flatMap b16).length = 2 * l.length:=by
 intro l
 induction l with
 | nil=>rfl
 | cons x l ih=>rw [List.flatMap_cons,List.length_append,ih,List.length_cons];show 2 + _ = _;omega
theorem cov_at {gs : List Int} (h : Sits ks p (cov8 gs)) {q : Int} (hq : q = p) : CovAt ks q gs:=by
 unfold cov8 at h
 have h1:=h.fst.fst
 have h2:=h.fst.snd
 have h3:=h.snd
 refine ⟨Sits.u16 (x:=0) (y:=1) (r:=[]) h1 hq,h2.num' (by simp;omega),?_,fun i hi=>?_⟩
 ·have:=h3.len
  rw [flat_len,List.length_append] at this
  have e : (b16 (gs.length : Int)).length = 2:=rfl
  have e' : ([0,1] : List Int).length = 2:=rfl
  omega
 ·refine h3.item (i:=i) (n:=gs[i]) (List.getElem?_eq_getElem hi) ?_
  have e : (([0,1] : List Int) ++ b16 (gs.length : Int)).length = 4:=rfl
  rw [e];omega
theorem anc_at {z : Pt} (h : Sits ks p (anc8 z)) (hz : PtOk z) {q : Int} (hq : q = p) : rdAnchor ks q = .ok z:=by
 have hl:=h.len
 have e6 : (anc8 z).length = 6:=rfl
 rw [e6] at hl
 have h1 : u16v ks q = 1:=Sits.u16 (x:=0) (y:=1) (r:=_) h hq
 have h2 : Sits ks (p + 2) (anc8 z).tail.tail:=Sits.snd (b1:=[0,1]) (b2:=(anc8 z).tail.tail) h
 have h3 : Sits ks (p + 4) (anc8 z).tail.tail.tail.tail:=Sits.snd (b1:=[z.1 % 65536 / 256,z.1 % 65536 % 256]) (b2:=(anc8 z).tail.tail.tail.tail) h2
 have e2 : u16v ks (q + 2) = 256 * (z.1 % 65536 / 256) + z.1 % 65536 % 256:=Sits.u16 h2 (by omega)
 have e3 : u16v ks (q + 4) = 256 * (z.2 % 65536 / 256) + z.2 % 65536 % 256:=Sits.u16 h3 (by omega)
 refine an4 hz fun z1 z2 z3 z4=>?_
 clear hz
 unfold rdAnchor
 rw [if_neg (by omega),if_neg (by omega),if_neg (by omega),if_neg (by omega),if_neg (by omega),e2,e3]
 unfold s16
 congr 1
 refine Prod.ext ?_ ?_
 ·dsimp only;split <;> omega
 ·dsimp only;split <;> omega
end
theorem kI_b (b : Array UInt8) : KBw.bInts b = kI b.toList:=rfl
theorem kI_inj : ∀ {a b : List UInt8},kI a = kI b→a = b:=by
 intro a
 induction a with
 | nil =>
  intro b h
  cases b with
  | nil=>rfl
  | cons _ _=>cases h
 | cons x a ih =>
  intro b h
  cases b with
  | nil=>cases h
  | cons y b =>
   have h1 : (x.toNat : Int) = (y.toNat : Int):=(List.cons.inj h).1
   have : x.toNat = y.toNat:=by omega
   rw [UInt8.toNat_inj.mp this,ih (List.cons.inj h).2]
theorem kI_len (k : List UInt8) : (kI k).length = k.length:=List.length_map _
theorem sumL_snoc (D : List (List UInt8)) (k : List UInt8) : sumL (D ++ [k]) = sumL D + k.length:=by
 unfold sumL
 rw [List.map_append,List.sum_append]
 simp
theorem LInv.step {beg : Int} {ps : List (Option (Array UInt8))} {D : List (List UInt8)} {st : LaidS} (h : LInv beg ps D st) (p : Option (Array UInt8)) : LInv beg (ps ++ [p]) (partD D p) (laidStep beg st p):=by
 obtain ⟨h1,h2,h3,h4⟩:=h
 have old : ∀ (offs : List Int) (o : Int) (out : Array UInt8),offs = st.offs ++ [o]→(∀ q bs,Sits (kI st.out.toList) q bs→Sits (kI out.toList) q bs)→((p = none∧o = 0) ∨ ∃ b pos,p = some b∧o = beg + ((pos : Nat) : Int)∧Sits (kI out.toList) pos (kI b.toList)) →
   ∀ (i : Nat) (p' : Option (Array UInt8)),(ps ++ [p])[i]? = some p'→(p' = none∧offs[i]? = some 0) ∨ ∃ b pos,p' = some b∧offs[i]? = some (beg + ((pos : Nat) : Int))∧Sits (kI out.toList) pos (kI b.toList):=by
  intro offs o out e up hl i p' hp
  subst e
  by_cases hi : i < ps.length
  ·rw [List.getElem?_append_left hi] at hp
   rw [List.getElem?_append_left (by rw [h1];exact hi)]
   rcases h2 i p' hp with ⟨a,b⟩ | ⟨b,pos,a1,a2,a3⟩
   ·exact .inl ⟨a,b⟩
   ·exact .inr (ei2 b pos ⟨a1,a2,up _ _ a3⟩)
  ·rw [List.getElem?_append_right (by omega)] at hp
   have h0 : i - ps.length = 0:=by
    cases e : i - ps.length with
    | zero=>rfl
    | succ n=>rw [e] at hp;cases hp
   rw [h0] at hp
   have hp' : p = p':=Option.some.inj hp
   subst hp'
   rw [List.getElem?_append_right (by omega),h1,h0]
   rcases hl with ⟨a,b⟩ | ⟨b,pos,a1,a2,a3⟩
   ·exact .inl ⟨a,by rw [b];rfl⟩
   ·exact .inr (ei2 b pos ⟨a1,by rw [a2];rfl,a3⟩)
 have hlen : ∀ o : Int,(st.offs ++ [o]).length = (ps ++ [p]).length:=fun o=>by rw [List.length_append,List.length_append,h1];rfl
 cases p with
 | none=>exact ⟨hlen 0,old _ 0 _ rfl (fun _ _ s=>s) (.inl ⟨rfl,rfl⟩),h3,h4⟩
 | some b =>
  rcases h3 b.toList with ⟨e,hn⟩ | ⟨hm,pos,e,hs⟩
  ·have hst : laidStep beg st (some b) = ⟨st.offs ++ [beg + st.out.size],st.out ++ b,fun k=>if k = b.toList then some (beg + st.out.size) else st.at_ k⟩:=by simp only [laidStep,e]
   have hD : partD D (some b) = D ++ [b.toList]:=by show addD D b.toList = _;unfold addD;rw [if_neg hn]
   have hk : kI (st.out ++ b).toList = kI st.out.toList ++ kI b.toList:=by rw [Array.toList_append];exact List.map_append
   have hz : (kI st.out.toList).length = st.out.size:=by rw [kI_len,Array.length_toList]
   have up : ∀ q bs,Sits (kI st.out.toList) q bs→Sits (kI (st.out ++ b).toList) q bs:=fun q bs s=>by rw [hk];exact s.right _
   have new : Sits (kI (st.out ++ b).toList) st.out.size (kI b.toList):=by
    rw [hk,← hz]
    exact ei2 (kI st.out.toList) [] ⟨by simp,rfl⟩
   rw [hst,hD]
   refine ⟨hlen _,old _ (beg + st.out.size) _ rfl up (.inr (ei2 b st.out.size ⟨rfl,rfl,new⟩)),fun k=>?_,?_⟩
   ·by_cases z : k = b.toList
    ·subst z
     exact .inr ⟨List.mem_append_right _ (.head _),st.out.size,if_pos rfl,new⟩
    ·rcases h3 k with ⟨e1,e2⟩ | ⟨e1,pos,e2,e3⟩
     ·refine .inl ⟨(if_neg z).trans e1,fun hm=>?_⟩
      rcases List.mem_append.mp hm with hm | hm
      ·exact e2 hm
      ·exact z (List.mem_singleton.mp hm)
     ·exact .inr ⟨List.mem_append_left _ e1,pos,(if_neg z).trans e2,up _ _ e3⟩
   ·rw [sumL_snoc,← h4,Array.length_toList]
    show ((st.out ++ b).size : Int) = _
    rw [Array.size_append]
    omega
  ·have hst : laidStep beg st (some b) = ⟨st.offs ++ [beg + (pos : Int)],st.out,st.at_⟩:=by simp only [laidStep,e]
   have hD : partD D (some b) = D:=by show addD D b.toList = _;unfold addD;rw [if_pos hm]
   rw [hst,hD]
   exact ⟨hlen _,old _ (beg + (pos : Int)) _ rfl (fun _ _ s=>s) (.inr (ei2 b pos ⟨rfl,rfl,hs⟩)),h3,h4⟩
theorem laid_inv (beg : Int) (ps : List (Option (Array UInt8))) : LInv beg ps (ps.foldl partD []) (laidF beg ps):=by
 have gen : ∀ (l done : List (Option (Array UInt8))) (D : List (List UInt8)) (st : LaidS),LInv beg done D st→LInv beg (done ++ l) (l.foldl partD D) (l.foldl (laidStep beg) st):=by
  intro l
  induction l with
  | nil=>intro done D st h;rw [List.append_nil];exact h
  | cons p l ih =>
   intro done D st h
   have:=ih (done ++ [p]) _ _ (h.step p)
   rw [List.append_assoc] at this
   exact this
 exact gen ps [] [] _ ⟨rfl,fun i p h=>(nomatch h),fun k=>.inl ⟨rfl,List.not_mem_nil⟩,rfl⟩
theorem partD_fold : ∀ (ps : List (Option (Array UInt8))) (D : List (List UInt8)),ps.foldl partD D = ((ps.filterMap id).map (·.toList)).foldl addD D:=by
 intro ps
 induction ps with
 | nil=>exact fun _=>rfl
 | cons o ps ih =>
  intro D
  cases o with
  | none=>exact ih D
  | some b=>exact ih (addD D b.toList)
theorem fold_mem : ∀ (l D : List (List UInt8)) (k : List UInt8),k ∈ l.foldl addD D ↔ k ∈ D ∨ k ∈ l:=by
 intro l
 induction l with
 | nil=>intro D k;exact ⟨.inl,fun h=>h.elim id fun h=>nomatch h⟩
 | cons x l ih =>
  intro D k
  rw [List.foldl_cons,ih]
  unfold addD
  by_cases hx : x ∈ D
  ·rw [if_pos hx]
   exact ⟨fun h=>h.imp id (.tail _),fun h=>h.elim .inl fun h=>(List.mem_cons.mp h).elim (fun e=>.inl (e ▸ hx)) .inr⟩
  ·rw [if_neg hx]
   exact ⟨fun h=>h.elim (fun h=>(List.mem_append.mp h).imp id fun h=>List.mem_cons.mpr (.inl (List.mem_singleton.mp h))) fun h=>.inr (.tail _ h),
    fun h=>h.elim (fun h=>.inl (List.mem_append_left _ h)) fun h=>(List.mem_cons.mp h).elim (fun e=>.inl (e ▸ List.mem_append_right _ (.head _))) .inr⟩
theorem fold_nodup : ∀ (l : List (List UInt8)) {D : List (List UInt8)},D.Nodup→(l.foldl addD D).Nodup:=by
 intro l
 induction l with
 | nil=>exact fun h=>h
 | cons _ l ih=>exact fun h=>ih (addD_nodup h)
theorem sumL_perm {a b : List (List UInt8)} (h : a.Perm b) : sumL a = sumL b:=by
 unfold sumL
 induction h with
 | nil=>rfl
 | cons x _ ih=>simp only [List.map_cons,List.sum_cons,ih]
 | swap x y l=>simp only [List.map_cons,List.sum_cons];omega
 | trans _ _ h1 h2=>exact h1.trans h2
theorem sum_same (c : List UInt8) (l : List (List UInt8)) : sumL (l.foldl addD (addD [] c)) = sumL (addD (foldD l) c):=by
 have n1 : (l.foldl addD (addD [] c)).Nodup:=fold_nodup l (addD_nodup .nil)
 have n2 : (addD (foldD l) c).Nodup:=addD_nodup (fold_nodup l .nil)
 refine sumL_perm ((List.perm_ext_iff_of_nodup n1 n2).mpr fun k=>?_)
 have h1:=fold_mem [c] [] k
 have h2:=fold_mem l [] k
 have h3:=fold_mem [c] (foldD l) k
 have h4:=fold_mem l (addD [] c) k
 have e1 : [c].foldl addD [] = addD [] c:=rfl
 have e3 : [c].foldl addD (foldD l) = addD (foldD l) c:=rfl
 rw [e1] at h1
 rw [e3] at h3
 have e2 : l.foldl addD [] = foldD l:=rfl
 rw [e2] at h2
 rw [h4,h1,h3,h2]
 simp only [List.not_mem_nil,false_or]
 exact Or.comm
end NP4
section NP5
theorem ptB_anc (z : Pt) : ptB z = anc8 z:=by
 unfold ptB anc8
 have h1 : ∀ x : Int,(x.fmod 65536).fdiv 256 = x % 65536 / 256:=fun x=>by rw [Int.fmod_eq_emod_of_nonneg _ (by decide),Int.fdiv_eq_ediv_of_nonneg _ (by decide)]
 have h2 : ∀ x : Int,x.fmod 256 = x % 65536 % 256:=fun x=>by rw [Int.fmod_eq_emod_of_nonneg _ (by decide)];omega
 rw [h1,h1,h2,h2]
theorem key_anc {z : Pt} {b : Array UInt8} (h : KBw.bInts b = anc8 z) : b.toList = keyI (ptB z):=by
 refine kI_inj ?_
 rw [← kI_b,h,← ptB_anc]
 exact (KBa.ints_make (ptB_in z)).symm
theorem bints_inj {a b : Array UInt8} (h : KBw.bInts a = KBw.bInts b) : a.toList = b.toList:=kI_inj h
theorem endsB_len {E : List Row} {ps : List (Option (Array UInt8))} (h : EndsB E ps) : ps.length = 2 * E.length:=by
 induction h with
 | nil=>rfl
 | snoc _ _ _ ih=>simp only [List.length_append,ih,List.length_cons,List.length_nil];omega
theorem endsB_get {E : List Row} {ps : List (Option (Array UInt8))} (h : EndsB E ps) : ∀ (i : Nat) (r : Row),E[i]? = some r→∃ q1 q2,ps[2 * i]? = some q1∧ps[2 * i + 1]? = some q2∧EndB r.2.1 q1∧EndB r.2.2 q2:=by
 induction h with
 | nil=>intro i r h;cases h
 | @snoc rs ps r q1 q2 h e1 e2 ih =>
  intro i r' hr
  have hl:=endsB_len h
  by_cases hi : i < rs.length
  ·rw [List.getElem?_append_left hi] at hr
   refine ex2 (ih i r' hr) fun p1 p2 q9=>an4 q9 fun a b c d=>?_
   clear q9
   exact ei2 p1 p2 ⟨by rw [List.getElem?_append_left (by omega)];exact a,by rw [List.getElem?_append_left (by omega)];exact b,c,d⟩
  ·rw [List.getElem?_append_right (by omega)] at hr
   have h0 : i - rs.length = 0:=by
    cases e : i - rs.length with
    | zero=>rfl
    | succ n=>rw [e] at hr;cases hr
   rw [h0] at hr
   have hr' : r = r':=Option.some.inj hr
   subst hr'
   refine ei2 q1 q2 ⟨?_,?_,e1,e2⟩
   ·rw [List.getElem?_append_right (by omega),show 2 * i - ps.length = 0 from by omega];rfl
   ·rw [List.getElem?_append_right (by omega),show 2 * i + 1 - ps.length = 1 from by omega];rfl
theorem endB_list {o : Option Pt} {q : Option (Array UInt8)} (h : EndB o q) : ([q].filterMap id).map (·.toList) = ([o].filterMap id).map fun z=>keyI (ptB z):=by
 cases o with
 | none=>cases q with
  | none=>rfl
  | some b=>exact h.elim
 | some z=>cases q with
  | none=>exact h.elim
  | some b=>exact congrArg (fun x=>[x]) (key_anc h)
theorem endsB_list {E : List Row} {ps : List (Option (Array UInt8))} (h : EndsB E ps) : (ps.filterMap id).map (·.toList) = (ptsOf E).map fun z=>keyI (ptB z):=by
 induction h with
 | nil=>rfl
 | @snoc rs ps r q1 q2 _ e1 e2 ih =>
  have a:=endB_list e1
  have b:=endB_list e2
  have hp : ptsOf (rs ++ [r]) = ptsOf rs ++ ([r.2.1].filterMap id ++ [r.2.2].filterMap id):=by
   unfold ptsOf
   rw [List.flatMap_append]
   congr 1
   rw [List.flatMap_cons,List.flatMap_nil,List.append_nil,← List.filterMap_append]
   rfl
  rw [hp,List.filterMap_append,List.map_append,ih,List.map_append,List.map_append,← a,← b,← List.map_append,← List.filterMap_append]
  rfl
theorem law_pts {rows : List Row} (h : LawRows rows) : ∀ r ∈ rows,PtsOk r.2.1∧PtsOk r.2.2:=fun r hr=>by
 have one : ∀ o : Option Pt,PtsIn o→PtsOk o:=fun o ho=>by
  cases o with
  | none=>trivial
  | some z =>
   refine an4 ho fun a b c d=>?_
   clear ho
   exact ⟨by omega,by omega,by omega,by omega⟩
 exact ⟨one _ (h.2 r hr).1,one _ (h.2 r hr).2⟩
theorem blk_filter (f : Row→Bool) : ∀ (rows : List Row) (lo : Nat),(∀ (j : Nat) (r : Row),rows[j]? = some r→4 * ((lo + j : Nat) : Int) ≤ r.1∧r.1 < 4 * ((lo + j : Nat) : Int) + 4)→Blk ((rows.filter f).map (·.1)) lo:=by
 intro rows
 induction rows with
 | nil=>exact fun lo _=>⟨[],.nil,fun j h=>(by cases h),rfl,fun i g j h=>(by cases h)⟩
 | cons r rows ih =>
  intro lo h
  obtain ⟨js,p1,p2,p3,p4⟩:=ih (lo + 1) fun j r' hr=>by
   have:=h (j + 1) r' hr
   rw [show lo + 1 + j = lo + (j + 1) from by omega]
   exact this
  have h0:=h 0 r rfl
  rw [Nat.add_zero] at h0
  rw [List.filter_cons]
  by_cases hf : f r = true
  ·rw [if_pos hf]
   refine ⟨lo :: js,List.pairwise_cons.mpr ⟨fun j hj=>Nat.lt_of_succ_le (p2 j hj),p1⟩,List.forall_mem_cons.mpr ⟨Nat.le_refl _,fun j hj=>Nat.le_of_succ_le (p2 j hj)⟩,by rw [List.length_cons,p3,List.map_cons,List.length_cons],fun i g j hg hj=>?_⟩
   cases i with
   | zero =>
    have e1 : r.1 = g:=Option.some.inj hg
    have e2 : lo = j:=Option.some.inj hj
    rw [← e1,← e2];exact h0
   | succ i=>exact p4 i g j hg hj
  ·rw [if_neg hf]
   exact ⟨js,p1,fun j hj=>Nat.le_of_succ_le (p2 j hj),p3,p4⟩
theorem blk_asc {gs : List Int} {lo : Nat} (h : Blk gs lo) : gs.Pairwise (· < ·):=by
 refine ex1 h fun js q9=>an4 q9 fun p1 p2 p3 p4=>?_
 clear q9 h
 refine List.pairwise_iff_getElem.mpr fun i j hi hj hij=>?_
 have a:=p4 i _ _ (List.getElem?_eq_getElem hi) (List.getElem?_eq_getElem (show i < js.length by omega))
 have b:=p4 j _ _ (List.getElem?_eq_getElem hj) (List.getElem?_eq_getElem (show j < js.length by omega))
 have c:=List.pairwise_iff_getElem.mp p1 i j (by omega) (by omega) hij
 omega
theorem blk_norun {gs : List Int} {lo : Nat} (h : Blk gs lo) : NoRun gs:=by
 refine ex1 h fun js q9=>an4 q9 fun p1 p2 p3 p4=>?_
 clear q9 h
 intro i hi e1 e2
 have g0 : gs[i]? = some (gs.getD i 0):=by rw [List.getD_eq_getElem?_getD,List.getElem?_eq_getElem (by omega)];rfl
 have g1 : gs[i + 1]? = some (gs.getD (i + 1) 0):=by rw [List.getD_eq_getElem?_getD,List.getElem?_eq_getElem (by omega)];rfl
 have g2 : gs[i + 2]? = some (gs.getD (i + 2) 0):=by rw [List.getD_eq_getElem?_getD,List.getElem?_eq_getElem (by omega)];rfl
 have a:=p4 i _ _ g0 (List.getElem?_eq_getElem (show i < js.length by omega))
 have b:=p4 (i + 1) _ _ g1 (List.getElem?_eq_getElem (show i + 1 < js.length by omega))
 have c:=p4 (i + 2) _ _ g2 (List.getElem?_eq_getElem (show i + 2 < js.length by omega))
 have d1:=List.pairwise_iff_getElem.mp p1 i (i + 1) (by omega) (by omega) (by omega)
 have d2:=List.pairwise_iff_getElem.mp p1 (i + 1) (i + 2) (by omega) (by omega) (by omega)
 omega
theorem law_blk {rows : List Row} (h : LawRows rows) : Blk (keysE rows) 0:=blk_filter hasEnd rows 0 fun j r hr=>by
 rw [Nat.zero_add]
 exact h.1 j r hr
theorem law_asc {rows : List Row} (h : LawRows rows) : (rows.map (·.1)).Pairwise (· < ·):=by
 have:=blk_asc (blk_filter (fun _=>true) rows 0 fun j r hr=>by rw [Nat.zero_add];exact h.1 j r hr)
 rwa [List.filter_eq_self.mpr fun _ _=>rfl] at this
theorem law_bound {rows : List Row} (h : LawRows rows) (hn : rows.length < 60) : ∀ g ∈ keysE rows,0 ≤ g∧g < 65536:=fun g hg=>by
 refine ex1 (List.mem_map.mp hg) fun r q9=>an2 q9 fun hr e92=>?_
 clear q9
 subst e92
 obtain ⟨j,hj,e⟩:=List.getElem_of_mem (List.mem_filter.mp hr).1
 have:=h.1 j r (by rw [← e];exact List.getElem?_eq_getElem hj)
 omega
end NP5
section NP6
theorem rd_all {K : List Int} {beg : Int} : ∀ (E : List Row) (spot : Int),(∀ (i : Nat) (r : Row),E[i]? = some r→rdTwo K beg (spot + 4 * (i : Int)) = .ok r.2)→rdEnds K beg (E.map (·.1)) spot = .ok E:=by
 intro E
 induction E with
 | nil=>exact fun _ _=>rfl
 | cons r E ih =>
  intro spot h
  have h0:=h 0 r rfl
  rw [show spot + 4 * ((0 : Nat) : Int) = spot from by omega] at h0
  have ih:=ih (spot + 4) fun i r' hr=>by
   have:=h (i + 1) r' (by simpa using hr)
   rw [show spot + 4 + 4 * (i : Int) = spot + 4 * ((i + 1 : Nat) : Int) from by omega]
   exact this
  rw [List.map_cons,rdEnds,h0]
  dsimp only
  rw [ih]
section
variable {rows : List Row} {cov : Array UInt8} {ps : List (Option (Array UInt8))} {v : Nat}
theorem tab_len {gs : List Int} {o : LaidS} (h : o.offs.length = 1 + 2 * gs.length) : ((tabB gs o).length : Int) = 6 + 4 * (gs.length : Int) + o.out.size:=by
 unfold tabB
 simp only [List.length_append,flat_len,List.length_drop,h,KBw.ints_length]
 have e : ∀ n : Int,(b16 n).length = 2:=fun _=>rfl
 rw [e,e]
 simp only [List.length_cons,List.length_nil]
 omega
theorem keysE_len (rows : List Row) : (keysE rows).length = (rows.filter hasEnd).length:=List.length_map _
theorem read_back (hL : LawRows rows) (hcov : KBw.bInts cov = cov8 (keysE rows)) (hE : EndsB (rows.filter hasEnd) ps) {K : List Int} (hK : Sits K v (tabB (keysE rows) (laidF (6 + 4 * (keysE rows).length) (some cov :: ps)))) {q : Int} (hq : q = v) :
  CovAt K (q + u16v K (q + 2)) (keysE rows)∧rdCur K q (keysE rows) = .ok (rows.filter hasEnd):=by
 have I:=laid_inv (6 + 4 * ((keysE rows).length : Int)) (some cov :: ps)
 have hel:=endsB_len hE
 have hkl:=keysE_len rows
 generalize ho : laidF (6 + 4 * ((keysE rows).length : Int)) (some cov :: ps) = o at hK I
 have hol : o.offs.length = 1 + 2 * (keysE rows).length:=by rw [I.len,List.length_cons,hel,hkl];omega
 unfold tabB at hK
 have k1:=hK.fst.fst.fst.fst
 have k2:=hK.fst.fst.fst.snd
 have k4:=hK.fst.fst.snd
 have k6:=hK.fst.snd
 have k9:=hK.snd
 have e1 : u16v K q = 1:=Sits.u16 (x:=0) (y:=1) (r:=[]) k1 hq
 have e2 : u16v K (q + 2) = o.offs.getD 0 0:=k2.num' (by simp only [List.length_cons,List.length_nil];omega)
 have e4 : u16v K (q + 4) = (keysE rows).length:=k4.num' (by have : ([0,1] ++ b16 (o.offs.getD 0 0)).length = 4:=rfl;rw [this];omega)
 have l6 : ([0,1] ++ b16 (o.offs.getD 0 0) ++ b16 ((keysE rows).length : Int)).length = 6:=rfl
 have l9 : ([0,1] ++ b16 (o.offs.getD 0 0) ++ b16 ((keysE rows).length : Int) ++ (o.offs.drop 1).flatMap b16).length = 6 + 4 * (keysE rows).length:=by
  rw [List.length_append,l6,flat_len,List.length_drop,hol];omega
 rw [l6] at k6
 rw [l9] at k9
 have hout:=k9.len
 have part : ∀ (i : Nat) (b : Array UInt8),(some cov :: ps)[i]? = some (some b)→∃ pos : Nat,o.offs[i]? = some (6 + 4 * ((keysE rows).length : Int) + pos)∧Sits K (v + (6 + 4 * (keysE rows).length) + pos) (KBw.bInts b):=fun i b hi=>by
  rcases I.off i _ hi with ⟨a,_⟩ | ⟨b',pos,a1,a2,a3⟩
  ·cases a
  ·cases a1
   exact ⟨pos,a2,k9.trans a3⟩
 constructor
 ·refine ex1 (part 0 cov rfl) fun pos q9=>an2 q9 fun a1 a2=>?_
  clear q9
  have e0 : o.offs.getD 0 0 = 6 + 4 * ((keysE rows).length : Int) + pos:=by rw [List.getD_eq_getElem?_getD,a1];rfl
  rw [hcov] at a2
  refine cov_at a2 ?_
  rw [e2,e0,hq]
  omega
 ·unfold rdCur
  rw [if_neg (fun h=>h e1),if_neg (fun h=>h e4)]
  refine rd_all _ _ fun i r hr=>?_
  have hi : i < (rows.filter hasEnd).length:=(List.getElem?_eq_some_iff.mp hr).1
  refine ex2 (endsB_get hE i r hr) fun q1 q2 q9=>an4 q9 fun a1 a2 b1 b2=>?_
  clear q9
  have hrm : r ∈ rows:=(List.mem_filter.mp (List.mem_of_getElem? hr)).1
  have hpt:=law_pts hL r hrm
  have item : ∀ (j : Nat) (n : Int),o.offs[j + 1]? = some n→∀ {x : Int},x = q + 6 + 2 * (j : Int)→u16v K x = n:=fun j n hj x hx=>by
   refine k6.item (i:=j) (n:=n) ?_ (by omega)
   rw [List.getElem?_drop,show 1 + j = j + 1 from by omega]
   exact hj
  have one : ∀ (j : Nat) (qq : Option (Array UInt8)) (oo : Option Pt),(some cov :: ps)[j + 1]? = some qq→EndB oo qq→PtsOk oo→∃ n,o.offs[j + 1]? = some n∧rdBehind K q n = .ok oo:=by
   intro j qq oo hj hb hz
   cases oo with
   | none=>cases qq with
    | none =>
     rcases I.off _ _ hj with ⟨_,a⟩ | ⟨b',pos,a1,_⟩
     ·exact ⟨0,a,rdBehind_none rfl⟩
     ·cases a1
    | some b=>exact hb.elim
   | some z=>cases qq with
    | none=>exact hb.elim
    | some b =>
     refine ex1 (part _ b hj) fun pos q9=>an2 q9 fun c1 c2=>?_
     clear q9
     have hb' : KBw.bInts b = anc8 z:=hb
     rw [hb'] at c2
     exact ⟨_,c1,rdBehind_some (by omega) (anc_at c2 hz (by omega))⟩
  obtain ⟨n1,c1,c2⟩:=one (2 * i) q1 r.2.1 (by rw [List.getElem?_cons_succ];exact a1) b1 hpt.1
  obtain ⟨n2,d1,d2⟩:=one (2 * i + 1) q2 r.2.2 (by rw [List.getElem?_cons_succ];exact a2) b2 hpt.2
  have f1:=item (2 * i) n1 c1 (x:=q + 6 + 4 * (i : Int)) (by omega)
  have f2:=item (2 * i + 1) n2 d1 (x:=q + 6 + 4 * (i : Int) + 2) (by omega)
  have hlen : (q + 6 + 4 * (i : Int)) + 2 + 2 ≤ K.length:=by omega
  exact rdTwo_ok (by omega) f1.symm c2 hlen f2.symm d2
theorem write_len (hE : EndsB (rows.filter hasEnd) ps) (hcov : KBw.bInts cov = cov8 (keysE rows)) {b : Array UInt8} (hb : KBw.bInts b = cov8 (keysE rows)) :
  ((tabB (keysE rows) (laidF (6 + 4 * (keysE rows).length) (some cov :: ps))).length : Int) = 6 + 4 * ((rows.filter hasEnd).length : Int) + ((addD (foldD ((ptsOf (rows.filter hasEnd)).map fun z=>keyI (ptB z))) b.toList).map fun k=>(k.length : Int)).sum:=by
 have I:=laid_inv (6 + 4 * ((keysE rows).length : Int)) (some cov :: ps)
 rw [tab_len (by rw [I.len,List.length_cons,endsB_len hE,keysE_len];omega),I.sz,keysE_len]
 congr 1
 show sumL _ = sumL _
 have hc : cov.toList = b.toList:=bints_inj (hcov.trans hb.symm)
 rw [List.foldl_cons,partD_fold,endsB_list hE,show partD [] (some cov) = addD [] cov.toList from rfl,sum_same,hc]
end
end NP6
section NP7
theorem gs2_facts {v : Int} (v0 : 0 ≤ v) (v4 : v < 4) : ((gs2 v).length : Int) = v∧(gs2 v).Pairwise (· < ·)∧NoRun (gs2 v)∧(∀ g ∈ gs2 v,0 ≤ g∧g < 65536):=by
 have hv : v = 0 ∨ v = 1 ∨ v = 2 ∨ v = 3:=by omega
 have nr : ∀ l : List Int,l.length < 3→NoRun l:=fun l hl i hi=>absurd hi (by omega)
 rcases hv with rfl | rfl | rfl | rfl
 ·exact ⟨rfl,by decide,nr _ (by decide),fun g h=>(nomatch h)⟩
 ·exact ⟨rfl,by decide,nr _ (by decide),by decide⟩
 ·exact ⟨rfl,by decide,nr _ (by decide),by decide⟩
 ·refine ⟨rfl,by decide,fun i hi=>?_,by decide⟩
  have h3 : (gs2 3).length = 3:=rfl
  have h0 : i = 0:=by omega
  subst h0
  decide
theorem cov8_len (gs : List Int) : (cov8 gs).length = 4 + 2 * gs.length:=by
 unfold cov8
 rw [List.length_append,flat_len]
 rfl
section
variable {v f u : Int} {os es ka : List Int} {cut : Nat}
theorem made_len (hos : (os.length : Int) = 4 * v) (hes : es.length = 20) (v0 : 0 ≤ v) (v4 : v < 4) : ((made v f u os es).length : Int) = 30 + 6 * v:=by
 have:=(gs2_facts v0 v4).1
 unfold made
 simp only [List.length_append,cov8_len,List.length_cons,List.length_nil]
 omega
theorem made_take (hes : es.length = 20) (hc : cut < 20) : (made v f u os es).take ((made v f u os es).length - cut) = [0,f,0,6 + 4 * v,0,u] ++ os ++ cov8 (gs2 v) ++ es.take (20 - cut):=by
 unfold made
 rw [List.take_append,List.length_append,List.take_of_length_le (by omega)]
 congr 2
 omega
theorem tab2 (hos : (os.length : Int) = 4 * v) (hes : es.length = 20) (hc : cut < 20) (v0 : 0 ≤ v) (v4 : v < 4) {K : List Int} (hK : K = ka ++ (made v f u os es).take ((made v f u os es).length - cut)) :
  (ka.length : Int) + 6 ≤ K.length∧CovAt K ((ka.length : Int) + u16v K ((ka.length : Int) + 2)) (gs2 v):=by
 rw [made_take hes hc] at hK
 have S : Sits K ka.length ([0,f,0,6 + 4 * v,0,u] ++ os ++ cov8 (gs2 v)):=by
  rw [hK]
  exact ei2 ka (es.take (20 - cut)) ⟨rfl,rfl⟩
 have s1:=S.fst.fst
 have s2 : Sits K (ka.length + 2) [0,6 + 4 * v,0,u]:=Sits.snd (b1:=[0,f]) (b2:=[0,6 + 4 * v,0,u]) s1
 have e2 : u16v K ((ka.length : Int) + 2) = 256 * 0 + (6 + 4 * v):=s2.u16 (by omega)
 have s3:=S.snd
 have l3 : (([0,f,0,6 + 4 * v,0,u] ++ os).length : Int) = 6 + 4 * v:=by
  rw [List.length_append,show ([0,f,0,6 + 4 * v,0,u] : List Int).length = 6 from rfl]
  omega
 have h1:=s1.len
 have h6 : ([0,f,0,6 + 4 * v,0,u] : List Int).length = 6:=rfl
 rw [h6] at h1
 refine ⟨by omega,cov_at s3 ?_⟩
 rw [e2]
 omega
theorem made_in (hf : f = 1 ∨ f = 2) (u0 : 0 ≤ u) (u5 : u < 5) (v0 : 0 ≤ v) (v4 : v < 4) (ho : KBa.In os) (he : KBa.In es) {b : Array UInt8} (hb : KBw.bInts b = cov8 (gs2 v)) : KBa.In (made v f u os es):=by
 intro n hn
 unfold made at hn
 rcases List.mem_append.mp hn with hn | hn
 ·rcases List.mem_append.mp hn with hn | hn
  ·rcases List.mem_append.mp hn with hn | hn
   ·simp only [List.mem_cons,List.not_mem_nil,or_false] at hn
    omega
   ·exact ho n hn
  ·rw [← hb] at hn
   exact KBw.ints_in hn
 ·exact he n hn
end
end NP7
section NW41
theorem lnNW41_1 : True:=by
 k_with "call ref" => ((fail_if_success have:=dNW41);first | k_extra "L13" | fail)
 exact True.intro
open kc in
theorem c_71 : s_71 w p loose mean mg mb dp un a A₀ base h₀ L m s QX2 C D oD S cvs tX1 c1 c2 c3 c4 c5 o1 du dvs o2 o3 o4 o5 restX2 τ:=by
 intro B F X T hd hu cc c cl9 k kvs n rows Z d1 hi h1 h2 R k0 k1 hE hdi hlo hR hda hrl hL d5 d2 N hret
 refine G_good (table_spec (E:=noE) B F X T hd hu hE N ?_)
 intro x dx kt h1' tk1 F1 N1 lx ly
 have oy : LCg.Off1 dx (Led c1 c2 c3 c4 c5 S C o1 o2 o3 o4 o5 (tabObj #[]) (k) tX1 c cvs cc ((D,oD) :: (du,listOf dvs.toArray n) :: τ)):=off1_of fun q hq=>Nat.ne_of_lt (lx q hq)
 have ox : LCg.Off1 x (Led c1 c2 c3 c4 c5 S C o1 o2 o3 o4 o5 (tabObj #[]) (k) tX1 c cvs cc ((D,oD) :: (du,listOf dvs.toArray n) :: τ)):=off1_of fun q hq=>Nat.ne_of_lt (Nat.lt_trans (lx q hq) ly)
 have R1 : SepR c1 c2 c3 c4 c5 S C ((x,instObj 474 dx) :: (dx,dictOf [⟨PyData.keyHash w.params "ends",.str "ends" kt,.ref D⟩] 1) :: (D,oD) :: (du,listOf dvs.toArray n) :: τ):=(R.cons oy _).cons ox _
 have N1' : News h₀ L h1' ((c5,o5) :: (c1,o1) :: (S,srcObj C k tX1 c) :: (C,listOf cvs.toArray cc) :: (c2,o2) :: (c3,o3) :: (c4,o4) :: (534,tabObj #[]) :: (x,instObj 474 dx) :: (dx,dictOf [⟨PyData.keyHash w.params "ends",.str "ends" kt,.ref D⟩] 1) :: (D,oD) :: (du,listOf dvs.toArray n) :: τ):=news_pick [8,2,3,4,5,6,7,9,0,1] 10 N1
 clear N1 N F
 refine G_cons (octets_spec (E:=noE) B F1 X T hd hu rfl d5 ?w N1' (.tail _ (.tail _ (.tail _ (.tail _ (.tail _ (.tail _ (.tail _ (.head _)))))))) (.tail _ (.tail _ (.tail _ (.tail _ (.tail _ (.tail _ (.tail _ (.tail _ (.head _))))))))) (.tail _ (.tail _ (.tail _ (.tail _ (.tail _ (.tail _ (.tail _ (.tail _ (.tail _ (.head _)))))))))) hdi hlo (hR.mono (fun p hp=>.tail _ (.tail _ (.tail _ (.tail _ (.tail _ (.tail _ (.tail _ (.tail _ (.tail _ (.tail _ (.tail _ (hp))))))))))))) (law_asc hL) (by omega) (blk_norun (law_blk hL)) (law_bound hL (by omega)) (law_pts hL) ?_)
 case w=>exact ⟨(Z.ne 3 7 rfl),(Z.ne 0 7 rfl),(Z.ne 1 7 rfl),(Z.ne 4 7 rfl),(Z.ne 5 7 rfl),(Z.ne 6 7 rfl),(Z.ne 2 7 rfl),R1 7 rfl⟩
 intro b5 t5 cov ps o5' h2' tk2 e1 e2 e3 d5' F2 N2
 have N2' : News h₀ L h2' (Led c1 c2 c3 c4 c5 S C o1 o2 o3 o4 o5' (tabObj #[]) (k) tX1 c cvs cc ((x,instObj 474 dx) :: (dx,dictOf [⟨PyData.keyHash w.params "ends",.str "ends" kt,.ref D⟩] 1) :: (D,oD) :: (du,listOf dvs.toArray n) :: τ)):=news_pick [1,2,3,4,5,6,0,7] 8 N2
 clear N2 N1' F1
 refine G_good (ahead_spec (E:=noE) B F2 X T hd hu d1 hi h1 h2 d2 k0 (by omega) (Z.ne 0 1 rfl) (Z.ne 0 3 rfl) (Z.ne 3 4 rfl).symm (Z.ne 0 4 rfl).symm (Z.ne 1 4 rfl).symm ?w1 ?w2 N2' ?_)
 case w1=>exact ⟨(Z.ne 0 5 rfl).symm,(Z.ne 0 6 rfl).symm,(Z.ne 0 7 rfl).symm,(Z.ne 0 2 rfl).symm,R1 0 rfl⟩
 case w2=>exact ⟨(Z.ne 4 5 rfl).symm,(Z.ne 4 6 rfl).symm,(Z.ne 4 7 rfl).symm,(Z.ne 2 4 rfl),R1 4 rfl⟩
 intro b2 t2 v2 t' c' o2' h3' tk3 hv2 hb2 d2' F3 N3
 exact hret (fun y=>if y = "table" then some (.ref x) else m y) h3' tk3 x dx kt b5 t5 cov ps o5' b2 t2 v2 o2' t' c' R1 rfl rfl e1 e2 e3 d5' hv2 hb2 d2' F3 N3
theorem u72 : upto 72:=hk @c_71 u71 (by with_unfolding_all exact rfl)
open kc in
theorem partB1 {w p loose mean mg mb dp un a A₀ base h₀ L m s QX2 C D oD S cvs tX1 c1 c2 c3 c4 c5 o1 du dvs o2 o3 o4 o5 restX2 τ} : s_71 w p loose mean mg mb dp un a A₀ base h₀ L m s QX2 C D oD S cvs tX1 c1 c2 c3 c4 c5 o1 du dvs o2 o3 o4 o5 restX2 τ:=@hkT _ u72 (by k_extra "T") _ (by exact rfl)
open kc in
theorem c_72 : s_72 w x p loose mean mg mb dp un a A₀ base h₀ L m s dx QX2 C D oD S cvs tX1 c1 c2 c3 c4 c5 o1 du dvs o2 o3 o4 o5 restX2 kt τ:=by
 intro B F X T hd hu cc c cl9 k kvs n rows R hE hda hrl hL N hret
 have hfl : (rows.filter hasEnd).length < 6:=Nat.lt_of_le_of_lt (List.length_filter_le _ _) hrl
 have hpl : (ptsOf (rows.filter hasEnd)).length < 60:=by
  have gen : ∀ l : List Row,(ptsOf l).length ≤ 2 * l.length:=fun l=>by
   induction l with
   | nil=>exact Nat.le_refl _
   | cons r l ih =>
    have : (ptsOf (r :: l)) = [r.2.1,r.2.2].filterMap id ++ ptsOf l:=rfl
    rw [this,List.length_append,List.length_cons]
    have:=List.length_filterMap_le id [r.2.1,r.2.2]
    have e2 : [r.2.1,r.2.2].length = 2:=rfl
    omega
  have:=gen (rows.filter hasEnd)
  omega
 refine G_good (pts2_spec B F X T hd hu hE N (.tail _ (.tail _ (.tail _ (.tail _ (.tail _ (.tail _ (.tail _ (.tail _ (.tail _ (.tail _ (.tail _ (.head _)))))))))))) (hda.mono (fun p hp=>.tail _ (.tail _ (.tail _ (.tail _ (.tail _ (.tail _ (.tail _ (.tail _ (.tail _ (.tail _ (.tail _ (.tail _ (hp)))))))))))))) (by omega) ?_)
 intro P ys cP h1' tk1 hdp F1 N1 oP
 have R1 : SepR c1 c2 c3 c4 c5 S C ((P,listOf ys.toArray cP) :: (x,instObj 474 dx) :: (dx,dictOf [⟨PyData.keyHash w.params "ends",.str "ends" kt,.ref D⟩] 1) :: (D,oD) :: (du,listOf dvs.toArray n) :: τ):=R.cons oP _
 have N1' : News h₀ L h1' (Led c1 c2 c3 c4 c5 S C o1 o2 o3 o4 o5 (tabObj #[]) (k) tX1 c cvs cc ((P,listOf ys.toArray cP) :: (x,instObj 474 dx) :: (dx,dictOf [⟨PyData.keyHash w.params "ends",.str "ends" kt,.ref D⟩] 1) :: (D,oD) :: (du,listOf dvs.toArray n) :: τ)):=news_pick [1,2,3,4,5,6,7,8,0] 9 N1
 have hdp' : DatAll (Led c1 c2 c3 c4 c5 S C o1 o2 o3 o4 o5 (tabObj #[]) (k) tX1 c cvs cc ((P,listOf ys.toArray cP) :: (x,instObj 474 dx) :: (dx,dictOf [⟨PyData.keyHash w.params "ends",.str "ends" kt,.ref D⟩] 1) :: (D,oD) :: (du,listOf dvs.toArray n) :: τ)) ys ((ptsOf (rows.filter hasEnd)).map datP):=hdp.mono fun p hp=>by
  simp only [Led,List.mem_cons] at hp ⊢
  rcases hp with h | h | h | h | h | h | h | h | h <;> simp [h]
 clear N1 N F hdp
 refine G_good (parts_spec B F1 X T hd hu rfl N1' (.tail _ (.tail _ (.tail _ (.tail _ (.tail _ (.tail _ (.tail _ (.tail _ (.head _))))))))) hdp' hpl ?_)
 intro Sp oSp h2' tk2 hB F2 N2 oS
 have hfo : (foldD ((ptsOf (rows.filter hasEnd)).map fun z=>keyI (ptB z))).length < 100:=by
  have gen : ∀ (l D : List (List UInt8)),(l.foldl addD D).length ≤ D.length + l.length:=fun l=>by
   induction l with
   | nil=>intro D;exact Nat.le_refl _
   | cons q l ih =>
    intro D
    have h1:=ih (addD D q)
    have h2:=addD_len (D:=D) (k:=q)
    rw [List.foldl_cons,List.length_cons]
    omega
  have h1:=gen ((ptsOf (rows.filter hasEnd)).map fun z=>keyI (ptB z)) []
  rw [List.length_map] at h1
  exact Nat.lt_of_le_of_lt h1 (by rw [List.length_nil];omega)
 have hkb:=law_blk hL
 refine G_cons (add_spec B F2 X T hd hu rfl hE N2 oS (.tail _ (.tail _ (.tail _ (.tail _ (.tail _ (.tail _ (.tail _ (.tail _ (.tail _ (.tail _ (.tail _ (.tail _ (.head _))))))))))))) (hda.mono (fun p hp=>.tail _ (.tail _ (.tail _ (.tail _ (.tail _ (.tail _ (.tail _ (.tail _ (.tail _ (.tail _ (.tail _ (.tail _ (.tail _ (hp))))))))))))))) (by omega) hB hfo (blk_asc hkb) (blk_norun hkb) (law_bound hL (by omega)) ?_)
 intro b9 o9 h3' tk3 hb9 _ hB9 F3 N3
 exact hret (fun y=>if y = "parts" then some (.ref Sp) else if y = "points" then some (.ref P) else m y) h3' tk3 P Sp _ o9 b9 R1 rfl rfl rfl hb9 hB9 F3 N3
theorem u73 : upto 73:=hk @c_72 u72 (by with_unfolding_all exact rfl)
open kc in
theorem partB2 {w x p loose mean mg mb dp un a A₀ base h₀ L m s dx QX2 C D oD S cvs tX1 c1 c2 c3 c4 c5 o1 du dvs o2 o3 o4 o5 restX2 kt τ} : s_72 w x p loose mean mg mb dp un a A₀ base h₀ L m s dx QX2 C D oD S cvs tX1 c1 c2 c3 c4 c5 o1 du dvs o2 o3 o4 o5 restX2 kt τ:=@hkT _ u73 (by k_extra "T") _ (by exact rfl)
end NW41
theorem dNW41 : True:=trivial
section NP8
theorem keyI_six (z : Pt) : (keyI (ptB z)).length = 6:=by
 have h:=congrArg List.length (KBa.ints_make (ptB_in z))
 rw [KBw.ints_length] at h
 exact h
theorem ptsOf_len : ∀ l : List Row,(ptsOf l).length ≤ 2 * l.length:=fun l=>by
 induction l with
 | nil=>exact Nat.le_refl _
 | cons r l ih =>
  have : (ptsOf (r :: l)) = [r.2.1,r.2.2].filterMap id ++ ptsOf l:=rfl
  rw [this,List.length_append,List.length_cons]
  have:=List.length_filterMap_le id [r.2.1,r.2.2]
  have e2 : [r.2.1,r.2.2].length = 2:=rfl
  omega
theorem sum_le {m : Nat} : ∀ (D : List (List UInt8)),(∀ k ∈ D,k.length ≤ m)→(D.map fun k=>(k.length : Int)).sum ≤ ((m * D.length : Nat) : Int):=by
 intro D
 induction D with
 | nil=>intro _;simp
 | cons k D ih =>
  intro h
  have h1:=ih fun q hq=>h q (.tail _ hq)
  have h2:=h k (.head _)
  rw [List.map_cons,List.sum_cons,List.length_cons,Nat.mul_add,Nat.mul_one]
  omega
theorem foldP_len {rows : List Row} (hrl : rows.length < 6) : (foldD ((ptsOf (rows.filter hasEnd)).map fun z=>keyI (ptB z))).length ≤ 10:=by
 have h0:=List.length_filter_le hasEnd rows
 have h1:=ptsOf_len (rows.filter hasEnd)
 have h2:=foldD_len ((ptsOf (rows.filter hasEnd)).map fun z=>keyI (ptB z)) []
 rw [List.length_map,List.length_nil] at h2
 exact Nat.le_trans h2 (by omega)
theorem partsD_len {rows : List Row} (hrl : rows.length < 6) (b : List UInt8) : (partsD rows b).length ≤ 11:=by
 have h3:=foldP_len hrl
 have h4:=addD_len (D:=foldD ((ptsOf (rows.filter hasEnd)).map fun z=>keyI (ptB z))) (k:=b)
 exact Nat.le_trans h4 (Nat.succ_le_succ h3)
theorem partsD_mem {rows : List Row} (hrl : rows.length < 6) {b : Array UInt8} (hb : KBw.bInts b = cov8 (keysE rows)) : ∀ k ∈ partsD rows b.toList,k.length ≤ 14:=by
 intro k hk
 have hbl : b.toList.length ≤ 14:=by
  have h:=congrArg List.length hb
  rw [KBw.ints_length,cov8_len,keysE_len] at h
  have h0:=List.length_filter_le hasEnd rows
  rw [Array.length_toList]
  omega
 have : k ∈ foldD ((ptsOf (rows.filter hasEnd)).map fun z=>keyI (ptB z)) ∨ k = b.toList:=by
  unfold partsD addD at hk
  split at hk
  ·exact .inl hk
  ·exact (List.mem_append.mp hk).imp id List.mem_singleton.mp
 rcases this with h | rfl
 ·rcases (fold_mem _ [] k).mp h with h | h
  ·cases h
  ·refine ex1 (List.mem_map.mp h) fun z q9=>an2 q9 fun _ e92=>?_
   clear q9
   subst e92
   rw [keyI_six];decide
 ·exact hbl
theorem partsD_sum {rows : List Row} (hrl : rows.length < 6) {b : Array UInt8} (hb : KBw.bInts b = cov8 (keysE rows)) : ((partsD rows b.toList).map fun k=>(k.length : Int)).sum ≤ 200:=by
 have h1:=sum_le _ (partsD_mem hrl hb)
 have h2:=partsD_len hrl b.toList
 have h3 : 14 * (partsD rows b.toList).length ≤ 14 * 11:=Nat.mul_le_mul_left _ h2
 omega
theorem sum_nn : ∀ (D : List (List UInt8)),0 ≤ (D.map fun k=>(k.length : Int)).sum:=by
 intro D
 induction D with
 | nil=>simp
 | cons k D ih=>rw [List.map_cons,List.sum_cons];omega
end NP8
section NW42
theorem lnNW42_1 : True:=by
 k_with "call ref" => ((fail_if_success have:=dNW42);first | k_extra "L13" | fail)
 exact True.intro
open kc in
theorem c_73 : s_73 w x p loose mean mg mb dp un a A₀ base h₀ L m s t2 dx QX2 C D oD S cvs tX1 c1 c2 c3 c4 c5 o1 PX1 du dvs o2 o3 o4 o5 restX2 kt t5 τ Sp oP oSp:=by
 intro B F X T hd hu cc c cl9 k kvs n rows b2 b5 b9 cov v2 ps Z CH R hT hE hS hdi hlo hR hda hrl hL hb9 hB9 hcov hEb htab d5 hv2 hb2 d2 N hret
 have hfl : (rows.filter hasEnd).length < 6:=Nat.lt_of_le_of_lt (List.length_filter_le _ _) hrl
 have hdl : dvs.length = (rows.filter hasEnd).length:=by rw [hda.length,List.length_map]
 have e4 : ((KBw.bInts b5).length : Int) = 6 + 4 * ((rows.filter hasEnd).length : Int) + ((partsD rows b9.toList).map fun k=>(k.length : Int)).sum:=by rw [htab];exact write_len hEb hcov hb9
 have e5:=partsD_sum hrl hb9
 have e6:=sum_nn (partsD rows b9.toList)
 have e7 : (KBw.bInts b5).length < 300:=by omega
 have e8 : 6 ≤ (KBw.bInts b5).length:=by omega
 have hpl:=partsD_len hrl b9.toList
 have hds:=partsD_mem hrl hb9
 refine G_good (told_if_spec (E:=noE) B F X T hd hu hT hE N (.tail _ (.tail _ (.tail _ (.tail _ (.tail _ (.tail _ (.tail _ (.tail _ (.tail _ (.tail _ (.tail _ (.tail _ (.tail _ (.head _)))))))))))))) (.tail _ (.tail _ (.tail _ (.tail _ (.tail _ (.tail _ (.tail _ (.tail _ (.tail _ (.tail _ (.head _))))))))))) (.tail _ (.tail _ (.tail _ (.tail _ (.tail _ (.tail _ (.tail _ (.tail _ (.tail _ (.tail _ (.tail _ (.head _)))))))))))) (.tail _ (.tail _ (.tail _ (.tail _ (.tail _ (.tail _ (.tail _ (.tail _ (.tail _ (.tail _ (.tail _ (.tail _ (.head _))))))))))))) hdi hlo (hR.mono (fun p hp=>.tail _ (.tail _ (.tail _ (.tail _ (.tail _ (.tail _ (.tail _ (.tail _ (.tail _ (.tail _ (.tail _ (.tail _ (.tail _ (.tail _ (hp)))))))))))))))) (law_asc hL) (by omega) rfl (hda.mono (fun p hp=>.tail _ (.tail _ (.tail _ (.tail _ (.tail _ (.tail _ (.tail _ (.tail _ (.tail _ (.tail _ (.tail _ (.tail _ (.tail _ (.tail _ (hp)))))))))))))))) ?_)
 intro h1' tk1 F1 N1
 clear N F
 refine G_good (sum_if_spec (E:=noE) B F1 X T hd hu hS hE N1 (.tail _ (.tail _ (.tail _ (.tail _ (.tail _ (.tail _ (.tail _ (.tail _ (.tail _ (.tail _ (.tail _ (.tail _ (.tail _ (.head _)))))))))))))) (by omega) (.tail _ (.tail _ (.tail _ (.tail _ (.tail _ (.tail _ (.tail _ (.head _)))))))) d5 rfl (Nat.lt_trans e7 (by decide)) (.head _) hB9 (Nat.lt_of_le_of_lt hpl (by decide)) ?w1 (fun k hk=>Nat.lt_of_le_of_lt (hds k hk) (by decide)) ?_)
 case w1=>rw [hdl];exact e4
 intro h2' tk2 d F2 N2
 have N2' : News h₀ L h2' ((534,tabObj #[]) :: (c1,o1) :: (S,srcObj C k tX1 c) :: (C,listOf cvs.toArray cc) :: (c2,o2) :: (c3,o3) :: (c4,o4) :: (c5,o5) :: (PX1,oP) :: (x,instObj 474 dx) :: (dx,dictOf [⟨PyData.keyHash w.params "ends",.str "ends" kt,.ref D⟩] 1) :: (D,oD) :: (du,listOf dvs.toArray n) :: τ):=news_pick [8,1,2,3,4,5,6,7] 9 N2
 clear N2 N1 F1
 have kl : (List.replicate v2 (9 : Int)).length = v2:=List.length_replicate
 have hs : Sits (List.replicate v2 9 ++ KBw.bInts b5) (List.replicate v2 (9 : Int)).length (tabB (keysE rows) (laidF (6 + 4 * (keysE rows).length) (some cov :: ps))):=by
  rw [← htab]
  exact Sits.left Sits.whole _
 refine an2 (read_back hL hcov hEb hs (q:=((List.replicate v2 (9 : Int)).length : Int)) rfl) fun q1 q2=>?_
 have q3:=told_ok q2
 rw [List.filter_filter,show (fun a : Row=>hasEnd a && hasEnd a) = hasEnd from funext fun a=>Bool.and_self _] at q3
 refine G_good (read_if_spec (E:=noE) B F2 X T hd hu CH ?w9 hE N2' (.tail _ (.tail _ (.tail _ (.tail _ (.tail _ (.tail _ (.tail _ (.tail _ (.tail _ (.tail _ (.tail _ (.head _)))))))))))) (hda.mono (fun p hp=>.tail _ (.tail _ (.tail _ (.tail _ (.tail _ (.tail _ (.tail _ (.tail _ (.tail _ (.tail _ (.tail _ (.tail _ (hp)))))))))))))) (by omega) (.tail _ (.tail _ (.tail _ (.head _)))) d2 (.tail _ (.tail _ (.tail _ (.tail _ (.tail _ (.tail _ (.head _))))))) d5 hb2 rfl (by rw [kl];omega) (Nat.lt_trans e7 (by decide)) (by rw [List.length_append,kl];omega) (gs:=keysE rows) (by rw [keysE_len];omega) (by rw [List.length_append,kl];omega) q1 (blk_asc (law_blk hL)) q3 ?_)
 case w9=>exact ⟨(Z.ne 2 3 rfl).symm,(Z.ne 0 2 rfl),(Z.ne 1 2 rfl),(Z.ne 2 4 rfl).symm,(Z.ne 2 5 rfl).symm,(Z.ne 2 6 rfl).symm,(Z.ne 2 7 rfl).symm,R 2 rfl⟩
 intro c' h3' tk3 F3 N3
 exact hret h3' tk3 d c' F3 (news_pick [1,2,3,4,5,6,7,0] 8 N3)
theorem u74 : upto 74:=hk @c_73 u73 (by with_unfolding_all exact rfl)
open kc in
theorem partB3 {w x p loose mean mg mb dp un a A₀ base h₀ L m s t2 dx QX2 C D oD S cvs tX1 c1 c2 c3 c4 c5 o1 PX1 du dvs o2 o3 o4 o5 restX2 kt t5 τ Sp oP oSp} : s_73 w x p loose mean mg mb dp un a A₀ base h₀ L m s t2 dx QX2 C D oD S cvs tX1 c1 c2 c3 c4 c5 o1 PX1 du dvs o2 o3 o4 o5 restX2 kt t5 τ Sp oP oSp:=@hkT _ u74 (by k_extra "T") _ (by exact rfl)
end NW42
theorem dNW42 : True:=trivial
section NW31
theorem lnNW31_1 : True:=by
 k_with "call ref" => ((fail_if_success have:=dNW31);first | k_extra "L13" | fail)
 exact True.intro
theorem ints_atN : ∀ {vs : List Value} {ns : List Int},IntsAre vs ns→∀ {i : Nat},i < ns.length→∃ n t,ns[i]? = some n∧vs[i]? = some (.int n t):=by
 intro vs ns h
 induction h with
 | nil=>exact fun h=>absurd h (Nat.not_lt_zero _)
 | cons n t _ ih =>
  intro i h
  cases i with
  | zero=>exact ⟨n,t,rfl,rfl⟩
  | succ i=>exact ih (i:=i) (Nat.lt_of_succ_lt_succ h)
theorem tail_menu {prog : Program} {w : World} {A : Around} {E : Value→Shared→Prop} {s : Shared} {h₀ : Heap} {L l : Addr} {news : List (Addr × Obj)} {xs : Array Value} {vs : List Value} {ns : List Int} {c : Nat} {t : Tok} {k : Int} {value slice : Expr} {Q : Value→Shared→Prop} (N : News h₀ L s.heap news) (hm : (l,({ cls:=.type "tuple",data:=.seq xs c} : Obj)) ∈ news) (hv : xs = vs.toArray) (hi : IntsAre vs ns) (h0 : 0 ≤ k) (h1 : k < ns.length) (h9 : ns.length < 100)
  (h : ∀ n t',ns[k.toNat]? = some n→Q (.int n t') s)
  (hs : subscripted slice false (.ref l) (.int k t) = operate [.ref l,.int k t] (getItem (.ref l) (.int k t))) (hg : ∀ r,letTemporaryGo value (.ref l) r = pure ()) : wpAny (model prog w) A (subscriptTail value slice (.ref l) (.int k t)) Q E s:=by
 refine ex2 (ints_atN hi (i:=k.toNat) (by omega)) fun n t' q9=>an2 q9 fun e1 e2=>?_
 clear q9
 have hl : vs.length = ns.length:=ints_len_eq hi
 have hz : xs.size = ns.length:=by rw [hv,List.size_toArray,hl]
 exact tail_tup N hm h0 (by omega) (seqIndex_of h0 (by rw [hz];exact h1)) (by rw [hv,List.getElem?_toArray];exact e2) (h n t' e1) hs hg
theorem mem_sk2 {a b : Addr × Obj} {l : List (Addr × Obj)} : ∀ p ∈ a :: l,p ∈ a :: b :: l:=fun p hp=>by
 rcases List.mem_cons.mp hp with h | h
 ·exact h ▸ .head _
 ·exact .tail _ (.tail _ h)
theorem lnNW31_2 : True:=by
 k_with "L120" => ((k_here;(with_reducible show wpAny _ _ (call (Value.ref 499) [Value.ref _,Value.int 4 _]) _ _ _);k_dflt (refine' draw_spec ?zB ?zF ?zX ?zT ?zhk ?zN ?zhC ?zU ?zhne ?zhi ?zh1 ?zh2 ?zk0 ?zk1 ?zl0 ?zl1 ?zhd ?zhu ?_;k_extra "Q";(case zU=>k_updF);(case zhC=>k_mem);(case zhne=>first | assumption | k_ne);(case zhi=>assumption);(case zh1=>assumption);(case zh2=>assumption);(case zk0=>omega);(case zk1=>omega);(case zl0=>decide);(case zl1=>decide);k_extra "V");intro _ _ _ _ _ _ _ v1' _ _;(have v60:=Int.lt_trans v1' (show (4 : Int) < 60 by decide));(replace v1':=LtB.of v1');(try k_sweep);(try dsimp only);(try (revert v60;intro _));(try (revert v1';intro _))))
 k_with "L121" => ((k_here;k_dflt (refine' nameX_C ?zN ?zc ?zm ?zd ?_ ?za ?zb;(case za=>rfl);(case zb=>rfl);(case zN=>k_asm);(case zc=>rfl);(case zm=>assumption);(case zd=>assumption);k_whole)))
 k_with "call ref" => ((fail_if_success have:=dNW31);first | k_extra "L68" | k_extra "L120" | k_extra "L73" | fail)
 k_with "A" => ((fail_if_success have:=dNW31);first | k_extra "L28" | k_extra "L27" | fail)
 k_with "eval Name" => ((fail_if_success have:=dNW31);first | k_extra "L121" | k_extra "L77" | k_extra "L71" | fail)
 k_with "storeName" => ((fail_if_success have:=dNW31);first | k_extra "L82" | fail)
 k_with "call builtin:len" => ((fail_if_success have:=dNW31);first | k_extra "L107" | k_extra "L96" | fail)
 exact True.intro
theorem count_spec {w : World} {p : Program} {loose : List Str} {mean : ExcName→Option Value} {mg mb : Str→Option Value}
  {dp un : Nat} {a c1 c2 c3 c4 c5 : Addr} {A₀ : Around} {base h₀ : Heap} {L : Addr} {m : Str→Option Value} {s : Shared}
  {Q : Flow→Shared→Prop} {E : Value→Shared→Prop}
  (B : Below A₀ base [] h₀) (F : Fr h₀ L s.heap m) (X : (hd.heap_1 w.params).In h₀) (T : Top p loose mean mg mb h₀) (hd : dp + 40 < recursionLimit) (hu : un + 400 < cLine) {S C : Addr} {o1 : Obj} {cvs : List Value} {cc c : Nat} {cl9 : List Int} {k : Int} {t : Tok} (d1 : o1.data = .cell (some (.ref S))) (hi : IntsAre cvs cl9) (h1 : 0 < cl9.length) (h2 : cl9.length < 100) {σ : List (Addr × Obj)} (k0 : 0 ≤ k) (k1 : k < 1000) (e1 : @Ne Nat S C) (e2 : @Ne Nat S c1) (w1 : LCg.Off1 S σ)
  (N : News h₀ L s.heap ((c1,o1) :: (S,srcObj C k t c) :: (C,listOf cvs.toArray cc) :: σ))
  (hret : ∀ v tg t' c' h' tk',0 ≤ v→v < 4→Fr h₀ L h' (fun y=>if y = "count" then some (.int v tg) else m y)→News h₀ L h' ((c1,o1) :: (S,srcObj C (k + 1) t' c') :: (C,listOf cvs.toArray cc) :: σ)→Q .next { s with heap:=h',toks:=tk'}) :
  wpAny (model pw_nu0185_01 w) (ktrTop dp un (some []) "law" lawScope L a (.ref 536) [("octets",c5),("glyphs",c4),("data",c3),("ahead",c2),("source",c1)] []) (exec (lawSt 13) (envX "law" lawScope L a (.ref 536) [("octets",c5),("glyphs",c4),("data",c3),("ahead",c2),("source",c1)])) Q E s:=by
 rw [show lawSt 13 = .Assign _ _ _ from rfl]
 k_steps
 exact hret _ _ _ _ _ _ (by assumption) (LtB.out (by assumption)) (by assumption) (by assumption)
open kc in
theorem c_74 : s_74 E w p loose mean mg mb dp un a A₀ base h₀ L m s QX2 c1 c2 c3 c4 c5 σ o4 tv:=by
 intro B F X T hd hu v hv v0 v4 d4 w4 N hret
 rw [show lawSt 14 = .Assign _ _ _ from rfl]
 k_steps
 rename_i l0 h0 a0 D9 ws9 h9 F9 N9 i9 z9 y9 l9 h8 o8 F8 N8 d8
 exact hret _ _ _ _ _ _ i9 d8 F8 (news_sub N8 mem_sk2) ⟨Nat.ne_of_lt l9.2.1,off1_lt l9.2.2⟩
theorem u75 : upto 75:=hk @c_74 u74 (by with_unfolding_all exact rfl)
open kc in
theorem glyphs_spec {E w p loose mean mg mb dp un a A₀ base h₀ L m s QX2 c1 c2 c3 c4 c5 σ o4 tv} : s_74 E w p loose mean mg mb dp un a A₀ base h₀ L m s QX2 c1 c2 c3 c4 c5 σ o4 tv:=@hkT _ u75 (by k_extra "T") _ (by exact rfl)
open kc in
theorem c_75 : s_75 E w p loose mean mg mb dp un a A₀ base h₀ L m s QX2 C S cvs tX1 c1 c2 c3 c4 c5 o1 σ tv:=by
 intro B F X T hd hu cc c cl9 k d1 hi h1 h2 v hv v0 v4 k0 k1 e1 e2 w1 N hret
 rw [show lawSt 15 = .Assign _ _ _ from rfl]
 k_steps
 rename_i D9 h9 l9 x9 t1 t2 c9 h8 tk8 x0 F8 N8 x60 x4
 replace x4:=LtB.out x4
 refine tail_menu (vs:=[_,_,_,_]) N8 (.head _) rfl (.cons v _ (.cons v _ (.cons v _ (.cons (v + 1) _ .nil)))) x0 x4 (Nat.lt_of_lt_of_le (Nat.lt_succ_self _) (Nat.le_of_ble_eq_true rfl)) ?_ (by with_unfolding_all rfl) (by intro _;with_unfolding_all rfl)
 intro u t9 hu9
 have hx : u = v ∨ u = v + 1:=by
  have:=List.mem_of_getElem? hu9
  simpa using this
 clear hu9
 k_steps
 exact hret _ _ _ _ _ _ hx (by assumption) (news_sub (by assumption) fun p hp=>.tail _ hp)
theorem u76 : upto 76:=hk @c_75 u75 (by with_unfolding_all exact rfl)
open kc in
theorem told_spec {E w p loose mean mg mb dp un a A₀ base h₀ L m s QX2 C S cvs tX1 c1 c2 c3 c4 c5 o1 σ tv} : s_75 E w p loose mean mg mb dp un a A₀ base h₀ L m s QX2 C S cvs tX1 c1 c2 c3 c4 c5 o1 σ tv:=@hkT _ u76 (by k_extra "T") _ (by exact rfl)
open kc in
theorem c_76 : s_76 E w p loose mean mg mb dp un a A₀ base h₀ L m s tb QX2 c1 c2 c3 c4 c5 σ tv:=by
 intro B F X T hd hu v b ks hv hb hks hl N v0 v4 hret
 rw [show lawSt 17 = .Assign _ _ _ from rfl]
 k_steps
 exact hret _ _ _ (by assumption) (by assumption)
theorem u77 : upto 77:=hk @c_76 u76 (by with_unfolding_all exact rfl)
open kc in
theorem begin_spec {E w p loose mean mg mb dp un a A₀ base h₀ L m s tb QX2 c1 c2 c3 c4 c5 σ tv} : s_76 E w p loose mean mg mb dp un a A₀ base h₀ L m s tb QX2 c1 c2 c3 c4 c5 σ tv:=@hkT _ u77 (by k_extra "T") _ (by exact rfl)
open kc in
theorem c_77 : s_77 w p loose mean mg mb dp un a A₀ base h₀ L m s QX2 c1 c2 c3 c4 c5 σ o4 gl gvs:=by
 intro B F X T hd hu gc gs m4 d4 hgl hi hgn hasc hrun hgb N hret
 rw [show lawSt 16 = .Assign _ _ _ from rfl]
 refine G_Assign1 rfl rfl rfl ?_
 refine G_Call_Name rfl ?_
 walk_at "S1"
 (try dsimp only)
 refine G_callWith_K (K:=Mine.hd.heap_1 w.params) (by k_is) ?_ rfl rfl
 walk_at "S1"
 (try dsimp only [List.cons_append,List.nil_append])
 (with_reducible show wpG _ _ (call (Value.ref 370) [Value.ref _]) _ _)
 k_dflt (refine' write_coverage_spec ?B ?F ?X ?T ?hk ?N ?hc ?hdd ?htt ?hi ?hrun ?hn ?hb ?hd ?hu ?_;(case B=>k_asm);(case F=>k_asm);(case X=>k_asm);(case T=>k_asm);(case hk=>first | exact rfl | assumption);(case N=>k_asm);(case hc=>k_mem);(case hdd=>k_mem);(case htt=>k_mem);(case hi=>assumption);(case hrun=>assumption);(case hn=>omega);(case hb=>assumption);(case hd=>ktr_room);(case hu=>ktr_units))
 intro b8 t8 h8 tk8 be8 bz8 F8 N8
 (try k_sweep)
 (try dsimp only)
 walk_at "S1"
 exact hret _ _ _ _ be8 bz8 (by assumption) (news_sub (by assumption) fun p hp=>.tail _ (.tail _ (.tail _ hp)))
theorem u78 : upto 78:=hk @c_77 u77 (by with_unfolding_all exact rfl)
open kc in
theorem cover2_spec {w p loose mean mg mb dp un a A₀ base h₀ L m s QX2 c1 c2 c3 c4 c5 σ o4 gl gvs} : s_77 w p loose mean mg mb dp un a A₀ base h₀ L m s QX2 c1 c2 c3 c4 c5 σ o4 gl gvs:=@hkT _ u78 (by k_extra "T") _ (by exact rfl)
end NW31
theorem dNW31 : True:=trivial
section NX18
open PySem.Spec
section
variable {prog : Program} {w : World} {A : Around} {E : Value→Shared→Prop} {s : Shared} {env : Env} {h₀ : Heap} {x : Str} {body : List Stmt} {Q : Flow→Shared→Prop}
end
open kc in
theorem c_78 : s_78 A E prog w h₀ s xX1 env body QX2 m₀ news storedX1 r t₀ u₀ v₀:=by
 intro a₀ b₀ n J hh hr hsmall hn F N hj turn done
 refine wpAny_pyIter_range hr hsmall ?_
 have W:=Walks.range (prog:=prog) (w:=w) hh s.heap.objs.size a₀ 1 n
 have hI : h₀.get? s.heap.objs.size = none:=next_is_new F
 refine ⟨s.heap.objs.size,[s.heap.objs.size],[s.heap.objs.size],n,_,_,m₀,news,fun i m₁ news₁=>(∀ y,y ≠ xX1→storedX1.contains y = false→m₁ y = m₀ y)∧J i m₁ news₁,rfl,W,fun hm=>absurd F.ns.lt ((List.mem_singleton.mp hm) ▸ Nat.lt_irrefl _),fun b hb=>?_,fun p hp hm=>absurd (List.mem_singleton.mp hm) (Nat.ne_of_lt (Heap.lt_size (N p hp).1)),?_,F.push _,fun p hp=>⟨Heap.get?_push_of_some _ (N p hp).1,(N p hp).2⟩,⟨fun _ _ _=>rfl,hj⟩,?_,?_⟩
 ·rw [List.mem_singleton.mp hb];exact hI
 ·show IsRangeIter _ _ _ _ _
  rw [hn];simpa using Heap.get?_push_size _ rfl
 ·rintro i v m₁ news₁ s₁ own ⟨hh,tk,rfl⟩ hin hP ⟨hm,hJ⟩ hoff hown _ hall hst₁ F₁ N₁
  obtain ⟨oI,heI⟩ : ∃ o,hh.get? s.heap.objs.size = some o:=⟨_,hst₁⟩
  have hmI : (s.heap.objs.size,oI) ∈ own:=hall _ (W.sub _ (List.mem_singleton.mpr rfl)) hI oI heI
  refine ex1 hP fun t e91=>?_
  clear hP
  subst e91
  rw [Int.mul_one] at F₁
  have N₂ : News h₀ env.locals hh (news₁ ++ own):=fun p hp=>N₁ p ((List.mem_append.mp hp).elim (fun h=>List.mem_append.mpr (.inr h)) fun h=>List.mem_append.mpr (.inl h))
  refine wpAny_mono (turn i t m₁ _ news₁ own hh tk hin hm hJ (fun p hp=>List.mem_singleton.mp (hown p hp)) ⟨oI,hmI⟩ (fun p hp z=>hoff p hp (List.mem_singleton.mpr z)) F₁ N₂) (fun f s₂ p=>?_) fun _ _ e=>e
  cases f with
  | ret v=>exact .ret p
  | brk=>exact .brk p
  | next =>
   refine ex5 p fun h' tk' m' news' all q9=>an8 q9 fun e95 F' N' hn' ho hI' hm' hJ'=>?_
   clear q9 p
   subst e95
   exact .next ⟨rfl,h',tk',m',news',rfl,F',fun p hp=>N' p ((List.mem_append.mp hp).elim (ho p) (hn' p)),fun p hp z=>hI' p hp (List.mem_singleton.mp z),hm',hJ'⟩
  | cont =>
   refine ex5 p fun h' tk' m' news' all q9=>an8 q9 fun e95 F' N' hn' ho hI' hm' hJ'=>?_
   clear q9 p
   subst e95
   exact .cont ⟨rfl,h',tk',m',news',rfl,F',fun p hp=>N' p ((List.mem_append.mp hp).elim (ho p) (hn' p)),fun p hp z=>hI' p hp (List.mem_singleton.mp z),hm',hJ'⟩
 ·rintro h' tk m' news' F' N' _ ⟨hm,hJ⟩
  exact done m' news' h' tk hm hJ F' N'
theorem u79 : upto 79:=hk @c_78 u78 (by with_unfolding_all exact rfl)
open kc in
theorem iter_rangeM {A E prog w h₀ s xX1 env body QX2 m₀ news storedX1 r t₀ u₀ v₀} : s_78 A E prog w h₀ s xX1 env body QX2 m₀ news storedX1 r t₀ u₀ v₀:=@hkT _ u79 (by k_extra "T") _ (by exact rfl)
section
variable {prog : Program} {w : World} {A : Around} {E : Value→Shared→Prop} {s : Shared} {env : Env} {h₀ : Heap} {x : Str} {body : List Stmt} {Q : Flow→Shared→Prop}
end
end NX18
section NX19
open PySem.Spec
theorem bytes_len : typeLookup (.type "bytes") "__len__" = pure (some (.builtin "bytes.__len__")):=by rw [typeLookup_type,builtinLookup_eq_fast];kernel_rfl
theorem ints_of_pt : ∀ (vs : List Value) (ns : List Int),vs.length = ns.length→(∀ (j : Nat) v,vs[j]? = some v→∃ n u,ns[j]? = some n∧v = .int n u)→IntsAre vs ns:=by
 intro vs
 induction vs with
 | nil =>
  intro ns h _
  cases ns with
  | nil=>exact .nil
  | cons _ _=>cases h
 | cons v vs ih =>
  intro ns h q
  cases ns with
  | nil=>cases h
  | cons n ns =>
   refine ex2 (q 0 v rfl) fun n' u q9=>an2 q9 fun e e93=>?_
   clear q9
   subst e93
   cases e
   exact .cons n u (ih ns (Nat.succ.inj h) fun j x hx=>q (j + 1) x hx)
section
variable {prog : Program} {w : World} {A : Around} {E : Value→Shared→Prop} {s : Shared}
theorem ext_bytes {R : Result→Shared→Prop} (hh : A.handled = none) (b : Array UInt8) (t : Tok) (S : Addr) (res : Value) (c₀ : Nat) (hS : s.heap.get? S = some { cls:=.type "list",data:=.seq #[] c₀})
  (hR : ∀ h' tk acc' c',(∀ b o,b ≠ S→s.heap.get? b = some o→h'.get? b = some o)→h'.get? S = some { cls:=.type "list",dict:=none,data:=.seq acc' c',slots:=#[]} →
   ItemsOf (ByteAt b) acc' b.size→R (.ok (.ret res)) { s with heap:=h',toks:=tk}) (hn : b.size ≤ sizeLine) :
  wpAny (model prog w) A.in1 (Builtin.List.listExtendWith (.ref S) (.bytes b t) res)
   (fun fin s'=>match fin with | .done f=>R (.ok f) s' | .again c'=>c'.quiet = true∧codeAny (model prog w) A c' R s') (fun e s'=>R (.error e) s') s:=by
 have hSI : S ≠ s.heap.objs.size:=Nat.ne_of_lt (Heap.lt_size hS)
 have hSf : S ∉ [s.heap.objs.size]:=fun hm=>hSI (List.mem_singleton.mp hm)
 unfold Builtin.List.listExtendWith
 refine wpAny_bind (wpAny_typeOf (T := "bytes") (v:=.bytes b t) rfl ?_)
 have h1 : Builtin.List.listSameRef (.ref S) (.bytes b t) = false:=rfl
 have h2 : (Value.type "bytes" == Value.type "list") = false:=by decide
 have h3 : (Value.type "bytes" == Value.type "tuple") = false:=by decide
 simp only [h1,h2,h3,Bool.or_false,Bool.false_eq_true,if_false]
 refine wpAny_bind (KBw.pyIter_bytes ?_)
 refine wpAny_bind (wpAny_holding ?_)
 unfold Builtin.List.listLengthHint
 refine wpAny_bind (wpAny_specialOf (T := "bytes") (v:=.bytes b t) rfl bytes_len ?_)
 wp_delta
 refine wpAny_bind (wpAny_isInstance (T := "bytes") (v:=.bytes b t) (b:=true) rfl F.sub_bytes_bytes ?_)
 show wpAny _ _ (typeOf (Value.bytes b t) >>= _) _ _ _
 refine wpAny_bind (wpAny_typeOf (T := "bytes") (v:=.bytes b t) rfl ?_)
 refine wpAny_pure ?_
 rw [if_neg (by decide)]
 have hst : KBw.IsBytesIter (s.heap.push { cls:=.type "bytes_iterator",data:=.fields #[.bytes b t,.int 0 0]}) s.heap.objs.size b t 0:=⟨_,Heap.get?_push_size _ rfl,rfl,rfl⟩
 refine wpAny_pure ⟨plainId_quiet F.plain_extend_loop _,codeAny_extend_loopS ((KBw.walks (prog:=prog) (w:=w) (A:=A.in1) hh s.heap.objs.size b t).toS) hn _ hSf _ b.size 0 _ _ _ rfl (Nat.zero_le _) hst (Heap.get?_push_of_some _ hS) (ItemsOf.nil _) fun s' acc' c' hm hS' hacc=>?_⟩
 rw [Moved.eq_with hm]
 refine hR s'.heap s'.toks acc' c' (fun b ob hb e=>hm.heap b ob (fun hmem=>?_) (Heap.get?_push_of_some _ e)) hS' hacc
 rcases List.mem_cons.mp hmem with e' | hmem
 ·exact hb e'
 ·exact absurd (Heap.lt_size e) (by rw [List.mem_singleton.mp hmem];exact Nat.lt_irrefl _)
theorem init_bytes {R : Result→Shared→Prop} (hh : A.handled = none) (b : Array UInt8) (t : Tok) (S : Addr) (hS : s.heap.get? S = some { cls:=.type "list",data:=.seq #[]})
  (hR : ∀ h' tk acc' c',(∀ b o,b ≠ S→s.heap.get? b = some o→h'.get? b = some o)→h'.get? S = some { cls:=.type "list",dict:=none,data:=.seq acc' c',slots:=#[]} →
   ItemsOf (ByteAt b) acc' b.size→R (.ok (.ret .none)) { s with heap:=h',toks:=tk}) (hn : b.size ≤ sizeLine) :
  wpAny (model prog w) A.in1 (Builtin.«list.__init__» ⟨[.ref S,.bytes b t],[]⟩)
   (fun fin s'=>match fin with | .done f=>R (.ok f) s' | .again c'=>c'.quiet = true∧codeAny (model prog w) A c' R s') (fun e s'=>R (.error e) s') s:=by
 show wpAny _ _ (do let old ← Builtin.List.listItems (.ref S);Builtin.List.listUpdate (.ref S) (fun _=>#[]);letGo old.toList.reverse;Builtin.List.listExtendWith (.ref S) (.bytes b t) .none) _ _ s
 refine wpAny_bind ?_
 unfold Builtin.List.listItems
 refine wpAny_bind (wpAny_seqItems hS rfl (wpAny_pure ?_))
 show wpAny _ _ (updateSeq S (fun _=>#[]) >>= fun _=>letGo (#[] : Array Value).toList.reverse >>= fun _=>Builtin.List.listExtendWith (.ref S) (.bytes b t) .none) _ _ s
 refine wpAny_bind (wpAny_updateSeq hS rfl ?_)
 have hS₂:=Heap.get?_update_self (Obj.mapSeq (fun _=>(#[] : Array Value))) hS rfl
 have oth : ∀ b o,b ≠ S→s.heap.get? b = some o→(s.heap.update S (Obj.mapSeq (fun _=>(#[] : Array Value)))).get? b = some o :=
  fun b o hb e=>(Heap.get?_update_other _ _ (Ne.symm hb)).trans e
 refine wpAny_bind (wpAny_letGo ?_)
 refine ext_bytes (hn:=hn) hh b t S .none _ hS₂ fun h' tk acc' c' hk hS' hacc=>?_
 exact hR h' tk acc' c' (fun b o hb e=>hk b o hb (oth b o hb e)) hS' hacc
theorem list_bytes {Q : Value→Shared→Prop} (hh : A.handled = none) (b : Array UInt8) (t : Tok)
  (hQ : ∀ h' tk acc' c',(∀ b o,s.heap.get? b = some o→h'.get? b = some o) →
   h'.get? s.heap.objs.size = some { cls:=.type "list",dict:=none,data:=.seq acc' c',slots:=#[]}→ItemsOf (ByteAt b) acc' b.size→Q (.ref s.heap.objs.size) { s with heap:=h',toks:=tk}) (hn : b.size ≤ sizeLine) :
  wpAny (model prog w) A (call (.type "list") [.bytes b t]) Q E s:=by
 refine callType_codes (Q₁:=fun obj s₁=>obj = .ref s.heap.objs.size∧s₁ = { s with heap:=s.heap.push { cls:=.type "list",data:=.seq #[]}}) F.called_list (F.typeCall_list_1 _) F.entry_list_init
  (code_list_new _ ⟨rfl,rfl⟩) fun obj s₁ h₁=>?_
 refine an2 h₁ fun e90 e91=>?_
 clear h₁
 subst e90
 subst e91
 have hS : (s.heap.push { cls:=.type "list",data:=.seq #[]}).get? s.heap.objs.size = some { cls:=.type "list",data:=.seq #[]}:=Heap.get?_push_size _ rfl
 refine ⟨⟨_,hS,rfl⟩,F.args_list_init_2 _ _,init_bytes (A:=A.in1) (hn:=hn) hh b t _ hS fun h' tk acc' c' hk hS' hacc=>?_⟩
 exact ⟨rfl,hQ h' tk acc' c' (fun b o e=>hk b o (Nat.ne_of_lt (Heap.lt_size e)) (Heap.get?_push_of_some _ e)) hS' hacc⟩
theorem list_bytesN {h₀ : Heap} {L : Addr} {m : Str→Option Value} {news : List (Addr × Obj)} {b : Array UInt8} {t : Tok} {ks : List Int} {Q : Value→Shared→Prop} (hh : A.handled = none) (F : Fr h₀ L s.heap m) (N : News h₀ L s.heap news) (hk : KBw.bInts b = ks) (hn : ks.length ≤ 1000)
  (h : ∀ D vs c h' tk,IntsAre vs ks→Fr h₀ L h' m→News h₀ L h' ((D,listOf vs.toArray c) :: news)→(∀ p ∈ news,p.1 < D)→Q (.ref D) { s with heap:=h',toks:=tk}) :
  wpAny (model prog w) A (call (.type "list") [.bytes b t]) Q E s:=by
 have hsz : b.size = ks.length:=by rw [← hk,KBw.ints_length]
 refine list_bytes hh b t (fun h' tk acc c hk' ho hacc=>?_) (by rw [hsz,sizeLine_eq];exact Nat.le_trans hn (Nat.le_of_ble_eq_true rfl))
 have fresh : h₀.get? s.heap.objs.size = none:=next_is_new F
 have hLlt : L < s.heap.objs.size:=F.ns.lt
 have hi : IntsAre acc.toList ks:=by
  refine ints_of_pt _ _ (by rw [Array.length_toList,hacc.1,hsz]) fun j v hv=>?_
  refine ex2 (hacc.2 j v (by simpa using hv)) fun c9 u q9=>an2 q9 fun e1 e93=>?_
  clear q9
  subst e93
  exact ei2 _ u ⟨by rw [← hk];exact KBw.ints_get e1,rfl⟩
 refine h _ acc.toList c h' tk hi (F.keeps hk') (fun p hp=>?_) fun p hp=>Heap.lt_size (N p hp).1
 rcases List.mem_cons.mp hp with rfl | hp
 ·exact ⟨by rw [Array.toArray_toList];exact ho,Nat.ne_of_gt hLlt,fresh⟩
 ·exact ⟨hk' _ _ (N p hp).1,(N p hp).2⟩
end
end NX19
section NW32
theorem lnNW32_1 : True:=by
 k_with "L122" => ((k_here;(with_reducible show wpAny _ _ (call (Value.ref 499) [Value.ref _,Value.int 5 _]) _ _ _);k_dflt (refine' draw_spec ?zB ?zF ?zX ?zT ?zhk ?zN ?zhC ?zU ?zhne ?zhi ?zh1 ?zh2 ?zk0 ?zk1 ?zl0 ?zl1 ?zhd ?zhu ?_;k_extra "Q";(case zU=>k_updF);(case zhC=>k_mem);(case zhne=>first | assumption | k_ne);(case zhi=>assumption);(case zh1=>assumption);(case zh2=>assumption);(case zk0=>omega);(case zk1=>omega);(case zl0=>decide);(case zl1=>decide);k_extra "V");intro _ _ _ _ _ _ _ v1' _ _;(have v60:=Int.lt_trans v1' (show (5 : Int) < 60 by decide));(replace v1':=LtB.of v1');(try k_sweep);(try dsimp only);(try (revert v60;intro _));(try (revert v1';intro _))))
 k_with "L123" => ((k_here;(with_reducible show wpAny _ _ (binaryOp _ (Value.ref _) (Value.ref _)) _ _ _);k_dflt (refine' kmk_add_ints ?zF ?zN ?za ?zb ?zi ?zj ?_ ?zz;(case zF=>k_asm);(case zN=>k_asm);(case za=>exact News.isList (by k_asm) (by first | k_mem | (repeat (first | assumption | refine List.mem_cons_of_mem _ ?_))));(case zb=>exact News.isList (by k_asm) (by first | k_mem | (repeat (first | assumption | refine List.mem_cons_of_mem _ ?_))));(case zi=>first | assumption | exact .cons _ _ (.cons _ _ .nil));(case zj=>first | assumption | exact .cons _ _ (.cons _ _ .nil));(case zz=>(simp only [sizeLine_eq,List.length_append,List.length_cons,List.length_nil];omega)));intro _ _ _ _ _ l1 _;(try k_lt l1);(try (revert l1;intro _));(try k_sweep)))
 k_with "L124" => ((k_here;(with_reducible show wpAny _ _ (call (Value.type "list") [Value.bytes _ _]) _ _ _);k_dflt (refine' list_bytesN ?zh ?zF ?zN ?zk ?zn ?_;(case zh=>exact rfl);(case zF=>k_asm);(case zN=>k_asm);(case zk=>assumption);(case zn=>omega));intro _ _ _ _ _ _ _ _ l1;(try k_lt l1);(try (revert l1;intro _));(try k_sweep);(try dsimp only)))
 k_with "call ref" => ((fail_if_success have:=dNW32);first | k_extra "L120" | k_extra "L79" | k_extra "L122" | k_extra "L73" | k_extra "L13" | fail)
 k_with "A" => ((fail_if_success have:=dNW32);first | k_extra "L28" | k_extra "L27" | fail)
 k_with "eval Name" => ((fail_if_success have:=dNW32);first | k_extra "L77" | k_extra "L71" | fail)
 k_with "binaryOp Add ref ref" => ((fail_if_success have:=dNW32);first | k_extra "L123" | fail)
 k_with "call type:list" => ((fail_if_success have:=dNW32);first | k_extra "L124" | fail)
 exact True.intro
open kc in
theorem c_79 : s_79 E w p loose mean mg mb dp un a A₀ base h₀ L m s QX2 C S cvs tX1 c1 c2 c3 c4 c5 o1 σ tv tu:=by
 intro B F X T hd hu cc c cl9 k d1 hi h1 h2 v u hv hu9 v0 v4 u0 u4 k0 k1 e1 e2 w1 N hret
 rw [show lawSt 18 = .Assign _ _ _ from rfl]
 k_steps
 rename_i D9 h9 l9 x9 t1 t2 c9 h8 tk8 x0 F8 N8 x60 x4
 replace x4:=LtB.out x4
 refine tail_menu (vs:=[_,_,_,_]) N8 (.head _) rfl (.cons 1 _ (.cons 1 _ (.cons 1 _ (.cons 2 _ .nil)))) x0 x4 (Nat.lt_of_lt_of_le (Nat.lt_succ_self _) (Nat.le_of_ble_eq_true rfl)) ?_ (by with_unfolding_all rfl) (by intro _;with_unfolding_all rfl)
 intro f t9 hu9
 have hx : f = 1 ∨ f = 2:=by
  have:=List.mem_of_getElem? hu9
  simpa using this
 clear hu9
 k_steps
 rename_i l0 h0 y0 h7 F7 N7
 exact hret f _ [.int 0 _,.int f _,.int 0 _,.int (6 + 4 * v) _,.int 0 _,.int u _] 0 _ _ _ _ hx (.cons _ _ (.cons _ _ (.cons _ _ (.cons _ _ (.cons _ _ (.cons _ _ .nil)))))) F7 (news_sub N7 mem_sk2) (off1_lt y0.2)
theorem u80 : upto 80:=hk @c_79 u79 (by with_unfolding_all exact rfl)
open kc in
theorem made_spec {E w p loose mean mg mb dp un a A₀ base h₀ L m s QX2 C S cvs tX1 c1 c2 c3 c4 c5 o1 σ tv tu} : s_79 E w p loose mean mg mb dp un a A₀ base h₀ L m s QX2 C S cvs tX1 c1 c2 c3 c4 c5 o1 σ tv tu:=@hkT _ u80 (by k_extra "T") _ (by exact rfl)
open kc in
theorem c_80 : s_80 E w p loose mean mg mb dp un a A₀ base h₀ L m s tb QX2 C S cvs tX1 c1 c2 c3 c4 c5 o1 σ:=by
 intro B F X T hd hu cc c cl9 k d1 hi h1 h2 bg hb b0 b1 k0 k1 e1 e2 w1 N hret
 rw [show bodySt 19 0 = .Assign _ _ _ from rfl]
 k_steps
 rename_i D9 h9 l9 x9 t1 t2 c9 h8 tk8 x0 F8 N8 x60 x4
 replace x4:=LtB.out x4
 refine tail_menu (vs:=[_,_,_,_,_]) N8 (.head _) rfl (.cons 0 _ (.cons bg _ (.cons (bg + 10) _ (.cons (bg + 1) _ (.cons 300 _ .nil))))) x0 x4 (Nat.lt_of_lt_of_le (Nat.lt_succ_self _) (Nat.le_of_ble_eq_true rfl)) ?_ (by with_unfolding_all rfl) (by intro _;with_unfolding_all rfl)
 intro f t9 hu9
 have hx : 0 ≤ f∧f < 400:=by
  have:=List.mem_of_getElem? hu9
  simp only [List.mem_cons,List.not_mem_nil,or_false] at this
  omega
 clear hu9
 k_steps
 exact hret _ _ _ _ _ _ hx.1 hx.2 (by assumption) (news_sub (by assumption) fun p hp=>.tail _ hp)
theorem u81 : upto 81:=hk @c_80 u80 (by with_unfolding_all exact rfl)
open kc in
theorem offset_spec {E w p loose mean mg mb dp un a A₀ base h₀ L m s tb QX2 C S cvs tX1 c1 c2 c3 c4 c5 o1 σ} : s_80 E w p loose mean mg mb dp un a A₀ base h₀ L m s tb QX2 C S cvs tX1 c1 c2 c3 c4 c5 o1 σ:=@hkT _ u81 (by k_extra "T") _ (by exact rfl)
open kc in
theorem c_81 : s_81 E w p loose mean mg mb dp un a A₀ base h₀ L m s QX2 c1 c2 c3 c4 c5 σ tf M mvs:=by
 intro B F X T hd hu f mc ks hf f0 f1 hM hm hi hl N hret
 rw [show bodySt 19 1 = .Assign _ _ _ from rfl]
 k_steps
 rename_i l0 h0 y0 D9 ws9 h9 i9 y9 h8 F8 N8
 exact hret _ _ _ _ _ i9 F8 (news_sub N8 mem_sk2) (off1_lt y9.2)
theorem u82 : upto 82:=hk @c_81 u81 (by with_unfolding_all exact rfl)
open kc in
theorem cat_spec {E w p loose mean mg mb dp un a A₀ base h₀ L m s QX2 c1 c2 c3 c4 c5 σ tf M mvs} : s_81 E w p loose mean mg mb dp un a A₀ base h₀ L m s QX2 c1 c2 c3 c4 c5 σ tf M mvs:=@hkT _ u82 (by k_extra "T") _ (by exact rfl)
theorem cov_cat_spec {w : World} {p : Program} {loose : List Str} {mean : ExcName→Option Value} {mg mb : Str→Option Value}
  {dp un : Nat} {a c1 c2 c3 c4 c5 : Addr} {A₀ : Around} {base h₀ : Heap} {L : Addr} {m : Str→Option Value} {s : Shared}
  {Q : Flow→Shared→Prop} {E : Value→Shared→Prop}
  (B : Below A₀ base [] h₀) (F : Fr h₀ L s.heap m) (X : (hd.heap_1 w.params).In h₀) (T : Top p loose mean mg mb h₀) (hd : dp + 40 < recursionLimit) (hu : un + 400 < cLine) {b : Array UInt8} {tb : Tok} {M : Addr} {mvs : List Value} {mc : Nat} {ks kc : List Int} {σ : List (Addr × Obj)} (hb : m "cover" = some (.bytes b tb)) (hkc : KBw.bInts b = kc) (hkl : kc.length < 100) (hM : m "made" = some (.ref M)) (hm : (M,listOf mvs.toArray mc) ∈ σ) (hi : IntsAre mvs ks) (hl : ks.length < 200) (N : News h₀ L s.heap σ)
  (hret : ∀ M' mvs' mc' h' tk',IntsAre mvs' (ks ++ kc)→Fr h₀ L h' (fun y=>if y = "made" then some (.ref M') else m y)→News h₀ L h' ((M',listOf mvs'.toArray mc') :: σ)→LCg.Off1 M' σ→Q .next { s with heap:=h',toks:=tk'}) :
  wpAny (model pw_nu0185_01 w) (ktrTop dp un (some []) "law" lawScope L a (.ref 536) [("octets",c5),("glyphs",c4),("data",c3),("ahead",c2),("source",c1)] []) (exec (lawSt 20) (envX "law" lawScope L a (.ref 536) [("octets",c5),("glyphs",c4),("data",c3),("ahead",c2),("source",c1)])) Q E s:=by
 rw [show lawSt 20 = .Assign _ _ _ from rfl]
 k_steps
 rename_i l0 vs0 c0 h0 tk0 i0 y0 D9 ws9 h9 i9 y9 h8 F8 N8
 exact hret _ _ _ _ _ i9 F8 (news_sub N8 mem_sk2) (off1_lt y9.2)
end NW32
theorem dNW32 : True:=trivial
section NW33
theorem lnNW33_1 : True:=by
 k_with "L125" => ((k_here;(with_reducible show wpAny _ _ (pyIter _) (fun it s₂=>LoopAtV _ _ _ _ _ (PySem.Str.ofString "number") _ _ _ it s₂) _ _);refine Stop.mk ?_))
 k_with "call ref" => ((fail_if_success have:=dNW33);first | k_extra "L79" | k_extra "L73" | k_extra "L13" | fail)
 k_with "A" => ((fail_if_success have:=dNW33);first | k_extra "L28" | k_extra "L27" | fail)
 k_with "eval Name" => ((fail_if_success have:=dNW33);first | k_extra "L77" | k_extra "L72" | k_extra "L71" | fail)
 k_with "binaryOp Add ref ref" => ((fail_if_success have:=dNW33);first | k_extra "L123" | fail)
 k_with "exec For Name Call cons nil" => ((fail_if_success have:=dNW33);first | k_extra "L23" | fail)
 k_with "pyIter ref" => ((fail_if_success have:=dNW33);first | k_extra "L80" | k_extra "L125" | fail)
 k_with "eval ListComp" => ((fail_if_success have:=dNW33);first | k_extra "L49" | fail)
 k_with "CompSrc" => ((fail_if_success have:=dNW33);first | k_extra "L46" | fail)
 exact True.intro
theorem in_two {f : Int} (f0 : 0 ≤ f) (f1 : f < 400) : KBa.In [f.fdiv 256,f.fmod 256]:=by
 intro n hn
 rw [Int.fdiv_eq_ediv_of_nonneg _ (by decide),Int.fmod_eq_emod_of_nonneg _ (by decide)] at hn
 simp only [List.mem_cons,List.not_mem_nil,or_false] at hn
 omega
theorem in_app {a b : List Int} (ha : KBa.In a) (hb : KBa.In b) : KBa.In (a ++ b):=fun n hn=>(List.mem_append.mp hn).elim (ha n) (hb n)
theorem mem_mk {x y a b c : Addr × Obj} {l own : List (Addr × Obj)} : ∀ p ∈ a :: b :: c :: x :: l,p ∈ x :: a :: b :: c :: y :: (l ++ own):=by
 intro p hp
 simp only [List.mem_cons,List.mem_append] at hp ⊢
 rcases hp with h | h | h | h | h <;> simp [h]
open kc in
theorem c_82 : s_82 w p loose mean mg mb dp un a A₀ base h₀ L m s tb QX2 C S cvs tX1 c1 c2 c3 c4 c5 o1 σ tv M mvs:=by
 intro B F X T hd hu cc c cl9 k d1 hi h1 h2 v bg mc ks0 hv v0 v4 hb b0 b1 hM hmi hml sM k0 k1 e1 e2 w1 N hret
 rw [show lawSt 19 = .For _ _ _ _ _ from rfl]
 refine For_invVF F rfl rfl ?_
 k_steps
 refine Stop.out ?_
 rename_i h8 tk8 t8 u8 w8 R8 F8 N8 K8
 refine ex1 (Int.eq_ofNat_of_zero_le (show 0 ≤ 2 * v by omega)) fun nn hnn=>?_
 rw [hnn] at R8
 refine iter_rangeM (n:=nn) (storedX1:=OffN) (MadeJ c1 o1 S C cvs cc σ k 1 2 ks0) rfl R8 (range_small (by omega)) (range_size nn) F8 N8 (ei6 tX1 c M mvs mc [] ⟨by rw [show k + 1 * ((0 : Nat) : Int) = k from by omega],hM,by rw [List.append_nil];exact hmi,rfl,fun n hn=>(nomatch hn),sM⟩) ?_ ?_
 ·intro i t1 m₁ I news₁ own h tk hlt hm1 hJ hown hIo hI F' N'
  refine ex6 hJ fun t9 c9 M9 mvs9 mc9 ks q9=>an6 q9 fun e90 hM9 hi9 hkl hin sM9=>?_
  clear q9 hJ
  subst e90
  refine ex1 hIo fun oI mI=>?_
  clear hIo
  have iS : @Ne Nat S I:=hI _ (.tail _ (.head _))
  have g1 : LCg.Off1 S ((M9,listOf mvs9.toArray mc9) :: (σ ++ own)):=⟨sM9.symm,off1_app w1 (off1_of fun q hq=>by rw [hown q hq];exact iS.symm)⟩
  simp only [List.cons_append] at N'
  refine ex_cons (offset_spec B F' X T hd hu d1 hi h1 h2 (bg:=bg) (tb:=tb) (by show m₁ "begin" = _;rw [hm1 "begin" (by decide) rfl];exact hb) b0 b1 (by omega) (by omega) e1 e2 g1 N' ?_)
  intro f tf t3 c3' h3 tk3 f0 f1 F3 N3
  refine ex_one (cat_spec B F3 X T hd hu rfl f0 f1 hM9 (.tail _ (.tail _ (.tail _ (.head _)))) hi9 (by rw [List.length_append];omega) N3 ?_)
  intro M4 mvs4 mc4 h4 tk4 hi4 F4 N4 o4
  refine ei5 h4 tk4 _ ((c1,o1) :: (S,srcObj C (k + 1 * ((i + 1 : Nat) : Int)) t3 c3') :: (C,listOf cvs.toArray cc) :: ((M4,listOf mvs4.toArray mc4) :: σ)) _ ⟨rfl,F4,N4,?_,?_,?_,?_,(ei6 t3 c3' M4 mvs4 mc4 (ks ++ [f.fdiv 256,f.fmod 256]) ⟨rfl,rfl,by rw [← List.append_assoc];exact hi4,by rw [List.length_append];show ((ks.length + 2 : Nat) : Int) = _;omega,in_app hin (in_two f0 f1),off1_all o4 _ (.tail _ (.head _))⟩)⟩
  ·rw [show k + 1 * ((i + 1 : Nat) : Int) = k + 1 * (i : Int) + 1 from by omega]
   exact mem_mk
  ·exact fun p hp=>.tail _ (.tail _ (.tail _ (.tail _ (.tail _ (List.mem_append_right _ hp)))))
  ·refine List.forall_mem_cons.mpr ⟨hI _ (.head _),List.forall_mem_cons.mpr ⟨iS,List.forall_mem_cons.mpr ⟨hI _ (.tail _ (.tail _ (.head _))),List.forall_mem_cons.mpr ⟨(off1_all o4 _ (.tail _ (.tail _ (.tail _ (.tail _ (List.mem_append_right _ mI)))))).symm,fun p hp=>hI p (.tail _ (.tail _ (.tail _ (.tail _ hp))))⟩⟩⟩⟩
  ·intro y y1 y2
   rw [if_neg (ne_in (by decide) y2),if_neg (ne_in (by decide) y2),if_neg y1]
   exact hm1 y y1 y2
 ·intro m' nl h tk hm' hJ F' N'
  exact hret m' h tk nl hm' (by rw [hnn];exact hJ) F' N'
theorem u83 : upto 83:=hk @c_82 u82 (by with_unfolding_all exact rfl)
open kc in
theorem offs_spec {w p loose mean mg mb dp un a A₀ base h₀ L m s tb QX2 C S cvs tX1 c1 c2 c3 c4 c5 o1 σ tv M mvs} : s_82 w p loose mean mg mb dp un a A₀ base h₀ L m s tb QX2 C S cvs tX1 c1 c2 c3 c4 c5 o1 σ tv M mvs:=@hkT _ u83 (by k_extra "T") _ (by exact rfl)
theorem mem_sk3 {a b c : Addr × Obj} {l : List (Addr × Obj)} : ∀ p ∈ a :: l,p ∈ a :: b :: c :: l:=fun p hp=>by
 rcases List.mem_cons.mp hp with h | h
 ·exact h ▸ .head _
 ·exact .tail _ (.tail _ (.tail _ h))
open kc in
theorem c_83 : s_83 E w p loose mean mg mb dp un a A₀ base h₀ L m s QX2 C S cvs tX1 c1 c2 c3 c4 c5 o1 σ M mvs:=by
 intro B F X T hd hu cc c cl9 k d1 hi h1 h2 mc ks hM hmi hml hmm k0 k1 e1 e2 w1 e3 N hret
 rw [show bodySt 21 0 = .Assign _ _ _ from rfl]
 k_steps
 rename_i D9 h9 l9 x9 t1 t2 c9 h8 tk8 x0 F8 N8 x60 x4
 replace x4:=LtB.out x4
 refine tail_menu (vs:=[_,_,_,_,_,_]) N8 (.head _) rfl (.cons 1 _ (.cons 2 _ (.cons 3 _ (.cons 1 _ (.cons 0 _ (.cons 4 _ .nil)))))) x0 x4 (Nat.lt_of_lt_of_le (Nat.lt_succ_self _) (Nat.le_of_ble_eq_true rfl)) ?_ (by with_unfolding_all rfl) (by intro _;with_unfolding_all rfl)
 intro f t9 hu9
 have hx : 0 ≤ f∧f < 256:=by
  have:=List.mem_of_getElem? hu9
  simp only [List.mem_cons,List.not_mem_nil,or_false] at this
  omega
 clear hu9
 k_steps
 refine Stop.out ?_
 rename_i l0 h0 y0 D1 ws1 h1' F1 N1 i1 y1 h7 tk7 t7 u7 v7 R7 F7 N7 K7
 clear N1 F1
 have N7' : News h₀ L h7 ((c1,o1) :: (S,srcObj C (k + 1) t2 c9) :: (C,listOf cvs.toArray cc) :: ((D1,listOf ws1.toArray 0) :: σ)):=fun p hp=>by
  refine N7 p ?_
  simp only [List.mem_cons] at hp ⊢
  rcases hp with h | h | h | h | h <;> simp [h]
 have sD : @Ne Nat D1 S:=Nat.ne_of_gt y1.2.2.2.1
 have w9 : LCg.Off1 S ((D1,listOf ws1.toArray 0) :: σ):=⟨sD,w1⟩
 clear N7
 refine LCg.CompSrc.range rfl F7 N7' R7 (by first | decide | rfl) (by first | rfl | decide) (Nat.le_of_ble_eq_true rfl) ?_
 intro g9
 refine comp_inv (fun i ys nl=>∃ t' c' es,nl = (c1,o1) :: (S,srcObj C (k + 1 + (i : Int)) t' c') :: (C,listOf cvs.toArray cc) :: ((D1,listOf ws1.toArray 0) :: σ)∧IntsAre ys es∧es.length = i∧KBa.In es) (ei3 t2 c9 [] ⟨by rw [show k + 1 + ((0 : Nat) : Int) = k + 1 from by omega],.nil,rfl,fun n hn=>(nomatch hn)⟩) ?_ ?_
 ·intro ys nl hJ9
  refine ex3 hJ9 fun t' c' es q9=>an4 q9 fun e90 hy hel hin=>?_
  clear q9 hJ9
  subst e90
  replace hel : es.length = 8:=hel
  intro Dn hn tkn Fn Nn on
  have Nn' : News h₀ L hn ((Dn,listOf ys.toArray ys.length) :: (D1,listOf ws1.toArray 0) :: (c1,o1) :: (S,srcObj C (k + 1 + ((8 : Nat) : Int)) t' c') :: (C,listOf cvs.toArray cc) :: σ):=fun p hp=>by
   refine Nn p ?_
   simp only [List.mem_cons] at hp ⊢
   rcases hp with h | h | h | h | h | h <;> simp [h]
  clear Nn F7 N7'
  k_steps
  rename_i D9 ws9 h9 i9 y9 h8 F8 N8
  refine hret _ _ _ ([0,f] ++ es) t' c' _ _ (by rw [← List.append_assoc];exact i9) (by rw [List.length_append,hel];rfl) (in_app (fun n hn=>?_) hin) F8 (by rw [show k + 9 = k + 1 + ((8 : Nat) : Int) from by omega];exact news_sub N8 mem_sk3) (off1_lt y9.2.2)
  simp only [List.mem_cons,List.not_mem_nil,or_false] at hn
  omega
 ·intro i ys nl v I oI C9 oC Dl m₂ h tk E' hin hJ9 hv hC hx9 F8 N8 off ne
  refine ex3 hJ9 fun t' c' es q9=>an4 q9 fun e90 hy hel hes=>?_
  clear q9 hJ9
  subst e90
  refine an4 off fun a1 a2 a3 a4=>?_
  clear off
  have s1 : @Ne Nat S I:=a2.1
  have s2 : @Ne Nat S C9:=a2.2.1
  have s3 : @Ne Nat S Dl:=a2.2.2
  replace hin : i < 8:=hin
  have hk9 : 0 ≤ k + 1 + (i : Int)∧k + 1 + (i : Int) < 2000:=by omega
  clear F7 N7'
  walk_at "S2"
  rename_i v9 u1 u2 c8 h8 tk8 q0 q1 F7 N7
  exact LCg.CompEnd.intro F7 N7 ((c1,o1) :: (S,srcObj C (k + 1 + (i : Int) + 1) u2 c8) :: (C,listOf cvs.toArray cc) :: (D1,listOf ws1.toArray 0) :: σ) (fun _ h=>h) ⟨a1,a2,a3,a4⟩ trivial (ei3 u2 c8 (es ++ [v9]) ⟨by rw [show k + 1 + ((i + 1 : Nat) : Int) = k + 1 + (i : Int) + 1 from by omega],ints_snoc hy,by rw [List.length_append,hel];rfl,in_app hes fun n hn=>by rw [List.mem_singleton.mp hn];exact ⟨q0,q1⟩⟩)
theorem u84 : upto 84:=hk @c_83 u83 (by with_unfolding_all exact rfl)
open kc in
theorem anc_spec {E w p loose mean mg mb dp un a A₀ base h₀ L m s QX2 C S cvs tX1 c1 c2 c3 c4 c5 o1 σ M mvs} : s_83 E w p loose mean mg mb dp un a A₀ base h₀ L m s QX2 C S cvs tX1 c1 c2 c3 c4 c5 o1 σ M mvs:=@hkT _ u84 (by k_extra "T") _ (by exact rfl)
end NW33
theorem dNW33 : True:=trivial
section NW34
theorem lnNW34_1 : True:=by
 k_with "L126" => ((k_here;(with_reducible show wpAny _ _ (call (Value.ref 499) [Value.ref _,Value.int 20 _]) _ _ _);k_dflt (refine' draw_spec ?zB ?zF ?zX ?zT ?zhk ?zN ?zhC ?zU ?zhne ?zhi ?zh1 ?zh2 ?zk0 ?zk1 ?zl0 ?zl1 ?zhd ?zhu ?_;k_extra "Q";(case zU=>k_updF);(case zhC=>k_mem);(case zhne=>first | assumption | k_ne);(case zhi=>assumption);(case zh1=>assumption);(case zh2=>assumption);(case zk0=>omega);(case zk1=>omega);(case zl0=>decide);(case zl1=>decide);k_extra "V");intro _ _ _ _ _ _ _ v1' _ _;(have v60:=Int.lt_trans v1' (show (20 : Int) < 60 by decide));(replace v1':=LtB.of v1');(try k_sweep);(try dsimp only);(try (revert v60;intro _));(try (revert v1';intro _))))
 k_with "call ref" => ((fail_if_success have:=dNW34);first | k_extra "L126" | k_extra "L81" | k_extra "L73" | k_extra "L13" | fail)
 k_with "A" => ((fail_if_success have:=dNW34);first | k_extra "L28" | k_extra "L27" | fail)
 k_with "eval Name" => ((fail_if_success have:=dNW34);first | k_extra "L77" | k_extra "L71" | fail)
 k_with "exec For Name Call cons nil" => ((fail_if_success have:=dNW34);first | k_extra "L23" | fail)
 k_with "pyIter ref" => ((fail_if_success have:=dNW34);first | k_extra "L80" | fail)
 exact True.intro
open kc in
theorem c_84 : s_84 w p loose mean mg mb dp un a A₀ base h₀ L m s QX2 C S cvs tX1 c1 c2 c3 c4 c5 o1 σ M mvs:=by
 intro B F X T hd hu cc c cl9 k d1 hi h1 h2 mc ks0 hM hmi hml sM k0 k1 e1 e2 w1 e3 N hret
 rw [show lawSt 21 = .For _ _ _ _ _ from rfl]
 refine For_invVF F rfl rfl ?_
 k_steps
 refine Stop.out ?_
 rename_i h8 tk8 t8 u8 w8 R8 F8 N8 K8
 refine iter_rangeM (n:=2) (storedX1:=MadeN) (MadeJ c1 o1 S C cvs cc σ k 9 10 ks0) rfl R8 (range_small (n:=2) (by omega)) (range_size 2) F8 N8 (ei6 tX1 c M mvs mc [] ⟨by rw [show k + 9 * ((0 : Nat) : Int) = k from by omega],hM,by rw [List.append_nil];exact hmi,rfl,fun n hn=>(nomatch hn),sM⟩) ?_ ?_
 ·intro i t1 m₁ I news₁ own h tk hlt hm1 hJ hown hIo hI F' N'
  refine ex6 hJ fun t9 c9 M9 mvs9 mc9 ks q9=>an6 q9 fun e90 hM9 hi9 hkl hin sM9=>?_
  clear q9 hJ
  subst e90
  refine ex1 hIo fun oI mI=>?_
  clear hIo
  have iS : @Ne Nat S I:=hI _ (.tail _ (.head _))
  have g1 : LCg.Off1 S ((M9,listOf mvs9.toArray mc9) :: (σ ++ own)):=⟨sM9.symm,off1_app w1 (off1_of fun q hq=>by rw [hown q hq];exact iS.symm)⟩
  simp only [List.cons_append] at N'
  refine ex_one (anc_spec B F' X T hd hu d1 hi h1 h2 hM9 hi9 (by rw [List.length_append];omega) (.head _) (by omega) (by omega) e1 e2 g1 e3 N' ?_)
  intro M4 mvs4 mc4 es t3 c3' h4 tk4 hi4 hel hes F4 N4 o4
  refine ei5 h4 tk4 _ ((c1,o1) :: (S,srcObj C (k + 9 * ((i + 1 : Nat) : Int)) t3 c3') :: (C,listOf cvs.toArray cc) :: ((M4,listOf mvs4.toArray mc4) :: σ)) _ ⟨rfl,F4,N4,?_,?_,?_,?_,(ei6 t3 c3' M4 mvs4 mc4 (ks ++ es) ⟨rfl,rfl,by rw [← List.append_assoc];exact hi4,by rw [List.length_append,hel];omega,in_app hin hes,off1_all o4 _ (.tail _ (.head _))⟩)⟩
  ·rw [show k + 9 * ((i + 1 : Nat) : Int) = k + 9 * (i : Int) + 9 from by omega]
   exact mem_mk
  ·exact fun p hp=>.tail _ (.tail _ (.tail _ (.tail _ (.tail _ (List.mem_append_right _ hp)))))
  ·refine List.forall_mem_cons.mpr ⟨hI _ (.head _),List.forall_mem_cons.mpr ⟨iS,List.forall_mem_cons.mpr ⟨hI _ (.tail _ (.tail _ (.head _))),List.forall_mem_cons.mpr ⟨(off1_all o4 _ (.tail _ (.tail _ (.tail _ (.tail _ (List.mem_append_right _ mI)))))).symm,fun p hp=>hI p (.tail _ (.tail _ (.tail _ (.tail _ hp))))⟩⟩⟩⟩
  ·intro y y1 y2
   rw [if_neg (ne_in (by decide) y2),if_neg y1]
   exact hm1 y y1 y2
 ·intro m' nl h tk hm' hJ F' N'
  exact hret m' h tk nl hm' hJ F' N'
theorem u85 : upto 85:=hk @c_84 u84 (by with_unfolding_all exact rfl)
open kc in
theorem ancs_spec {w p loose mean mg mb dp un a A₀ base h₀ L m s QX2 C S cvs tX1 c1 c2 c3 c4 c5 o1 σ M mvs} : s_84 w p loose mean mg mb dp un a A₀ base h₀ L m s QX2 C S cvs tX1 c1 c2 c3 c4 c5 o1 σ M mvs:=@hkT _ u85 (by k_extra "T") _ (by exact rfl)
theorem lnNW34_2 : True:=by
 k_with "call builtin:len" => ((fail_if_success have:=dNW34);first | k_extra "L107" | k_extra "L96" | fail)
 k_with "storeName" => ((fail_if_success have:=dNW34);first | k_extra "L82" | fail)
 k_with "binaryOp Add bytes bytes" => ((fail_if_success have:=dNW34);first | k_extra "L106" | fail)
 exact True.intro
open kc in
theorem c_85 : s_85 E w p loose mean mg mb dp un a A₀ base h₀ L m s t2 QX2 C S cvs tX1 c1 c2 c3 c4 c5 o1 σ o2 o3:=by
 intro B F X T hd hu cc c cl9 k d1 hi h1 h2 b2 ka M mvs mc ks hM hmi hml hm20 hkin d2 hka za d3 w3 f1 f2 f3 y2 yM x3 x2 xM k0 k1 e1 e2 w1 N hret
 rw [show lawSt 22 = .Assign _ _ _ from rfl]
 k_steps
 (try (rename_i v20 s9 D7 ws7 h7 F7 N7 i7 z7 y7 l7;have:=LtB.out v20;omega))
 ·rename_i v9 u1 u2 c9 h8 tk8 q0 q1 v20 s9 D7 ws7 h7 F7 N7 i7 z7 y7 l7
  have hc : ((ks.length : Int) - v9).toNat = ks.length - v9.toNat:=by omega
  rw [hc] at i7
  have h20 : v9.toNat < 20:=by have:=LtB.out v20;omega
  have hIn : KBa.In (ks.take (ks.length - v9.toNat)):=fun n hn=>hkin n (List.mem_of_mem_take hn)
  have hmk:=KBa.ints_make hIn
  have hln : (ks.take (ks.length - v9.toNat)).length ≤ 120:=Nat.le_trans (List.length_take_le _ _) (Nat.le_of_lt (Nat.lt_of_le_of_lt (Nat.sub_le _ _) hml))
  refine KBa.make_K F7 N7 rfl (News.isList N7 (.head _)) i7 hIn (Nat.le_trans hln (Nat.le_of_ble_eq_true rfl)) ?_
  intro h6 t6 k6 F6 N6 _
  clear i7 z7 y7 N7 F7
  k_steps
  exact hret v9.toNat _ _ _ _ _ _ _ _ h20 (by assumption) (by assumption) (by assumption) (news_sub (by assumption) fun p hp=>.tail _ hp)
 ·rename_i v9 u1 u2 c9 h8 tk8 q0 q1 v20 s9 D7 ws7 h7 F7 N7 i7 z7 y7 l7
  have hc : ((ks.length : Int) - 0).toNat = ks.length - 0:=by omega
  rw [hc] at i7
  have hIn : KBa.In (ks.take (ks.length - 0)):=fun n hn=>hkin n (List.mem_of_mem_take hn)
  have hmk:=KBa.ints_make hIn
  have hln : (ks.take (ks.length - 0)).length ≤ 120:=Nat.le_trans (List.length_take_le _ _) (Nat.le_of_lt (Nat.lt_of_le_of_lt (Nat.sub_le _ _) hml))
  refine KBa.make_K F7 N7 rfl (News.isList N7 (.head _)) i7 hIn (Nat.le_trans hln (Nat.le_of_ble_eq_true rfl)) ?_
  intro h6 t6 k6 F6 N6 _
  clear i7 z7 y7 N7 F7
  k_steps
  exact hret 0 _ _ _ _ _ _ _ _ (by decide) (by assumption) (by assumption) (by assumption) (news_sub (by assumption) fun p hp=>.tail _ hp)
theorem u86 : upto 86:=hk @c_85 u85 (by with_unfolding_all exact rfl)
open kc in
theorem data_spec {E w p loose mean mg mb dp un a A₀ base h₀ L m s t2 QX2 C S cvs tX1 c1 c2 c3 c4 c5 o1 σ o2 o3} : s_85 E w p loose mean mg mb dp un a A₀ base h₀ L m s t2 QX2 C S cvs tX1 c1 c2 c3 c4 c5 o1 σ o2 o3:=@hkT _ u86 (by k_extra "T") _ (by exact rfl)
end NW34
theorem dNW34 : True:=trivial
section NW35
theorem lnNW35_1 : True:=by
 k_with "call ref" => ((fail_if_success have:=dNW35);first | k_extra "L13" | fail)
 exact True.intro
theorem dat_at {news news' : List (Addr × Obj)} (hs : ∀ p ∈ news,(∃ T vs n,p.2 = { cls:=.type T,data:=.seq vs n}∧(T = "tuple" ∨ T = "list"))→p ∈ news') {v : Value} {d : Dat} (h : DatIn news v d) : DatIn news' v d :=
 DatIn.rec (motive_1:=fun v d _=>DatIn news' v d) (motive_2:=fun vs ds _=>DatAll news' vs ds) .none (fun b=>.bool b) (fun i t=>.int i t) (fun x t=>.str x t) (fun b t=>.bytes b t)
  (fun hm _ ih=>.tuple (hs _ hm ⟨_,_,_,rfl,.inl rfl⟩) ih) (fun hm _ ih=>.list (hs _ hm ⟨_,_,_,rfl,.inr rfl⟩) ih) .nil (fun _ _ a b=>.cons a b) h
theorem resD_ok (ks : List Int) (at_ : Int) (gs : List Int) : kqdOk 9 (resD ks at_ gs) = true:=by
 unfold resD toldRes
 cases rdCur ks at_ gs with
 | ok rows=>exact told_ok9 _
 | error z =>
  have h1 : PyData.strOk "fault" = true:=by decide +kernel
  simp only [kqdOk,List.all_cons,List.all_nil,h1,Bool.and_true,Bool.true_and]
theorem dat_off {h₀ h : Heap} {L a : Addr} {τ : List (Addr × Obj)} {o : Obj} {v : Value} {d : Dat} (N : News h₀ L h τ) (ho : h.get? a = some o) (hn : ∀ T vs n,o = { cls:=.type T,data:=.seq vs n}→T ≠ "tuple" ∧ T ≠ "list") (hd : DatIn τ v d) : DatIn (τ.filter fun p=>!Nat.beq p.1 a) v d:=by
 refine dat_at (fun p hp hT=>List.mem_filter.mpr ⟨hp,?_⟩) hd
 cases e9 : Nat.beq p.1 a with
 | false=>rfl
 | true =>
  have e : p.1 = a:=Nat.eq_of_beq_eq_true e9
  exfalso
  refine ex3 hT fun T vs n q9=>an2 q9 fun e1 e2=>?_
  clear q9 hT
  have h1:=(N p hp).1
  rw [e,ho] at h1
  have:=hn T vs n ((Option.some.inj h1).trans e1)
  rcases e2 with e2 | e2
  ·exact this.1 e2
  ·exact this.2 e2
theorem lnNW35_2 : True:=by
 k_with "call ref" => ((fail_if_success have:=dNW35);first | k_extra "L119" | fail)
 k_with "storeName" => ((fail_if_success have:=dNW35);first | k_extra "L82" | fail)
 k_with "A" => ((fail_if_success have:=dNW35);first | k_extra "L28" | k_extra "L27" | fail)
 k_with "eval Name" => ((fail_if_success have:=dNW35);first | k_extra "L77" | fail)
 k_with "compareOp Eq" => ((fail_if_success have:=dNW35);first | k_extra "L46" | fail)
 k_with "compareOp Eq ref" => ((fail_if_success have:=dNW35);first | k_extra "L46" | fail)
 k_with "compareOp Eq ref ref" => ((fail_if_success have:=dNW35);first | k_extra "L46" | fail)
 exact True.intro
open kc in
theorem c_86 : s_86 E w p loose mean mg mb dp un a A₀ base h₀ L m s t2 t3 QX2 c1 c2 c3 c4 c5 σ o2 o3 x9:=by
 intro B F X T hd hu CH w9 b2 b3 ka ko gs N m2 d2 m3 d3 hka hko za hb hgl hroom hcov hasc hret
 rw [show lawSt 23 = .Assign _ _ _ from rfl]
 k_steps
 refine Stop.out ?_
 rename_i f9 c9 oc9 vs9 t9 ct9 h9 tk9 F9 N9 e9 v9 l9 l8
 refine law_caught_spec B F9 X T rfl N9 (.head _) (lam1_spec (.head _) (.tail _ (.head _)) e9 v9 (.tail _ (.tail _ (.tail _ m2))) d2 (.tail _ (.tail _ (.tail _ m3))) d3 hka hko za hb gs hgl hroom hcov hasc) (by omega) (by omega) ?_
 intro v8 τ8 h8 tk8 dv8 F8 N8
 have h534:=(N8 _ (List.mem_append_right _ (.tail _ (.tail _ (.head _))))).1
 have dv7:=dat_off (news_sub N8 fun p hp=>List.mem_append_left _ hp) h534 (fun T vs n e=>nomatch (congrArg Obj.cls e : Value.none = Value.type T)) dv8
 have o7 : LCg.Off1 534 (τ8.filter fun p=>!Nat.beq p.1 534):=off1_of fun q hq e=>by
  have:=(List.mem_filter.mp hq).2
  rw [e] at this
  cases this
 clear N9 F9
 replace N8 : News h₀ L h8 ((534,tabObj (#[] ++ #[rawInt (lamPos 0).line,rawInt (lamPos 0).col,x9] ++ #[rawInt (lamPos 1).line,rawInt (lamPos 1).col,.ref c9])) :: ((τ8.filter fun p=>!Nat.beq p.1 534) ++ σ)):=fun p hp=>by
  rcases List.mem_cons.mp hp with rfl | hp
  ·exact N8 _ (List.mem_append_right _ (.tail _ (.tail _ (.head _))))
  ·exact N8 _ ((List.mem_append.mp hp).elim (fun h=>List.mem_append_left _ (List.mem_filter.mp h).1) fun h=>List.mem_append_right _ (.tail _ (.tail _ (.tail _ h))))
 clear dv8
 k_steps
 exact hret _ _ _ _ _ dv7 o7 (by assumption) (by assumption)
theorem u87 : upto 87:=hk @c_86 u86 (by with_unfolding_all exact rfl)
open kc in
theorem read_spec {E w p loose mean mg mb dp un a A₀ base h₀ L m s t2 t3 QX2 c1 c2 c3 c4 c5 σ o2 o3 x9} : s_86 E w p loose mean mg mb dp un a A₀ base h₀ L m s t2 t3 QX2 c1 c2 c3 c4 c5 σ o2 o3 x9:=@hkT _ u87 (by k_extra "T") _ (by exact rfl)
open kc in
theorem c_87 : s_87 E w v p loose mean mg mb dp un a A₀ base h₀ L m s t2 t3 QX2 c1 c2 c3 c4 c5 σ o2 o3 o4 gl gvs τ x9 x8:=by
 intro B F X T hd hu CH w9 b2 b3 ka ko gs gc hr dv hτ N m2 d2 m3 d3 m4 d4 hgl hi hka hko za hb hl hroom hret
 rw [show lawSt 24 = .Return _ _ from rfl]
 k_steps
 refine Stop.out ?_
 rename_i f9 c9 oc9 vs9 t9 ct9 h9 tk9 F9 N9 e9 v9 l9 l8
 refine law_caught_spec B F9 X T rfl N9 (.head _) (lam2_spec (.head _) (.tail _ (.head _)) e9 v9 (.tail _ (.tail _ (.tail _ m2))) d2 (.tail _ (.tail _ (.tail _ m3))) d3 (.tail _ (.tail _ (.tail _ m4))) d4 hka hko za hb (.tail _ (.tail _ (.tail _ hgl))) hi hl hroom) (by omega) (by omega) ?_
 intro v8 τ8 h8 tk8 dv8 F8 N8
 refine Stop.out ?_
 refine dat_eq_same (d:=resD ko ka.length gs) N8 (dv.mono fun p hp=>List.mem_append_right _ (.tail _ (.tail _ (.tail _ (hτ p hp))))) (fun p hp=>hp) dv8 (fun p hp=>List.mem_append_left _ hp) (resD_ok _ _ _) (by ktr_units) ?_
 exact hret _ _ F8 (GrownAt.of N8 (List.mem_append_right _ (by first | exact .tail _ (.tail _ (.head _)) | exact .tail _ (.head _) | exact .head _)))
theorem u88 : upto 88:=hk @c_87 u87 (by with_unfolding_all exact rfl)
open kc in
theorem last_spec {E w v p loose mean mg mb dp un a A₀ base h₀ L m s t2 t3 QX2 c1 c2 c3 c4 c5 σ o2 o3 o4 gl gvs τ x9 x8} : s_87 E w v p loose mean mg mb dp un a A₀ base h₀ L m s t2 t3 QX2 c1 c2 c3 c4 c5 σ o2 o3 o4 gl gvs τ x9 x8:=@hkT _ u88 (by k_extra "T") _ (by exact rfl)
end NW35
theorem dNW35 : True:=trivial
section NW43
theorem lnNW43_1 : True:=by
 k_with "call ref" => ((fail_if_success have:=dNW43);first | k_extra "L13" | fail)
 exact True.intro
open kc in
theorem c_88 : s_88 w p loose mean mg mb dp un a A₀ base h₀ L m s QX2 C S cvs tX1 c1 c2 c3 c4 c5 o1 o2 o3 o4 o5 restX2 x9X1 ρ:=by
 intro B F X T hd hu cc c cl9 k Z d1 hi h1 h2 R k0 k1 d4 N hret
 refine G_good (count_spec (E:=noE) B F X T hd hu d1 hi h1 h2 k0 (by omega) (Z.ne 0 1 rfl) (Z.ne 0 3 rfl) ?w N ?_)
 case w=>exact ⟨(Z.ne 0 4 rfl).symm,(Z.ne 0 5 rfl).symm,(Z.ne 0 6 rfl).symm,(Z.ne 0 7 rfl).symm,(Z.ne 0 2 rfl).symm,R 0 rfl⟩
 intro v tg t1 c1' h1' tk1 v0 v4 F1 N1
 have N1' : News h₀ L h1' ((c4,o4) :: (c1,o1) :: (S,srcObj C (k + 1) t1 c1') :: (C,listOf cvs.toArray cc) :: (c2,o2) :: (c3,o3) :: (c5,o5) :: (534,tabObj (#[] ++ #[rawInt (lamPos 0).line,rawInt (lamPos 0).col,.ref x9X1])) :: ρ):=news_pick [5,0,1,2,3,4,6,7] 8 N1
 clear N N1 F
 refine G_good (glyphs_spec (E:=noE) B F1 X T hd hu rfl v0 v4 d4 ?w N1' ?_)
 case w=>exact ⟨(Z.ne 3 6 rfl),(Z.ne 0 6 rfl),(Z.ne 1 6 rfl),(Z.ne 4 6 rfl),(Z.ne 5 6 rfl),(Z.ne 6 7 rfl).symm,(Z.ne 2 6 rfl),R 6 rfl⟩
 intro gl gvs gc o4' h2' tk2 hiv d4' F2 N2 og
 have og' : LCg.Off1 gl (Led c1 c2 c3 c4 c5 S C o1 o2 o3 o4' o5 (tabObj (#[] ++ #[rawInt (lamPos 0).line,rawInt (lamPos 0).col,.ref x9X1])) (k + 1) t1 c1' cvs cc (ρ)):=off1_pick [1,2,3,4,5,0,6,7] 8 og
 have R' : SepR c1 c2 c3 c4 c5 S C ((gl,listOf gvs.toArray gc) :: ρ):=R.cons og' _
 have N2' : News h₀ L h2' (Led c1 c2 c3 c4 c5 S C o1 o2 o3 o4' o5 (tabObj (#[] ++ #[rawInt (lamPos 0).line,rawInt (lamPos 0).col,.ref x9X1])) (k + 1) t1 c1' cvs cc ((gl,listOf gvs.toArray gc) :: ρ)):=news_pick [2,3,4,5,6,1,7,8,0] 9 N2
 clear N1' N2 F1 R
 refine G_good (told_spec (E:=noE) B F2 X T hd hu d1 hi h1 h2 rfl v0 v4 (by omega) (by omega) (Z.ne 0 1 rfl) (Z.ne 0 3 rfl) ?w N2' ?_)
 case w=>exact ⟨(Z.ne 0 4 rfl).symm,(Z.ne 0 5 rfl).symm,(Z.ne 0 6 rfl).symm,(Z.ne 0 7 rfl).symm,(Z.ne 0 2 rfl).symm,R' 0 rfl⟩
 intro u tu t3 c3' h3' tk3 hu3 F3 N3
 clear N2' F2
 have gf:=gs2_facts v0 v4
 refine G_cons (cover2_spec B F3 X T hd hu (.tail _ (.tail _ (.tail _ (.tail _ (.tail _ (.head _)))))) d4' (.tail _ (.tail _ (.tail _ (.tail _ (.tail _ (.tail _ (.tail _ (.tail _ (.head _))))))))) (gs:=gs2 v) hiv (by have:=gf.1;omega) gf.2.1 gf.2.2.1 gf.2.2.2 N3 ?_)
 intro b tb h4' tk4 hb _ F4 N4
 clear N3 F3
 refine G_good (begin_spec (E:=noE) B F4 X T hd hu rfl rfl hb (by rw [cov8_len];have:=gf.1;omega) N4 v0 v4 ?_)
 intro tn h5' tk5 F5 N5
 exact hret (fun y=>if y = "begin" then some (.int (6 + 4 * v + (cov8 (gs2 v)).length) tn) else if y = "cover" then some (.bytes b tb) else if y = "told_count" then some (.int u tu) else if y = "count" then some (.int v tg) else m y) h5' tk5 v u tg tu tb tn gl gvs gc o4' b t3 c3' R' v0 v4 (by omega) (by omega) hiv d4' rfl rfl rfl hb rfl F5 N5
theorem u89 : upto 89:=hk @c_88 u88 (by with_unfolding_all exact rfl)
open kc in
theorem partC {w p loose mean mg mb dp un a A₀ base h₀ L m s QX2 C S cvs tX1 c1 c2 c3 c4 c5 o1 o2 o3 o4 o5 restX2 x9X1 ρ} : s_88 w p loose mean mg mb dp un a A₀ base h₀ L m s QX2 C S cvs tX1 c1 c2 c3 c4 c5 o1 o2 o3 o4 o5 restX2 x9X1 ρ:=@hkT _ u89 (by k_extra "T") _ (by exact rfl)
end NW43
theorem dNW43 : True:=trivial
section NW44
theorem lnNW44_1 : True:=by
 k_with "call ref" => ((fail_if_success have:=dNW44);first | k_extra "L13" | fail)
 exact True.intro
open kc in
theorem c_89 : s_89 w p loose mean mg mb dp un a A₀ base h₀ L m s t2 tb QX2 C S cvs tX1 c1 c2 c3 c4 c5 o1 tg o2 o3 o4 o5 restX2 tu x9X1 ρ tn:=by
 intro B F X T hd hu cc c cl9 k v u bg b b2 v2 Z d1 hi h1 h2 R k0 k1 v0 v4 u0 u5 hc ht hcv hb hbg ebg d2 hv2 hb2 d3 N hret
 have cl8 : (cov8 (gs2 v)).length = 4 + 2 * (gs2 v).length:=cov8_len _
 have gf:=gs2_facts v0 v4
 refine G_good (made_spec (E:=noE) B F X T hd hu d1 hi h1 h2 hc ht v0 v4 u0 u5 k0 (by omega) (Z.ne 0 1 rfl) (Z.ne 0 3 rfl) ?w N ?_)
 case w=>exact ⟨(Z.ne 0 4 rfl).symm,(Z.ne 0 5 rfl).symm,(Z.ne 0 6 rfl).symm,(Z.ne 0 7 rfl).symm,(Z.ne 0 2 rfl).symm,R 0 rfl⟩
 intro f M mvs mc t1 c1' h1' tk1 hf him F1 N1 oM
 have sM : @Ne Nat S M:=led_off oM 0 rfl
 have N1' : News h₀ L h1' ((c1,o1) :: (S,srcObj C (k + 1) t1 c1') :: (C,listOf cvs.toArray cc) :: (M,listOf mvs.toArray mc) :: (c2,o2) :: (c3,o3) :: (c4,o4) :: (c5,o5) :: (534,tabObj (#[] ++ #[rawInt (lamPos 0).line,rawInt (lamPos 0).col,.ref x9X1])) :: ρ):=news_pick [1,2,3,0] 4 N1
 clear N N1 F oM
 refine G_good (offs_spec B F1 X T hd hu d1 hi h1 h2 (v:=v) (tv:=tg) (by exact hc) v0 v4 (bg:=bg) (tb:=tn) (by exact hbg) (by omega) (by omega) rfl him (by show 6 < 100;decide) sM (by omega) (by omega) (Z.ne 0 1 rfl) (Z.ne 0 3 rfl) ?w N1' ?_)
 case w=>exact ⟨(Z.ne 0 4 rfl).symm,(Z.ne 0 5 rfl).symm,(Z.ne 0 6 rfl).symm,(Z.ne 0 7 rfl).symm,(Z.ne 0 2 rfl).symm,R 0 rfl⟩
 intro m2 h2' tk2 nl hm2 hJ F2 N2
 refine ex6 hJ fun t2' c2' M2 mvs2 mc2 os q9=>an6 q9 fun e90 hM2 hi2 hol hoi sM2=>?_
 clear q9 hJ
 subst e90
 clear N1' F1
 have hol' : (os.length : Int) = 4 * v:=by omega
 refine G_good (cov_cat_spec (E:=noE) B F2 X T hd hu (b:=b) (tb:=tb) ((hm2 "cover" (by decide) rfl).trans hcv) hb (by omega) hM2 (.tail _ (.tail _ (.tail _ (.head _)))) hi2 (by simp only [List.length_append,List.length_cons,List.length_nil];omega) N2 ?_)
 intro M3 mvs3 mc3 h3' tk3 hi3 F3 N3 oM3
 have sM3 : @Ne Nat S M3:=oM3.2.1
 have N3' : News h₀ L h3' ((c1,o1) :: (S,srcObj C (k + 1 + 1 * ((2 * v).toNat : Int)) t2' c2') :: (C,listOf cvs.toArray cc) :: (M3,listOf mvs3.toArray mc3) :: (c2,o2) :: (c3,o3) :: (c4,o4) :: (c5,o5) :: (534,tabObj (#[] ++ #[rawInt (lamPos 0).line,rawInt (lamPos 0).col,.ref x9X1])) :: ρ):=news_pick [1,2,3,0] 5 N3
 clear N2 N3 F2 oM3
 refine G_good (ancs_spec B F3 X T hd hu d1 hi h1 h2 rfl hi3 (by simp only [List.length_append,List.length_cons,List.length_nil];omega) sM3 (by omega) (by omega) (Z.ne 0 1 rfl) (Z.ne 0 3 rfl) ?w (Z.ne 1 3 rfl) N3' ?_)
 case w=>exact ⟨(Z.ne 0 4 rfl).symm,(Z.ne 0 5 rfl).symm,(Z.ne 0 6 rfl).symm,(Z.ne 0 7 rfl).symm,(Z.ne 0 2 rfl).symm,R 0 rfl⟩
 intro m4 h4' tk4 nl4 hm4 hJ4 F4 N4
 refine ex6 hJ4 fun t4' c4' M4 mvs4 mc4 es q9=>an6 q9 fun e90 hM4 hi4 hel hei sM4=>?_
 clear q9 hJ4
 subst e90
 have hel' : es.length = 20:=by omega
 have ml:=made_len (f:=f) (u:=u) hol' hel' v0 v4
 have y3 : @Ne Nat c3 M4:=News.twoPlaces N4 (p:=(c3,o3)) (q:=(M4,listOf mvs4.toArray mc4)) (.tail _ (.tail _ (.tail _ (.tail _ (.tail _ (.head _)))))) (.tail _ (.tail _ (.tail _ (.head _)))) fun e=>by
  have e' : o3 = listOf mvs4.toArray mc4:=e
  rw [e'] at d3
  exact absurd d3 (by intro e9;exact nomatch e9)
 have N4' : News h₀ L h4' ((c1,o1) :: (S,srcObj C (k + 1 + 1 * ((2 * v).toNat : Int) + 9 * ((2 : Nat) : Int)) t4' c4') :: (C,listOf cvs.toArray cc) :: (c3,o3) :: (c2,o2) :: (M4,listOf mvs4.toArray mc4) :: (c4,o4) :: (c5,o5) :: (534,tabObj (#[] ++ #[rawInt (lamPos 0).line,rawInt (lamPos 0).col,.ref x9X1])) :: ρ):=news_pick [0,1,2,5,4,3] 6 N4
 clear N3' N4 F3
 have kl : (List.replicate v2 (9 : Int)).length = v2:=List.length_replicate
 refine G_good (data_spec (E:=noE) B F4 X T hd hu d1 hi h1 h2 hM4 (ks:=made v f u os es) hi4 (by omega) (by omega) (made_in hf u0 u5 v0 v4 hoi hei hb) d2 hb2 (by rw [kl];omega) d3 ?w3 (Z.ne 3 5 rfl).symm (Z.ne 0 5 rfl).symm (Z.ne 1 5 rfl).symm (Z.ne 4 5 rfl).symm y3 (Z.ne 0 5 rfl) (Z.ne 0 4 rfl) sM4 (by omega) (by omega) (Z.ne 0 1 rfl) (Z.ne 0 3 rfl) ?w1 N4' ?_)
 case w3=>exact ⟨(Z.ne 5 6 rfl).symm,(Z.ne 5 7 rfl).symm,(Z.ne 2 5 rfl),R 5 rfl⟩
 case w1=>exact ⟨(Z.ne 0 6 rfl).symm,(Z.ne 0 7 rfl).symm,(Z.ne 0 2 rfl).symm,R 0 rfl⟩
 intro cut b3 t3 k5 t5 c5' o3' h5' tk5 hcut hb3 d3' F5 N5
 exact hret m4 h5' tk5 f os es cut b3 t3 o3' hol' hel' hcut hb3 d3' F5 (news_pick [8,4,3,6] 9 N5)
theorem u90 : upto 90:=hk @c_89 u89 (by with_unfolding_all exact rfl)
open kc in
theorem partD9 {w p loose mean mg mb dp un a A₀ base h₀ L m s t2 tb QX2 C S cvs tX1 c1 c2 c3 c4 c5 o1 tg o2 o3 o4 o5 restX2 tu x9X1 ρ tn} : s_89 w p loose mean mg mb dp un a A₀ base h₀ L m s t2 tb QX2 C S cvs tX1 c1 c2 c3 c4 c5 o1 tg o2 o3 o4 o5 restX2 tu x9X1 ρ tn:=@hkT _ u90 (by k_extra "T") _ (by exact rfl)
theorem partE {w : World} {p : Program} {loose : List Str} {mean : ExcName→Option Value} {mg mb : Str→Option Value}
  {dp un : Nat} {a c1 c2 c3 c4 c5 : Addr} {A₀ : Around} {base h₀ : Heap} {L : Addr} {m : Str→Option Value} {s : Shared}
  {Q : Flow→Shared→Prop}
  (B : Below A₀ base [] h₀) (F : Fr h₀ L s.heap m) (X : (hd.heap_1 w.params).In h₀) (T : Top p loose mean mg mb h₀) (hd : dp + 40 < recursionLimit) (hu : un + 400 < cLine) {S C : Addr} {o2 o3 o4 : Obj} {x9 gl : Addr} {gvs : List Value} {gc : Nat} {rest : List Stmt} {v f u : Int} {os es : List Int} {cut v2 : Nat} {b2 b3 : Array UInt8} {t2 t3 : Tok} (Z : SepS c1 c2 c3 c4 c5 S C) (CH : CodeHd h₀ 536 534) (hgl : @Ne Nat 534 gl) (v0 : 0 ≤ v) (v4 : v < 4) (hol : (os.length : Int) = 4 * v) (hel : es.length = 20) (hcut : cut < 20) (hb3 : KBw.bInts b3 = List.replicate v2 9 ++ (made v f u os es).take ((made v f u os es).length - cut)) (hv2 : v2 < 3) (hb2 : KBw.bInts b2 = List.replicate v2 9)
  (d2 : o2.data = .cell (some (.bytes b2 t2))) (d3 : o3.data = .cell (some (.bytes b3 t3))) (d4 : o4.data = .cell (some (.ref gl))) (hiv : IntsAre gvs (gs2 v))
  (N : News h₀ L s.heap [(534,tabObj (#[] ++ #[rawInt (lamPos 0).line,rawInt (lamPos 0).col,.ref x9])),(c2,o2),(c3,o3),(c4,o4),(gl,listOf gvs.toArray gc)])
  (hret : ∀ (m' : Str→Option Value) (h' : Heap) (tk' : Tok),Fr h₀ L h' m'→GrownAt 534 h'→Q (.ret (.bool true)) { s with heap:=h',toks:=tk'}) :
  wpG (model pw_nu0185_01 w) (ktrTop dp un (some []) "law" lawScope L a (.ref 536) [("octets",c5),("glyphs",c4),("data",c3),("ahead",c2),("source",c1)] []) (execs (lawSt 23 :: lawSt 24 :: rest) (envX "law" lawScope L a (.ref 536) [("octets",c5),("glyphs",c4),("data",c3),("ahead",c2),("source",c1)])) Q s:=by
 refine an2 (tab2 hol hel hcut v0 v4 (ka:=List.replicate v2 9) (f:=f) (u:=u) rfl) fun q1 q2=>?_
 have gf:=gs2_facts v0 v4
 have ml:=made_len (f:=f) (u:=u) hol hel v0 v4
 have kl : (List.replicate v2 (9 : Int)).length = v2:=List.length_replicate
 have ol : (List.replicate v2 (9 : Int) ++ (made v f u os es).take ((made v f u os es).length - cut)).length < 2 ^ 20:=by
  rw [List.length_append,kl]
  have:=List.length_take_le ((made v f u os es).length - cut) (made v f u os es)
  exact Nat.lt_of_lt_of_le (show _ < 100 by omega) (by decide)
 have z2 : (List.replicate v2 (9 : Int)).length < 2 ^ 18:=by rw [kl];exact Nat.lt_of_lt_of_le hv2 (by decide)
 have w9 : LCg.Off1 534 [(c2,o2),(c3,o3),(c4,o4),(gl,listOf gvs.toArray gc)]:=⟨(Z.ne 2 4 rfl).symm,(Z.ne 2 5 rfl).symm,(Z.ne 2 6 rfl).symm,hgl.symm,trivial⟩
 refine G_good (read_spec (E:=noE) B F X T hd hu CH w9 N (.head _) d2 (.tail _ (.head _)) d3 hb2 hb3 z2 ol (gs:=gs2 v) (by have:=gf.1;omega) q1 q2 gf.2.1 ?_)
 intro r τ x8 h1' tk1 dr oτ F1 N1
 clear N F
 refine G_good (last_spec (E:=noE) B F1 X T hd hu CH (off1_app oτ w9) rfl dr (fun p hp=>List.mem_append_left _ hp) N1 (List.mem_append_right _ (.head _)) d2 (List.mem_append_right _ (.tail _ (.head _))) d3 (List.mem_append_right _ (.tail _ (.tail _ (.head _)))) d4 (List.mem_append_right _ (.tail _ (.tail _ (.tail _ (.head _))))) (gs:=gs2 v) hiv hb2 hb3 z2 ol (by have:=gf.1;omega) q1 ?_)
 intro h2' tk2 F2 G2
 exact hret _ h2' tk2 F2 G2
end NW44
theorem dNW44 : True:=trivial
section NW45
theorem lnNW45_1 : True:=by
 k_with "call ref" => ((fail_if_success have:=dNW45);first | k_extra "L13" | fail)
 exact True.intro
theorem lawBody_eq : lawBody = [lawSt 0,lawSt 1,lawSt 2,lawSt 3,lawSt 4,lawSt 5,lawSt 6,lawSt 7,lawSt 8,lawSt 9,lawSt 10,lawSt 11,lawSt 12,lawSt 13,lawSt 14,lawSt 15,lawSt 16,lawSt 17,lawSt 18,lawSt 19,lawSt 20,lawSt 21,lawSt 22,lawSt 23,lawSt 24]:=rfl
theorem law_walk {w : World} {p : Program} {loose : List Str} {mean : ExcName→Option Value} {mg mb : Str→Option Value}
  {dp un : Nat} {a c1 c2 c3 c4 c5 : Addr} {A₀ : Around} {base h₀ : Heap} {L : Addr} {m : Str→Option Value} {s : Shared}
  {Q : Flow→Shared→Prop}
  (B : Below A₀ base [] h₀) (F : Fr h₀ L s.heap m) (X : (hd.heap_1 w.params).In h₀) (T : Top p loose mean mg mb h₀) (hd : dp + 40 < recursionLimit) (hu : un + 400 < cLine) {o1 o2 o3 o4 o5 : Obj} {sc : Addr} {vs : List Value} {ns : List Int} (hm : m "script" = some (.ref sc)) (hs : h₀.IsList sc vs.toArray) (hi : IntsAre vs ns) (hn : ns.length ≤ 63) (CH : CodeHd h₀ 536 534) (d1 : o1.data = .cell none) (d2 : o2.data = .cell none) (d3 : o3.data = .cell none) (d4 : o4.data = .cell none) (d5 : o5.data = .cell none) (a1 : @LT.lt Nat _ 534 c1) (a2 : @LT.lt Nat _ c1 c2) (a3 : @LT.lt Nat _ c2 c3) (a4 : @LT.lt Nat _ c3 c4) (a5 : @LT.lt Nat _ c4 c5)
  (N : News h₀ L s.heap [(c1,o1),(c2,o2),(c3,o3),(c4,o4),(c5,o5),(534,tabObj #[])])
  (hret : ∀ (m' : Str→Option Value) (h' : Heap) (tk' : Tok) (d : Drawn),Fr h₀ L h' m'→GrownAt 534 h'→Q (.ret (.bool true)) { s with heap:=h',toks:=tk',drawn:=d}) :
  wpG (model pw_nu0185_01 w) (ktrTop dp un (some []) "law" lawScope L a (.ref 536) [("octets",c5),("glyphs",c4),("data",c3),("ahead",c2),("source",c1)] []) (execs lawBody (envX "law" lawScope L a (.ref 536) [("octets",c5),("glyphs",c4),("data",c3),("ahead",c2),("source",c1)])) Q s:=by
 rw [lawBody_eq]
 refine partA B F X T hd hu hm hs hi hn d1 a1 a2 a3 a4 a5 N ?_
 intro m1 g1 u1 S C cvs cc cl9 o1' k t c D oD du kvs dvs n τ rows Z R hic q1 q2 e1 k0 k1 mE mD hdi hlo hR hda hrl hL F1 N1
 refine partB1 B F1 X T hd hu Z e1 hic q1 q2 R k0 k1 mE hdi hlo hR hda hrl hL d5 d2 N1 ?_
 intro m2 g2 u2 x dx kt b5 t5 cov ps o5' b2 t2 v2 o2' t' c' R2 mT mD2 hcov hEb htab e5 hv2 hb2 e2 F2 N2
 refine partB2 (kvs:=kvs) (cl9:=cl9) B F2 X T hd hu R2 (mD2.trans mD) hda hrl hL N2 ?_
 intro m3 g3 u3 P Sp oP oSp b9 R3 mT3 mD3 mS hb9 hB9 F3 N3
 refine partB3 (cl9:=cl9) B F3 X T hd hu Z CH R3 (mT3.trans mT) (mD3.trans (mD2.trans mD)) mS hdi hlo hR hda hrl hL hb9 hB9 hcov hEb htab e5 hv2 hb2 e2 N3 ?_
 intro g4 u4 d x9 F4 N4
 refine partC B F4 X T hd hu Z e1 hic q1 q2 R3 (by omega) (by omega) d4 N4 ?_
 intro m5 g5 u5 v u tg tu tb tn gl gvs gc o4' b t5' c5' R5 v0 v4 u0 u5' hiv e4 mc mt mcv hb mbg F5 N5
 refine partD9 B F5 X T hd hu Z e1 hic q1 q2 R5 (by omega) (by omega) v0 v4 u0 u5' mc mt mcv hb mbg rfl e2 hv2 hb2 d3 N5 ?_
 intro m6 g6 u6 f os es cut b3 t3 o3' hol hel hcut hb3 e3 F6 N6
 have N7 : News h₀ L g6 [(534,tabObj (#[] ++ #[rawInt (lamPos 0).line,rawInt (lamPos 0).col,.ref x9])),(c2,o2'),(c3,o3'),(c4,o4'),(gl,listOf gvs.toArray gc)]:=news_sub N6 fun p hp=>by
  simp only [List.mem_cons,List.not_mem_nil,or_false] at hp ⊢
  rcases hp with h | h | h | h | h <;> simp [h]
 refine partE B F6 X T hd hu Z CH (R5 2 rfl).1.symm v0 v4 hol hel hcut hb3 hv2 hb2 e2 e3 e4 hiv N7 ?_
 intro m7 g7 u7 F7 G7
 exact hret m7 g7 u7 d F7 G7
end NW45
theorem dNW45 : True:=trivial
section NH2
open PySem.Calls
theorem enter_law {w : World} {s : Shared} {fa : Addr} {o : Obj} {pm doc : Value} {p : Program} {loose : List Str} {mean : ExcName→Option Value} {mg mb : Str→Option Value} {R : Result→Shared→Prop}
  (ho : s.heap.get? fa = some o) (hfd : o.data = .func (docDef "law" lawParams lawBody lawScope pm (.ref 536) doc)) (hcd : s.heap.CodeRec (.ref 536) "law") (T : Top p loose mean mg mb s.heap) (X : (hd.heap_1 w.params).In s.heap) (hT : TabsAt [(536,534)] s.heap)
  {sc : Addr} {vs : List Value} {ns : List Int} (hs : s.heap.IsList sc vs.toArray) (hi : IntsAre vs ns) (hn : ns.length ≤ 63)
  (hret : ∀ h' tk' d L m',Fr (ghostOf s.heap [(536,534)]) L h' m'→GrownAt 534 h'→R (.ok (.ret (.bool true))) { s with heap:=h',toks:=tk',drawn:=d}) :
  codeG (model pw_nu0185_01 w) callerA (.call (.ref fa) ⟨[.ref sc],[]⟩) R s:=by
 refine codeG_call_function (by decide) ho hfd rfl rfl rfl hcd (wpAny_of_eq (a:=[(Str.ofString "script",Value.ref sc)]) rfl ?_)
 refine wpAny_newFunctionEnv_cells rfl (kinds_of (by kinds_ok)) fun env he s' x=>?_
 subst he
 refine ⟨T.nolimit.keeps x.toInCall.keep,codeG_func ?_⟩
 refine ex2 (x.done) fun h₁ tk q9=>an2 q9 fun e92 _=>?_
 clear q9
 subst e92
 have F0 : Fr s.heap s.heap.objs.size h₁ _:=⟨x.toInCall.ns,x.toInCall.keep,x.toInCall.fresh⟩
 have hnd : ((cellsFrom 0 lawScope.names []).map (·.1)).Nodup:=by decide
 refine ex1 (Cl.news (h₀:=s.heap) (Nat.le_refl _) fun n c hm=>⟨x.cell n c (lookup_of_mem_nodup (cellsFrom_names lawScope.names 0 (s.heap.objs.size + 1) [] [] rfl ▸ hnd) hm),x.above n c hm⟩) fun cells q9=>an2 q9 fun N0 Y=>?_
 clear q9
 refine ex5 (kc_five (n₁ := "octets") (n₂ := "glyphs") (n₃ := "data") (n₄ := "ahead") (n₅ := "source") Y) fun o5 o4 o3 o2 o1 q9=>an6 q9 fun e95 e5 e4 e3 e2 e1=>?_
 clear q9
 subst e95
 have l0 : @LT.lt Nat _ 534 s.heap.objs.size:=ghost_lt hT F0 (534,tabObj #[]) (.head _)
 have N' : News (ghostOf s.heap [(536,534)]) s.heap.objs.size h₁ [(s.heap.objs.size + 1,o1),(s.heap.objs.size + 2,o2),(s.heap.objs.size + 3,o3),(s.heap.objs.size + 4,o4),(s.heap.objs.size + 5,o5),(534,tabObj #[])]:=news_sub (ghost_news hT F0 N0) fun p hp=>by
  simp only [List.mem_cons,List.not_mem_nil,or_false] at hp
  show p ∈ [_,_,_,_,_,_]
  simp only [List.mem_cons,List.not_mem_nil,or_false]
  rcases hp with h | h | h | h | h | h <;> simp [h]
 have C':=ghost_code hT
 refine law_walk (ghost_below hT) (ghost_fr hT F0) (ghost_K hT X (by kernel_rfl)) (ghost_top hT T) (by decide) (by decide) (sc:=sc) rfl (ghost_list hT hs) hi hn C'.1 (e1.trans rfl) (e2.trans rfl) (e3.trans rfl) (e4.trans rfl) (e5.trans rfl) ?_ ?_ ?_ ?_ ?_ N' ?_
 ·exact Nat.lt_succ_of_lt l0
 ·exact Nat.lt_succ_self _
 ·exact Nat.lt_succ_self _
 ·exact Nat.lt_succ_self _
 ·exact Nat.lt_succ_self _
 intro m' h' tk' d F' G'
 exact hret h' tk' d _ m' F' G'
theorem good_law {c : ClaimW} {cl : Str→Option Addr} {mean : ExcName→Option Value} {args : List WData} {s₁ : Shared} {h' : Heap} {tk' : Tok} {d : Drawn} {L : Addr} {m' : Str→Option Value}
  (hT : TabsAt [(536,534)] s₁.heap) (F : Fr (ghostOf s₁.heap [(536,534)]) L h' m') (G : GrownAt 534 h') (hg : s₁.gens = #[]) (hr : ∀ x,c.raises args x = false) (hp : c.post args (.bool true) args = true) :
  GoodWG c cl mean args s₁ (.ok (.ret (.bool true))) { s₁ with heap:=h',toks:=tk',drawn:=d}:=by
 refine ex1 G fun ps hP=>?_
 clear G
 have h0:=hT (536,534) (.head _)
 have keep : ∀ b o,b ≠ 534→s₁.heap.get? b = some o→h'.get? b = some o:=fun b o hb e=>F.keep b o (ghost_ne e fun q=>hb (List.mem_singleton.mp q))
 refine ⟨.inl (ei3 (.bool true) (.bool true) [] ⟨rfl,hr,.bool true,hp,fun _=>⟨.nil,fun a ha=>nomatch ha⟩⟩),⟨fun b o e=>?_,fun b o e=>?_⟩,rfl,.of_eq hg⟩
 ·by_cases hb : b = 534
  ·subst hb
   have e2 : o = tabObj #[]:=Option.some.inj (e.symm.trans h0.2)
   subst e2
   exact .inr (.inl ⟨(h0.1.tab h0.2).isCodeTable,rfl,#[],ps,rfl,by rw [Array.empty_append];exact hP⟩)
  ·exact .inl (keep b o hb e)
 ·by_cases hb : b = 534
  ·exact ⟨_,hb ▸ hP⟩
  ·exact ⟨o,keep b o hb e⟩
theorem post_law (args : List WData) : PySem.Challenge.rw_nu0185_01.row.claim.post args (.bool true) args = true:=postW_of (X:=true) rfl (by wtm_val) rfl
end NH2
namespace top
theorem tw16900427199656544559:True:=⟨⟩
theorem tw1139600151236580504:True:=⟨⟩
theorem tw18085771088847121727:True:=⟨⟩
theorem tw8107780213005350392:True:=⟨⟩
theorem tw6240723676877644813:True:=⟨⟩
theorem tw8237333600419904120:True:=⟨⟩
theorem tw4134505453457115739:True:=⟨⟩
theorem tw10005945817407372193:True:=⟨⟩
theorem tw10915162052029792233:True:=⟨⟩
theorem tw10936122117785486979:True:=⟨⟩
theorem tw13177472732611162249:True:=⟨⟩
theorem tw7444641836354208208:True:=⟨⟩
theorem tw18289109515434150305:True:=⟨⟩
theorem tw15286249088069653756:True:=⟨⟩
theorem tw15177526630643400193:True:=⟨⟩
theorem tw15095372191486117680:True:=⟨⟩
theorem tw4058662728301269685:True:=⟨⟩
theorem tw14168018189251442112:True:=⟨⟩
theorem tw9305691244287143441:True:=⟨⟩
theorem tw1516213087968936877:True:=⟨⟩
theorem tw8148004212497801138:True:=⟨⟩
theorem tw2377541652452675900:True:=⟨⟩
theorem tw8874702517807110003:True:=⟨⟩
theorem tw17093978387232202294:True:=⟨⟩
theorem tw6694047246710070196:True:=⟨⟩
theorem tw17620759639134147866:True:=⟨⟩
theorem tw3254097082911018636:True:=⟨⟩
theorem tw5118827330378232414:True:=⟨⟩
theorem tw12094960947251128927:True:=⟨⟩
theorem tw6124053682588569230:True:=⟨⟩
theorem tw7990429038631628895:True:=⟨⟩
theorem tw339143206060000330:True:=⟨⟩
theorem tw7681529838311687354:True:=⟨⟩
theorem tw1212798325632107971:True:=⟨⟩
theorem tw17470836177267949868:True:=⟨⟩
theorem tw16054190913257422852:True:=⟨⟩
theorem tw15245507539482535896:True:=⟨⟩
theorem tw11546936639936008217:True:=⟨⟩
theorem tw17219337458794519322:True:=⟨⟩
theorem tw4655869559712951663:True:=⟨⟩
theorem tw13799840507378627052:True:=⟨⟩
theorem tw17492772389151264855:True:=⟨⟩
theorem tw4498253355057717688:True:=⟨⟩
theorem tw16541100652227675460:True:=⟨⟩
theorem tw4940147422707163885:True:=⟨⟩
theorem tw3584897518013459382:True:=⟨⟩
theorem tw53344730913325255:True:=⟨⟩
theorem tw10797620697341660853:True:=⟨⟩
theorem tw6749217079512962374:True:=⟨⟩
theorem tw12012865196380796599:True:=⟨⟩
theorem tw15361541807878343388:True:=⟨⟩
theorem tw10574840078274726829:True:=⟨⟩
theorem tw16597617366809209970:True:=⟨⟩
theorem tw7743179893348639699:True:=⟨⟩
theorem tw4828031223510198475:True:=⟨⟩
theorem tw15878805988109762761:True:=⟨⟩
theorem tw5983031951866500094:True:=⟨⟩
theorem tw708234853630380328:True:=⟨⟩
theorem tw47109162367338493:True:=⟨⟩
theorem tw11141966352661209427:True:=⟨⟩
theorem tw5058314954733539658:True:=⟨⟩
theorem tw84136930442132756:True:=⟨⟩
theorem tw9919435345466941130:True:=⟨⟩
theorem tw1112988674713690477:True:=⟨⟩
theorem tw8973803690348224638:True:=⟨⟩
theorem tw14537839394382259888:True:=⟨⟩
theorem tw14362091140292187700:True:=⟨⟩
theorem tw17103585973383926153:True:=⟨⟩
theorem tw8204474986945543665:True:=⟨⟩
theorem tw13272337422414781067:True:=⟨⟩
theorem tw11426215844183674140:True:=⟨⟩
theorem tw8882320203270068251:True:=⟨⟩
theorem tw13223034962123697568:True:=⟨⟩
theorem tw16453443671601555132:True:=⟨⟩
theorem tw13370750898655102155:True:=⟨⟩
theorem tw2007660962349395123:True:=⟨⟩
theorem tw5105846836358774362:True:=⟨⟩
theorem tw10956490626425055710:True:=⟨⟩
theorem tw12622177474791663080:True:=⟨⟩
theorem tw16878204669230926818:True:=⟨⟩
theorem tw13420762306968818387:True:=⟨⟩
theorem tw104434173382791472:True:=⟨⟩
theorem tw16976566692861417025:True:=⟨⟩
theorem tw2514443458684651071:True:=⟨⟩
theorem tw6761616313442571491:True:=⟨⟩
theorem tw13994475860397038760:True:=⟨⟩
theorem tw5225916559131626549:True:=⟨⟩
theorem tw10195997230039290492:True:=⟨⟩
theorem tw13489823928278403265:True:=⟨⟩
theorem tw3796891538752321733:True:=⟨⟩
theorem tw17343052467700966135:True:=⟨⟩
theorem tw6885214360128481674:True:=⟨⟩
theorem tw18064794426631996164:True:=⟨⟩
theorem tw16550210197400561554:True:=⟨⟩
theorem tw9229161468869434483:True:=⟨⟩
theorem tw6430265229019958763:True:=⟨⟩
theorem tw2506305409684761478:True:=⟨⟩
theorem tw11199710921928265848:True:=⟨⟩
theorem tw2665807947273092163:True:=⟨⟩
theorem tw2835187731363253809:True:=⟨⟩
theorem tw6906291655842520137:True:=⟨⟩
theorem tw8140125068956082859:True:=⟨⟩
theorem tw9233715247699887402:True:=⟨⟩
theorem tw1655259298481077034:True:=⟨⟩
theorem tw17177869089781658578:True:=⟨⟩
theorem tw6187478851450931391:True:=⟨⟩
theorem tw4835499133494076262:True:=⟨⟩
theorem tw9951221954081769418:True:=⟨⟩
theorem tw2741389259953327712:True:=⟨⟩
theorem tw1833847959688406909:True:=⟨⟩
theorem tw2722852734226103192:True:=⟨⟩
theorem tw1483126911874232274:True:=⟨⟩
theorem tw6491118196486620199:True:=⟨⟩
theorem tw8929586498138333240:True:=⟨⟩
theorem tw4047667213573674445:True:=⟨⟩
theorem tw8598144960395782539:True:=⟨⟩
theorem tw2812155379371279736:True:=⟨⟩
theorem tw5245862010334584759:True:=⟨⟩
theorem tw2464713573024523455:True:=⟨⟩
theorem tw17342085116792181814:True:=⟨⟩
theorem tw352232786441526191:True:=⟨⟩
theorem tw8321918168302905379:True:=⟨⟩
theorem tw11199532085631943738:True:=⟨⟩
theorem tw7458633546980236471:True:=⟨⟩
theorem tw11423202765487971197:True:=⟨⟩
theorem tw2683898200743741643:True:=⟨⟩
theorem tw13134186033006778460:True:=⟨⟩
theorem tw3207569582813703071:True:=⟨⟩
theorem tw10567129059001840431:True:=⟨⟩
theorem tw279221788311839977:True:=⟨⟩
theorem tw14826035006057030972:True:=⟨⟩
theorem tw14497843121051180596:True:=⟨⟩
theorem tw17469865338272021226:True:=⟨⟩
theorem tw15860264024139754761:True:=⟨⟩
theorem tw13710211086531791108:True:=⟨⟩
theorem tw1294077662247117797:True:=⟨⟩
theorem tw1869187583165140508:True:=⟨⟩
theorem tw9059832203979395877:True:=⟨⟩
theorem tw5581607755468803823:True:=⟨⟩
theorem tw4205137553216949640:True:=⟨⟩
theorem tw9892616901177910922:True:=⟨⟩
theorem tw16439428074185983240:True:=⟨⟩
theorem tw146815374380898660:True:=⟨⟩
theorem tw3474246075231452896:True:=⟨⟩
theorem tw13799461683286626464:True:=⟨⟩
theorem tw10540892591176069717:True:=⟨⟩
theorem tw6973401727384321114:True:=⟨⟩
theorem tw13822267516522204269:True:=⟨⟩
theorem tw3378803678994701225:True:=⟨⟩
theorem tw11520865232209809239:True:=⟨⟩
theorem tw16273406610938067001:True:=⟨⟩
theorem tw12166907935582030026:True:=⟨⟩
theorem tw12376051458212225564:True:=⟨⟩
theorem tw5733063073192568914:True:=⟨⟩
theorem tw13303987763403120937:True:=⟨⟩
theorem tw13307591127769906961:True:=⟨⟩
theorem tw13119961896220762611:True:=⟨⟩
theorem tw17089494485692210459:True:=⟨⟩
theorem tw15299407806266782574:True:=⟨⟩
theorem tw7673058066778466091:True:=⟨⟩
theorem tw7414872774492366064:True:=⟨⟩
theorem tw1068965626710143233:True:=⟨⟩
theorem tw2555065506035805374:True:=⟨⟩
theorem tw12483720753089274532:True:=⟨⟩
theorem tw5244899138074338376:True:=⟨⟩
theorem tw12105128591322288922:True:=⟨⟩
theorem tw10648311167861321448:True:=⟨⟩
theorem tw381845443943030031:True:=⟨⟩
theorem tw15646934709686841381:True:=⟨⟩
theorem tw11960245374511038805:True:=⟨⟩
theorem tw6286779285267259847:True:=⟨⟩
theorem tw9759319705405543751:True:=⟨⟩
theorem tw7386116660499605909:True:=⟨⟩
theorem tw1142415686869020238:True:=⟨⟩
theorem tw9166809390415177425:True:=⟨⟩
theorem tw10783980745131425670:True:=⟨⟩
theorem tw16821654228018055803:True:=⟨⟩
theorem tw9059672392935016618:True:=⟨⟩
theorem tw8729362747519067210:True:=⟨⟩
theorem tw2017701886859681709:True:=⟨⟩
theorem tw12392516345856041104:True:=⟨⟩
theorem tw14615657086365298920:True:=⟨⟩
theorem tw9768079942903668216:True:=⟨⟩
theorem tw8538268897159353584:True:=⟨⟩
theorem tw7008692893051332821:True:=⟨⟩
theorem tw9378254376102152143:True:=⟨⟩
theorem tw9631074621892390191:True:=⟨⟩
theorem tw6211089042160764376:True:=⟨⟩
theorem tw7847650389618582240:True:=⟨⟩
theorem tw2727672472851901052:True:=⟨⟩
theorem tw13359135706311490777:True:=⟨⟩
theorem tw4736427724481360342:True:=⟨⟩
theorem tw16420938139371093754:True:=⟨⟩
theorem tw14349089067433371257:True:=⟨⟩
theorem tw4321519831107876412:True:=⟨⟩
theorem tw2462062305354472974:True:=⟨⟩
theorem tw13290321428070320777:True:=⟨⟩
theorem tw8184561461823581802:True:=⟨⟩
theorem tw5597187220613765494:True:=⟨⟩
theorem tw8435561252592420358:True:=⟨⟩
theorem tw14390669486469195807:True:=⟨⟩
theorem tw3789865389340226792:True:=⟨⟩
theorem tw5303079699428457377:True:=⟨⟩
theorem tw3776753064480771068:True:=⟨⟩
theorem tw9165953624949470791:True:=⟨⟩
theorem tw8410488445778877200:True:=⟨⟩
theorem tw3422688185749166683:True:=⟨⟩
theorem tw4076138812419527698:True:=⟨⟩
theorem tw13120753694373217308:True:=⟨⟩
theorem tw9227057690007400460:True:=⟨⟩
theorem tw16155163154822807229:True:=⟨⟩
theorem tw4656485037274611717:True:=⟨⟩
theorem tw2057334267981633021:True:=⟨⟩
theorem tw12643491718579748851:True:=⟨⟩
theorem tw5523086135645875356:True:=⟨⟩
theorem tw18034075008235765660:True:=⟨⟩
theorem tw15770624340871017967:True:=⟨⟩
theorem tw1088946173253831356:True:=⟨⟩
theorem tw12427389293880184781:True:=⟨⟩
theorem tw14608685727046917156:True:=⟨⟩
theorem tw15169761463676818070:True:=⟨⟩
theorem tw775762912060472103:True:=⟨⟩
theorem tw17953984050398360512:True:=⟨⟩
theorem tw15722756333993289495:True:=⟨⟩
theorem tw11334203419191126389:True:=⟨⟩
theorem tw3976154599441133093:True:=⟨⟩
theorem tw5155950481276406077:True:=⟨⟩
theorem tw3561193834555079511:True:=⟨⟩
theorem tw4597200072644226624:True:=⟨⟩
theorem tw9366391650621772374:True:=⟨⟩
theorem tw4671429814451907529:True:=⟨⟩
theorem tw4213018616267185653:True:=⟨⟩
theorem tw15918733279669447828:True:=⟨⟩
theorem tw6624316729101989866:True:=⟨⟩
theorem tw9601329371697537090:True:=⟨⟩
theorem tw18199699507294796123:True:=⟨⟩
theorem tw6196800358849779857:True:=⟨⟩
theorem tw4555866861457887817:True:=⟨⟩
theorem tw10341860258655708415:True:=⟨⟩
theorem tw297971269722091814:True:=⟨⟩
theorem tw2287823674025257028:True:=⟨⟩
theorem tw6127594578889010139:True:=⟨⟩
theorem tw728428047077509346:True:=⟨⟩
theorem tw14282377253939248939:True:=⟨⟩
theorem tw13044034144603486326:True:=⟨⟩
theorem tw4383139521930768336:True:=⟨⟩
theorem tw12819366960792805191:True:=⟨⟩
theorem tw14014627428706714315:True:=⟨⟩
theorem tw14987219478266130788:True:=⟨⟩
theorem tw11334350811105764591:True:=⟨⟩
theorem tw14632489290957082403:True:=⟨⟩
theorem tw16044733080236030384:True:=⟨⟩
theorem tw10548783162686979305:True:=⟨⟩
theorem tw575894324575664597:True:=⟨⟩
theorem tw1291508964198565346:True:=⟨⟩
theorem tw3484022092364678248:True:=⟨⟩
theorem tw17323899518341599180:True:=⟨⟩
theorem tw13090165191389475591:True:=⟨⟩
theorem tw16580785732701462914:True:=⟨⟩
theorem tw2145171640123136144:True:=⟨⟩
theorem tw14752393679130357309:True:=⟨⟩
theorem tw17886615442053742456:True:=⟨⟩
theorem tw12540527436937284434:True:=⟨⟩
theorem tw8363718466572441477:True:=⟨⟩
theorem tw17103177528636943170:True:=⟨⟩
theorem tw1585457916280141200:True:=⟨⟩
theorem tw788273225186049534:True:=⟨⟩
theorem tw9259421805112917234:True:=⟨⟩
theorem tw3730354652608582461:True:=⟨⟩
theorem tw10187264123177260123:True:=⟨⟩
theorem tw16352630495959832749:True:=⟨⟩
theorem tw8212240652046128837:True:=⟨⟩
theorem tw10008474027749305400:True:=⟨⟩
theorem tw13001836021917841797:True:=⟨⟩
theorem tw4392038535549328194:True:=⟨⟩
theorem tw390997316461189296:True:=⟨⟩
theorem tw17428532607074087071:True:=⟨⟩
theorem tw7313339093194340965:True:=⟨⟩
theorem tw10172462246102229377:True:=⟨⟩
theorem tw9195894827357321740:True:=⟨⟩
theorem tw342308947776675178:True:=⟨⟩
theorem tw8694864300669457046:True:=⟨⟩
theorem tw3195522803047326042:True:=⟨⟩
theorem tw12342655685612074800:True:=⟨⟩
theorem tw9361663168868926718:True:=⟨⟩
theorem tw1016984595167383106:True:=⟨⟩
theorem tw7830913209206220567:True:=⟨⟩
theorem tw6189502492464219833:True:=⟨⟩
theorem tw5969682004907312646:True:=⟨⟩
theorem tw9800703332001039478:True:=⟨⟩
theorem tw2907113945770861938:True:=⟨⟩
theorem tw6883741973766446791:True:=⟨⟩
theorem tw8311017846404947139:True:=⟨⟩
theorem tw1492452104121835379:True:=⟨⟩
theorem tw10801874191123338550:True:=⟨⟩
theorem tw2878843996050045342:True:=⟨⟩
theorem tw13264354339760550358:True:=⟨⟩
theorem tw4713442408853163898:True:=⟨⟩
theorem tw1617357707322924660:True:=⟨⟩
theorem tw501154541418245514:True:=⟨⟩
theorem tw12958664272152378060:True:=⟨⟩
theorem tw1736530178072539846:True:=⟨⟩
theorem tw12718909917080609646:True:=⟨⟩
theorem tw8523463495250067690:True:=⟨⟩
theorem tw11334415319851112604:True:=⟨⟩
theorem tw1400011881503588481:True:=⟨⟩
end top
set_option Elab.async true
set_option maxHeartbeats 0
theorem top : rw_nu0185_01.Holds:=by
 w_on
 o_law
 k_head
 (case hw=>w_witness2)
 k_fill
 intro w s₀ s₁ mg mb G Y fa o pm cd doc dV kV ho hd hcd hD hmg hg args vals as hpre hlay hrd hwl hlo
 have KX:=km_in_of Y
 km_tabs Y
 refine Ground.open G ?_
 intro T B D TE TW
 km_lay T hmg ho hd cd
 clear hmg
 wrow_args hpre hlay hrd hwl hlo
 rename Heap.IsList _ _ _=>hL
 rename IntsAre _ _=>hI
 rename ¬ _=>hlen
 have he:=Dflts.none hD rfl
 subst he
 have he:=Dflts.noKw hD
 subst he
 show wpG (model pw_nu0185_01 w) callerA _ _ _
 refine wpG_call (enter_law ho (fd_plain hd) hcd T KX hT9 hL hI (by omega) ?_)
 intro h' tk' d L m' F9 G9
 exact good_law hT9 F9 G9 hg (fun _=>rfl) (post_law _)
end Mine
theorem PySem.Challenge.cw_nu0185_01_holds : PySem.Challenge.rw_nu0185_01.Holds := by
 exact Mine.top
