import PyProof.Rows.All
import Wide.All
import OpenK.Peek
import OpenK.KGet
import OpenK.KCall
import OpenK.KMake
import OpenK.TopRead
import OpenK.KWalk
import OpenK.KMore
import OpenK.KList
import OpenK.KDict
import OpenK.KTop
import OpenK.KCell
import OpenK.KQuick
import OpenK.KLine
import OpenK.KUnr
import OpenK.KItem
import OpenK.KPrune
import OpenK.KMisc
import OpenK.KComp
import OpenK.KWith
import OpenK.KSplit
import OpenK.KNot
import OpenK.KApp
import KE.KSlice
import KE.TryLedger
import KE.RegTryLedger
import KE.KItem
import KE.KFind
import KE.LcTurns
import KE.RegLcTurns
import KE.KCat
import KE.KTup
import KE.KxIndex
import KE.KxText
import KE.KPassesOwn
import KE.KxBytes
import KE.KDictAny
import KE.KSliceW
import KE.KxDecode
import KE.KTree
import KE.KTreeB
import KE.KTurns
import KE.KxLen
import KE.RegKMathGC
import KE.KDictAnyGet
import KE.KDictObj
import KE.KRevSl
import KE.KWhile
import KE.KCases
import KE.KDictNew
import KE.KDictList
import KE.KDictIter
import KE.KUnpack
import KE.RegKUnpack
import KE.KUnpackStar
import KE.KWhileD
import KE.KLcFree
import KE.KLcTest
import KE.KPathFold
import KE.KSumEnd
import KE.KTupDict
import KE.KTurnsDict
import KE.BytesMake
import KE.BytesK
import KE.BytesMul
import KE.KCompFold
import KE.KDictAnyTail
import KE.KPar
import KE.KCallJoin
import KE.KMethJoin
import KE.KPathRange
import KE.KBools
import KE.KState
import KE.KxAdd
import KE.KxField
import KE.KLcPair
import KE.KDeep
import KE.RegKLenAny
import KE.RegKDeep
import KE.KBytesWalk
import KE.KBytesAny
import KE.KBytesCut
import KE.KCellOne
import KE.KCompIf
import KE.KMenu
import KE.KCompText
import KE.KDictSymLen
import KE.KSortTup
import KE.KPairComp
import KE.KFinEnd
import KE.KRangeItem
import KE.KRangeNest
import KE.KSetAt
import KE.KxTruthy
import KE.KRangePlain
import KE.KBits
import KE.KIntText
import KE.KTextTable
import KE.KForList
import KE.KIdxIf
import KE.KLooksOwn
import KE.KStrOpen
import KE.KTurnsGround
import KE.KListEnd
import KE.KCenter
import KE.KTreeN
import KE.KCallTup
import KE.KStateBytes
import KE.KCallBy
import KE.KToBytes
import KE.KPathText
import KE.KFromBytes
import KE.KBytesUnr
import KE.KCallRec
import Wide.FinOn
import Lean
import PySem.Challenge.RW_nz0315_01
open PySem PySem.W PyProof.Rows
set_option Elab.async false
set_option linter.all false
namespace Mine
/- small rules in place of omega's long proofs: written numbers alone are met -/
theorem om_le {a b : Nat} (e : Nat.ble a b = true) : a ≤ b := Nat.le_of_ble_eq_true e
theorem om_lt {a k d c : Nat} (h : a + d < c) (e : Nat.ble k d = true) : a + k < c := Nat.lt_of_le_of_lt (Nat.add_le_add_left (om_le e) a) h
theorem om_rm1 {a d c : Nat} (h : a + OfNat.ofNat d < c) : a < c := Nat.lt_of_le_of_lt (Nat.le_add_right a _) h
theorem om_rm2 {a k d c : Nat} (h : a + OfNat.ofNat d < c) (e : Nat.ble k d = true) : a + OfNat.ofNat k < c := om_lt h e
theorem om_rm3 {a k l d c : Nat} (h : a + OfNat.ofNat d < c) (e : Nat.ble (k + l) d = true) : a + OfNat.ofNat k + OfNat.ofNat l < c := by rw [Nat.add_assoc]; exact om_lt h e
theorem om_rm4 {a k l j d c : Nat} (h : a + OfNat.ofNat d < c) (e : Nat.ble (k + (l + j)) d = true) : a + OfNat.ofNat k + OfNat.ofNat l + OfNat.ofNat j < c := by rw [Nat.add_assoc, Nat.add_assoc]; exact om_lt h e
theorem om_rm5 {a k l j i d c : Nat} (h : a + OfNat.ofNat d < c) (e : Nat.ble (k + (l + (j + i))) d = true) : a + OfNat.ofNat k + OfNat.ofNat l + OfNat.ofNat j + OfNat.ofNat i < c := by rw [Nat.add_assoc, Nat.add_assoc, Nat.add_assoc]; exact om_lt h e
theorem om_un0 {a d c : Nat} (h : a + 8 * OfNat.ofNat d < c) : a < c := Nat.lt_of_le_of_lt (Nat.le_add_right a _) h
theorem om_un1 {a k d c : Nat} (h : a + 8 * OfNat.ofNat d < c) (e : Nat.ble k (8 * d) = true) : a + OfNat.ofNat k < c := om_lt h e
theorem om_un2 {a l d c : Nat} (h : a + 8 * OfNat.ofNat d < c) (e : Nat.ble (8 * l) (8 * d) = true) : a + 8 * OfNat.ofNat l < c := om_lt h e
theorem om_un3 {a k l d c : Nat} (h : a + 8 * OfNat.ofNat d < c) (e : Nat.ble (k + 8 * l) (8 * d) = true) : a + OfNat.ofNat k + 8 * OfNat.ofNat l < c := by rw [Nat.add_assoc]; exact om_lt h e
theorem om_un4 {a k j l d c : Nat} (h : a + 8 * OfNat.ofNat d < c) (e : Nat.ble (k + (j + 8 * l)) (8 * d) = true) : a + OfNat.ofNat k + OfNat.ofNat j + 8 * OfNat.ofNat l < c := by rw [Nat.add_assoc, Nat.add_assoc]; exact om_lt h e
theorem om_un5 {a k j i l d c : Nat} (h : a + 8 * OfNat.ofNat d < c) (e : Nat.ble (k + (j + (i + 8 * l))) (8 * d) = true) : a + OfNat.ofNat k + OfNat.ofNat j + OfNat.ofNat i + 8 * OfNat.ofNat l < c := by rw [Nat.add_assoc, Nat.add_assoc, Nat.add_assoc]; exact om_lt h e
theorem om_un6 {a k j d c : Nat} (h : a + 8 * OfNat.ofNat d < c) (e : Nat.ble (k + j) (8 * d) = true) : a + OfNat.ofNat k + OfNat.ofNat j < c := by rw [Nat.add_assoc]; exact om_lt h e
theorem om_nb1 {n a b : Nat} (h : (n : Int) < OfNat.ofNat a) (e : Nat.ble a b = true) : n < OfNat.ofNat b := Nat.lt_of_lt_of_le (Int.ofNat_lt.mp h) (om_le e)
theorem om_nb2 {n a b : Nat} (h : (n : Int) < OfNat.ofNat a) (e : Nat.ble a (b + 1) = true) : n ≤ OfNat.ofNat b := Nat.le_of_lt_succ (Nat.lt_of_lt_of_le (Int.ofNat_lt.mp h) (om_le e))
theorem om_il1 {x : Int} {a b : Nat} (h : x ≤ OfNat.ofNat a) (e : Nat.ble (a + 1) b = true) : x < OfNat.ofNat b := Int.lt_of_le_of_lt h (Int.ofNat_lt.mpr (om_le e))
theorem om_il2 {x : Int} {a b : Nat} (h : x < OfNat.ofNat a) (e : Nat.ble a b = true) : x < OfNat.ofNat b := Int.lt_of_lt_of_le h (Int.ofNat_le.mpr (om_le e))
theorem om_il3 {x : Int} {a b : Nat} (h : x ≤ OfNat.ofNat a) (e : Nat.ble a b = true) : x ≤ OfNat.ofNat b := Int.le_trans h (Int.ofNat_le.mpr (om_le e))
theorem om_il4 {x : Int} {a b : Nat} (h : x < OfNat.ofNat a) (e : Nat.ble a (b + 1) = true) : x ≤ OfNat.ofNat b := Int.le_of_lt_add_one (Int.lt_of_lt_of_le h (Int.ofNat_le.mpr (om_le e)))
theorem om_ig3 {x : Int} {a b : Nat} (h : OfNat.ofNat b ≤ x) (e : Nat.ble a b = true) : OfNat.ofNat a ≤ x := Int.le_trans (Int.ofNat_le.mpr (om_le e)) h
theorem om_nl1 {x a b : Nat} (h : x ≤ OfNat.ofNat a) (e : Nat.ble (a + 1) b = true) : x < OfNat.ofNat b := Nat.lt_of_le_of_lt h (om_le e)
theorem om_nl2 {x a b : Nat} (h : x < OfNat.ofNat a) (e : Nat.ble a b = true) : x < OfNat.ofNat b := Nat.lt_of_lt_of_le h (om_le e)
theorem om_nl3 {x a b : Nat} (h : x ≤ OfNat.ofNat a) (e : Nat.ble a b = true) : x ≤ OfNat.ofNat b := Nat.le_trans h (om_le e)
theorem om_nl4 {x a b : Nat} (h : x < OfNat.ofNat a) (e : Nat.ble a (b + 1) = true) : x ≤ OfNat.ofNat b := Nat.le_of_lt_succ (Nat.lt_of_lt_of_le h (om_le e))
theorem om_nsu {a b : Nat} (h : a < b) : b + 1 ≠ a := Nat.ne_of_gt (Nat.lt_succ_of_lt h)
theorem om_ai {x : Int} {a b c d k : Nat} (h : OfNat.ofNat a ≤ x ∧ x ≤ OfNat.ofNat b) (e : (Nat.ble c (a + k) && Nat.ble (b + k) d) = true) : (c : Int) ≤ x + k ∧ x + (k : Int) ≤ d := by
  rw [Bool.and_eq_true] at e
  exact ⟨Int.le_trans (Int.ofNat_le.mpr (om_le e.1)) (Int.add_le_add_right h.1 k), Int.le_trans (Int.add_le_add_right h.2 k) (Int.ofNat_le.mpr (om_le e.2))⟩
theorem om_ai0 {x : Int} {a b c d : Nat} (h : OfNat.ofNat a ≤ x ∧ x ≤ OfNat.ofNat b) (e : (Nat.ble c a && Nat.ble b d) = true) : OfNat.ofNat c ≤ x ∧ x ≤ OfNat.ofNat d := by
  rw [Bool.and_eq_true] at e
  exact ⟨om_ig3 h.1 e.1, om_il3 h.2 e.2⟩
theorem om_ai1 {x : Int} {a b c d : Nat} (h : OfNat.ofNat a ≤ x ∧ x ≤ OfNat.ofNat b) (e : (Nat.ble c (a + 1) && Nat.ble (b + 1) d) = true) : OfNat.ofNat c ≤ x + 1 ∧ x + 1 ≤ OfNat.ofNat d := om_ai h e
theorem om_ai2 {x : Int} {a b c d : Nat} (h : OfNat.ofNat a ≤ x ∧ x ≤ OfNat.ofNat b) (e : (Nat.ble c (a + 2) && Nat.ble (b + 2) d) = true) : OfNat.ofNat c ≤ x + 1 + 1 ∧ x + 1 + 1 ≤ OfNat.ofNat d := by have := om_ai h e; rw [Int.add_assoc]; exact this
theorem om_ai3 {x : Int} {a b c d : Nat} (h : OfNat.ofNat a ≤ x ∧ x ≤ OfNat.ofNat b) (e : (Nat.ble c (a + 3) && Nat.ble (b + 3) d) = true) : OfNat.ofNat c ≤ x + 1 + 1 + 1 ∧ x + 1 + 1 + 1 ≤ OfNat.ofNat d := by have := om_ai h e; rw [Int.add_assoc, Int.add_assoc]; exact this
theorem om_ai4 {x : Int} {a b c d : Nat} (h : OfNat.ofNat a ≤ x ∧ x ≤ OfNat.ofNat b) (e : (Nat.ble c (a + 4) && Nat.ble (b + 4) d) = true) : OfNat.ofNat c ≤ x + 1 + 1 + 1 + 1 ∧ x + 1 + 1 + 1 + 1 ≤ OfNat.ofNat d := by have := om_ai h e; rw [Int.add_assoc, Int.add_assoc, Int.add_assoc]; exact this
theorem om_aj {x : Int} {k d : Nat} (e : Nat.ble k d = true) : x ≤ x + k ∧ x + (k : Int) ≤ x + d := ⟨Int.le_add_of_nonneg_right (Int.natCast_nonneg k), Int.add_le_add_left (Int.ofNat_le.mpr (om_le e)) x⟩
theorem om_aj1 {x : Int} {d : Nat} (e : Nat.ble 1 d = true) : x ≤ x + 1 ∧ x + 1 ≤ x + OfNat.ofNat d := om_aj e
theorem om_aj2 {x : Int} {d : Nat} (e : Nat.ble 2 d = true) : x ≤ x + 1 + 1 ∧ x + 1 + 1 ≤ x + OfNat.ofNat d := by have := om_aj (x := x) e; rw [Int.add_assoc]; exact this
theorem om_aj3 {x : Int} {d : Nat} (e : Nat.ble 3 d = true) : x ≤ x + 1 + 1 + 1 ∧ x + 1 + 1 + 1 ≤ x + OfNat.ofNat d := by have := om_aj (x := x) e; rw [Int.add_assoc, Int.add_assoc]; exact this
theorem om_aj4 {x : Int} {d : Nat} (e : Nat.ble 4 d = true) : x ≤ x + 1 + 1 + 1 + 1 ∧ x + 1 + 1 + 1 + 1 ≤ x + OfNat.ofNat d := by have := om_aj (x := x) e; rw [Int.add_assoc, Int.add_assoc, Int.add_assoc]; exact this
theorem om_aj5 {x : Int} {d : Nat} (e : Nat.ble 5 d = true) : x ≤ x + 1 + 1 + 1 + 1 + 1 ∧ x + 1 + 1 + 1 + 1 + 1 ≤ x + OfNat.ofNat d := by have := om_aj (x := x) e; rw [Int.add_assoc, Int.add_assoc, Int.add_assoc, Int.add_assoc]; exact this
theorem om_c1 {a b : Nat} (e : Nat.ble a b = true) : (OfNat.ofNat a : Int) ≤ OfNat.ofNat b := Int.ofNat_le.mpr (om_le e)
theorem om_c2 {a b : Nat} (e : Nat.ble (a + 1) b = true) : (OfNat.ofNat a : Int) < OfNat.ofNat b := Int.ofNat_lt.mpr (om_le e)
theorem om_c3 {a b c : Nat} (e : (Nat.ble (a + 1) b && Nat.ble b c) = true) : (OfNat.ofNat a : Int) < OfNat.ofNat b ∧ (OfNat.ofNat b : Int) ≤ OfNat.ofNat c := by
  rw [Bool.and_eq_true] at e
  exact ⟨om_c2 e.1, om_c1 e.2⟩
theorem om_c4 {a b c : Nat} (e : (Nat.ble a b && Nat.ble b c) = true) : (OfNat.ofNat a : Int) ≤ OfNat.ofNat b ∧ (OfNat.ofNat b : Int) ≤ OfNat.ofNat c := by
  rw [Bool.and_eq_true] at e
  exact ⟨om_c1 e.1, om_c1 e.2⟩
theorem om_n4 {x : Int} {k : Nat} (h : 0 ≤ x) : -((2 : Int) ^ k) < x := Int.lt_of_lt_of_le (Int.neg_neg_of_pos (Int.pow_pos (by decide))) h
theorem om_n5 {x : Int} {k : Nat} (h : 0 ≤ x) : -((2 : Int) ^ k) ≤ x := Int.le_of_lt (om_n4 h)
theorem om_n2 {k b : Nat} : -((2 : Int) ^ k) < OfNat.ofNat b := om_n4 (Int.natCast_nonneg b)
theorem om_n3 {k b : Nat} : -((2 : Int) ^ k) ≤ OfNat.ofNat b := Int.le_of_lt om_n2
theorem om_pow {k : Nat} (h : Nat.ble 40 k = true) : (1099511627776 : Int) ≤ 2 ^ k := by
  obtain ⟨j, rfl⟩ := Nat.le.dest (om_le h)
  rw [Int.pow_add]
  have : (0 : Int) < 2 ^ j := Int.pow_pos (by decide)
  have : (2 : Int) ^ 40 = 1099511627776 := by decide
  rw [this]
  omega
theorem om_p2 {a k : Nat} (e : (Nat.ble 40 k && Nat.ble a 1099511627775) = true) : (OfNat.ofNat a : Int) < 2 ^ k := by
  rw [Bool.and_eq_true] at e
  exact Int.lt_of_lt_of_le (Int.ofNat_lt.mpr (Nat.lt_succ_of_le (om_le e.2))) (om_pow e.1)
theorem om_p3 {x : Int} {a k : Nat} (h : x ≤ OfNat.ofNat a) (e : (Nat.ble 40 k && Nat.ble a 1099511627775) = true) : x < 2 ^ k := Int.lt_of_le_of_lt h (om_p2 e)
theorem om_p4 {x : Int} {a k : Nat} (h : x < OfNat.ofNat a) (e : (Nat.ble 40 k && Nat.ble a 1099511627775) = true) : x < 2 ^ k := Int.lt_trans h (om_p2 e)
theorem om_t10 : (10 : Int) ^ 10 = 10000000000 := by decide
theorem om_q2 {a : Nat} (e : Nat.ble a 9999999999 = true) : (OfNat.ofNat a : Int) < 10 ^ 10 := by rw [om_t10]; exact Int.ofNat_lt.mpr (Nat.lt_succ_of_le (om_le e))
theorem om_q3 {x : Int} {a : Nat} (h : x ≤ OfNat.ofNat a) (e : Nat.ble a 9999999999 = true) : x < 10 ^ 10 := Int.lt_of_le_of_lt h (om_q2 e)
theorem om_d1 {a b : Nat} (e : Nat.ble a b = true) : (OfNat.ofNat a : Nat) ≤ OfNat.ofNat b := om_le e
theorem om_d2 {a b : Nat} (e : Nat.ble (a + 1) b = true) : (OfNat.ofNat a : Nat) < OfNat.ofNat b := om_le e
end Mine
local macro_rules | `(tactic| omega) => `(tactic| (first | (kle_keep; lia) | omega (splitNatSub := true)))
namespace Mine
set_option maxRecDepth 100000
@[reducible] def lit {α : Type} {b : α} (a : α) (_ : ∀ F : α → Type, F b → F a) : α := a
noncomputable def top (i : Nat) : Stmt := (PySem.Challenge.pw_nz0315_01.main.body[i]?).getD default
noncomputable def mem (i j : Nat) : Stmt := match top i with | .ClassDef _ _ _ b .. => (b[j]?).getD default | _ => default
def fB : Stmt → List Stmt | .FunctionDef _ _ b .. => b | _ => []
def fS : Stmt → Scope | .FunctionDef _ _ _ _ _ _ s .. => s | _ => default
def fP : Stmt → Arguments | .FunctionDef _ p .. => p | _ => default
@[reducible] noncomputable def b88 : List Stmt := lit (b := fB (mem 11 0)) (_ :: _) (fun _ x => x)
@[reducible] noncomputable def s88 : Scope := lit (b := fS (mem 11 0)) ⟨_, _, _, _, _⟩ (fun _ x => x)
@[reducible] noncomputable def p88 : Arguments := lit (b := fP (mem 11 0)) ⟨_, _, _, _, _, _, _⟩ (fun _ x => x)
@[reducible] noncomputable def b109 : List Stmt := lit (b := fB (top 12)) (_ :: _) (fun _ x => x)
@[reducible] noncomputable def s109 : Scope := lit (b := fS (top 12)) ⟨_, _, _, _, _⟩ (fun _ x => x)
@[reducible] noncomputable def p109 : Arguments := lit (b := fP (top 12)) ⟨_, _, _, _, _, _, _⟩ (fun _ x => x)
@[reducible] noncomputable def b116 : List Stmt := lit (b := fB (top 13)) (_ :: _) (fun _ x => x)
@[reducible] noncomputable def s116 : Scope := lit (b := fS (top 13)) ⟨_, _, _, _, _⟩ (fun _ x => x)
@[reducible] noncomputable def p116 : Arguments := lit (b := fP (top 13)) ⟨_, _, _, _, _, _, _⟩ (fun _ x => x)
@[reducible] noncomputable def b123 : List Stmt := lit (b := fB (top 14)) (_ :: _) (fun _ x => x)
@[reducible] noncomputable def s123 : Scope := lit (b := fS (top 14)) ⟨_, _, _, _, _⟩ (fun _ x => x)
@[reducible] noncomputable def p123 : Arguments := lit (b := fP (top 14)) ⟨_, _, _, _, _, _, _⟩ (fun _ x => x)
@[reducible] noncomputable def b130 : List Stmt := lit (b := fB (top 15)) (_ :: _) (fun _ x => x)
@[reducible] noncomputable def s130 : Scope := lit (b := fS (top 15)) ⟨_, _, _, _, _⟩ (fun _ x => x)
@[reducible] noncomputable def p130 : Arguments := lit (b := fP (top 15)) ⟨_, _, _, _, _, _, _⟩ (fun _ x => x)
@[reducible] noncomputable def b137 : List Stmt := lit (b := fB (top 16)) (_ :: _) (fun _ x => x)
@[reducible] noncomputable def s137 : Scope := lit (b := fS (top 16)) ⟨_, _, _, _, _⟩ (fun _ x => x)
@[reducible] noncomputable def p137 : Arguments := lit (b := fP (top 16)) ⟨_, _, _, _, _, _, _⟩ (fun _ x => x)
@[reducible] noncomputable def b144 : List Stmt := lit (b := fB (top 17)) (_ :: _) (fun _ x => x)
@[reducible] noncomputable def s144 : Scope := lit (b := fS (top 17)) ⟨_, _, _, _, _⟩ (fun _ x => x)
@[reducible] noncomputable def p144 : Arguments := lit (b := fP (top 17)) ⟨_, _, _, _, _, _, _⟩ (fun _ x => x)
@[reducible] noncomputable def b151 : List Stmt := lit (b := fB (top 18)) (_ :: _) (fun _ x => x)
@[reducible] noncomputable def s151 : Scope := lit (b := fS (top 18)) ⟨_, _, _, _, _⟩ (fun _ x => x)
@[reducible] noncomputable def p151 : Arguments := lit (b := fP (top 18)) ⟨_, _, _, _, _, _, _⟩ (fun _ x => x)
@[reducible] noncomputable def b159 : List Stmt := lit (b := fB (top 19)) (_ :: _) (fun _ x => x)
@[reducible] noncomputable def s159 : Scope := lit (b := fS (top 19)) ⟨_, _, _, _, _⟩ (fun _ x => x)
@[reducible] noncomputable def p159 : Arguments := lit (b := fP (top 19)) ⟨_, _, _, _, _, _, _⟩ (fun _ x => x)
@[reducible] noncomputable def b166 : List Stmt := lit (b := fB (top 20)) (_ :: _) (fun _ x => x)
@[reducible] noncomputable def s166 : Scope := lit (b := fS (top 20)) ⟨_, _, _, _, _⟩ (fun _ x => x)
@[reducible] noncomputable def p166 : Arguments := lit (b := fP (top 20)) ⟨_, _, _, _, _, _, _⟩ (fun _ x => x)
@[reducible] noncomputable def b173 : List Stmt := lit (b := fB (top 21)) (_ :: _) (fun _ x => x)
@[reducible] noncomputable def s173 : Scope := lit (b := fS (top 21)) ⟨_, _, _, _, _⟩ (fun _ x => x)
@[reducible] noncomputable def p173 : Arguments := lit (b := fP (top 21)) ⟨_, _, _, _, _, _, _⟩ (fun _ x => x)
@[reducible] noncomputable def b178 : List Stmt := lit (b := fB (top 22)) (_ :: _) (fun _ x => x)
@[reducible] noncomputable def s178 : Scope := lit (b := fS (top 22)) ⟨_, _, _, _, _⟩ (fun _ x => x)
@[reducible] noncomputable def p178 : Arguments := lit (b := fP (top 22)) ⟨_, _, _, _, _, _, _⟩ (fun _ x => x)
@[reducible] noncomputable def b185 : List Stmt := lit (b := fB (top 23)) (_ :: _) (fun _ x => x)
@[reducible] noncomputable def s185 : Scope := lit (b := fS (top 23)) ⟨_, _, _, _, _⟩ (fun _ x => x)
@[reducible] noncomputable def p185 : Arguments := lit (b := fP (top 23)) ⟨_, _, _, _, _, _, _⟩ (fun _ x => x)
@[reducible] noncomputable def b192 : List Stmt := lit (b := fB (top 24)) (_ :: _) (fun _ x => x)
@[reducible] noncomputable def s192 : Scope := lit (b := fS (top 24)) ⟨_, _, _, _, _⟩ (fun _ x => x)
@[reducible] noncomputable def p192 : Arguments := lit (b := fP (top 24)) ⟨_, _, _, _, _, _, _⟩ (fun _ x => x)
@[reducible] noncomputable def b199 : List Stmt := lit (b := fB (top 26)) (_ :: _) (fun _ x => x)
@[reducible] noncomputable def s199 : Scope := lit (b := fS (top 26)) ⟨_, _, _, _, _⟩ (fun _ x => x)
@[reducible] noncomputable def p199 : Arguments := lit (b := fP (top 26)) ⟨_, _, _, _, _, _, _⟩ (fun _ x => x)
@[reducible] noncomputable def b204 : List Stmt := lit (b := fB (top 27)) (_ :: _) (fun _ x => x)
@[reducible] noncomputable def s204 : Scope := lit (b := fS (top 27)) ⟨_, _, _, _, _⟩ (fun _ x => x)
@[reducible] noncomputable def p204 : Arguments := lit (b := fP (top 27)) ⟨_, _, _, _, _, _, _⟩ (fun _ x => x)
@[reducible] noncomputable def b209 : List Stmt := lit (b := fB (top 28)) (_ :: _) (fun _ x => x)
@[reducible] noncomputable def s209 : Scope := lit (b := fS (top 28)) ⟨_, _, _, _, _⟩ (fun _ x => x)
@[reducible] noncomputable def p209 : Arguments := lit (b := fP (top 28)) ⟨_, _, _, _, _, _, _⟩ (fun _ x => x)
@[reducible] noncomputable def b224 : List Stmt := lit (b := fB (mem 31 0)) (_ :: _) (fun _ x => x)
@[reducible] noncomputable def s224 : Scope := lit (b := fS (mem 31 0)) ⟨_, _, _, _, _⟩ (fun _ x => x)
@[reducible] noncomputable def p224 : Arguments := lit (b := fP (mem 31 0)) ⟨_, _, _, _, _, _, _⟩ (fun _ x => x)
@[reducible] noncomputable def b229 : List Stmt := lit (b := fB (mem 31 1)) (_ :: _) (fun _ x => x)
@[reducible] noncomputable def s229 : Scope := lit (b := fS (mem 31 1)) ⟨_, _, _, _, _⟩ (fun _ x => x)
@[reducible] noncomputable def p229 : Arguments := lit (b := fP (mem 31 1)) ⟨_, _, _, _, _, _, _⟩ (fun _ x => x)
@[reducible] noncomputable def b250 : List Stmt := lit (b := fB (top 32)) (_ :: _) (fun _ x => x)
@[reducible] noncomputable def s250 : Scope := lit (b := fS (top 32)) ⟨_, _, _, _, _⟩ (fun _ x => x)
@[reducible] noncomputable def p250 : Arguments := lit (b := fP (top 32)) ⟨_, _, _, _, _, _, _⟩ (fun _ x => x)
@[reducible] noncomputable def b257 : List Stmt := lit (b := fB (top 33)) (_ :: _) (fun _ x => x)
@[reducible] noncomputable def s257 : Scope := lit (b := fS (top 33)) ⟨_, _, _, _, _⟩ (fun _ x => x)
@[reducible] noncomputable def p257 : Arguments := lit (b := fP (top 33)) ⟨_, _, _, _, _, _, _⟩ (fun _ x => x)
@[reducible] noncomputable def b264 : List Stmt := lit (b := fB (top 34)) (_ :: _) (fun _ x => x)
@[reducible] noncomputable def s264 : Scope := lit (b := fS (top 34)) ⟨_, _, _, _, _⟩ (fun _ x => x)
@[reducible] noncomputable def p264 : Arguments := lit (b := fP (top 34)) ⟨_, _, _, _, _, _, _⟩ (fun _ x => x)
@[reducible] noncomputable def b272 : List Stmt := lit (b := fB (top 35)) (_ :: _) (fun _ x => x)
@[reducible] noncomputable def s272 : Scope := lit (b := fS (top 35)) ⟨_, _, _, _, _⟩ (fun _ x => x)
@[reducible] noncomputable def p272 : Arguments := lit (b := fP (top 35)) ⟨_, _, _, _, _, _, _⟩ (fun _ x => x)
@[reducible] noncomputable def b293 : List Stmt := lit (b := fB (top 38)) (_ :: _) (fun _ x => x)
@[reducible] noncomputable def s293 : Scope := lit (b := fS (top 38)) ⟨_, _, _, _, _⟩ (fun _ x => x)
@[reducible] noncomputable def p293 : Arguments := lit (b := fP (top 38)) ⟨_, _, _, _, _, _, _⟩ (fun _ x => x)
@[reducible] noncomputable def b307 : List Stmt := lit (b := fB (mem 42 0)) (_ :: _) (fun _ x => x)
@[reducible] noncomputable def s307 : Scope := lit (b := fS (mem 42 0)) ⟨_, _, _, _, _⟩ (fun _ x => x)
@[reducible] noncomputable def p307 : Arguments := lit (b := fP (mem 42 0)) ⟨_, _, _, _, _, _, _⟩ (fun _ x => x)
@[reducible] noncomputable def b324 : List Stmt := lit (b := fB (top 43)) (_ :: _) (fun _ x => x)
@[reducible] noncomputable def s324 : Scope := lit (b := fS (top 43)) ⟨_, _, _, _, _⟩ (fun _ x => x)
@[reducible] noncomputable def p324 : Arguments := lit (b := fP (top 43)) ⟨_, _, _, _, _, _, _⟩ (fun _ x => x)
@[reducible] noncomputable def b331 : List Stmt := lit (b := fB (top 44)) (_ :: _) (fun _ x => x)
@[reducible] noncomputable def s331 : Scope := lit (b := fS (top 44)) ⟨_, _, _, _, _⟩ (fun _ x => x)
@[reducible] noncomputable def p331 : Arguments := lit (b := fP (top 44)) ⟨_, _, _, _, _, _, _⟩ (fun _ x => x)
@[reducible] noncomputable def b338 : List Stmt := lit (b := fB (top 45)) (_ :: _) (fun _ x => x)
@[reducible] noncomputable def s338 : Scope := lit (b := fS (top 45)) ⟨_, _, _, _, _⟩ (fun _ x => x)
@[reducible] noncomputable def p338 : Arguments := lit (b := fP (top 45)) ⟨_, _, _, _, _, _, _⟩ (fun _ x => x)
@[reducible] noncomputable def b355 : List Stmt := lit (b := fB (mem 49 0)) (_ :: _) (fun _ x => x)
@[reducible] noncomputable def s355 : Scope := lit (b := fS (mem 49 0)) ⟨_, _, _, _, _⟩ (fun _ x => x)
@[reducible] noncomputable def p355 : Arguments := lit (b := fP (mem 49 0)) ⟨_, _, _, _, _, _, _⟩ (fun _ x => x)
@[reducible] noncomputable def b374 : List Stmt := lit (b := fB (top 50)) (_ :: _) (fun _ x => x)
@[reducible] noncomputable def s374 : Scope := lit (b := fS (top 50)) ⟨_, _, _, _, _⟩ (fun _ x => x)
@[reducible] noncomputable def p374 : Arguments := lit (b := fP (top 50)) ⟨_, _, _, _, _, _, _⟩ (fun _ x => x)
@[reducible] noncomputable def b379 : List Stmt := lit (b := fB (top 51)) (_ :: _) (fun _ x => x)
@[reducible] noncomputable def s379 : Scope := lit (b := fS (top 51)) ⟨_, _, _, _, _⟩ (fun _ x => x)
@[reducible] noncomputable def p379 : Arguments := lit (b := fP (top 51)) ⟨_, _, _, _, _, _, _⟩ (fun _ x => x)
@[reducible] noncomputable def b386 : List Stmt := lit (b := fB (top 52)) (_ :: _) (fun _ x => x)
@[reducible] noncomputable def s386 : Scope := lit (b := fS (top 52)) ⟨_, _, _, _, _⟩ (fun _ x => x)
@[reducible] noncomputable def p386 : Arguments := lit (b := fP (top 52)) ⟨_, _, _, _, _, _, _⟩ (fun _ x => x)
@[reducible] noncomputable def b392 : List Stmt := lit (b := fB (top 53)) (_ :: _) (fun _ x => x)
@[reducible] noncomputable def s392 : Scope := lit (b := fS (top 53)) ⟨_, _, _, _, _⟩ (fun _ x => x)
@[reducible] noncomputable def p392 : Arguments := lit (b := fP (top 53)) ⟨_, _, _, _, _, _, _⟩ (fun _ x => x)
@[reducible] noncomputable def b397 : List Stmt := lit (b := fB (top 54)) (_ :: _) (fun _ x => x)
@[reducible] noncomputable def s397 : Scope := lit (b := fS (top 54)) ⟨_, _, _, _, _⟩ (fun _ x => x)
@[reducible] noncomputable def p397 : Arguments := lit (b := fP (top 54)) ⟨_, _, _, _, _, _, _⟩ (fun _ x => x)
@[reducible] noncomputable def b404 : List Stmt := lit (b := fB (top 55)) (_ :: _) (fun _ x => x)
@[reducible] noncomputable def s404 : Scope := lit (b := fS (top 55)) ⟨_, _, _, _, _⟩ (fun _ x => x)
@[reducible] noncomputable def p404 : Arguments := lit (b := fP (top 55)) ⟨_, _, _, _, _, _, _⟩ (fun _ x => x)
@[reducible] noncomputable def b411 : List Stmt := lit (b := fB (top 56)) (_ :: _) (fun _ x => x)
@[reducible] noncomputable def s411 : Scope := lit (b := fS (top 56)) ⟨_, _, _, _, _⟩ (fun _ x => x)
@[reducible] noncomputable def p411 : Arguments := lit (b := fP (top 56)) ⟨_, _, _, _, _, _, _⟩ (fun _ x => x)
@[reducible] noncomputable def b418 : List Stmt := lit (b := fB (top 57)) (_ :: _) (fun _ x => x)
@[reducible] noncomputable def s418 : Scope := lit (b := fS (top 57)) ⟨_, _, _, _, _⟩ (fun _ x => x)
@[reducible] noncomputable def p418 : Arguments := lit (b := fP (top 57)) ⟨_, _, _, _, _, _, _⟩ (fun _ x => x)
@[reducible] noncomputable def b425 : List Stmt := lit (b := fB (top 58)) (_ :: _) (fun _ x => x)
@[reducible] noncomputable def s425 : Scope := lit (b := fS (top 58)) ⟨_, _, _, _, _⟩ (fun _ x => x)
@[reducible] noncomputable def p425 : Arguments := lit (b := fP (top 58)) ⟨_, _, _, _, _, _, _⟩ (fun _ x => x)
@[reducible] noncomputable def b439 : List Stmt := lit (b := fB (mem 60 0)) (_ :: _) (fun _ x => x)
@[reducible] noncomputable def s439 : Scope := lit (b := fS (mem 60 0)) ⟨_, _, _, _, _⟩ (fun _ x => x)
@[reducible] noncomputable def p439 : Arguments := lit (b := fP (mem 60 0)) ⟨_, _, _, _, _, _, _⟩ (fun _ x => x)
@[reducible] noncomputable def b460 : List Stmt := lit (b := fB (top 62)) (_ :: _) (fun _ x => x)
@[reducible] noncomputable def s460 : Scope := lit (b := fS (top 62)) ⟨_, _, _, _, _⟩ (fun _ x => x)
@[reducible] noncomputable def p460 : Arguments := lit (b := fP (top 62)) ⟨_, _, _, _, _, _, _⟩ (fun _ x => x)
@[reducible] noncomputable def b465 : List Stmt := lit (b := fB (top 63)) (_ :: _) (fun _ x => x)
@[reducible] noncomputable def s465 : Scope := lit (b := fS (top 63)) ⟨_, _, _, _, _⟩ (fun _ x => x)
@[reducible] noncomputable def p465 : Arguments := lit (b := fP (top 63)) ⟨_, _, _, _, _, _, _⟩ (fun _ x => x)
@[reducible] noncomputable def b472 : List Stmt := lit (b := fB (top 64)) (_ :: _) (fun _ x => x)
@[reducible] noncomputable def s472 : Scope := lit (b := fS (top 64)) ⟨_, _, _, _, _⟩ (fun _ x => x)
@[reducible] noncomputable def p472 : Arguments := lit (b := fP (top 64)) ⟨_, _, _, _, _, _, _⟩ (fun _ x => x)
@[reducible] noncomputable def b486 : List Stmt := lit (b := fB (mem 66 0)) (_ :: _) (fun _ x => x)
@[reducible] noncomputable def s486 : Scope := lit (b := fS (mem 66 0)) ⟨_, _, _, _, _⟩ (fun _ x => x)
@[reducible] noncomputable def p486 : Arguments := lit (b := fP (mem 66 0)) ⟨_, _, _, _, _, _, _⟩ (fun _ x => x)
@[reducible] noncomputable def b521 : List Stmt := lit (b := fB (mem 68 0)) (_ :: _) (fun _ x => x)
@[reducible] noncomputable def s521 : Scope := lit (b := fS (mem 68 0)) ⟨_, _, _, _, _⟩ (fun _ x => x)
@[reducible] noncomputable def p521 : Arguments := lit (b := fP (mem 68 0)) ⟨_, _, _, _, _, _, _⟩ (fun _ x => x)
@[reducible] noncomputable def b577 : List Stmt := lit (b := fB (top 77)) (_ :: _) (fun _ x => x)
@[reducible] noncomputable def s577 : Scope := lit (b := fS (top 77)) ⟨_, _, _, _, _⟩ (fun _ x => x)
@[reducible] noncomputable def p577 : Arguments := lit (b := fP (top 77)) ⟨_, _, _, _, _, _, _⟩ (fun _ x => x)
@[reducible] noncomputable def b584 : List Stmt := lit (b := fB (top 78)) (_ :: _) (fun _ x => x)
@[reducible] noncomputable def s584 : Scope := lit (b := fS (top 78)) ⟨_, _, _, _, _⟩ (fun _ x => x)
@[reducible] noncomputable def p584 : Arguments := lit (b := fP (top 78)) ⟨_, _, _, _, _, _, _⟩ (fun _ x => x)
@[reducible] noncomputable def b589 : List Stmt := lit (b := fB (top 79)) (_ :: _) (fun _ x => x)
@[reducible] noncomputable def s589 : Scope := lit (b := fS (top 79)) ⟨_, _, _, _, _⟩ (fun _ x => x)
@[reducible] noncomputable def p589 : Arguments := lit (b := fP (top 79)) ⟨_, _, _, _, _, _, _⟩ (fun _ x => x)
@[reducible] noncomputable def b594 : List Stmt := lit (b := fB (top 80)) (_ :: _) (fun _ x => x)
@[reducible] noncomputable def s594 : Scope := lit (b := fS (top 80)) ⟨_, _, _, _, _⟩ (fun _ x => x)
@[reducible] noncomputable def p594 : Arguments := lit (b := fP (top 80)) ⟨_, _, _, _, _, _, _⟩ (fun _ x => x)
@[reducible] noncomputable def b599 : List Stmt := lit (b := fB (top 81)) (_ :: _) (fun _ x => x)
@[reducible] noncomputable def s599 : Scope := lit (b := fS (top 81)) ⟨_, _, _, _, _⟩ (fun _ x => x)
@[reducible] noncomputable def p599 : Arguments := lit (b := fP (top 81)) ⟨_, _, _, _, _, _, _⟩ (fun _ x => x)
@[reducible] noncomputable def b604 : List Stmt := lit (b := fB (top 82)) (_ :: _) (fun _ x => x)
@[reducible] noncomputable def s604 : Scope := lit (b := fS (top 82)) ⟨_, _, _, _, _⟩ (fun _ x => x)
@[reducible] noncomputable def p604 : Arguments := lit (b := fP (top 82)) ⟨_, _, _, _, _, _, _⟩ (fun _ x => x)
@[reducible] noncomputable def b609 : List Stmt := lit (b := fB (top 83)) (_ :: _) (fun _ x => x)
@[reducible] noncomputable def s609 : Scope := lit (b := fS (top 83)) ⟨_, _, _, _, _⟩ (fun _ x => x)
@[reducible] noncomputable def p609 : Arguments := lit (b := fP (top 83)) ⟨_, _, _, _, _, _, _⟩ (fun _ x => x)
@[reducible] noncomputable def b614 : List Stmt := lit (b := fB (top 84)) (_ :: _) (fun _ x => x)
@[reducible] noncomputable def s614 : Scope := lit (b := fS (top 84)) ⟨_, _, _, _, _⟩ (fun _ x => x)
@[reducible] noncomputable def p614 : Arguments := lit (b := fP (top 84)) ⟨_, _, _, _, _, _, _⟩ (fun _ x => x)
noncomputable def KH : Params → Frag := fun P =>
(nat_lit 2, { cls := Value.none, data := Data.dict #[{ hash := PyData.keyHash P (Str.ofString "type.__subclasses__.Exception.0"), key := Value.str (Str.ofString "type.__subclasses__.Exception.0") 232, val := Value.int 46 0 }, { hash := PyData.keyHash P (Str.ofString "type.__subclasses__.Exception.n"), key := Value.str (Str.ofString "type.__subclasses__.Exception.n") 233, val := Value.int 1 0 }] 2 }) ::
(nat_lit 3, { cls := Value.type "dict", data := Data.dict (List.toArray ({ hash := PyData.keyHash P (Str.ofString "__name__"), key := Value.str (Str.ofString "__name__") 165, val := Value.str (Str.ofString "law_nz0315_01") 977 } :: { hash := PyData.keyHash P (Str.ofString "__doc__"), key := Value.str (Str.ofString "__doc__") 166, val := Value.none } :: { hash := PyData.keyHash P (Str.ofString "__package__"), key := Value.str (Str.ofString "__package__") 167, val := Value.none } :: { hash := PyData.keyHash P (Str.ofString "__loader__"), key := Value.str (Str.ofString "__loader__") 168, val := Value.builtin "__main__.__loader__#opaque" } :: { hash := PyData.keyHash P (Str.ofString "__spec__"), key := Value.str (Str.ofString "__spec__") 169, val := Value.none } :: { hash := PyData.keyHash P (Str.ofString "__annotations__"), key := Value.str (Str.ofString "__annotations__") 170, val := Value.ref 6 } :: { hash := PyData.keyHash P (Str.ofString "__builtins__"), key := Value.str (Str.ofString "__builtins__") 171, val := Value.ref 4 } :: { hash := PyData.keyHash P (Str.ofString "__file__"), key := Value.str (Str.ofString "__file__") 173, val := Value.str (Str.ofString "/claim/cut.py") 172 } :: { hash := PyData.keyHash P (Str.ofString "__cached__"), key := Value.str (Str.ofString "__cached__") 174, val := Value.none } :: { hash := PyData.keyHash P (Str.ofString "_wall"), key := Value.str (Str.ofString "_wall") 193, val := Value.ref 21 } :: { hash := PyData.keyHash P (Str.ofString "PostError"), key := Value.str (Str.ofString "PostError") 235, val := Value.ref 46 } :: { hash := PyData.keyHash P (Str.ofString "WordFault"), key := Value.str (Str.ofString "WordFault") 251, val := Value.ref 59 } :: { hash := PyData.keyHash P (Str.ofString "WireFault"), key := Value.str (Str.ofString "WireFault") 267, val := Value.ref 71 } :: { hash := PyData.keyHash P (Str.ofString "MONTHS"), key := Value.str (Str.ofString "MONTHS") 282, val := Value.ref 74 } :: { hash := PyData.keyHash P (Str.ofString "MOST_YEAR"), key := Value.str (Str.ofString "MOST_YEAR") 284, val := Value.int 9999 283 } :: { hash := PyData.keyHash P (Str.ofString "MOST_ZONE"), key := Value.str (Str.ofString "MOST_ZONE") 290, val := Value.int 5999 289 } :: { hash := PyData.keyHash P (Str.ofString "DAY_SECONDS"), key := Value.str (Str.ofString "DAY_SECONDS") 292, val := Value.int 86400 291 } :: { hash := PyData.keyHash P (Str.ofString "FIRST_DAY"), key := Value.str (Str.ofString "FIRST_DAY") 294, val := Value.int 719162 293 } :: { hash := PyData.keyHash P (Str.ofString "Moment"), key := Value.str (Str.ofString "Moment") 342, val := Value.ref 98 } :: { hash := PyData.keyHash P (Str.ofString "is_leap"), key := Value.str (Str.ofString "is_leap") 349, val := Value.ref 109 } :: { hash := PyData.keyHash P (Str.ofString "month_length"), key := Value.str (Str.ofString "month_length") 357, val := Value.ref 116 } :: { hash := PyData.keyHash P (Str.ofString "days_before_year"), key := Value.str (Str.ofString "days_before_year") 365, val := Value.ref 123 } :: { hash := PyData.keyHash P (Str.ofString "day_told"), key := Value.str (Str.ofString "day_told") 376, val := Value.ref 130 } :: { hash := PyData.keyHash P (Str.ofString "is_day"), key := Value.str (Str.ofString "is_day") 385, val := Value.ref 137 } :: { hash := PyData.keyHash P (Str.ofString "is_time"), key := Value.str (Str.ofString "is_time") 394, val := Value.ref 144 } :: { hash := PyData.keyHash P (Str.ofString "check_moment"), key := Value.str (Str.ofString "check_moment") 402, val := Value.ref 151 } :: { hash := PyData.keyHash P (Str.ofString "moment_of"), key := Value.str (Str.ofString "moment_of") 417, val := Value.ref 159 } :: { hash := PyData.keyHash P (Str.ofString "padded"), key := Value.str (Str.ofString "padded") 426, val := Value.ref 166 } :: { hash := PyData.keyHash P (Str.ofString "zone_text"), key := Value.str (Str.ofString "zone_text") 433, val := Value.ref 173 } :: { hash := PyData.keyHash P (Str.ofString "clock_text"), key := Value.str (Str.ofString "clock_text") 439, val := Value.ref 178 } :: { hash := PyData.keyHash P (Str.ofString "day_text"), key := Value.str (Str.ofString "day_text") 448, val := Value.ref 185 } :: { hash := PyData.keyHash P (Str.ofString "write_internal"), key := Value.str (Str.ofString "write_internal") 456, val := Value.ref 192 } :: { hash := PyData.keyHash P (Str.ofString "lower_code"), key := Value.str (Str.ofString "lower_code") 465, val := Value.ref 199 } :: { hash := PyData.keyHash P (Str.ofString "lower_text"), key := Value.str (Str.ofString "lower_text") 471, val := Value.ref 204 } :: { hash := PyData.keyHash P (Str.ofString "text_octets"), key := Value.str (Str.ofString "text_octets") 477, val := Value.ref 209 } :: { hash := PyData.keyHash P (Str.ofString "WHITE"), key := Value.str (Str.ofString "WHITE") 482, val := Value.ref 210 } :: { hash := PyData.keyHash P (Str.ofString "Field"), key := Value.str (Str.ofString "Field") 526, val := Value.ref 239 } :: { hash := PyData.keyHash P (Str.ofString "line_at"), key := Value.str (Str.ofString "line_at") 536, val := Value.ref 250 } :: { hash := PyData.keyHash P (Str.ofString "is_name"), key := Value.str (Str.ofString "is_name") 544, val := Value.ref 257 } :: { hash := PyData.keyHash P (Str.ofString "colon_in"), key := Value.str (Str.ofString "colon_in") 554, val := Value.ref 264 } :: { hash := PyData.keyHash P (Str.ofString "read_spans"), key := Value.str (Str.ofString "read_spans") 572, val := Value.ref 272 } :: { hash := PyData.keyHash P (Str.ofString "rows_of"), key := Value.str (Str.ofString "rows_of") 583, val := Value.ref 279 } :: { hash := PyData.keyHash P (Str.ofString "unfolded"), key := Value.str (Str.ofString "unfolded") 590, val := Value.ref 286 } :: { hash := PyData.keyHash P (Str.ofString "first_body"), key := Value.str (Str.ofString "first_body") 600, val := Value.ref 293 } :: { hash := PyData.keyHash P (Str.ofString "PLAIN_ENCODING"), key := Value.str (Str.ofString "PLAIN_ENCODING") 604, val := Value.str (Str.ofString "7bit") 603 } :: { hash := PyData.keyHash P (Str.ofString "WORD_ENDS"), key := Value.str (Str.ofString "WORD_ENDS") 606, val := Value.bytes #[32, 9, 40, 59] 605 } :: { hash := PyData.keyHash P (Str.ofString "Part"), key := Value.str (Str.ofString "Part") 652, val := Value.ref 315 } :: { hash := PyData.keyHash P (Str.ofString "encoding_of"), key := Value.str (Str.ofString "encoding_of") 658, val := Value.ref 324 } :: { hash := PyData.keyHash P (Str.ofString "numbered_kids"), key := Value.str (Str.ofString "numbered_kids") 666, val := Value.ref 331 } :: { hash := PyData.keyHash P (Str.ofString "part_at"), key := Value.str (Str.ofString "part_at") 678, val := Value.ref 338 } :: { hash := PyData.keyHash P (Str.ofString "FIELD_WORDS"), key := Value.str (Str.ofString "FIELD_WORDS") 683, val := Value.ref 339 } :: { hash := PyData.keyHash P (Str.ofString "BARRED"), key := Value.str (Str.ofString "BARRED") 685, val := Value.bytes #[40, 41, 123, 37, 42, 34, 92, 93, 32] 684 } :: { hash := PyData.keyHash P (Str.ofString "Section"), key := Value.str (Str.ofString "Section") 727, val := Value.ref 363 } :: { hash := PyData.keyHash P (Str.ofString "is_atom_code"), key := Value.str (Str.ofString "is_atom_code") 734, val := Value.ref 374 } :: { hash := PyData.keyHash P (Str.ofString "show_name"), key := Value.str (Str.ofString "show_name") 740, val := Value.ref 379 } :: { hash := PyData.keyHash P (Str.ofString "show_partial"), key := Value.str (Str.ofString "show_partial") 748, val := Value.ref 386 } :: { hash := PyData.keyHash P (Str.ofString "show_section"), key := Value.str (Str.ofString "show_section") 754, val := Value.ref 392 } :: { hash := PyData.keyHash P (Str.ofString "header_octets"), key := Value.str (Str.ofString "header_octets") 760, val := Value.ref 397 } :: { hash := PyData.keyHash P (Str.ofString "word_octets"), key := Value.str (Str.ofString "word_octets") 769, val := Value.ref 404 } :: { hash := PyData.keyHash P (Str.ofString "whole_octets"), key := Value.str (Str.ofString "whole_octets") 780, val := Value.ref 411 } :: { hash := PyData.keyHash P (Str.ofString "sliced"), key := Value.str (Str.ofString "sliced") 788, val := Value.ref 418 } :: { hash := PyData.keyHash P (Str.ofString "section_octets"), key := Value.str (Str.ofString "section_octets") 797, val := Value.ref 425 } :: { hash := PyData.keyHash P (Str.ofString "Atom"), key := Value.str (Str.ofString "Atom") 835, val := Value.ref 449 } :: { hash := PyData.keyHash P (Str.ofString "whole_section"), key := Value.str (Str.ofString "whole_section") 844, val := Value.ref 460 } :: { hash := PyData.keyHash P (Str.ofString "simple_pair"), key := Value.str (Str.ofString "simple_pair") 850, val := Value.ref 465 } :: { hash := PyData.keyHash P (Str.ofString "section_pair"), key := Value.str (Str.ofString "section_pair") 860, val := Value.ref 472 } :: { hash := PyData.keyHash P (Str.ofString "Letter"), key := Value.str (Str.ofString "Letter") 914, val := Value.ref 503 } :: { hash := PyData.keyHash P (Str.ofString "Kind"), key := Value.str (Str.ofString "Kind") 976, val := Value.ref 550 } :: { hash := PyData.keyHash P (Str.ofString "_law_ROWS"), key := Value.str (Str.ofString "_law_ROWS") 984, val := Value.ref 555 } :: { hash := PyData.keyHash P (Str.ofString "_law_TITLES"), key := Value.str (Str.ofString "_law_TITLES") 990, val := Value.ref 556 } :: { hash := PyData.keyHash P (Str.ofString "_law_NAMES"), key := Value.str (Str.ofString "_law_NAMES") 995, val := Value.ref 557 } :: { hash := PyData.keyHash P (Str.ofString "_law_WORDS"), key := Value.str (Str.ofString "_law_WORDS") 1002, val := Value.ref 558 } :: { hash := PyData.keyHash P (Str.ofString "_law_PATHS"), key := Value.str (Str.ofString "_law_PATHS") 1007, val := Value.ref 563 } :: { hash := PyData.keyHash P (Str.ofString "_law_DAYS"), key := Value.str (Str.ofString "_law_DAYS") 1019, val := Value.ref 569 } :: { hash := PyData.keyHash P (Str.ofString "_law_FLAGS"), key := Value.str (Str.ofString "_law_FLAGS") 1023, val := Value.ref 570 } :: { hash := PyData.keyHash P (Str.ofString "_law_draw"), key := Value.str (Str.ofString "_law_draw") 1033, val := Value.ref 577 } :: { hash := PyData.keyHash P (Str.ofString "_law_two"), key := Value.str (Str.ofString "_law_two") 1040, val := Value.ref 584 } :: { hash := PyData.keyHash P (Str.ofString "_law_section"), key := Value.str (Str.ofString "_law_section") 1046, val := Value.ref 589 } :: { hash := PyData.keyHash P (Str.ofString "_law_shown"), key := Value.str (Str.ofString "_law_shown") 1052, val := Value.ref 594 } :: { hash := PyData.keyHash P (Str.ofString "_law_picked"), key := Value.str (Str.ofString "_law_picked") 1058, val := Value.ref 599 } :: { hash := PyData.keyHash P (Str.ofString "_law_octets"), key := Value.str (Str.ofString "_law_octets") 1064, val := Value.ref 604 } :: { hash := PyData.keyHash P (Str.ofString "_law_simple"), key := Value.str (Str.ofString "_law_simple") 1070, val := Value.ref 609 } :: { hash := PyData.keyHash P (Str.ofString "law"), key := Value.str (Str.ofString "law") 1076, val := Value.ref 614 } :: [])) 83 }) ::
(nat_lit 29, { cls := Value.type "tuple", data := Data.seq #[Value.int (-1) 209] }) ::
(nat_lit 74, { cls := Value.type "tuple", data := Data.seq #[Value.str (Str.ofString "Jan") 270, Value.str (Str.ofString "Feb") 271, Value.str (Str.ofString "Mar") 272, Value.str (Str.ofString "Apr") 273, Value.str (Str.ofString "May") 274, Value.str (Str.ofString "Jun") 275, Value.str (Str.ofString "Jul") 276, Value.str (Str.ofString "Aug") 277, Value.str (Str.ofString "Sep") 278, Value.str (Str.ofString "Oct") 279, Value.str (Str.ofString "Nov") 280, Value.str (Str.ofString "Dec") 281] }) ::
(nat_lit 87, { cls := Value.type "code", data := Data.fields #[Value.str (Str.ofString "__init__") 307, Value.str (Str.ofString "Moment.__init__") 308, Value.str (Str.ofString "/claim/cut.py") 309, Value.int 26 0, Value.int 8 0, Value.int 0 0, Value.int 0 0, Value.int 3 0, Value.ref 82, Value.bool true, Value.int 181 0, Value.ref 83, Value.none, Value.ref 84, Value.ref 85, Value.ref 86, Value.int 318 0, Value.int 26 0, Value.str (Str.ofString "/claim/cut.py") 319] }) ::
(nat_lit 88, { cls := Value.type "function", data := Data.func { name := Str.ofString "__init__", qualname := Str.ofString "Moment.__init__", params := p88, body := FuncBody.stmts b88, scope := s88, globals := 3, closure := [], defaults := Value.none, kwdefaults := Value.none, pyModule := Value.str (Str.ofString "postkeep.dates") 268, code := Value.ref 87 } }) ::
(nat_lit 97, { cls := Value.type "dict", data := Data.dict #[{ hash := PyData.keyHash P (Str.ofString "__module__"), key := Value.str (Str.ofString "__module__") 302, val := Value.str (Str.ofString "postkeep.dates") 268 }, { hash := PyData.keyHash P (Str.ofString "__firstlineno__"), key := Value.str (Str.ofString "__firstlineno__") 306, val := Value.int 24 305 }, { hash := PyData.keyHash P (Str.ofString "__init__"), key := Value.str (Str.ofString "__init__") 320, val := Value.ref 88 }, { hash := PyData.keyHash P (Str.ofString "told"), key := Value.str (Str.ofString "told") 327, val := Value.ref 95 }, { hash := PyData.keyHash P (Str.ofString "__static_attributes__"), key := Value.str (Str.ofString "__static_attributes__") 335, val := Value.ref 96 }, { hash := PyData.keyHash P (Str.ofString "__dict__"), key := Value.str (Str.ofString "__dict__") 337, val := Value.ref 99 }, { hash := PyData.keyHash P (Str.ofString "__weakref__"), key := Value.str (Str.ofString "__weakref__") 339, val := Value.ref 100 }, { hash := PyData.keyHash P (Str.ofString "__doc__"), key := Value.str (Str.ofString "__doc__") 340, val := Value.none }] 4 }) ::
(nat_lit 98, { cls := Value.type "type", data := Data.cls { name := Str.ofString "Moment", bases := [Value.type "object"], mro := [Value.ref 98, Value.type "object"], ns := 97, qualname := Str.ofString "Moment" }, slots := #[none, none, some (Value.str (Str.ofString "Moment") 295), some (Value.str (Str.ofString "Moment") 303), some (Value.builtin "object.__new__"), some (Value.bool true)] }) ::
(nat_lit 108, { cls := Value.type "code", data := Data.fields #[Value.str (Str.ofString "is_leap") 343, Value.str (Str.ofString "is_leap") 344, Value.str (Str.ofString "/claim/cut.py") 345, Value.int 37 0, Value.int 1 0, Value.int 0 0, Value.int 0 0, Value.int 3 0, Value.ref 103, Value.bool true, Value.int 181 0, Value.ref 104, Value.none, Value.ref 105, Value.ref 106, Value.ref 107, Value.int 347 0, Value.int 37 0, Value.str (Str.ofString "/claim/cut.py") 348] }) ::
(nat_lit 109, { cls := Value.type "function", data := Data.func { name := Str.ofString "is_leap", qualname := Str.ofString "is_leap", params := p109, body := FuncBody.stmts b109, scope := s109, globals := 3, closure := [], defaults := Value.none, kwdefaults := Value.none, pyModule := Value.str (Str.ofString "postkeep.dates") 268, code := Value.ref 108 } }) ::
(nat_lit 115, { cls := Value.type "code", data := Data.fields #[Value.str (Str.ofString "month_length") 350, Value.str (Str.ofString "month_length") 351, Value.str (Str.ofString "/claim/cut.py") 352, Value.int 39 0, Value.int 2 0, Value.int 0 0, Value.int 0 0, Value.int 3 0, Value.ref 110, Value.bool true, Value.int 181 0, Value.ref 111, Value.none, Value.ref 112, Value.ref 113, Value.ref 114, Value.int 355 0, Value.int 39 0, Value.str (Str.ofString "/claim/cut.py") 356] }) ::
(nat_lit 116, { cls := Value.type "function", data := Data.func { name := Str.ofString "month_length", qualname := Str.ofString "month_length", params := p116, body := FuncBody.stmts b116, scope := s116, globals := 3, closure := [], defaults := Value.none, kwdefaults := Value.none, pyModule := Value.str (Str.ofString "postkeep.dates") 268, code := Value.ref 115 } }) ::
(nat_lit 122, { cls := Value.type "code", data := Data.fields #[Value.str (Str.ofString "days_before_year") 358, Value.str (Str.ofString "days_before_year") 359, Value.str (Str.ofString "/claim/cut.py") 360, Value.int 43 0, Value.int 1 0, Value.int 0 0, Value.int 0 0, Value.int 3 0, Value.ref 117, Value.bool true, Value.int 181 0, Value.ref 118, Value.none, Value.ref 119, Value.ref 120, Value.ref 121, Value.int 363 0, Value.int 43 0, Value.str (Str.ofString "/claim/cut.py") 364] }) ::
(nat_lit 123, { cls := Value.type "function", data := Data.func { name := Str.ofString "days_before_year", qualname := Str.ofString "days_before_year", params := p123, body := FuncBody.stmts b123, scope := s123, globals := 3, closure := [], defaults := Value.none, kwdefaults := Value.none, pyModule := Value.str (Str.ofString "postkeep.dates") 268, code := Value.ref 122 } }) ::
(nat_lit 129, { cls := Value.type "code", data := Data.fields #[Value.str (Str.ofString "day_told") 366, Value.str (Str.ofString "day_told") 367, Value.str (Str.ofString "/claim/cut.py") 368, Value.int 46 0, Value.int 1 0, Value.int 0 0, Value.int 0 0, Value.int 3 0, Value.ref 124, Value.bool true, Value.int 181 0, Value.ref 125, Value.none, Value.ref 126, Value.ref 127, Value.ref 128, Value.int 374 0, Value.int 46 0, Value.str (Str.ofString "/claim/cut.py") 375] }) ::
(nat_lit 130, { cls := Value.type "function", data := Data.func { name := Str.ofString "day_told", qualname := Str.ofString "day_told", params := p130, body := FuncBody.stmts b130, scope := s130, globals := 3, closure := [], defaults := Value.none, kwdefaults := Value.none, pyModule := Value.str (Str.ofString "postkeep.dates") 268, code := Value.ref 129 } }) ::
(nat_lit 136, { cls := Value.type "code", data := Data.fields #[Value.str (Str.ofString "is_day") 377, Value.str (Str.ofString "is_day") 378, Value.str (Str.ofString "/claim/cut.py") 379, Value.int 59 0, Value.int 3 0, Value.int 0 0, Value.int 0 0, Value.int 3 0, Value.ref 131, Value.bool true, Value.int 181 0, Value.ref 132, Value.none, Value.ref 133, Value.ref 134, Value.ref 135, Value.int 383 0, Value.int 59 0, Value.str (Str.ofString "/claim/cut.py") 384] }) ::
(nat_lit 137, { cls := Value.type "function", data := Data.func { name := Str.ofString "is_day", qualname := Str.ofString "is_day", params := p137, body := FuncBody.stmts b137, scope := s137, globals := 3, closure := [], defaults := Value.none, kwdefaults := Value.none, pyModule := Value.str (Str.ofString "postkeep.dates") 268, code := Value.ref 136 } }) ::
(nat_lit 143, { cls := Value.type "code", data := Data.fields #[Value.str (Str.ofString "is_time") 386, Value.str (Str.ofString "is_time") 387, Value.str (Str.ofString "/claim/cut.py") 388, Value.int 61 0, Value.int 3 0, Value.int 0 0, Value.int 0 0, Value.int 3 0, Value.ref 138, Value.bool true, Value.int 181 0, Value.ref 139, Value.none, Value.ref 140, Value.ref 141, Value.ref 142, Value.int 392 0, Value.int 61 0, Value.str (Str.ofString "/claim/cut.py") 393] }) ::
(nat_lit 144, { cls := Value.type "function", data := Data.func { name := Str.ofString "is_time", qualname := Str.ofString "is_time", params := p144, body := FuncBody.stmts b144, scope := s144, globals := 3, closure := [], defaults := Value.none, kwdefaults := Value.none, pyModule := Value.str (Str.ofString "postkeep.dates") 268, code := Value.ref 143 } }) ::
(nat_lit 150, { cls := Value.type "code", data := Data.fields #[Value.str (Str.ofString "check_moment") 395, Value.str (Str.ofString "check_moment") 396, Value.str (Str.ofString "/claim/cut.py") 397, Value.int 63 0, Value.int 1 0, Value.int 0 0, Value.int 0 0, Value.int 3 0, Value.ref 145, Value.bool true, Value.int 181 0, Value.ref 146, Value.none, Value.ref 147, Value.ref 148, Value.ref 149, Value.int 400 0, Value.int 63 0, Value.str (Str.ofString "/claim/cut.py") 401] }) ::
(nat_lit 151, { cls := Value.type "function", data := Data.func { name := Str.ofString "check_moment", qualname := Str.ofString "check_moment", params := p151, body := FuncBody.stmts b151, scope := s151, globals := 3, closure := [], defaults := Value.none, kwdefaults := Value.none, pyModule := Value.str (Str.ofString "postkeep.dates") 268, code := Value.ref 150 } }) ::
(nat_lit 152, { cls := Value.type "tuple", data := Data.seq #[Value.int 0 403] }) ::
(nat_lit 158, { cls := Value.type "code", data := Data.fields #[Value.str (Str.ofString "moment_of") 404, Value.str (Str.ofString "moment_of") 405, Value.str (Str.ofString "/claim/cut.py") 406, Value.int 67 0, Value.int 2 0, Value.int 0 0, Value.int 0 0, Value.int 3 0, Value.ref 153, Value.bool true, Value.int 181 0, Value.ref 154, Value.none, Value.ref 155, Value.ref 156, Value.ref 157, Value.int 415 0, Value.int 67 0, Value.str (Str.ofString "/claim/cut.py") 416] }) ::
(nat_lit 159, { cls := Value.type "function", data := Data.func { name := Str.ofString "moment_of", qualname := Str.ofString "moment_of", params := p159, body := FuncBody.stmts b159, scope := s159, globals := 3, closure := [], defaults := Value.ref 152, kwdefaults := Value.none, pyModule := Value.str (Str.ofString "postkeep.dates") 268, code := Value.ref 158 } }) ::
(nat_lit 165, { cls := Value.type "code", data := Data.fields #[Value.str (Str.ofString "padded") 418, Value.str (Str.ofString "padded") 419, Value.str (Str.ofString "/claim/cut.py") 420, Value.int 74 0, Value.int 2 0, Value.int 0 0, Value.int 0 0, Value.int 3 0, Value.ref 160, Value.bool true, Value.int 181 0, Value.ref 161, Value.none, Value.ref 162, Value.ref 163, Value.ref 164, Value.int 424 0, Value.int 74 0, Value.str (Str.ofString "/claim/cut.py") 425] }) ::
(nat_lit 166, { cls := Value.type "function", data := Data.func { name := Str.ofString "padded", qualname := Str.ofString "padded", params := p166, body := FuncBody.stmts b166, scope := s166, globals := 3, closure := [], defaults := Value.none, kwdefaults := Value.none, pyModule := Value.str (Str.ofString "postkeep.dates") 268, code := Value.ref 165 } }) ::
(nat_lit 172, { cls := Value.type "code", data := Data.fields #[Value.str (Str.ofString "zone_text") 427, Value.str (Str.ofString "zone_text") 428, Value.str (Str.ofString "/claim/cut.py") 429, Value.int 77 0, Value.int 1 0, Value.int 0 0, Value.int 0 0, Value.int 3 0, Value.ref 167, Value.bool true, Value.int 181 0, Value.ref 168, Value.none, Value.ref 169, Value.ref 170, Value.ref 171, Value.int 431 0, Value.int 77 0, Value.str (Str.ofString "/claim/cut.py") 432] }) ::
(nat_lit 173, { cls := Value.type "function", data := Data.func { name := Str.ofString "zone_text", qualname := Str.ofString "zone_text", params := p173, body := FuncBody.stmts b173, scope := s173, globals := 3, closure := [], defaults := Value.none, kwdefaults := Value.none, pyModule := Value.str (Str.ofString "postkeep.dates") 268, code := Value.ref 172 } }) ::
(nat_lit 177, { cls := Value.type "code", data := Data.fields #[Value.str (Str.ofString "clock_text") 434, Value.str (Str.ofString "clock_text") 435, Value.str (Str.ofString "/claim/cut.py") 436, Value.int 79 0, Value.int 1 0, Value.int 0 0, Value.int 0 0, Value.int 3 0, Value.ref 174, Value.bool true, Value.int 181 0, Value.ref 175, Value.none, Value.none, Value.none, Value.ref 176, Value.int 437 0, Value.int 79 0, Value.str (Str.ofString "/claim/cut.py") 438] }) ::
(nat_lit 178, { cls := Value.type "function", data := Data.func { name := Str.ofString "clock_text", qualname := Str.ofString "clock_text", params := p178, body := FuncBody.stmts b178, scope := s178, globals := 3, closure := [], defaults := Value.none, kwdefaults := Value.none, pyModule := Value.str (Str.ofString "postkeep.dates") 268, code := Value.ref 177 } }) ::
(nat_lit 184, { cls := Value.type "code", data := Data.fields #[Value.str (Str.ofString "day_text") 440, Value.str (Str.ofString "day_text") 441, Value.str (Str.ofString "/claim/cut.py") 442, Value.int 82 0, Value.int 3 0, Value.int 0 0, Value.int 0 0, Value.int 3 0, Value.ref 179, Value.bool true, Value.int 181 0, Value.ref 180, Value.none, Value.ref 181, Value.ref 182, Value.ref 183, Value.int 446 0, Value.int 82 0, Value.str (Str.ofString "/claim/cut.py") 447] }) ::
(nat_lit 185, { cls := Value.type "function", data := Data.func { name := Str.ofString "day_text", qualname := Str.ofString "day_text", params := p185, body := FuncBody.stmts b185, scope := s185, globals := 3, closure := [], defaults := Value.none, kwdefaults := Value.none, pyModule := Value.str (Str.ofString "postkeep.dates") 268, code := Value.ref 184 } }) ::
(nat_lit 191, { cls := Value.type "code", data := Data.fields #[Value.str (Str.ofString "write_internal") 449, Value.str (Str.ofString "write_internal") 450, Value.str (Str.ofString "/claim/cut.py") 451, Value.int 84 0, Value.int 1 0, Value.int 0 0, Value.int 0 0, Value.int 3 0, Value.ref 186, Value.bool true, Value.int 181 0, Value.ref 187, Value.none, Value.ref 188, Value.ref 189, Value.ref 190, Value.int 454 0, Value.int 84 0, Value.str (Str.ofString "/claim/cut.py") 455] }) ::
(nat_lit 192, { cls := Value.type "function", data := Data.func { name := Str.ofString "write_internal", qualname := Str.ofString "write_internal", params := p192, body := FuncBody.stmts b192, scope := s192, globals := 3, closure := [], defaults := Value.none, kwdefaults := Value.none, pyModule := Value.str (Str.ofString "postkeep.dates") 268, code := Value.ref 191 } }) ::
(nat_lit 198, { cls := Value.type "code", data := Data.fields #[Value.str (Str.ofString "lower_code") 459, Value.str (Str.ofString "lower_code") 460, Value.str (Str.ofString "/claim/cut.py") 461, Value.int 89 0, Value.int 1 0, Value.int 0 0, Value.int 0 0, Value.int 3 0, Value.ref 193, Value.bool true, Value.int 181 0, Value.ref 194, Value.none, Value.ref 195, Value.ref 196, Value.ref 197, Value.int 463 0, Value.int 89 0, Value.str (Str.ofString "/claim/cut.py") 464] }) ::
(nat_lit 199, { cls := Value.type "function", data := Data.func { name := Str.ofString "lower_code", qualname := Str.ofString "lower_code", params := p199, body := FuncBody.stmts b199, scope := s199, globals := 3, closure := [], defaults := Value.none, kwdefaults := Value.none, pyModule := Value.str (Str.ofString "postkeep.octets") 457, code := Value.ref 198 } }) ::
(nat_lit 203, { cls := Value.type "code", data := Data.fields #[Value.str (Str.ofString "lower_text") 466, Value.str (Str.ofString "lower_text") 467, Value.str (Str.ofString "/claim/cut.py") 468, Value.int 91 0, Value.int 1 0, Value.int 0 0, Value.int 0 0, Value.int 3 0, Value.ref 200, Value.bool true, Value.int 181 0, Value.ref 201, Value.none, Value.none, Value.none, Value.ref 202, Value.int 469 0, Value.int 91 0, Value.str (Str.ofString "/claim/cut.py") 470] }) ::
(nat_lit 204, { cls := Value.type "function", data := Data.func { name := Str.ofString "lower_text", qualname := Str.ofString "lower_text", params := p204, body := FuncBody.stmts b204, scope := s204, globals := 3, closure := [], defaults := Value.none, kwdefaults := Value.none, pyModule := Value.str (Str.ofString "postkeep.octets") 457, code := Value.ref 203 } }) ::
(nat_lit 208, { cls := Value.type "code", data := Data.fields #[Value.str (Str.ofString "text_octets") 472, Value.str (Str.ofString "text_octets") 473, Value.str (Str.ofString "/claim/cut.py") 474, Value.int 93 0, Value.int 1 0, Value.int 0 0, Value.int 0 0, Value.int 3 0, Value.ref 205, Value.bool true, Value.int 181 0, Value.ref 206, Value.none, Value.none, Value.none, Value.ref 207, Value.int 475 0, Value.int 93 0, Value.str (Str.ofString "/claim/cut.py") 476] }) ::
(nat_lit 209, { cls := Value.type "function", data := Data.func { name := Str.ofString "text_octets", qualname := Str.ofString "text_octets", params := p209, body := FuncBody.stmts b209, scope := s209, globals := 3, closure := [], defaults := Value.none, kwdefaults := Value.none, pyModule := Value.str (Str.ofString "postkeep.octets") 457, code := Value.ref 208 } }) ::
(nat_lit 210, { cls := Value.type "tuple", data := Data.seq #[Value.int 32 480, Value.int 9 481] }) ::
(nat_lit 223, { cls := Value.type "code", data := Data.fields #[Value.str (Str.ofString "__init__") 495, Value.str (Str.ofString "Field.__init__") 496, Value.str (Str.ofString "/claim/cut.py") 497, Value.int 102 0, Value.int 3 0, Value.int 0 0, Value.int 0 0, Value.int 3 0, Value.ref 218, Value.bool true, Value.int 181 0, Value.ref 219, Value.none, Value.ref 220, Value.ref 221, Value.ref 222, Value.int 501 0, Value.int 102 0, Value.str (Str.ofString "/claim/cut.py") 502] }) ::
(nat_lit 224, { cls := Value.type "function", data := Data.func { name := Str.ofString "__init__", qualname := Str.ofString "Field.__init__", params := p224, body := FuncBody.stmts b224, scope := s224, globals := 3, closure := [], defaults := Value.none, kwdefaults := Value.none, pyModule := Value.str (Str.ofString "postkeep.headers") 478, code := Value.ref 223 } }) ::
(nat_lit 228, { cls := Value.type "code", data := Data.fields #[Value.str (Str.ofString "word") 504, Value.str (Str.ofString "Field.word") 505, Value.str (Str.ofString "/claim/cut.py") 506, Value.int 106 0, Value.int 1 0, Value.int 0 0, Value.int 0 0, Value.int 3 0, Value.ref 225, Value.bool true, Value.int 181 0, Value.ref 226, Value.none, Value.none, Value.none, Value.ref 227, Value.int 507 0, Value.int 106 0, Value.str (Str.ofString "/claim/cut.py") 508] }) ::
(nat_lit 229, { cls := Value.type "function", data := Data.func { name := Str.ofString "word", qualname := Str.ofString "Field.word", params := p229, body := FuncBody.stmts b229, scope := s229, globals := 3, closure := [], defaults := Value.none, kwdefaults := Value.none, pyModule := Value.str (Str.ofString "postkeep.headers") 478, code := Value.ref 228 } }) ::
(nat_lit 238, { cls := Value.type "dict", data := Data.dict #[{ hash := PyData.keyHash P (Str.ofString "__module__"), key := Value.str (Str.ofString "__module__") 490, val := Value.str (Str.ofString "postkeep.headers") 478 }, { hash := PyData.keyHash P (Str.ofString "__firstlineno__"), key := Value.str (Str.ofString "__firstlineno__") 494, val := Value.int 100 493 }, { hash := PyData.keyHash P (Str.ofString "__init__"), key := Value.str (Str.ofString "__init__") 503, val := Value.ref 224 }, { hash := PyData.keyHash P (Str.ofString "word"), key := Value.str (Str.ofString "word") 509, val := Value.ref 229 }, { hash := PyData.keyHash P (Str.ofString "told"), key := Value.str (Str.ofString "told") 516, val := Value.ref 236 }, { hash := PyData.keyHash P (Str.ofString "__static_attributes__"), key := Value.str (Str.ofString "__static_attributes__") 519, val := Value.ref 237 }, { hash := PyData.keyHash P (Str.ofString "__dict__"), key := Value.str (Str.ofString "__dict__") 521, val := Value.ref 240 }, { hash := PyData.keyHash P (Str.ofString "__weakref__"), key := Value.str (Str.ofString "__weakref__") 523, val := Value.ref 241 }, { hash := PyData.keyHash P (Str.ofString "__doc__"), key := Value.str (Str.ofString "__doc__") 524, val := Value.none }] 4 }) ::
(nat_lit 239, { cls := Value.type "type", data := Data.cls { name := Str.ofString "Field", bases := [Value.type "object"], mro := [Value.ref 239, Value.type "object"], ns := 238, qualname := Str.ofString "Field" }, slots := #[none, none, some (Value.str (Str.ofString "Field") 483), some (Value.str (Str.ofString "Field") 491), some (Value.builtin "object.__new__"), some (Value.bool true)] }) ::
(nat_lit 249, { cls := Value.type "code", data := Data.fields #[Value.str (Str.ofString "line_at") 527, Value.str (Str.ofString "line_at") 528, Value.str (Str.ofString "/claim/cut.py") 529, Value.int 111 0, Value.int 3 0, Value.int 0 0, Value.int 0 0, Value.int 3 0, Value.ref 244, Value.bool true, Value.int 181 0, Value.ref 245, Value.none, Value.ref 246, Value.ref 247, Value.ref 248, Value.int 534 0, Value.int 111 0, Value.str (Str.ofString "/claim/cut.py") 535] }) ::
(nat_lit 250, { cls := Value.type "function", data := Data.func { name := Str.ofString "line_at", qualname := Str.ofString "line_at", params := p250, body := FuncBody.stmts b250, scope := s250, globals := 3, closure := [], defaults := Value.none, kwdefaults := Value.none, pyModule := Value.str (Str.ofString "postkeep.headers") 478, code := Value.ref 249 } }) ::
(nat_lit 256, { cls := Value.type "code", data := Data.fields #[Value.str (Str.ofString "is_name") 537, Value.str (Str.ofString "is_name") 538, Value.str (Str.ofString "/claim/cut.py") 539, Value.int 118 0, Value.int 1 0, Value.int 0 0, Value.int 0 0, Value.int 3 0, Value.ref 251, Value.bool true, Value.int 181 0, Value.ref 252, Value.none, Value.ref 253, Value.ref 254, Value.ref 255, Value.int 542 0, Value.int 118 0, Value.str (Str.ofString "/claim/cut.py") 543] }) ::
(nat_lit 257, { cls := Value.type "function", data := Data.func { name := Str.ofString "is_name", qualname := Str.ofString "is_name", params := p257, body := FuncBody.stmts b257, scope := s257, globals := 3, closure := [], defaults := Value.none, kwdefaults := Value.none, pyModule := Value.str (Str.ofString "postkeep.headers") 478, code := Value.ref 256 } }) ::
(nat_lit 263, { cls := Value.type "code", data := Data.fields #[Value.str (Str.ofString "colon_in") 545, Value.str (Str.ofString "colon_in") 546, Value.str (Str.ofString "/claim/cut.py") 547, Value.int 123 0, Value.int 3 0, Value.int 0 0, Value.int 0 0, Value.int 3 0, Value.ref 258, Value.bool true, Value.int 181 0, Value.ref 259, Value.none, Value.ref 260, Value.ref 261, Value.ref 262, Value.int 552 0, Value.int 123 0, Value.str (Str.ofString "/claim/cut.py") 553] }) ::
(nat_lit 264, { cls := Value.type "function", data := Data.func { name := Str.ofString "colon_in", qualname := Str.ofString "colon_in", params := p264, body := FuncBody.stmts b264, scope := s264, globals := 3, closure := [], defaults := Value.none, kwdefaults := Value.none, pyModule := Value.str (Str.ofString "postkeep.headers") 478, code := Value.ref 263 } }) ::
(nat_lit 265, { cls := Value.type "tuple", data := Data.seq #[Value.int 0 555, Value.int (-1) 557] }) ::
(nat_lit 271, { cls := Value.type "code", data := Data.fields #[Value.str (Str.ofString "read_spans") 558, Value.str (Str.ofString "read_spans") 559, Value.str (Str.ofString "/claim/cut.py") 560, Value.int 126 0, Value.int 3 0, Value.int 0 0, Value.int 0 0, Value.int 3 0, Value.ref 266, Value.bool true, Value.int 181 0, Value.ref 267, Value.none, Value.ref 268, Value.ref 269, Value.ref 270, Value.int 570 0, Value.int 126 0, Value.str (Str.ofString "/claim/cut.py") 571] }) ::
(nat_lit 272, { cls := Value.type "function", data := Data.func { name := Str.ofString "read_spans", qualname := Str.ofString "read_spans", params := p272, body := FuncBody.stmts b272, scope := s272, globals := 3, closure := [], defaults := Value.ref 265, kwdefaults := Value.none, pyModule := Value.str (Str.ofString "postkeep.headers") 478, code := Value.ref 271 } }) ::
(nat_lit 292, { cls := Value.type "code", data := Data.fields #[Value.str (Str.ofString "first_body") 591, Value.str (Str.ofString "first_body") 592, Value.str (Str.ofString "/claim/cut.py") 593, Value.int 153 0, Value.int 2 0, Value.int 0 0, Value.int 0 0, Value.int 3 0, Value.ref 287, Value.bool true, Value.int 181 0, Value.ref 288, Value.none, Value.ref 289, Value.ref 290, Value.ref 291, Value.int 598 0, Value.int 153 0, Value.str (Str.ofString "/claim/cut.py") 599] }) ::
(nat_lit 293, { cls := Value.type "function", data := Data.func { name := Str.ofString "first_body", qualname := Str.ofString "first_body", params := p293, body := FuncBody.stmts b293, scope := s293, globals := 3, closure := [], defaults := Value.none, kwdefaults := Value.none, pyModule := Value.str (Str.ofString "postkeep.headers") 478, code := Value.ref 292 } }) ::
(nat_lit 306, { cls := Value.type "code", data := Data.fields #[Value.str (Str.ofString "__init__") 619, Value.str (Str.ofString "Part.__init__") 620, Value.str (Str.ofString "/claim/cut.py") 621, Value.int 164 0, Value.int 6 0, Value.int 0 0, Value.int 0 0, Value.int 3 0, Value.ref 301, Value.bool true, Value.int 181 0, Value.ref 302, Value.none, Value.ref 303, Value.ref 304, Value.ref 305, Value.int 628 0, Value.int 164 0, Value.str (Str.ofString "/claim/cut.py") 629] }) ::
(nat_lit 307, { cls := Value.type "function", data := Data.func { name := Str.ofString "__init__", qualname := Str.ofString "Part.__init__", params := p307, body := FuncBody.stmts b307, scope := s307, globals := 3, closure := [], defaults := Value.none, kwdefaults := Value.none, pyModule := Value.str (Str.ofString "postkeep.parts") 601, code := Value.ref 306 } }) ::
(nat_lit 314, { cls := Value.type "dict", data := Data.dict #[{ hash := PyData.keyHash P (Str.ofString "__module__"), key := Value.str (Str.ofString "__module__") 614, val := Value.str (Str.ofString "postkeep.parts") 601 }, { hash := PyData.keyHash P (Str.ofString "__firstlineno__"), key := Value.str (Str.ofString "__firstlineno__") 618, val := Value.int 162 617 }, { hash := PyData.keyHash P (Str.ofString "__init__"), key := Value.str (Str.ofString "__init__") 630, val := Value.ref 307 }, { hash := PyData.keyHash P (Str.ofString "told"), key := Value.str (Str.ofString "told") 636, val := Value.ref 312 }, { hash := PyData.keyHash P (Str.ofString "__static_attributes__"), key := Value.str (Str.ofString "__static_attributes__") 645, val := Value.ref 313 }, { hash := PyData.keyHash P (Str.ofString "__dict__"), key := Value.str (Str.ofString "__dict__") 647, val := Value.ref 316 }, { hash := PyData.keyHash P (Str.ofString "__weakref__"), key := Value.str (Str.ofString "__weakref__") 649, val := Value.ref 317 }, { hash := PyData.keyHash P (Str.ofString "__doc__"), key := Value.str (Str.ofString "__doc__") 650, val := Value.none }] 4 }) ::
(nat_lit 315, { cls := Value.type "type", data := Data.cls { name := Str.ofString "Part", bases := [Value.type "object"], mro := [Value.ref 315, Value.type "object"], ns := 314, qualname := Str.ofString "Part" }, slots := #[none, none, some (Value.str (Str.ofString "Part") 607), some (Value.str (Str.ofString "Part") 615), some (Value.builtin "object.__new__"), some (Value.bool true)] }) ::
(nat_lit 323, { cls := Value.type "code", data := Data.fields #[Value.str (Str.ofString "encoding_of") 653, Value.str (Str.ofString "encoding_of") 654, Value.str (Str.ofString "/claim/cut.py") 655, Value.int 178 0, Value.int 1 0, Value.int 0 0, Value.int 0 0, Value.int 3 0, Value.ref 320, Value.bool true, Value.int 181 0, Value.ref 321, Value.none, Value.none, Value.none, Value.ref 322, Value.int 656 0, Value.int 178 0, Value.str (Str.ofString "/claim/cut.py") 657] }) ::
(nat_lit 324, { cls := Value.type "function", data := Data.func { name := Str.ofString "encoding_of", qualname := Str.ofString "encoding_of", params := p324, body := FuncBody.stmts b324, scope := s324, globals := 3, closure := [], defaults := Value.none, kwdefaults := Value.none, pyModule := Value.str (Str.ofString "postkeep.parts") 601, code := Value.ref 323 } }) ::
(nat_lit 330, { cls := Value.type "code", data := Data.fields #[Value.str (Str.ofString "numbered_kids") 659, Value.str (Str.ofString "numbered_kids") 660, Value.str (Str.ofString "/claim/cut.py") 661, Value.int 187 0, Value.int 2 0, Value.int 0 0, Value.int 0 0, Value.int 3 0, Value.ref 325, Value.bool true, Value.int 181 0, Value.ref 326, Value.none, Value.ref 327, Value.ref 328, Value.ref 329, Value.int 664 0, Value.int 187 0, Value.str (Str.ofString "/claim/cut.py") 665] }) ::
(nat_lit 331, { cls := Value.type "function", data := Data.func { name := Str.ofString "numbered_kids", qualname := Str.ofString "numbered_kids", params := p331, body := FuncBody.stmts b331, scope := s331, globals := 3, closure := [], defaults := Value.none, kwdefaults := Value.none, pyModule := Value.str (Str.ofString "postkeep.parts") 601, code := Value.ref 330 } }) ::
(nat_lit 337, { cls := Value.type "code", data := Data.fields #[Value.str (Str.ofString "part_at") 667, Value.str (Str.ofString "part_at") 668, Value.str (Str.ofString "/claim/cut.py") 669, Value.int 193 0, Value.int 2 0, Value.int 0 0, Value.int 0 0, Value.int 3 0, Value.ref 332, Value.bool true, Value.int 181 0, Value.ref 333, Value.none, Value.ref 334, Value.ref 335, Value.ref 336, Value.int 676 0, Value.int 193 0, Value.str (Str.ofString "/claim/cut.py") 677] }) ::
(nat_lit 338, { cls := Value.type "function", data := Data.func { name := Str.ofString "part_at", qualname := Str.ofString "part_at", params := p338, body := FuncBody.stmts b338, scope := s338, globals := 3, closure := [], defaults := Value.none, kwdefaults := Value.none, pyModule := Value.str (Str.ofString "postkeep.parts") 601, code := Value.ref 337 } }) ::
(nat_lit 339, { cls := Value.type "tuple", data := Data.seq #[Value.str (Str.ofString "HEADER.FIELDS") 681, Value.str (Str.ofString "HEADER.FIELDS.NOT") 682] }) ::
(nat_lit 348, { cls := Value.type "tuple", data := Data.seq #[Value.str (Str.ofString "") 698, Value.ref 347, Value.none] }) ::
(nat_lit 354, { cls := Value.type "code", data := Data.fields #[Value.str (Str.ofString "__init__") 699, Value.str (Str.ofString "Section.__init__") 700, Value.str (Str.ofString "/claim/cut.py") 701, Value.int 208 0, Value.int 5 0, Value.int 0 0, Value.int 0 0, Value.int 3 0, Value.ref 349, Value.bool true, Value.int 181 0, Value.ref 350, Value.none, Value.ref 351, Value.ref 352, Value.ref 353, Value.int 707 0, Value.int 208 0, Value.str (Str.ofString "/claim/cut.py") 708] }) ::
(nat_lit 355, { cls := Value.type "function", data := Data.func { name := Str.ofString "__init__", qualname := Str.ofString "Section.__init__", params := p355, body := FuncBody.stmts b355, scope := s355, globals := 3, closure := [], defaults := Value.ref 348, kwdefaults := Value.none, pyModule := Value.str (Str.ofString "postkeep.sections") 679, code := Value.ref 354 } }) ::
(nat_lit 362, { cls := Value.type "dict", data := Data.dict #[{ hash := PyData.keyHash P (Str.ofString "__module__"), key := Value.str (Str.ofString "__module__") 693, val := Value.str (Str.ofString "postkeep.sections") 679 }, { hash := PyData.keyHash P (Str.ofString "__firstlineno__"), key := Value.str (Str.ofString "__firstlineno__") 697, val := Value.int 206 696 }, { hash := PyData.keyHash P (Str.ofString "__init__"), key := Value.str (Str.ofString "__init__") 709, val := Value.ref 355 }, { hash := PyData.keyHash P (Str.ofString "told"), key := Value.str (Str.ofString "told") 715, val := Value.ref 360 }, { hash := PyData.keyHash P (Str.ofString "__static_attributes__"), key := Value.str (Str.ofString "__static_attributes__") 720, val := Value.ref 361 }, { hash := PyData.keyHash P (Str.ofString "__dict__"), key := Value.str (Str.ofString "__dict__") 722, val := Value.ref 364 }, { hash := PyData.keyHash P (Str.ofString "__weakref__"), key := Value.str (Str.ofString "__weakref__") 724, val := Value.ref 365 }, { hash := PyData.keyHash P (Str.ofString "__doc__"), key := Value.str (Str.ofString "__doc__") 725, val := Value.none }] 4 }) ::
(nat_lit 363, { cls := Value.type "type", data := Data.cls { name := Str.ofString "Section", bases := [Value.type "object"], mro := [Value.ref 363, Value.type "object"], ns := 362, qualname := Str.ofString "Section" }, slots := #[none, none, some (Value.str (Str.ofString "Section") 686), some (Value.str (Str.ofString "Section") 694), some (Value.builtin "object.__new__"), some (Value.bool true)] }) ::
(nat_lit 373, { cls := Value.type "code", data := Data.fields #[Value.str (Str.ofString "is_atom_code") 728, Value.str (Str.ofString "is_atom_code") 729, Value.str (Str.ofString "/claim/cut.py") 730, Value.int 218 0, Value.int 1 0, Value.int 0 0, Value.int 0 0, Value.int 3 0, Value.ref 368, Value.bool true, Value.int 181 0, Value.ref 369, Value.none, Value.ref 370, Value.ref 371, Value.ref 372, Value.int 732 0, Value.int 218 0, Value.str (Str.ofString "/claim/cut.py") 733] }) ::
(nat_lit 374, { cls := Value.type "function", data := Data.func { name := Str.ofString "is_atom_code", qualname := Str.ofString "is_atom_code", params := p374, body := FuncBody.stmts b374, scope := s374, globals := 3, closure := [], defaults := Value.none, kwdefaults := Value.none, pyModule := Value.str (Str.ofString "postkeep.sections") 679, code := Value.ref 373 } }) ::
(nat_lit 378, { cls := Value.type "code", data := Data.fields #[Value.str (Str.ofString "show_name") 735, Value.str (Str.ofString "show_name") 736, Value.str (Str.ofString "/claim/cut.py") 737, Value.int 220 0, Value.int 1 0, Value.int 0 0, Value.int 0 0, Value.int 3 0, Value.ref 375, Value.bool true, Value.int 181 0, Value.ref 376, Value.none, Value.none, Value.none, Value.ref 377, Value.int 738 0, Value.int 220 0, Value.str (Str.ofString "/claim/cut.py") 739] }) ::
(nat_lit 379, { cls := Value.type "function", data := Data.func { name := Str.ofString "show_name", qualname := Str.ofString "show_name", params := p379, body := FuncBody.stmts b379, scope := s379, globals := 3, closure := [], defaults := Value.none, kwdefaults := Value.none, pyModule := Value.str (Str.ofString "postkeep.sections") 679, code := Value.ref 378 } }) ::
(nat_lit 385, { cls := Value.type "code", data := Data.fields #[Value.str (Str.ofString "show_partial") 741, Value.str (Str.ofString "show_partial") 742, Value.str (Str.ofString "/claim/cut.py") 743, Value.int 227 0, Value.int 2 0, Value.int 0 0, Value.int 0 0, Value.int 3 0, Value.ref 380, Value.bool true, Value.int 181 0, Value.ref 381, Value.none, Value.ref 382, Value.ref 383, Value.ref 384, Value.int 746 0, Value.int 227 0, Value.str (Str.ofString "/claim/cut.py") 747] }) ::
(nat_lit 386, { cls := Value.type "function", data := Data.func { name := Str.ofString "show_partial", qualname := Str.ofString "show_partial", params := p386, body := FuncBody.stmts b386, scope := s386, globals := 3, closure := [], defaults := Value.none, kwdefaults := Value.none, pyModule := Value.str (Str.ofString "postkeep.sections") 679, code := Value.ref 385 } }) ::
(nat_lit 387, { cls := Value.type "tuple", data := Data.seq #[Value.bool false] }) ::
(nat_lit 391, { cls := Value.type "code", data := Data.fields #[Value.str (Str.ofString "show_section") 749, Value.str (Str.ofString "show_section") 750, Value.str (Str.ofString "/claim/cut.py") 751, Value.int 231 0, Value.int 2 0, Value.int 0 0, Value.int 0 0, Value.int 3 0, Value.ref 388, Value.bool true, Value.int 181 0, Value.ref 389, Value.none, Value.none, Value.none, Value.ref 390, Value.int 752 0, Value.int 231 0, Value.str (Str.ofString "/claim/cut.py") 753] }) ::
(nat_lit 392, { cls := Value.type "function", data := Data.func { name := Str.ofString "show_section", qualname := Str.ofString "show_section", params := p392, body := FuncBody.stmts b392, scope := s392, globals := 3, closure := [], defaults := Value.ref 387, kwdefaults := Value.none, pyModule := Value.str (Str.ofString "postkeep.sections") 679, code := Value.ref 391 } }) ::
(nat_lit 396, { cls := Value.type "code", data := Data.fields #[Value.str (Str.ofString "header_octets") 755, Value.str (Str.ofString "header_octets") 756, Value.str (Str.ofString "/claim/cut.py") 757, Value.int 237 0, Value.int 4 0, Value.int 0 0, Value.int 0 0, Value.int 3 0, Value.ref 393, Value.bool true, Value.int 181 0, Value.ref 394, Value.none, Value.none, Value.none, Value.ref 395, Value.int 758 0, Value.int 237 0, Value.str (Str.ofString "/claim/cut.py") 759] }) ::
(nat_lit 397, { cls := Value.type "function", data := Data.func { name := Str.ofString "header_octets", qualname := Str.ofString "header_octets", params := p397, body := FuncBody.stmts b397, scope := s397, globals := 3, closure := [], defaults := Value.none, kwdefaults := Value.none, pyModule := Value.str (Str.ofString "postkeep.sections") 679, code := Value.ref 396 } }) ::
(nat_lit 403, { cls := Value.type "code", data := Data.fields #[Value.str (Str.ofString "word_octets") 761, Value.str (Str.ofString "word_octets") 762, Value.str (Str.ofString "/claim/cut.py") 763, Value.int 243 0, Value.int 3 0, Value.int 0 0, Value.int 0 0, Value.int 3 0, Value.ref 398, Value.bool true, Value.int 181 0, Value.ref 399, Value.none, Value.ref 400, Value.ref 401, Value.ref 402, Value.int 767 0, Value.int 243 0, Value.str (Str.ofString "/claim/cut.py") 768] }) ::
(nat_lit 404, { cls := Value.type "function", data := Data.func { name := Str.ofString "word_octets", qualname := Str.ofString "word_octets", params := p404, body := FuncBody.stmts b404, scope := s404, globals := 3, closure := [], defaults := Value.none, kwdefaults := Value.none, pyModule := Value.str (Str.ofString "postkeep.sections") 679, code := Value.ref 403 } }) ::
(nat_lit 410, { cls := Value.type "code", data := Data.fields #[Value.str (Str.ofString "whole_octets") 770, Value.str (Str.ofString "whole_octets") 771, Value.str (Str.ofString "/claim/cut.py") 772, Value.int 251 0, Value.int 4 0, Value.int 0 0, Value.int 0 0, Value.int 3 0, Value.ref 405, Value.bool true, Value.int 181 0, Value.ref 406, Value.none, Value.ref 407, Value.ref 408, Value.ref 409, Value.int 778 0, Value.int 251 0, Value.str (Str.ofString "/claim/cut.py") 779] }) ::
(nat_lit 411, { cls := Value.type "function", data := Data.func { name := Str.ofString "whole_octets", qualname := Str.ofString "whole_octets", params := p411, body := FuncBody.stmts b411, scope := s411, globals := 3, closure := [], defaults := Value.none, kwdefaults := Value.none, pyModule := Value.str (Str.ofString "postkeep.sections") 679, code := Value.ref 410 } }) ::
(nat_lit 417, { cls := Value.type "code", data := Data.fields #[Value.str (Str.ofString "sliced") 781, Value.str (Str.ofString "sliced") 782, Value.str (Str.ofString "/claim/cut.py") 783, Value.int 262 0, Value.int 2 0, Value.int 0 0, Value.int 0 0, Value.int 3 0, Value.ref 412, Value.bool true, Value.int 181 0, Value.ref 413, Value.none, Value.ref 414, Value.ref 415, Value.ref 416, Value.int 786 0, Value.int 262 0, Value.str (Str.ofString "/claim/cut.py") 787] }) ::
(nat_lit 418, { cls := Value.type "function", data := Data.func { name := Str.ofString "sliced", qualname := Str.ofString "sliced", params := p418, body := FuncBody.stmts b418, scope := s418, globals := 3, closure := [], defaults := Value.none, kwdefaults := Value.none, pyModule := Value.str (Str.ofString "postkeep.sections") 679, code := Value.ref 417 } }) ::
(nat_lit 424, { cls := Value.type "code", data := Data.fields #[Value.str (Str.ofString "section_octets") 789, Value.str (Str.ofString "section_octets") 790, Value.str (Str.ofString "/claim/cut.py") 791, Value.int 266 0, Value.int 3 0, Value.int 0 0, Value.int 0 0, Value.int 3 0, Value.ref 419, Value.bool true, Value.int 181 0, Value.ref 420, Value.none, Value.ref 421, Value.ref 422, Value.ref 423, Value.int 795 0, Value.int 266 0, Value.str (Str.ofString "/claim/cut.py") 796] }) ::
(nat_lit 425, { cls := Value.type "function", data := Data.func { name := Str.ofString "section_octets", qualname := Str.ofString "section_octets", params := p425, body := FuncBody.stmts b425, scope := s425, globals := 3, closure := [], defaults := Value.none, kwdefaults := Value.none, pyModule := Value.str (Str.ofString "postkeep.sections") 679, code := Value.ref 424 } }) ::
(nat_lit 438, { cls := Value.type "code", data := Data.fields #[Value.str (Str.ofString "__init__") 812, Value.str (Str.ofString "Atom.__init__") 813, Value.str (Str.ofString "/claim/cut.py") 814, Value.int 271 0, Value.int 2 0, Value.int 0 0, Value.int 0 0, Value.int 3 0, Value.ref 433, Value.bool true, Value.int 181 0, Value.ref 434, Value.none, Value.ref 435, Value.ref 436, Value.ref 437, Value.int 817 0, Value.int 271 0, Value.str (Str.ofString "/claim/cut.py") 818] }) ::
(nat_lit 439, { cls := Value.type "function", data := Data.func { name := Str.ofString "__init__", qualname := Str.ofString "Atom.__init__", params := p439, body := FuncBody.stmts b439, scope := s439, globals := 3, closure := [], defaults := Value.none, kwdefaults := Value.none, pyModule := Value.str (Str.ofString "postkeep.wire") 798, code := Value.ref 438 } }) ::
(nat_lit 448, { cls := Value.type "dict", data := Data.dict #[{ hash := PyData.keyHash P (Str.ofString "__module__"), key := Value.str (Str.ofString "__module__") 807, val := Value.str (Str.ofString "postkeep.wire") 798 }, { hash := PyData.keyHash P (Str.ofString "__firstlineno__"), key := Value.str (Str.ofString "__firstlineno__") 811, val := Value.int 269 810 }, { hash := PyData.keyHash P (Str.ofString "__init__"), key := Value.str (Str.ofString "__init__") 819, val := Value.ref 439 }, { hash := PyData.keyHash P (Str.ofString "told"), key := Value.str (Str.ofString "told") 826, val := Value.ref 446 }, { hash := PyData.keyHash P (Str.ofString "__static_attributes__"), key := Value.str (Str.ofString "__static_attributes__") 828, val := Value.ref 447 }, { hash := PyData.keyHash P (Str.ofString "__dict__"), key := Value.str (Str.ofString "__dict__") 830, val := Value.ref 450 }, { hash := PyData.keyHash P (Str.ofString "__weakref__"), key := Value.str (Str.ofString "__weakref__") 832, val := Value.ref 451 }, { hash := PyData.keyHash P (Str.ofString "__doc__"), key := Value.str (Str.ofString "__doc__") 833, val := Value.none }] 4 }) ::
(nat_lit 449, { cls := Value.type "type", data := Data.cls { name := Str.ofString "Atom", bases := [Value.type "object"], mro := [Value.ref 449, Value.type "object"], ns := 448, qualname := Str.ofString "Atom" }, slots := #[none, none, some (Value.str (Str.ofString "Atom") 800), some (Value.str (Str.ofString "Atom") 808), some (Value.builtin "object.__new__"), some (Value.bool true)] }) ::
(nat_lit 459, { cls := Value.type "code", data := Data.fields #[Value.str (Str.ofString "whole_section") 838, Value.str (Str.ofString "whole_section") 839, Value.str (Str.ofString "/claim/cut.py") 840, Value.int 277 0, Value.int 1 0, Value.int 0 0, Value.int 0 0, Value.int 3 0, Value.ref 454, Value.bool true, Value.int 181 0, Value.ref 455, Value.none, Value.ref 456, Value.ref 457, Value.ref 458, Value.int 842 0, Value.int 277 0, Value.str (Str.ofString "/claim/cut.py") 843] }) ::
(nat_lit 460, { cls := Value.type "function", data := Data.func { name := Str.ofString "whole_section", qualname := Str.ofString "whole_section", params := p460, body := FuncBody.stmts b460, scope := s460, globals := 3, closure := [], defaults := Value.none, kwdefaults := Value.none, pyModule := Value.str (Str.ofString "postkeep.fetch") 836, code := Value.ref 459 } }) ::
(nat_lit 464, { cls := Value.type "code", data := Data.fields #[Value.str (Str.ofString "simple_pair") 845, Value.str (Str.ofString "simple_pair") 846, Value.str (Str.ofString "/claim/cut.py") 847, Value.int 279 0, Value.int 2 0, Value.int 0 0, Value.int 0 0, Value.int 3 0, Value.ref 461, Value.bool true, Value.int 181 0, Value.ref 462, Value.none, Value.none, Value.none, Value.ref 463, Value.int 848 0, Value.int 279 0, Value.str (Str.ofString "/claim/cut.py") 849] }) ::
(nat_lit 465, { cls := Value.type "function", data := Data.func { name := Str.ofString "simple_pair", qualname := Str.ofString "simple_pair", params := p465, body := FuncBody.stmts b465, scope := s465, globals := 3, closure := [], defaults := Value.none, kwdefaults := Value.none, pyModule := Value.str (Str.ofString "postkeep.fetch") 836, code := Value.ref 464 } }) ::
(nat_lit 471, { cls := Value.type "code", data := Data.fields #[Value.str (Str.ofString "section_pair") 851, Value.str (Str.ofString "section_pair") 852, Value.str (Str.ofString "/claim/cut.py") 853, Value.int 289 0, Value.int 3 0, Value.int 0 0, Value.int 0 0, Value.int 3 0, Value.ref 466, Value.bool true, Value.int 181 0, Value.ref 467, Value.none, Value.ref 468, Value.ref 469, Value.ref 470, Value.int 858 0, Value.int 289 0, Value.str (Str.ofString "/claim/cut.py") 859] }) ::
(nat_lit 472, { cls := Value.type "function", data := Data.func { name := Str.ofString "section_pair", qualname := Str.ofString "section_pair", params := p472, body := FuncBody.stmts b472, scope := s472, globals := 3, closure := [], defaults := Value.none, kwdefaults := Value.none, pyModule := Value.str (Str.ofString "postkeep.fetch") 836, code := Value.ref 471 } }) ::
(nat_lit 485, { cls := Value.type "code", data := Data.fields #[Value.str (Str.ofString "__init__") 875, Value.str (Str.ofString "Letter.__init__") 876, Value.str (Str.ofString "/claim/cut.py") 877, Value.int 297 0, Value.int 6 0, Value.int 0 0, Value.int 0 0, Value.int 3 0, Value.ref 480, Value.bool true, Value.int 181 0, Value.ref 481, Value.none, Value.ref 482, Value.ref 483, Value.ref 484, Value.int 884 0, Value.int 297 0, Value.str (Str.ofString "/claim/cut.py") 885] }) ::
(nat_lit 486, { cls := Value.type "function", data := Data.func { name := Str.ofString "__init__", qualname := Str.ofString "Letter.__init__", params := p486, body := FuncBody.stmts b486, scope := s486, globals := 3, closure := [], defaults := Value.none, kwdefaults := Value.none, pyModule := Value.str (Str.ofString "postkeep.boxes") 861, code := Value.ref 485 } }) ::
(nat_lit 502, { cls := Value.type "dict", data := Data.dict #[{ hash := PyData.keyHash P (Str.ofString "__module__"), key := Value.str (Str.ofString "__module__") 870, val := Value.str (Str.ofString "postkeep.boxes") 861 }, { hash := PyData.keyHash P (Str.ofString "__firstlineno__"), key := Value.str (Str.ofString "__firstlineno__") 874, val := Value.int 295 873 }, { hash := PyData.keyHash P (Str.ofString "__init__"), key := Value.str (Str.ofString "__init__") 886, val := Value.ref 486 }, { hash := PyData.keyHash P (Str.ofString "has"), key := Value.str (Str.ofString "has") 894, val := Value.ref 493 }, { hash := PyData.keyHash P (Str.ofString "told"), key := Value.str (Str.ofString "told") 901, val := Value.ref 500 }, { hash := PyData.keyHash P (Str.ofString "__static_attributes__"), key := Value.str (Str.ofString "__static_attributes__") 907, val := Value.ref 501 }, { hash := PyData.keyHash P (Str.ofString "__dict__"), key := Value.str (Str.ofString "__dict__") 909, val := Value.ref 504 }, { hash := PyData.keyHash P (Str.ofString "__weakref__"), key := Value.str (Str.ofString "__weakref__") 911, val := Value.ref 505 }, { hash := PyData.keyHash P (Str.ofString "__doc__"), key := Value.str (Str.ofString "__doc__") 912, val := Value.none }] 4 }) ::
(nat_lit 503, { cls := Value.type "type", data := Data.cls { name := Str.ofString "Letter", bases := [Value.type "object"], mro := [Value.ref 503, Value.type "object"], ns := 502, qualname := Str.ofString "Letter" }, slots := #[none, none, some (Value.str (Str.ofString "Letter") 863), some (Value.str (Str.ofString "Letter") 871), some (Value.builtin "object.__new__"), some (Value.bool true)] }) ::
(nat_lit 520, { cls := Value.type "code", data := Data.fields #[Value.str (Str.ofString "__init__") 929, Value.str (Str.ofString "Kind.__init__") 930, Value.str (Str.ofString "/claim/cut.py") 931, Value.int 312 0, Value.int 4 0, Value.int 0 0, Value.int 0 0, Value.int 3 0, Value.ref 515, Value.bool true, Value.int 181 0, Value.ref 516, Value.none, Value.ref 517, Value.ref 518, Value.ref 519, Value.int 936 0, Value.int 312 0, Value.str (Str.ofString "/claim/cut.py") 937] }) ::
(nat_lit 521, { cls := Value.type "function", data := Data.func { name := Str.ofString "__init__", qualname := Str.ofString "Kind.__init__", params := p521, body := FuncBody.stmts b521, scope := s521, globals := 3, closure := [], defaults := Value.none, kwdefaults := Value.none, pyModule := Value.str (Str.ofString "postkeep.params") 915, code := Value.ref 520 } }) ::
(nat_lit 549, { cls := Value.type "dict", data := Data.dict #[{ hash := PyData.keyHash P (Str.ofString "__module__"), key := Value.str (Str.ofString "__module__") 924, val := Value.str (Str.ofString "postkeep.params") 915 }, { hash := PyData.keyHash P (Str.ofString "__firstlineno__"), key := Value.str (Str.ofString "__firstlineno__") 928, val := Value.int 310 927 }, { hash := PyData.keyHash P (Str.ofString "__init__"), key := Value.str (Str.ofString "__init__") 938, val := Value.ref 521 }, { hash := PyData.keyHash P (Str.ofString "told"), key := Value.str (Str.ofString "told") 944, val := Value.ref 526 }, { hash := PyData.keyHash P (Str.ofString "is_multi"), key := Value.str (Str.ofString "is_multi") 951, val := Value.ref 533 }, { hash := PyData.keyHash P (Str.ofString "is_letter"), key := Value.str (Str.ofString "is_letter") 958, val := Value.ref 540 }, { hash := PyData.keyHash P (Str.ofString "is_text"), key := Value.str (Str.ofString "is_text") 965, val := Value.ref 547 }, { hash := PyData.keyHash P (Str.ofString "__static_attributes__"), key := Value.str (Str.ofString "__static_attributes__") 969, val := Value.ref 548 }, { hash := PyData.keyHash P (Str.ofString "__dict__"), key := Value.str (Str.ofString "__dict__") 971, val := Value.ref 551 }, { hash := PyData.keyHash P (Str.ofString "__weakref__"), key := Value.str (Str.ofString "__weakref__") 973, val := Value.ref 552 }, { hash := PyData.keyHash P (Str.ofString "__doc__"), key := Value.str (Str.ofString "__doc__") 974, val := Value.none }] 4 }) ::
(nat_lit 550, { cls := Value.type "type", data := Data.cls { name := Str.ofString "Kind", bases := [Value.type "object"], mro := [Value.ref 550, Value.type "object"], ns := 549, qualname := Str.ofString "Kind" }, slots := #[none, none, some (Value.str (Str.ofString "Kind") 917), some (Value.str (Str.ofString "Kind") 925), some (Value.builtin "object.__new__"), some (Value.bool true)] }) ::
(nat_lit 555, { cls := Value.type "tuple", data := Data.seq #[Value.bytes #[70, 114, 111, 109, 58, 32, 97, 13, 10] 979, Value.bytes #[84, 111, 58, 32, 98, 13, 10, 9, 99, 13, 10] 980, Value.bytes #[83, 117, 98, 106, 101, 99, 116, 58, 32, 120, 13, 10] 981, Value.bytes #[115, 117, 98, 74, 101, 99, 116, 58, 13, 10, 32, 121, 13, 10] 982, Value.bytes #[88, 45, 97, 58, 122, 13, 10] 983] }) ::
(nat_lit 556, { cls := Value.type "tuple", data := Data.seq #[Value.str (Str.ofString "from") 985, Value.str (Str.ofString "to") 986, Value.str (Str.ofString "subject") 987, Value.str (Str.ofString "subject") 988, Value.str (Str.ofString "x-a") 989] }) ::
(nat_lit 557, { cls := Value.type "tuple", data := Data.seq #[Value.str (Str.ofString "TO") 991, Value.str (Str.ofString "Subject") 992, Value.str (Str.ofString "x-A") 993, Value.str (Str.ofString "None") 994] }) ::
(nat_lit 558, { cls := Value.type "tuple", data := Data.seq #[Value.str (Str.ofString "") 996, Value.str (Str.ofString "HEADER") 997, Value.str (Str.ofString "TEXT") 998, Value.str (Str.ofString "HEADER.FIELDS") 999, Value.str (Str.ofString "HEADER.FIELDS.NOT") 1000, Value.str (Str.ofString "MIME") 1001] }) ::
(nat_lit 559, { cls := Value.type "tuple", data := Data.seq #[] }) ::
(nat_lit 560, { cls := Value.type "tuple", data := Data.seq #[Value.int 1 1003] }) ::
(nat_lit 561, { cls := Value.type "tuple", data := Data.seq #[Value.int 2 1004] }) ::
(nat_lit 562, { cls := Value.type "tuple", data := Data.seq #[Value.int 1 1005, Value.int 1 1006] }) ::
(nat_lit 563, { cls := Value.type "tuple", data := Data.seq #[Value.ref 559, Value.ref 560, Value.ref 561, Value.ref 562] }) ::
(nat_lit 564, { cls := Value.type "tuple", data := Data.seq #[Value.int 0 1008, Value.str (Str.ofString " 1-Jan-1970") 1009] }) ::
(nat_lit 565, { cls := Value.type "tuple", data := Data.seq #[Value.int 9694 1010, Value.str (Str.ofString "17-Jul-1996") 1011] }) ::
(nat_lit 566, { cls := Value.type "tuple", data := Data.seq #[Value.int 10957 1012, Value.str (Str.ofString " 1-Jan-2000") 1013] }) ::
(nat_lit 567, { cls := Value.type "tuple", data := Data.seq #[Value.int 11016 1014, Value.str (Str.ofString "29-Feb-2000") 1015] }) ::
(nat_lit 568, { cls := Value.type "tuple", data := Data.seq #[Value.int (-1) 1017, Value.str (Str.ofString "31-Dec-1969") 1018] }) ::
(nat_lit 569, { cls := Value.type "tuple", data := Data.seq #[Value.ref 564, Value.ref 565, Value.ref 566, Value.ref 567, Value.ref 568] }) ::
(nat_lit 570, { cls := Value.type "tuple", data := Data.seq #[Value.str (Str.ofString "\\Answered") 1020, Value.str (Str.ofString "\\Seen") 1021, Value.str (Str.ofString "k1") 1022] }) ::
(nat_lit 571, { cls := Value.type "tuple", data := Data.seq #[] }) ::
(nat_lit 576, { cls := Value.type "code", data := Data.fields #[Value.str (Str.ofString "_law_draw") 1024, Value.str (Str.ofString "_law_draw") 1025, Value.str (Str.ofString "/claim/cut.py") 1026, Value.int 336 0, Value.int 2 0, Value.int 0 0, Value.int 0 0, Value.int 3 0, Value.ref 571, Value.bool true, Value.int 181 0, Value.ref 572, Value.none, Value.ref 573, Value.ref 574, Value.ref 575, Value.int 1031 0, Value.int 336 0, Value.str (Str.ofString "/claim/cut.py") 1032] }) ::
(nat_lit 577, { cls := Value.type "function", data := Data.func { name := Str.ofString "_law_draw", qualname := Str.ofString "_law_draw", params := p577, body := FuncBody.stmts b577, scope := s577, globals := 3, closure := [], defaults := Value.none, kwdefaults := Value.none, pyModule := Value.str (Str.ofString "law_nz0315_01") 977, code := Value.ref 576 } }) ::
(nat_lit 583, { cls := Value.type "code", data := Data.fields #[Value.str (Str.ofString "_law_two") 1034, Value.str (Str.ofString "_law_two") 1035, Value.str (Str.ofString "/claim/cut.py") 1036, Value.int 341 0, Value.int 1 0, Value.int 0 0, Value.int 0 0, Value.int 3 0, Value.ref 578, Value.bool true, Value.int 181 0, Value.ref 579, Value.none, Value.ref 580, Value.ref 581, Value.ref 582, Value.int 1038 0, Value.int 341 0, Value.str (Str.ofString "/claim/cut.py") 1039] }) ::
(nat_lit 584, { cls := Value.type "function", data := Data.func { name := Str.ofString "_law_two", qualname := Str.ofString "_law_two", params := p584, body := FuncBody.stmts b584, scope := s584, globals := 3, closure := [], defaults := Value.none, kwdefaults := Value.none, pyModule := Value.str (Str.ofString "law_nz0315_01") 977, code := Value.ref 583 } }) ::
(nat_lit 588, { cls := Value.type "code", data := Data.fields #[Value.str (Str.ofString "_law_section") 1041, Value.str (Str.ofString "_law_section") 1042, Value.str (Str.ofString "/claim/cut.py") 1043, Value.int 343 0, Value.int 1 0, Value.int 0 0, Value.int 0 0, Value.int 3 0, Value.ref 585, Value.bool true, Value.int 181 0, Value.ref 586, Value.none, Value.none, Value.none, Value.ref 587, Value.int 1044 0, Value.int 343 0, Value.str (Str.ofString "/claim/cut.py") 1045] }) ::
(nat_lit 589, { cls := Value.type "function", data := Data.func { name := Str.ofString "_law_section", qualname := Str.ofString "_law_section", params := p589, body := FuncBody.stmts b589, scope := s589, globals := 3, closure := [], defaults := Value.none, kwdefaults := Value.none, pyModule := Value.str (Str.ofString "law_nz0315_01") 977, code := Value.ref 588 } }) ::
(nat_lit 593, { cls := Value.type "code", data := Data.fields #[Value.str (Str.ofString "_law_shown") 1047, Value.str (Str.ofString "_law_shown") 1048, Value.str (Str.ofString "/claim/cut.py") 1049, Value.int 351 0, Value.int 4 0, Value.int 0 0, Value.int 0 0, Value.int 3 0, Value.ref 590, Value.bool true, Value.int 181 0, Value.ref 591, Value.none, Value.none, Value.none, Value.ref 592, Value.int 1050 0, Value.int 351 0, Value.str (Str.ofString "/claim/cut.py") 1051] }) ::
(nat_lit 594, { cls := Value.type "function", data := Data.func { name := Str.ofString "_law_shown", qualname := Str.ofString "_law_shown", params := p594, body := FuncBody.stmts b594, scope := s594, globals := 3, closure := [], defaults := Value.none, kwdefaults := Value.none, pyModule := Value.str (Str.ofString "law_nz0315_01") 977, code := Value.ref 593 } }) ::
(nat_lit 598, { cls := Value.type "code", data := Data.fields #[Value.str (Str.ofString "_law_picked") 1053, Value.str (Str.ofString "_law_picked") 1054, Value.str (Str.ofString "/claim/cut.py") 1055, Value.int 355 0, Value.int 3 0, Value.int 0 0, Value.int 0 0, Value.int 3 0, Value.ref 595, Value.bool true, Value.int 181 0, Value.ref 596, Value.none, Value.none, Value.none, Value.ref 597, Value.int 1056 0, Value.int 355 0, Value.str (Str.ofString "/claim/cut.py") 1057] }) ::
(nat_lit 599, { cls := Value.type "function", data := Data.func { name := Str.ofString "_law_picked", qualname := Str.ofString "_law_picked", params := p599, body := FuncBody.stmts b599, scope := s599, globals := 3, closure := [], defaults := Value.none, kwdefaults := Value.none, pyModule := Value.str (Str.ofString "law_nz0315_01") 977, code := Value.ref 598 } }) ::
(nat_lit 603, { cls := Value.type "code", data := Data.fields #[Value.str (Str.ofString "_law_octets") 1059, Value.str (Str.ofString "_law_octets") 1060, Value.str (Str.ofString "/claim/cut.py") 1061, Value.int 359 0, Value.int 5 0, Value.int 0 0, Value.int 0 0, Value.int 3 0, Value.ref 600, Value.bool true, Value.int 181 0, Value.ref 601, Value.none, Value.none, Value.none, Value.ref 602, Value.int 1062 0, Value.int 359 0, Value.str (Str.ofString "/claim/cut.py") 1063] }) ::
(nat_lit 604, { cls := Value.type "function", data := Data.func { name := Str.ofString "_law_octets", qualname := Str.ofString "_law_octets", params := p604, body := FuncBody.stmts b604, scope := s604, globals := 3, closure := [], defaults := Value.none, kwdefaults := Value.none, pyModule := Value.str (Str.ofString "law_nz0315_01") 977, code := Value.ref 603 } }) ::
(nat_lit 608, { cls := Value.type "code", data := Data.fields #[Value.str (Str.ofString "_law_simple") 1065, Value.str (Str.ofString "_law_simple") 1066, Value.str (Str.ofString "/claim/cut.py") 1067, Value.int 368 0, Value.int 3 0, Value.int 0 0, Value.int 0 0, Value.int 3 0, Value.ref 605, Value.bool true, Value.int 181 0, Value.ref 606, Value.none, Value.none, Value.none, Value.ref 607, Value.int 1068 0, Value.int 368 0, Value.str (Str.ofString "/claim/cut.py") 1069] }) ::
(nat_lit 609, { cls := Value.type "function", data := Data.func { name := Str.ofString "_law_simple", qualname := Str.ofString "_law_simple", params := p609, body := FuncBody.stmts b609, scope := s609, globals := 3, closure := [], defaults := Value.none, kwdefaults := Value.none, pyModule := Value.str (Str.ofString "law_nz0315_01") 977, code := Value.ref 608 } }) ::
(nat_lit 613, { cls := Value.type "code", data := Data.fields #[Value.str (Str.ofString "law") 1071, Value.str (Str.ofString "law") 1072, Value.str (Str.ofString "/claim/cut.py") 1073, Value.int 382 0, Value.int 1 0, Value.int 0 0, Value.int 0 0, Value.int 3 0, Value.ref 610, Value.bool true, Value.int 181 0, Value.ref 611, Value.none, Value.none, Value.none, Value.ref 612, Value.int 1074 0, Value.int 382 0, Value.str (Str.ofString "/claim/cut.py") 1075] }) ::
(nat_lit 614, { cls := Value.type "function", data := Data.func { name := Str.ofString "law", qualname := Str.ofString "law", params := p614, body := FuncBody.stmts b614, scope := s614, globals := 3, closure := [], defaults := Value.none, kwdefaults := Value.none, pyModule := Value.str (Str.ofString "law_nz0315_01") 977, code := Value.ref 613 } }) :: []
noncomputable def keptM : Nat := 105268123477249132473818089882181433271760258541308292816059026152347715814624326868156991311219445202798498720398450911741645092162128872660707695465669297494911841528459010716869853196
noncomputable def VW : Program := { PySem.Challenge.pw_nz0315_01 with main := { PySem.Challenge.pw_nz0315_01.main with body := ([0, 2, 3, 4, 6, 7, 8, 9, 10, 11, 12, 13, 14, 15, 16, 17, 18, 20, 21, 22, 23, 24, 26, 27, 28, 30, 31, 32, 33, 34, 36, 37, 38, 40, 41, 42, 43, 44, 45, 47, 48, 49, 50, 51, 52, 54, 55, 56, 57, 58, 60, 62, 63, 64, 66, 68, 70, 71, 72, 73, 74, 75, 76, 77, 78, 79, 80, 81, 82, 83, 84] : List Nat).filterMap (PySem.Challenge.pw_nz0315_01.main.body[·]?) } }
end Mine
namespace Mine
noncomputable abbrev PG : Program := PySem.Challenge.rw_nz0315_01.row.prog
noncomputable abbrev KK (w : World) : Frag := KH w.params
noncomputable abbrev LL : List Str := (looseW VW [Str.ofString "PostError", Str.ofString "MOST_ZONE", Str.ofString "moment_of", Str.ofString "read_spans", Str.ofString "Section", Str.ofString "show_section"])

structure Here (w : World) (mean : ExcName → Option Value) (mg mb : Str → Option Value) (d dp un : Nat) (cs : Scope) (outer : List Env) (A₀ : Around) (base h₀ : Heap) (L : Addr) (m : Str → Option Value) (news : List (Addr × Obj)) (s : Shared) : Prop where
  B : Below A₀ base outer h₀
  F : Fr h₀ L s.heap m
  X : (KH w.params).In h₀
  N : News h₀ L s.heap news
  T : Top VW LL mean mg mb h₀
  hk : cs.kind = .function
  hd : dp + d < recursionLimit
  hu : un + 8 * d < cLine

end Mine
namespace Mine
open PySem.Spec PySem.Calls PyProof.Rows.LCg PyProof.Rows.LCt
/-- how a source is drawn from: the iterator's own facts -/
def SrcM (prog : Program) (w : World) (A : Around) (h₀ : Heap) (L : Addr) (m : Str → Option Value) (xv : Value) (s₁ : Shared) (n : Nat) (P : Nat → Value → Prop) (S : List (Addr × Obj) → Prop) (news : List (Addr × Obj)) : Prop :=
  ∀ (Q E : Value → Shared → Prop), (∀ (I : Addr) (fp : List Addr) (St : Nat → Heap → Prop) (g : Heap), Walks prog w A I fp [I] n P St → (∀ i h, St i h → ∃ o, h.get? I = some o) →
    (∀ i h h' o nw, St i h → h.get? I = some o → h'.get? I = some o → (∀ b o, h₀.get? b = some o → h'.get? b = some o) → News h₀ L h' nw → S nw → St i h') →
    St 0 g → (∀ b ∈ fp, b < g.objs.size) → Fr h₀ L g m → News h₀ L g news → L ≠ I → h₀.get? I = none → (∀ p ∈ news, p.1 ≠ I) → S news → Q (.ref I) { s₁ with heap := g }) → wpAny (model prog w) A (pyIter xv) Q E s₁
section
variable {prog : Program} {w : World} {A : Around} {E : Value → Shared → Prop} {s : Shared} {h₀ : Heap} {L : Addr} {m : Str → Option Value} {env : Env} {news : List (Addr × Obj)}

theorem srcM_list {ax : Addr} {its : Array Value} (hh : A.handled = none) (F : Fr h₀ L s.heap m) (N : News h₀ L s.heap news) (S : SrcAt h₀ ax its news) :
    SrcM prog w A h₀ L m (.ref ax) s its.size (fun i v => its[i]? = some v) (SrcAt h₀ ax its) news := by
  intro Q E k
  have hl := S.list F.keep N
  have hlt : ax < s.heap.objs.size := by obtain ⟨_, e, _⟩ := hl; exact Heap.lt_size e
  refine wpAny_pyIter_list hl ?_
  have up : ∀ b o, s.heap.get? b = some o → (s.heap.push { cls := .type "list_iterator", data := .fields #[.ref ax, .int 0 0] }).get? b = some o := fun b o e => Heap.get?_push_of_some _ e
  refine k s.heap.objs.size [s.heap.objs.size, ax] (fun i h => h.IsListIter s.heap.objs.size ax i ∧ h.IsList ax its) _ (Walks.list hh s.heap.objs.size ax (Nat.ne_of_lt hlt) its) (fun i h st => by obtain ⟨o, e, _⟩ := st.1; exact ⟨o, e⟩) list_st ⟨⟨_, Heap.get?_push_size _ rfl, rfl, rfl⟩, hl.push _⟩ (fun b hb => ?_) (F.keeps up) (N.grown up) (Nat.ne_of_lt F.ns.lt) (next_is_new F) (fun p hp => Nat.ne_of_lt (Heap.lt_size (N p hp).1)) S
  show b < (s.heap.push _).objs.size
  rw [Heap.size_push]
  rcases List.mem_cons.mp hb with rfl | hb
  · exact Nat.lt_succ_self _
  · rw [List.mem_singleton.mp hb]; exact Nat.lt_succ_of_lt hlt

/-- a tuple: of the ground's or of the ledger -/
def TupAt (h₀ : Heap) (ax : Addr) (its : Array Value) (news : List (Addr × Obj)) : Prop := h₀.IsTuple ax its ∨ ∃ o, (ax, o) ∈ news ∧ o.cls = .type "tuple" ∧ ∃ n, o.data = .seq its n
theorem TupAt.tup {h : Heap} {ax : Addr} {its : Array Value} (x : TupAt h₀ ax its news) (k : ∀ b o, h₀.get? b = some o → h.get? b = some o) (N : News h₀ L h news) : h.IsTuple ax its := by
  rcases x with ⟨o, e, r⟩ | ⟨o, hm, r⟩
  · exact ⟨o, k _ _ e, r⟩
  · exact ⟨o, (N _ hm).1, r⟩
theorem srcM_tup {ax : Addr} {its : Array Value} (hh : A.handled = none) (F : Fr h₀ L s.heap m) (N : News h₀ L s.heap news) (S : TupAt h₀ ax its news) :
    SrcM prog w A h₀ L m (.ref ax) s its.size (fun i v => its[i]? = some v) (TupAt h₀ ax its) news := by
  intro Q E k
  have hl := S.tup F.keep N
  have hlt : ax < s.heap.objs.size := by obtain ⟨_, e, _⟩ := hl; exact Heap.lt_size e
  refine wpAny_pyIter_tuple hl ?_
  have up : ∀ b o, s.heap.get? b = some o → (s.heap.push { cls := .type "tuple_iterator", data := .fields #[.ref ax, .int 0 0] }).get? b = some o := fun b o e => Heap.get?_push_of_some _ e
  refine k s.heap.objs.size [s.heap.objs.size, ax] (fun i h => h.IsTupleIter s.heap.objs.size ax i ∧ h.IsTuple ax its) _ (Walks.tuple hh s.heap.objs.size ax (Nat.ne_of_lt hlt) its) (fun i h st => by obtain ⟨o, e, _⟩ := st.1; exact ⟨o, e⟩)
    (fun i h h' o nw st e e' k N S => ⟨by obtain ⟨o', q, r⟩ := st.1; rw [e] at q; cases q; exact ⟨o, e', r⟩, S.tup k N⟩) ⟨⟨_, Heap.get?_push_size _ rfl, rfl, rfl⟩, hl.at fun o e => up _ o e⟩ (fun b hb => ?_) (F.keeps up) (N.grown up) (Nat.ne_of_lt F.ns.lt) (next_is_new F) (fun p hp => Nat.ne_of_lt (Heap.lt_size (N p hp).1)) S
  show b < (s.heap.push _).objs.size
  rw [Heap.size_push]
  rcases List.mem_cons.mp hb with rfl | hb
  · exact Nat.lt_succ_self _
  · rw [List.mem_singleton.mp hb]; exact Nat.lt_succ_of_lt hlt

theorem srcM_str {x : Str} {t : Tok} (hh : A.handled = none) (F : Fr h₀ L s.heap m) (N : News h₀ L s.heap news) :
    SrcM prog w A h₀ L m (.str x t) s x.cps.size (SignAt x) (fun _ => True) news := by
  intro Q E k
  have go : ∀ (T : String) (o : Obj), Walks prog w A s.heap.objs.size [s.heap.objs.size] [s.heap.objs.size] x.cps.size (SignAt x) (fun i h => h.IsStrIter s.heap.objs.size T x t i) →
      (s.heap.push o).IsStrIter s.heap.objs.size T x t 0 → Q (.ref s.heap.objs.size) { s with heap := s.heap.push o } := by
    intro T o W st
    refine k _ _ _ _ W (fun i h st => by obtain ⟨o, e, _⟩ := st; exact ⟨o, e⟩) (fun i h h' o nw st e e' _ _ _ => by obtain ⟨o', q, r⟩ := st; rw [e] at q; cases q; exact ⟨o, e', r⟩) st (fun b hb => ?_)
      (F.keeps fun _ _ e => Heap.get?_push_of_some _ e) (N.grown fun _ _ e => Heap.get?_push_of_some _ e) (Nat.ne_of_lt F.ns.lt) (next_is_new F) (fun p hp => Nat.ne_of_lt (Heap.lt_size (N p hp).1)) trivial
    rw [List.mem_singleton.mp hb]
    show s.heap.objs.size < (s.heap.push _).objs.size
    rw [Heap.size_push]; exact Nat.lt_succ_self _
  cases ha : x.cps.all (· < 128)
  · exact wpAny_pyIter_wide ha (go _ _ (Walks.strWide hh _ x t) ⟨_, Heap.get?_push_size _ rfl, rfl, rfl⟩)
  · exact wpAny_pyIter_ascii ha (go _ _ (Walks.strAscii hh _ x t) ⟨_, Heap.get?_push_size _ rfl, rfl, rfl⟩)

theorem srcM_bytes {b : Array UInt8} {t : Tok} (hh : A.handled = none) (F : Fr h₀ L s.heap m) (N : News h₀ L s.heap news) :
    SrcM prog w A h₀ L m (.bytes b t) s b.size (fun i v => ∃ c u, b[i]? = some c ∧ v = .int (c.toNat : Int) u) (fun _ => True) news := by
  intro Q E k
  refine KBw.pyIter_bytes ?_
  refine k _ _ _ _ (KBw.walks hh s.heap.objs.size b t) (fun i h st => by obtain ⟨o, e, _⟩ := st; exact ⟨o, e⟩) (fun i h h' o nw st e e' _ _ _ => by obtain ⟨o', q, r⟩ := st; rw [e] at q; cases q; exact ⟨o, e', r⟩) ⟨_, Heap.get?_push_size _ rfl, rfl, rfl⟩ (fun c hb => ?_)
      (F.keeps fun _ _ e => Heap.get?_push_of_some _ e) (N.grown fun _ _ e => Heap.get?_push_of_some _ e) (Nat.ne_of_lt F.ns.lt) (next_is_new F) (fun p hp => Nat.ne_of_lt (Heap.lt_size (N p hp).1)) trivial
  rw [List.mem_singleton.mp hb]
  show s.heap.objs.size < (s.heap.push _).objs.size
  rw [Heap.size_push]; exact Nat.lt_succ_self _

theorem srcM_range {r : Addr} {a b : Int} {t u v : Tok} {n : Nat} (hh : A.handled = none) (F : Fr h₀ L s.heap m) (N : News h₀ L s.heap news) (hr : IsRange s.heap r a b 1 t u v) (hsm : Builtin.Range.small a b 1 = true) (hn : Builtin.Range.rangeSize a b 1 = ((n : Nat) : Int)) :
    SrcM prog w A h₀ L m (.ref r) s n (fun i v => ∃ t, v = .int (a + (i : Int)) t) (fun _ => True) news := by
  intro Q E k
  refine wpAny_pyIter_range hr hsm ?_
  refine k _ _ _ _ (range_walks hh a n) (fun i h st => ⟨_, st⟩) range_st (by show IsRangeIter _ _ _ _ _; rw [hn]; simpa using Heap.get?_push_size _ rfl) (fun c hb => ?_)
      (F.keeps fun _ _ e => Heap.get?_push_of_some _ e) (N.grown fun _ _ e => Heap.get?_push_of_some _ e) (Nat.ne_of_lt F.ns.lt) (next_is_new F) (fun p hp => Nat.ne_of_lt (Heap.lt_size (N p hp).1)) trivial
  rw [List.mem_singleton.mp hb]
  show s.heap.objs.size < (s.heap.push _).objs.size
  rw [Heap.size_push]; exact Nat.lt_succ_self _

def LcU (prog : Program) (w : World) (A : Around) (h₀ : Heap) (L : Addr) (m : Str → Option Value) (env : Env) (elt : Expr) (x : Str) (scope : Scope) (cl : List (Str × Addr)) (Fin : Shared → List Value → List (Addr × Obj) → Prop) (xv : Value) (s₁ : Shared) : Prop :=
  ∃ n P S news, n ≤ sizeLine ∧ SrcM prog w A h₀ L m xv s₁ n P S news ∧ ∀ g, CompRest prog w A h₀ L m env elt x scope cl { s₁ with heap := g } S P (Fin { s₁ with heap := g }) n 0 [] news
theorem lc_U {elt iter : Expr} {x : Str} {px : Pos} {scope : Scope} {cl : List (Str × Addr)} {pos : Pos} {Q : Value → Shared → Prop} (_F₀ : Fr h₀ L s.heap m)
    (hclos : closureFor scope env = pure cl) (hcell : ∀ y ∈ scope.names, y.2 ≠ .cell) (hkind : scope.kind = .function)
    (hnames : ∀ y ∈ scope.names, y.2 = .local → scope.names.lookup y.1 = some .local) (hx : scope.names.lookup x = some .local)
    (h : wpAny (model prog w) A (eval iter env) (LcU prog w A h₀ L m env elt x scope cl (fun s₂ => FinE h₀ L m s₂ Q)) E s)
    (hs : ∀ x, foldedSetIterable iter env x = pure x := by intro _; rfl) :
    wpAny (model prog w) A (eval (.ListComp elt [⟨.Name x px, iter, [], 0⟩] scope pos) env) Q E s := by
  rw [eval_ListComp]
  refine wpAny_comprehension_free (use := none) rfl hs hclos hkind hnames (wpAny_mono h (fun xv s₁ h₁ => ?_) fun _ _ e => e)
  obtain ⟨n, P, S, news, hsz, src, R⟩ := h₁
  refine src _ _ fun I fp St g W hIo hSt st hfp F N hIL hI₀ off hS => ?_
  refine block_U W hsz hIo hSt hcell hkind hx st hfp F N hIL hI₀ off hS (R g) ?_
  intro D C h tk m' ys news' F' N' o1 hn hC₀ hD₀ hCL hDL hCD offC fin
  refine ⟨m', hn, fun h'' hs'' => fin D h'' tk (F'.change hs'' hCL hC₀) (fun p hp => ?_) o1⟩
  refine ⟨hs''.extBut _ _ ?_ (N' p hp).1, (N' p hp).2⟩
  rcases List.mem_cons.mp hp with rfl | hp
  · exact Ne.symm hCD
  · exact offC p hp

theorem alc_U {elt iter : Expr} {x y : Str} {px py : Pos} {scope : Scope} {cl : List (Str × Addr)} {pos spos : Pos} {Q : Flow → Shared → Prop} (_F₀ : Fr h₀ L s.heap m) (hLe : env.locals = L)
    (hsw : swapsWith (.ListComp elt [⟨.Name x px, iter, [], 0⟩] scope pos) (some (.Name y py)) spos.line env = pure true)
    (hclos : closureFor scope env = pure cl) (hcell : ∀ z ∈ scope.names, z.2 ≠ .cell) (hkind : scope.kind = .function)
    (hnames : ∀ z ∈ scope.names, z.2 = .local → scope.names.lookup z.1 = some .local) (hx : scope.names.lookup x = some .local)
    (hy : env.kindOf y = some .local) (hp : (env.scope.kind == .class || (env.scope.kind == .module && env.locals != env.globals)) = false)
    (h : wpAny (model prog w) A (eval iter env) (LcU prog w A h₀ L m env elt x scope cl (fun s₂ => FinA h₀ L m s₂ y Q)) E s)
    (hs : ∀ x, foldedSetIterable iter env x = pure x := by intro _; rfl) :
    wpAny (model prog w) A (exec (.Assign [.Name y py] (.ListComp elt [⟨.Name x px, iter, [], 0⟩] scope pos) spos) env) Q E s := by
  subst hLe
  rw [exec_Assign_Name_used _ _ _ _ hsw]
  refine wpAny_bind (wpAny_standAt (wpAny_bind ?_))
  show wpAny _ A (do let _ ← comprehension (.ListComp elt [⟨.Name x px, iter, [], 0⟩] scope pos) scope env _ (newList []) false (eval iter env) (some (assign (.Name y py) env))) _ _ s
  refine wpAny_bind (wpAny_mono (wpAny_comprehension_free (use := some (assign (.Name y py) env)) (Q := fun _ s' => Q .next s') rfl hs hclos hkind hnames
    (wpAny_mono h (fun xv s₁ h₁ => ?_) fun _ _ e => e)) (fun _ s' hq => wpAny_pure (wpAny_pure hq)) fun _ _ e => e)
  obtain ⟨n, P, S, news, hsz, src, R⟩ := h₁
  refine src _ _ fun I fp St g W hIo hSt st hfp F N hIL hI₀ off hS => ?_
  refine block_U W hsz hIo hSt hcell hkind hx st hfp F N hIL hI₀ off hS (R g) ?_
  intro D C h' tk m' ys news' F' N' o1 hn hC₀ hD₀ hCL hDL hCD offC fin
  show wpAny _ A (assign (.Name y py) env (.ref D)) _ _ _
  refine wpAny_assign_Name (wpAny_storeName_local hy F'.ns (fun h₂ hn₂ hs₂ => ?_) hp)
  have hL₀ : h₀.get? env.locals = none := Heap.get?_none_of_le F'.above
  have F₂ : Fr h₀ env.locals h₂ (fun z => if z = y then some (.ref D) else m z) := ⟨hn₂, fun b o e => hs₂.extBut b o (fun q => by rw [q, hL₀] at e; cases e) (F'.keep b o e), F'.above⟩
  refine ⟨m', hn.sameBut hs₂ hCL, fun h'' hs'' => fin D h'' _ (F₂.change hs'' hCL hC₀) (fun p hp => ?_) o1⟩
  have z : h₂.get? p.1 = some p.2 := hs₂.extBut _ _ (N' p hp).2.1 (N' p hp).1
  refine ⟨hs''.extBut _ _ ?_ z, (N' p hp).2⟩
  rcases List.mem_cons.mp hp with rfl | hp
  · exact Ne.symm hCD
  · exact offC p hp

def LcT (prog : Program) (w : World) (A : Around) (h₀ : Heap) (L : Addr) (m : Str → Option Value) (env : Env) (ct elt : Expr) (x : Str) (scope : Scope) (cl : List (Str × Addr)) (Fin : Shared → List Value → List (Addr × Obj) → Prop) (xv : Value) (s₁ : Shared) : Prop :=
  ∃ n P S news, n ≤ sizeLine ∧ SrcM prog w A h₀ L m xv s₁ n P S news ∧ ∀ g, CompRestT prog w A h₀ L m env ct elt x scope cl { s₁ with heap := g } S P (Fin { s₁ with heap := g }) n 0 [] news
theorem lc_T {ct elt iter : Expr} {x : Str} {px : Pos} {scope : Scope} {cl : List (Str × Addr)} {pos : Pos} {Q : Value → Shared → Prop} (_F₀ : Fr h₀ L s.heap m)
    (hclos : closureFor scope env = pure cl) (hcell : ∀ y ∈ scope.names, y.2 ≠ .cell) (hkind : scope.kind = .function)
    (hnames : ∀ y ∈ scope.names, y.2 = .local → scope.names.lookup y.1 = some .local) (hx : scope.names.lookup x = some .local)
    (h : wpAny (model prog w) A (eval iter env) (LcT prog w A h₀ L m env ct elt x scope cl (fun s₂ => FinE h₀ L m s₂ Q)) E s)
    (hs : ∀ x, foldedSetIterable iter env x = pure x := by intro _; rfl) :
    wpAny (model prog w) A (eval (.ListComp elt [⟨.Name x px, iter, [ct], 0⟩] scope pos) env) Q E s := by
  rw [eval_ListComp]
  refine wpAny_comprehension_free (use := none) rfl hs hclos hkind hnames (wpAny_mono h (fun xv s₁ h₁ => ?_) fun _ _ e => e)
  obtain ⟨n, P, S, news, hsz, src, R⟩ := h₁
  refine src _ _ fun I fp St g W hIo hSt st hfp F N hIL hI₀ off hS => ?_
  refine block_T W hsz hIo hSt hcell hkind hx st hfp F N hIL hI₀ off hS (R g) ?_
  intro D C h tk m' ys news' F' N' o1 hn hC₀ hD₀ hCL hDL hCD offC fin
  refine ⟨m', hn, fun h'' hs'' => fin D h'' tk (F'.change hs'' hCL hC₀) (fun p hp => ?_) o1⟩
  refine ⟨hs''.extBut _ _ ?_ (N' p hp).1, (N' p hp).2⟩
  rcases List.mem_cons.mp hp with rfl | hp
  · exact Ne.symm hCD
  · exact offC p hp
theorem alc_T {ct elt iter : Expr} {x y : Str} {px py : Pos} {scope : Scope} {cl : List (Str × Addr)} {pos spos : Pos} {Q : Flow → Shared → Prop} (_F₀ : Fr h₀ L s.heap m) (hLe : env.locals = L)
    (hsw : swapsWith (.ListComp elt [⟨.Name x px, iter, [ct], 0⟩] scope pos) (some (.Name y py)) spos.line env = pure true)
    (hclos : closureFor scope env = pure cl) (hcell : ∀ z ∈ scope.names, z.2 ≠ .cell) (hkind : scope.kind = .function)
    (hnames : ∀ z ∈ scope.names, z.2 = .local → scope.names.lookup z.1 = some .local) (hx : scope.names.lookup x = some .local)
    (hy : env.kindOf y = some .local) (hp : (env.scope.kind == .class || (env.scope.kind == .module && env.locals != env.globals)) = false)
    (h : wpAny (model prog w) A (eval iter env) (LcT prog w A h₀ L m env ct elt x scope cl (fun s₂ => FinA h₀ L m s₂ y Q)) E s)
    (hs : ∀ x, foldedSetIterable iter env x = pure x := by intro _; rfl) :
    wpAny (model prog w) A (exec (.Assign [.Name y py] (.ListComp elt [⟨.Name x px, iter, [ct], 0⟩] scope pos) spos) env) Q E s := by
  subst hLe
  rw [exec_Assign_Name_used _ _ _ _ hsw]
  refine wpAny_bind (wpAny_standAt (wpAny_bind ?_))
  show wpAny _ A (do let _ ← comprehension (.ListComp elt [⟨.Name x px, iter, [ct], 0⟩] scope pos) scope env _ (newList []) false (eval iter env) (some (assign (.Name y py) env))) _ _ s
  refine wpAny_bind (wpAny_mono (wpAny_comprehension_free (use := some (assign (.Name y py) env)) (Q := fun _ s' => Q .next s') rfl hs hclos hkind hnames
    (wpAny_mono h (fun xv s₁ h₁ => ?_) fun _ _ e => e)) (fun _ s' hq => wpAny_pure (wpAny_pure hq)) fun _ _ e => e)
  obtain ⟨n, P, S, news, hsz, src, R⟩ := h₁
  refine src _ _ fun I fp St g W hIo hSt st hfp F N hIL hI₀ off hS => ?_
  refine block_T W hsz hIo hSt hcell hkind hx st hfp F N hIL hI₀ off hS (R g) ?_
  intro D C h' tk m' ys news' F' N' o1 hn hC₀ hD₀ hCL hDL hCD offC fin
  show wpAny _ A (assign (.Name y py) env (.ref D)) _ _ _
  refine wpAny_assign_Name (wpAny_storeName_local hy F'.ns (fun h₂ hn₂ hs₂ => ?_) hp)
  have hL₀ : h₀.get? env.locals = none := Heap.get?_none_of_le F'.above
  have F₂ : Fr h₀ env.locals h₂ (fun z => if z = y then some (.ref D) else m z) := ⟨hn₂, fun b o e => hs₂.extBut b o (fun q => by rw [q, hL₀] at e; cases e) (F'.keep b o e), F'.above⟩
  refine ⟨m', hn.sameBut hs₂ hCL, fun h'' hs'' => fin D h'' _ (F₂.change hs'' hCL hC₀) (fun p hp => ?_) o1⟩
  have z : h₂.get? p.1 = some p.2 := hs₂.extBut _ _ (N' p hp).2.1 (N' p hp).1
  refine ⟨hs''.extBut _ _ ?_ z, (N' p hp).2⟩
  rcases List.mem_cons.mp hp with rfl | hp
  · exact Ne.symm hCD
  · exact offC p hp
end
end Mine
namespace Mine
open PySem.Spec PySem.Calls PyProof.Rows.LCg PyProof.Rows.LCt
section
variable {prog : Program} {w : World} {A : Around} {E : Value → Shared → Prop} {s : Shared} {h₀ : Heap} {L : Addr} {m : Str → Option Value} {env : Env} {news : List (Addr × Obj)}
theorem compEnd_mono {s₁ : Shared} {I C D : Addr} {oI oC oD : Obj} {S : List (Addr × Obj) → Prop} {r r' : Value → List (Addr × Obj) → Prop} {y : Value} {s₂ : Shared} (h : CompEnd h₀ L m s₁ I oI C oC D oD S r y s₂) (hr : ∀ nw, S nw → r y nw → r' y nw) : CompEnd h₀ L m s₁ I oI C oC D oD S r' y s₂ := by
  obtain ⟨h', tk, nw, e, F, N, off, hS, q⟩ := h
  exact ⟨h', tk, nw, e, F, N, off, hS, hr nw hS q⟩

theorem rest_U {elt : Expr} {x : Str} {scope : Scope} {cl : List (Str × Addr)} {S : List (Addr × Obj) → Prop} {P : Nat → Value → Prop} {Fin : List Value → List (Addr × Obj) → Prop} {n : Nat}
    (J : Nat → List Value → List (Addr × Obj) → Prop) (h0 : J 0 [] news)
    (turn : ∀ i v ys nw I oI C oC D m₂ h tk (E' : Value → Shared → Prop), i < n → J i ys nw → P i v → NsObj oC m₂ → m₂ x = some v → Fr h₀ L h m → News h₀ L h ((I, oI) :: (C, oC) :: (D, lst ys) :: nw) → Off3 I C D nw → ((@Ne Nat I C) ∧ (@Ne Nat I D) ∧ (@Ne Nat C D)) →
      wpAny (model prog w) A (eval elt (compEnvC scope cl C env)) (CompEnd h₀ L m { s with heap := h, toks := tk } I oI C oC D (lst ys) S (fun y nw' => J (i + 1) (ys ++ [y]) nw')) E' { s with heap := h, toks := tk })
    (fin : ∀ ys nw, J n ys nw → Fin ys nw) : CompRest prog w A h₀ L m env elt x scope cl s S P Fin n 0 [] news := by
  have key : ∀ (j i : Nat) (ys : List Value) (nw : List (Addr × Obj)), i + j = n → J i ys nw → CompRest prog w A h₀ L m env elt x scope cl s S P Fin j i ys nw := by
    intro j
    induction j with
    | zero => intro i ys nw hi hj; have e : i = n := by omega
              subst e; exact CompRest.zero (fin _ _ hj)
    | succ j ih =>
      intro i ys nw hi hj
      refine CompRest.succ ?_
      intro v I oI C oC D m₂ h tk E' hv hC hx F N off ne
      exact wpAny_mono (turn i v ys nw I oI C oC D m₂ h tk E' (by omega) hj hv hC hx F N off ne) (fun y s₂ hq => compEnd_mono hq fun nw' _ q => ih (i + 1) _ _ (by omega) q) fun _ _ e => e
  exact key n 0 [] news (by omega) h0

theorem rest_T {ct elt : Expr} {x : Str} {scope : Scope} {cl : List (Str × Addr)} {S : List (Addr × Obj) → Prop} {P : Nat → Value → Prop} {Fin : List Value → List (Addr × Obj) → Prop} {n : Nat}
    (J : Nat → List Value → List (Addr × Obj) → Prop) (h0 : J 0 [] news)
    (turn : ∀ i v ys nw I oI C oC D m₂ h tk (E' : Value → Shared → Prop), i < n → J i ys nw → P i v → NsObj oC m₂ → m₂ x = some v → Fr h₀ L h m → News h₀ L h ((I, oI) :: (C, oC) :: (D, lst ys) :: nw) → Off3 I C D nw → ((@Ne Nat I C) ∧ (@Ne Nat I D) ∧ (@Ne Nat C D)) →
      wpAny (model prog w) A (isTrue ct (compEnvC scope cl C env) (eval ct (compEnvC scope cl C env))) (fun ok s' => if ok = true then
        wpAny (model prog w) A (eval elt (compEnvC scope cl C env)) (CompEnd h₀ L m { s with heap := h, toks := tk } I oI C oC D (lst ys) S (fun y nw' => J (i + 1) (ys ++ [y]) nw')) E' s'
        else CompEnd h₀ L m { s with heap := h, toks := tk } I oI C oC D (lst ys) S (fun _ nw' => J (i + 1) ys nw') Value.none s') E' { s with heap := h, toks := tk })
    (fin : ∀ ys nw, J n ys nw → Fin ys nw) : CompRestT prog w A h₀ L m env ct elt x scope cl s S P Fin n 0 [] news := by
  have key : ∀ (j i : Nat) (ys : List Value) (nw : List (Addr × Obj)), i + j = n → J i ys nw → CompRestT prog w A h₀ L m env ct elt x scope cl s S P Fin j i ys nw := by
    intro j
    induction j with
    | zero => intro i ys nw hi hj; have e : i = n := by omega
              subst e; exact CompRestT.zero (fin _ _ hj)
    | succ j ih =>
      intro i ys nw hi hj
      refine CompRestT.succ ?_
      intro v I oI C oC D m₂ h tk E' hv hC hx F N off ne
      refine wpAny_mono (turn i v ys nw I oI C oC D m₂ h tk E' (by omega) hj hv hC hx F N off ne) (fun ok s₂ hq => ?_) fun _ _ e => e
      cases ok with
      | true =>
        simp only [if_true] at hq ⊢
        exact wpAny_mono hq (fun y s₂ hq => compEnd_mono hq fun nw' _ q => ih (i + 1) _ _ (by omega) q) fun _ _ e => e
      | false =>
        simp only [Bool.false_eq_true, if_false] at hq ⊢
        exact compEnd_mono hq fun nw' _ q => ih (i + 1) _ _ (by omega) q
  exact key n 0 [] news (by omega) h0

theorem ints_snoc {y : Int} {t : Tok} : ∀ {vs : List Value} {ys : List Int}, IntsAre vs ys → IntsAre (vs ++ [.int y t]) (ys ++ [y])
  | _, _, .nil => .cons y t .nil
  | _, _, .cons z u r => .cons z u (ints_snoc r)
theorem strsAre_len {vs : List Value} {ys : List Str} (h : StrsAre vs ys) : vs.length = ys.length := by
  induction h with
  | nil => rfl
  | cons y t _ ih => simp [ih]
theorem strsAre_get {vs : List Value} {ys : List Str} (h : StrsAre vs ys) : ∀ {i : Nat} {v : Value}, vs[i]? = some v → ∃ y t, ys[i]? = some y ∧ v = .str y t := by
  induction h with
  | nil => intro i v e; cases e
  | cons y t _ ih =>
    intro i v e
    cases i with
    | zero => cases e; exact ⟨y, t, rfl, rfl⟩
    | succ i => exact ih (by simpa using e)
theorem strs_snoc {y : Str} {t : Tok} : ∀ {vs : List Value} {ys : List Str}, StrsAre vs ys → StrsAre (vs ++ [.str y t]) (ys ++ [y])
  | _, _, .nil => .cons y t .nil
  | _, _, .cons z u r => .cons z u (strs_snoc r)
end
end Mine
namespace Mine
open PySem.Spec PySem.Calls PyProof.Rows.LCg PyProof.Rows.LCt
section
variable {prog : Program} {w : World} {A : Around} {E : Value → Shared → Prop} {s : Shared} {h₀ : Heap} {L : Addr} {m : Str → Option Value} {env : Env} {news : List (Addr × Obj)}

theorem ne_allLt {d c : Addr} : ∀ {l : List (Addr × Obj)}, AllLt d l → @LE.le Nat _ d c → ∀ p ∈ l, p.1 ≠ c
  | [], _, _, _, hp => nomatch hp
  | q :: r, h, e, p, hp => by
    rcases List.mem_cons.mp hp with rfl | hp
    · exact Nat.ne_of_lt (Nat.lt_of_lt_of_le h.1 e)
    · exact ne_allLt h.2 e p hp
theorem ne_lt {d c : Addr} {l : List (Addr × Obj)} (h : ∀ p ∈ l, p.1 < d) (e : @LE.le Nat _ d c) : ∀ p ∈ l, p.1 ≠ c := fun p hp => Nat.ne_of_lt (Nat.lt_of_lt_of_le (h p hp) e)
theorem ne_off1 {D : Addr} : ∀ {l : List (Addr × Obj)}, Off1 D l → ∀ p ∈ l, p.1 ≠ D
  | [], _, _, hp => nomatch hp
  | q :: r, h, p, hp => by
    rcases List.mem_cons.mp hp with rfl | hp
    · exact h.1
    · exact ne_off1 h.2 p hp
/-- a for loop over one iterator: what holds between the turns, of the frame and of the ledger -/
def TurnEnd (h₀ : Heap) (L : Addr) (I : Addr) (oI : Obj) (J : (Str → Option Value) → List (Addr × Obj) → Prop) (s₁ : Shared) (Q : Flow → Shared → Prop) (f : Flow) (s₂ : Shared) : Prop :=
  match f with
  | .ret v => Q (.ret v) s₂
  | .brk => Q .next s₂
  | _ => ∃ h' tk m₂ nw, s₂ = { s₁ with heap := h', toks := tk } ∧ Fr h₀ L h' m₂ ∧ News h₀ L h' ((I, oI) :: nw) ∧ (∀ p ∈ nw, p.1 ≠ I) ∧ J m₂ nw
theorem loop_one {x : Str} {body : List Stmt} {Q : Flow → Shared → Prop} {I : Addr} {n : Nat} {P : Nat → Value → Prop} {St : Nat → Heap → Prop} (W : Walks prog w A I [I] [I] n P St) (hIo : ∀ i h, St i h → ∃ o, h.get? I = some o)
    (hst : St 0 s.heap) (F : Fr h₀ env.locals s.heap m) (N : News h₀ env.locals s.heap news) (hIL : env.locals ≠ I) (hI₀ : h₀.get? I = none) (off : ∀ p ∈ news, p.1 ≠ I)
    (J : Nat → (Str → Option Value) → List (Addr × Obj) → Prop) (h0 : J 0 m news)
    (turn : ∀ i v m₁ nw oI h tk, i < n → P i v → J i m₁ nw → (∀ p ∈ nw, p.1 ≠ I) → Fr h₀ env.locals h (fun y => if y = x then some v else m₁ y) → News h₀ env.locals h ((I, oI) :: nw) →
      wpAny (model prog w) A (execs body env) (TurnEnd h₀ env.locals I oI (J (i + 1)) { s with heap := h, toks := tk } Q) E { s with heap := h, toks := tk })
    (done : ∀ h tk m₁ nw, Fr h₀ env.locals h m₁ → News h₀ env.locals h nw → J n m₁ nw → Q .next { s with heap := h, toks := tk }) :
    LoopAtV prog w A h₀ env x body Q E (.ref I) s := by
  refine ⟨I, [I], [I], n, P, St, m, news, J, rfl, W, by simpa using hIL, ?_, by simpa using off, hst, F, N, h0, ?_, ?_⟩
  · intro b hb; rw [List.mem_singleton.mp hb]; exact hI₀
  · rintro i v m₁ nw s₁ own ⟨h, tk, rfl⟩ hi hP hJ hoff hown howng hall hst₁ F₁ N₁
    obtain ⟨oI, hoI⟩ := hIo _ _ hst₁
    have e : ∀ p ∈ own, p = (I, oI) := fun p hp => by
      have e1 : p.1 = I := by simpa using hown p hp
      have e2 := howng p hp
      rw [e1] at e2
      have e3 : p.2 = oI := Option.some.inj (e2.symm.trans hoI)
      exact Prod.ext e1 e3
    have hm : (I, oI) ∈ own := hall I (by simp) hI₀ oI hoI
    have off' : ∀ p ∈ nw, p.1 ≠ I := fun p hp => by simpa using hoff p hp
    refine wpAny_mono (turn i v m₁ nw oI h tk hi hP hJ off' F₁ (fun p hp => ?_)) (fun f s₂ q => ?_) fun _ _ e => e
    · rcases List.mem_cons.mp hp with rfl | hp
      · exact N₁ _ (List.mem_append_left _ hm)
      · exact N₁ _ (List.mem_append_right _ hp)
    · have fin : (∃ h' tk' m₂ nw', s₂ = { s with heap := h', toks := tk' } ∧ Fr h₀ env.locals h' m₂ ∧ News h₀ env.locals h' ((I, oI) :: nw') ∧ (∀ p ∈ nw', p.1 ≠ I) ∧ J (i + 1) m₂ nw') → LoopStepU h₀ env.locals [I] own (J (i + 1)) { s with heap := h, toks := tk } .next s₂ := by
        rintro ⟨h', tk', m₂, nw', rfl, F₂, N₂, off₂, hJ₂⟩
        refine ⟨rfl, h', tk', m₂, nw', rfl, F₂, fun p hp => ?_, by simpa using off₂, hJ₂⟩
        rcases List.mem_append.mp hp with hp | hp
        · rw [e p hp]; exact N₂ _ List.mem_cons_self
        · exact N₂ _ (List.mem_cons_of_mem _ hp)
      cases f with
      | ret v => exact .ret q
      | brk => exact .brk q
      | next => exact .next (fin q)
      | cont => exact .cont (fin q)
  · intro h' tk m' nw F' N' _ hJ
    exact done h' tk m' nw F' N' hJ

/-- a loop over a range whose turns store nothing but its letter -/
theorem loop_rng {x : Str} {body : List Stmt} {Q : Flow → Shared → Prop} {r : Addr} {a b : Int} {t u v : Tok} {n : Nat} (hh : A.handled = none) (hr : IsRange s.heap r a b 1 t u v) (hsm : Builtin.Range.small a b 1 = true) (hn : Builtin.Range.rangeSize a b 1 = ((n : Nat) : Int)) (F : Fr h₀ env.locals s.heap m) (N : News h₀ env.locals s.heap news)
    (turn : ∀ (i : Nat) t oI I h tk, i < n → Fr h₀ env.locals h (fun y => if y = x then some (.int (a + (i : Int)) t) else m y) → News h₀ env.locals h ((I, oI) :: news) → (∀ p ∈ news, p.1 ≠ I) →
      wpAny (model prog w) A (execs body env) (TurnEnd h₀ env.locals I oI (fun m₁ nw => nw = news ∧ ∀ y, y ≠ x → m₁ y = m y) { s with heap := h, toks := tk } Q) E { s with heap := h, toks := tk })
    (done : ∀ u h tk, Fr h₀ env.locals h (fun y => if y = x then u else m y) → News h₀ env.locals h news → Q .next { s with heap := h, toks := tk }) :
    wpAny (model prog w) A (pyIter (.ref r)) (fun it s₂ => LoopAtV prog w A h₀ env x body Q E it s₂) E s := by
  refine wpAny_pyIter_range hr hsm ?_
  have off : ∀ p ∈ news, p.1 ≠ s.heap.objs.size := fun p hp => Nat.ne_of_lt (Heap.lt_size (N p hp).1)
  refine loop_one (range_walks hh a n) (fun i h st => ⟨_, st⟩) (by show IsRangeIter _ _ _ _ _; rw [hn]; simpa using Heap.get?_push_size _ rfl) (F.keeps fun _ _ e => Heap.get?_push_of_some _ e) (N.grown fun _ _ e => Heap.get?_push_of_some _ e) (Nat.ne_of_lt F.ns.lt) (next_is_new F) off
    (fun _ m₁ nw => nw = news ∧ ∀ y, y ≠ x → m₁ y = m y) ⟨rfl, fun _ _ => rfl⟩ ?_ ?_
  · rintro i v m₁ nw oI h tk hi ⟨t, rfl⟩ ⟨rfl, hm⟩ _ F₁ N₁
    have e : (fun y => if y = x then some (Value.int (a + (i : Int)) t) else m₁ y) = fun y => if y = x then some (Value.int (a + (i : Int)) t) else m y := by
      funext y; split
      · rfl
      · exact hm y (by assumption)
    rw [e] at F₁
    exact turn i t oI _ h tk hi F₁ N₁ off
  · rintro h tk m₁ nw F₁ N₁ ⟨rfl, hm⟩
    have e : m₁ = fun y => if y = x then m₁ x else m y := by
      funext y; split
      · subst_vars; rfl
      · exact hm y (by assumption)
    rw [e] at F₁
    exact done _ h tk F₁ N₁
/-- the same over bytes -/
theorem loop_bytes {x : Str} {body : List Stmt} {Q : Flow → Shared → Prop} {b : Array UInt8} {t : Tok} (hh : A.handled = none) (F : Fr h₀ env.locals s.heap m) (N : News h₀ env.locals s.heap news)
    (turn : ∀ (i : Nat) c t oI I h tk, b[i]? = some c → Fr h₀ env.locals h (fun y => if y = x then some (.int (c.toNat : Int) t) else m y) → News h₀ env.locals h ((I, oI) :: news) → (∀ p ∈ news, p.1 ≠ I) →
      wpAny (model prog w) A (execs body env) (TurnEnd h₀ env.locals I oI (fun m₁ nw => nw = news ∧ ∀ y, y ≠ x → m₁ y = m y) { s with heap := h, toks := tk } Q) E { s with heap := h, toks := tk })
    (done : ∀ u h tk, Fr h₀ env.locals h (fun y => if y = x then u else m y) → News h₀ env.locals h news → Q .next { s with heap := h, toks := tk }) :
    wpAny (model prog w) A (pyIter (.bytes b t)) (fun it s₂ => LoopAtV prog w A h₀ env x body Q E it s₂) E s := by
  refine KBw.pyIter_bytes ?_
  have off : ∀ p ∈ news, p.1 ≠ s.heap.objs.size := fun p hp => Nat.ne_of_lt (Heap.lt_size (N p hp).1)
  refine loop_one (P := fun i v => ∃ c u, b[i]? = some c ∧ v = .int (c.toNat : Int) u) (KBw.walks hh s.heap.objs.size b t) (fun i h st => by obtain ⟨o, e, _⟩ := st; exact ⟨o, e⟩) ⟨_, Heap.get?_push_size _ rfl, rfl, rfl⟩ (F.keeps fun _ _ e => Heap.get?_push_of_some _ e) (N.grown fun _ _ e => Heap.get?_push_of_some _ e) (Nat.ne_of_lt F.ns.lt) (next_is_new F) off
    (fun _ m₁ nw => nw = news ∧ ∀ y, y ≠ x → m₁ y = m y) ⟨rfl, fun _ _ => rfl⟩ ?_ ?_
  · rintro i v m₁ nw oI h tk hi ⟨c, t, hc, rfl⟩ ⟨rfl, hm⟩ _ F₁ N₁
    have e : (fun y => if y = x then some (Value.int (c.toNat : Int) t) else m₁ y) = fun y => if y = x then some (Value.int (c.toNat : Int) t) else m y := by
      funext y; split
      · rfl
      · exact hm y (by assumption)
    rw [e] at F₁
    exact turn i c t oI _ h tk hc F₁ N₁ off
  · rintro h tk m₁ nw F₁ N₁ ⟨rfl, hm⟩
    have e : m₁ = fun y => if y = x then m₁ x else m y := by
      funext y; split
      · subst_vars; rfl
      · exact hm y (by assumption)
    rw [e] at F₁
    exact done _ h tk F₁ N₁
theorem TurnEnd.next {I : Addr} {oI : Obj} {s₁ : Shared} {Q : Flow → Shared → Prop} {x : Str} {v : Option Value} {m₀ : Str → Option Value} {h' : Heap} {tk : Nat} {all : List (Addr × Obj)} (F : Fr h₀ L h' (fun y => if y = x then v else m₀ y)) (N : News h₀ L h' all) (hs : ∀ p ∈ (I, oI) :: news, p ∈ all) (off : ∀ p ∈ news, p.1 ≠ I) :
    TurnEnd h₀ L I oI (fun m₁ nw => nw = news ∧ ∀ y, y ≠ x → m₁ y = m₀ y) s₁ Q .next { s₁ with heap := h', toks := tk } :=
  ⟨h', tk, _, news, rfl, F, fun p hp => N p (hs p hp), off, rfl, fun y hy => by simp [hy]⟩

/-- the turns of a comprehension with a tuple as its target and one test -/
theorem turns_tup {elt iter ct : Expr} {elts : List Expr} {k : Nat} {tp : Pos} {scope : Scope} {pos : Pos} {it acc : Value} {env : Env} {R : Result → Shared → Prop} (J : Nat → Shared → Prop)
    (turn : ∀ n s, J n s → wpAny (model prog w) A (pyNext it) (fun r s₁ => match r with
      | none => R (.ok .next) s₁
      | some v => wpAny (model prog w) A (letOwnedTupleGo (.Tuple elts k tp) it v) (fun _ s₂ => wpAny (model prog w) A (assign (.Tuple elts k tp) env v) (fun _ s₃ =>
          wpAny (model prog w) A (isTrue ct env (eval ct env)) (fun ok s₄ => if ok = true then
            wpAny (model prog w) A (eval elt env) (fun y s₅ => wpAny (model prog w) A (call (.builtin "list.append") [acc, y]) (fun _ s₆ => ∃ j, j < n ∧ J j s₆) (notedBy (model prog w) A env fun e s' => R (.error e) s') s₅) (notedBy (model prog w) A env fun e s' => R (.error e) s') s₄
            else ∃ j, j < n ∧ J j s₄) (notedBy (model prog w) A env fun e s' => R (.error e) s') s₃)
          (notedBy (model prog w) A env fun e s' => R (.error e) s') s₂) (notedBy (model prog w) A env fun e s' => R (.error e) s') s₁) (notedBy (model prog w) A env fun e s' => R (.error e) s') s)
    (n : Nat) (h : J n s) : codeAny (model prog w) A (.compLoop (.ListComp elt [⟨.Tuple elts k tp, iter, [ct], 0⟩] scope pos) 0 it acc env) R s := by
  refine codeAny_loop rfl J (fun n s hJ => ?_) n h
  show wpAny _ A ((compTurn (.ListComp elt [⟨.Tuple elts k tp, iter, [ct], 0⟩] scope pos) 0 it acc env).onRaise (fun x => do noteFrame x env; theTreesLotGoes x)) _ _ s
  refine wpAny_noted ?_
  rw [compTurn_list]
  refine wpAny_bind (wpAny_standAt (wpAny_bind (wpAny_mono (turn n s hJ) (fun r s₁ h₁ => ?_) fun _ _ e => e)))
  cases r with
  | none => exact wpAny_pure h₁
  | some v =>
    refine wpAny_bind (wpAny_mono h₁ (fun _ s₂ h₂ => wpAny_bind (wpAny_mono h₂ (fun _ s₃ h₃ => wpAny_bind (wpAny_mono (wpAny_tests_one h₃) (fun ok s₄ h₄ => ?_) fun _ _ e => e)) fun _ _ e => e)) fun _ _ e => e)
    cases ok with
    | false => exact wpAny_pure ⟨rfl, by simpa using h₄⟩
    | true => exact wpAny_bind (wpAny_bind (wpAny_mono (by simpa using h₄) (fun y s₅ h₅ => wpAny_bind (wpAny_mono h₅ (fun _ s₆ h₆ => wpAny_pure (wpAny_pure ⟨rfl, h₆⟩)) fun _ _ e => e)) fun _ _ e => e))

def Lc3 (prog : Program) (w : World) (A : Around) (h₀ : Heap) (L : Addr) (m : Str → Option Value) (env : Env) (ct elt : Expr) (x y z : Str) (scope : Scope) (cl : List (Str × Addr)) (Fin : Shared → List Value → List (Addr × Obj) → Prop) (xv : Value) (s₁ : Shared) : Prop :=
  ∃ ax its news, ∃ J : Nat → List Value → List (Addr × Obj) → Prop, xv = .ref ax ∧ A.handled = none ∧ Fr h₀ L s₁.heap m ∧ News h₀ L s₁.heap news ∧ SrcAt h₀ ax its news ∧ its.size ≤ sizeLine ∧ J 0 [] news ∧
    (∀ i ys nw v, J i ys nw → its[i]? = some v → ∃ t ot v1 v2 v3 nt, v = .ref t ∧ (t, ot) ∈ nw ∧ ot.cls = .type "tuple" ∧ ot.data = .seq #[v1, v2, v3] nt ∧
      ∀ I oI C oC D m₂ h tk (E' : Value → Shared → Prop), NsObj oC m₂ → m₂ x = some v1 → m₂ y = some v2 → m₂ z = some v3 → Fr h₀ L h m → News h₀ L h ((I, oI) :: (C, oC) :: (D, lst ys) :: nw) → Off3 I C D nw → ((@Ne Nat I C) ∧ (@Ne Nat I D) ∧ (@Ne Nat C D)) →
      wpAny (model prog w) A (isTrue ct (compEnvC scope cl C env) (eval ct (compEnvC scope cl C env))) (fun ok s' => if ok = true then
        wpAny (model prog w) A (eval elt (compEnvC scope cl C env)) (CompEnd h₀ L m { s₁ with heap := h, toks := tk } I oI C oC D (lst ys) (SrcAt h₀ ax its) (fun y nw' => J (i + 1) (ys ++ [y]) nw')) E' s'
        else CompEnd h₀ L m { s₁ with heap := h, toks := tk } I oI C oC D (lst ys) (SrcAt h₀ ax its) (fun _ nw' => J (i + 1) ys nw') Value.none s') E' { s₁ with heap := h, toks := tk }) ∧
    ∀ ys nw g, J its.size ys nw → Fin { s₁ with heap := g } ys nw

theorem run_3 {ct elt iter : Expr} {x y z : Str} {px py pz tp : Pos} {k : Nat} {scope : Scope} {cl : List (Str × Addr)} {pos : Pos} {I ax : Addr} {its : Array Value} {RR : Value → Addr → Result → Shared → Prop} (J : Nat → List Value → List (Addr × Obj) → Prop)
    (hh : A.handled = none) (W : Walks prog w A I [I, ax] [I] its.size (fun i v => its[i]? = some v) (fun i h => h.IsListIter I ax i ∧ h.IsList ax its)) (hsz : its.size ≤ sizeLine)
    (hcell : ∀ y ∈ scope.names, y.2 ≠ .cell) (hkind : scope.kind = .function) (hx : scope.names.lookup x = some .local) (hy : scope.names.lookup y = some .local) (hz : scope.names.lookup z = some .local) (hxy : x ≠ y ∧ x ≠ z ∧ y ≠ z)
    (hst : s.heap.IsListIter I ax 0 ∧ s.heap.IsList ax its) (hI : @LT.lt Nat _ I s.heap.objs.size) (hax : @LT.lt Nat _ ax s.heap.objs.size)
    (F : Fr h₀ L s.heap m) (N : News h₀ L s.heap news) (hIL : L ≠ I) (hI₀ : h₀.get? I = none) (off : ∀ p ∈ news, p.1 ≠ I) (hS : SrcAt h₀ ax its news) (h0 : J 0 [] news)
    (turn : ∀ i ys nw v, J i ys nw → its[i]? = some v → ∃ t ot v1 v2 v3 nt, v = .ref t ∧ (t, ot) ∈ nw ∧ ot.cls = .type "tuple" ∧ ot.data = .seq #[v1, v2, v3] nt ∧
      ∀ I oI C oC D m₂ h tk (E' : Value → Shared → Prop), NsObj oC m₂ → m₂ x = some v1 → m₂ y = some v2 → m₂ z = some v3 → Fr h₀ L h m → News h₀ L h ((I, oI) :: (C, oC) :: (D, lst ys) :: nw) → Off3 I C D nw → ((@Ne Nat I C) ∧ (@Ne Nat I D) ∧ (@Ne Nat C D)) →
      wpAny (model prog w) A (isTrue ct (compEnvC scope cl C env) (eval ct (compEnvC scope cl C env))) (fun ok s' => if ok = true then
        wpAny (model prog w) A (eval elt (compEnvC scope cl C env)) (CompEnd h₀ L m { s with heap := h, toks := tk } I oI C oC D (lst ys) (SrcAt h₀ ax its) (fun y nw' => J (i + 1) (ys ++ [y]) nw')) E' s'
        else CompEnd h₀ L m { s with heap := h, toks := tk } I oI C oC D (lst ys) (SrcAt h₀ ax its) (fun _ nw' => J (i + 1) ys nw') Value.none s') E' { s with heap := h, toks := tk })
    (hRR : ∀ D C h tk m' ys nw, Fr h₀ L h m → News h₀ L h ((D, lst ys) :: nw) → Off1 D nw → h.Ns C m' → h₀.get? C = none → h₀.get? D = none → C ≠ L → D ≠ L → C ≠ D → (∀ p ∈ nw, p.1 ≠ C) → J its.size ys nw → RR (.ref D) C (.ok .next) { s with heap := h, toks := tk }) :
    wpAny (model prog w) A (newList []) (fun acc s₃ => wpAny (model prog w) A (newFunctionEnv scope env.globals cl [] env.qual none .none (some env)) (fun cenv s₄ =>
      codeAny (model prog w) A (.compStart (.ListComp elt [⟨.Tuple [.Name x px, .Name y py, .Name z pz] k tp, iter, [ct], 0⟩] scope pos) 0 (.ref I) acc { cenv with scope := relabel scope env }) (RR acc cenv.locals) s₄) E s₃) E s := by
  refine wpAny_newObj_type (wpAny_newFunctionEnv hcell (by intro y hy; simp at hy) (fun h₁ hns₁ hsb₁ => ?_) hkind)
  dsimp only at hns₁ hsb₁ ⊢
  generalize hG : s.heap.push { cls := .type "list", dict := none, data := .seq ([] : List Value).toArray } = G at hns₁ hsb₁ ⊢
  generalize hD : s.heap.objs.size = D at *
  generalize hC : G.objs.size = C at *
  have hCD : @Eq Nat C (D + 1) := by rw [← hC, ← hG, Heap.size_push, hD]
  have lt : ∀ b o, s.heap.get? b = some o → @LT.lt Nat _ b D := fun b o e => hD ▸ Heap.lt_size e
  have up : ∀ b o, s.heap.get? b = some o → h₁.get? b = some o := fun b o e => hsb₁.extBut b o (Nat.ne_of_lt (show @LT.lt Nat _ b C by have := lt b o e; omega)) (Heap.get?_push_of_some _ (hG ▸ Heap.get?_push_of_some _ e))
  have new : ∀ a, @LE.le Nat _ D a → h₀.get? a = none := fun a ha => by
    cases e : h₀.get? a with
    | none => rfl
    | some o => exact absurd (lt a o (F.keep a o e)) (Nat.not_lt.mpr ha)
  have hL : @LT.lt Nat _ L D := hD ▸ F.ns.lt
  have hD₀ : h₀.get? D = none := new D (Nat.le_refl _)
  have hC₀ : h₀.get? C = none := new C (by omega)
  have nDL : D ≠ L := Nat.ne_of_gt hL
  have nCL : C ≠ L := Nat.ne_of_gt (show @LT.lt Nat _ L C by omega)
  have nDC : D ≠ C := Nat.ne_of_lt (show @LT.lt Nat _ D C by omega)
  have nIC : I ≠ C := Nat.ne_of_lt (show @LT.lt Nat _ I C by omega)
  have nID : I ≠ D := Nat.ne_of_lt (by omega)
  have off₀ : Off3 I C D news := Off3.of fun p hp => ⟨off p hp, Nat.ne_of_lt (show @LT.lt Nat _ p.1 C by have := lt _ _ (N p hp).1; omega), Nat.ne_of_lt (lt _ _ (N p hp).1)⟩
  have acc₁ : h₁.get? D = some (lst []) := hsb₁.extBut _ _ nDC (Heap.get?_push_of_some _ (hG ▸ hD ▸ Heap.get?_push_size _ rfl))
  have st₁ : h₁.IsListIter I ax 0 ∧ h₁.IsList ax its := ⟨let ⟨o, e, r⟩ := hst.1; ⟨o, up _ _ e, r⟩, let ⟨o, e, r⟩ := hst.2; ⟨o, up _ _ e, r⟩⟩
  have loop : ∀ tk₀, codeAny (model prog w) A (.compLoop (.ListComp elt [⟨.Tuple [.Name x px, .Name y py, .Name z pz] k tp, iter, [ct], 0⟩] scope pos) 0 (.ref I) (.ref D) (compEnvC scope cl C env)) (RR (.ref D) C) { s with heap := h₁, toks := tk₀ } := by
    intro tk₀
    refine turns_tup (fun j s' => ∃ h tk i ys m' nw, s' = { s with heap := h, toks := tk } ∧ i ≤ its.size ∧ j = its.size + 1 - i ∧ ys.length ≤ i ∧ (h.IsListIter I ax i ∧ h.IsList ax its) ∧ Fr h₀ L h m ∧ h.Ns C m' ∧ News h₀ L h ((D, lst ys) :: nw) ∧ Off3 I C D nw ∧ SrcAt h₀ ax its nw ∧ J i ys nw)
      ?_ (its.size + 1) ⟨h₁, _, 0, [], _, news, rfl, Nat.zero_le _, rfl, Nat.le_refl _, st₁, F.keeps up, hns₁, fun p hp => ?_, off₀, hS, h0⟩
    · rintro j s' ⟨h, tk, i, ys, m', nw, rfl, hi, rfl, hyl, hst', F', hn', N', off', hS', hJ⟩
      have off3 := off'.mem
      by_cases hlt : i < its.size
      · refine W.item i _ _ _ hlt hst' fun v h₂ tk₂ hv hst₂ hk₂ => ?_
        obtain ⟨t, ot, v1, v2, v3, nt, rfl, hmt, hct, hdt, go⟩ := turn i ys nw v hJ hv
        have N₂ : News h₀ L h₂ ((D, lst ys) :: nw) := news_but N' hk₂ fun p hp => by
          rcases List.mem_cons.mp hp with rfl | hp
          · exact Ne.symm nID
          · exact (off3 p hp).1
        refine wpAny_letOwnedTupleGo_listiter hst₂.1 ?_
        refine assign_Tuple_tuple hh (⟨ot, (N₂ _ (List.mem_cons_of_mem _ hmt)).1, hct, nt, hdt⟩ : IsTup h₂ t #[v1, v2, v3]) rfl rfl fun h₃ he => ?_
        have k₃ : ∀ b o, h₂.get? b = some o → h₃.get? b = some o := fun b o e => he b o (Nat.ne_of_lt (Heap.lt_size e)) e
        have hp : ((compEnvC scope cl C env).scope.kind == .class || ((compEnvC scope cl C env).scope.kind == .module && (compEnvC scope cl C env).locals != (compEnvC scope cl C env).globals)) = false := by simp [compEnvC, relabel, hkind]
        refine assignInOrder_cons (wpAny_assign_Name (wpAny_storeName_local (lookup_relabel_local hx) ((hn'.at' fun o e => hk₂ _ o (by simpa using Ne.symm nIC) e).at' fun o e => k₃ _ o e) (fun h₄ n₄ s₄ => ?_) hp))
        refine assignInOrder_cons (wpAny_assign_Name (wpAny_storeName_local (lookup_relabel_local hy) n₄ (fun h₅ n₅ s₅ => ?_) hp))
        refine assignInOrder_cons (wpAny_assign_Name (wpAny_storeName_local (lookup_relabel_local hz) n₅ (fun h₆ n₆ s₆ => ?_) hp))
        refine assignInOrder_nil ?_
        have k₆ : ∀ b o, b ≠ C → h₂.get? b = some o → h₆.get? b = some o := fun b o hb e => s₆.extBut b o hb (s₅.extBut b o hb (s₄.extBut b o hb (k₃ b o e)))
        have st₆ : h₆.IsListIter I ax (i + 1) ∧ h₆.IsList ax its := W.frame _ _ _ hst₂ fun b hb o e => k₆ b o (fun q => by
          have : b = I ∨ b = ax := by simpa using hb
          rcases this with e | e
          · exact nIC (e.symm.trans q)
          · have : @Eq Nat C ax := q.symm.trans e
            omega) e
        obtain ⟨oI, eI, _⟩ := id st₆.1
        obtain ⟨oC, eC, hoC⟩ := ns_obj n₆
        have F₆ : Fr h₀ L h₆ m := (((((fr_but F' hk₂ hIL hI₀).keeps k₃).change s₄ nCL hC₀).change s₅ nCL hC₀).change s₆ nCL hC₀)
        have N₆ : News h₀ L h₆ ((I, oI) :: (C, oC) :: (D, lst ys) :: nw) := fun p hp => by
          rcases List.mem_cons.mp hp with rfl | hp
          · exact ⟨eI, Ne.symm hIL, hI₀⟩
          rcases List.mem_cons.mp hp with rfl | hp
          · exact ⟨eC, nCL, hC₀⟩
          · refine ⟨k₆ _ _ ?_ (N₂ p hp).1, (N₂ p hp).2⟩
            rcases List.mem_cons.mp hp with rfl | hp
            · exact nDC
            · exact (off3 p hp).2.1
        have back : ∀ {h₇ nw₇}, Fr h₀ L h₇ m → News h₀ L h₇ ((I, oI) :: (C, oC) :: (D, lst ys) :: nw₇) → SrcAt h₀ ax its nw₇ → (h₇.IsListIter I ax (i + 1) ∧ h₇.IsList ax its) ∧ h₇.Ns C _ ∧ h₇.get? D = some (lst ys) ∧ News h₀ L h₇ nw₇ := fun {h₇ nw₇} F₇ N₇ S₇ => by
          have N₇' : News h₀ L h₇ nw₇ := fun p hp => N₇ p (.tail _ (.tail _ (.tail _ hp)))
          have zI := (N₇ _ (.head _)).1
          have zC := (N₇ _ (.tail _ (.head _))).1
          refine ⟨⟨?_, S₇.list F₇.keep N₇'⟩, hoC.ns zC, (N₇ _ (.tail _ (.tail _ (.head _)))).1, N₇'⟩
          obtain ⟨o, e, r⟩ := st₆.1
          rw [eI] at e; cases e
          exact ⟨_, zI, r⟩
        refine wpAny_mono (go I oI C oC D _ h₆ _ _ hoC (by simp [hxy]) (by simp [hxy]) (by simp) F₆ N₆ off' ⟨nIC, nID, Ne.symm nDC⟩) (fun ok s₇ h₇ => ?_) fun _ _ e => e
        cases ok with
        | true =>
          simp only [if_true] at h₇ ⊢
          refine wpAny_mono h₇ (fun y s₈ h₈ => ?_) fun _ _ e => e
          obtain ⟨h₈, tk₈, nw₈, rfl, F₈, N₈, off₈, S₈, J₈⟩ := h₈
          obtain ⟨st₈, n₈, d₈, N₈'⟩ := back F₈ N₈ S₈
          refine append_at (hsz := by show ys.toArray.size ≤ sizeLine; rw [List.size_toArray]; exact Nat.le_trans (Nat.le_trans hyl hi) hsz) d₈ fun h₉ hs₉ hD₉ => ?_
          have o8 := off₈.mem
          refine ⟨its.size + 1 - (i + 1), by omega, h₉, tk₈, i + 1, ys ++ [y], _, nw₈, rfl, hlt, rfl, by rw [List.length_append, List.length_singleton]; omega, W.frame _ _ _ st₈ fun b hb o e => hs₉.extBut b o (fun q => ?_) e, F₈.change hs₉ nDL hD₀, n₈.sameBut hs₉ (Ne.symm nDC), fun p hp => ?_, off₈, S₈, J₈⟩
          · have : b = I ∨ b = ax := by simpa using hb
            rcases this with e | e
            · exact nID (e.symm.trans q)
            · have : @Eq Nat D ax := q.symm.trans e
              omega
          · rcases List.mem_cons.mp hp with rfl | hp
            · exact ⟨hD₉.trans (congrArg some (lst_snoc ys y)), nDL, hD₀⟩
            · exact ⟨hs₉.extBut _ _ (o8 p hp).2.2 (N₈' p hp).1, (N₈' p hp).2⟩
        | false =>
          simp only [Bool.false_eq_true, if_false] at h₇ ⊢
          obtain ⟨h₈, tk₈, nw₈, rfl, F₈, N₈, off₈, S₈, J₈⟩ := h₇
          obtain ⟨st₈, n₈, d₈, N₈'⟩ := back F₈ N₈ S₈
          refine ⟨its.size + 1 - (i + 1), by omega, h₈, tk₈, i + 1, ys, _, nw₈, rfl, hlt, rfl, by omega, st₈, F₈, n₈, fun p hp => N₈ p (.tail _ (.tail _ hp)), off₈, S₈, J₈⟩
      · obtain rfl : i = its.size := Nat.le_antisymm hi (Nat.not_lt.mp hlt)
        refine W.done _ _ _ hst' fun h₂ tk₂ hk₂ => ?_
        refine hRR _ _ h₂ tk₂ _ ys nw (fr_but F' hk₂ hIL hI₀) (news_but N' hk₂ fun p hp => ?_) off'.one (hn'.at' fun o e => hk₂ _ o (by simpa using Ne.symm nIC) e) hC₀ hD₀ nCL nDL (Ne.symm nDC) (fun p hp => (off3 p hp).2.1) hJ
        rcases List.mem_cons.mp hp with rfl | hp
        · exact Ne.symm nID
        · exact (off3 p hp).1
    · rcases List.mem_cons.mp hp with rfl | hp
      · exact ⟨acc₁, nDL, hD₀⟩
      · exact ⟨up _ _ (N p hp).1, (N p hp).2⟩
  exact codeAny_compStart_list (loop _) (W.self 0 _ _ _ st₁ (loop _))

theorem alc_3 {ct elt iter : Expr} {x y z v : Str} {px py pz tp pv : Pos} {k : Nat} {scope : Scope} {cl : List (Str × Addr)} {pos spos : Pos} {Q : Flow → Shared → Prop} (_F₀ : Fr h₀ L s.heap m) (hLe : env.locals = L)
    (hsw : swapsWith (.ListComp elt [⟨.Tuple [.Name x px, .Name y py, .Name z pz] k tp, iter, [ct], 0⟩] scope pos) (some (.Name v pv)) spos.line env = pure true)
    (hclos : closureFor scope env = pure cl) (hcell : ∀ z ∈ scope.names, z.2 ≠ .cell) (hkind : scope.kind = .function)
    (hnames : ∀ z ∈ scope.names, z.2 = .local → scope.names.lookup z.1 = some .local) (hx : scope.names.lookup x = some .local) (hy : scope.names.lookup y = some .local) (hz : scope.names.lookup z = some .local) (hxy : x ≠ y ∧ x ≠ z ∧ y ≠ z)
    (hv : env.kindOf v = some .local) (hp : (env.scope.kind == .class || (env.scope.kind == .module && env.locals != env.globals)) = false)
    (h : wpAny (model prog w) A (eval iter env) (Lc3 prog w A h₀ L m env ct elt x y z scope cl (fun s₂ => FinA h₀ L m s₂ v Q)) E s)
    (hs : ∀ x, foldedSetIterable iter env x = pure x := by intro _; rfl) :
    wpAny (model prog w) A (exec (.Assign [.Name v pv] (.ListComp elt [⟨.Tuple [.Name x px, .Name y py, .Name z pz] k tp, iter, [ct], 0⟩] scope pos) spos) env) Q E s := by
  subst hLe
  rw [exec_Assign_Name_used _ _ _ _ hsw]
  refine wpAny_bind (wpAny_standAt (wpAny_bind ?_))
  show wpAny _ A (do let _ ← comprehension (.ListComp elt [⟨.Tuple [.Name x px, .Name y py, .Name z pz] k tp, iter, [ct], 0⟩] scope pos) scope env _ (newList []) false (eval iter env) (some (assign (.Name v pv) env))) _ _ s
  refine wpAny_bind (wpAny_mono (wpAny_comprehension_free (use := some (assign (.Name v pv) env)) (Q := fun _ s' => Q .next s') rfl hs hclos hkind hnames
    (wpAny_mono h (fun xv s₁ h₁ => ?_) fun _ _ e => e)) (fun _ s' hq => wpAny_pure (wpAny_pure hq)) fun _ _ e => e)
  obtain ⟨ax, its, news, J, rfl, hh, F, N, S, hsz, h0, turn, fin⟩ := h₁
  have hl := S.list F.keep N
  have hlt : ax < s₁.heap.objs.size := by obtain ⟨_, e, _⟩ := hl; exact Heap.lt_size e
  refine wpAny_pyIter_list hl ?_
  have up : ∀ b o, s₁.heap.get? b = some o → (s₁.heap.push { cls := .type "list_iterator", data := .fields #[.ref ax, .int 0 0] }).get? b = some o := fun b o e => Heap.get?_push_of_some _ e
  generalize hg9 : s₁.heap.push { cls := .type "list_iterator", data := .fields #[.ref ax, .int 0 0] } = g9 at *
  refine run_3 J hh (Walks.list hh s₁.heap.objs.size ax (Nat.ne_of_lt hlt) its) hsz hcell hkind hx hy hz hxy ⟨⟨_, hg9 ▸ Heap.get?_push_size _ rfl, rfl, rfl⟩, hg9 ▸ hl.push _⟩ ?_ ?_ (F.keeps up) (N.grown up) (Nat.ne_of_lt F.ns.lt) (next_is_new F) (fun p hp => Nat.ne_of_lt (Heap.lt_size (N p hp).1)) S h0 turn ?_
  · show s₁.heap.objs.size < g9.objs.size
    rw [← hg9, Heap.size_push]; exact Nat.lt_succ_self _
  · show ax < g9.objs.size
    rw [← hg9, Heap.size_push]; exact Nat.lt_succ_of_lt hlt
  intro D C h' tk m' ys nw F' N' o1 hn hC₀ hD₀ hCL hDL hCD offC hJ
  show wpAny _ A (assign (.Name v pv) env (.ref D)) _ _ _
  refine wpAny_assign_Name (wpAny_storeName_local hv F'.ns (fun h₂ hn₂ hs₂ => ?_) hp)
  have hL₀ : h₀.get? env.locals = none := Heap.get?_none_of_le F'.above
  have F₂ : Fr h₀ env.locals h₂ (fun z => if z = v then some (.ref D) else m z) := ⟨hn₂, fun b o e => hs₂.extBut b o (fun q => by rw [q, hL₀] at e; cases e) (F'.keep b o e), F'.above⟩
  refine ⟨m', hn.sameBut hs₂ hCL, fun h'' hs'' => fin ys nw g9 hJ D h'' _ (F₂.change hs'' hCL hC₀) (fun p hp => ?_) o1⟩
  have q : h₂.get? p.1 = some p.2 := hs₂.extBut _ _ (N' p hp).2.1 (N' p hp).1
  refine ⟨hs''.extBut _ _ ?_ q, (N' p hp).2⟩
  rcases List.mem_cons.mp hp with rfl | hp
  · exact Ne.symm hCD
  · exact offC p hp
end
end Mine
namespace Mine
open PySem.Spec PySem.Calls Builtin
set_option maxRecDepth 100000
theorem slot_find : Slot "bytes" "find" "bytes.find" :=
  .of (owner := "bytes") (n := "find") (by rw [typeLookup_type, builtinLookup_eq_fast]; kernel_rfl) (by decide +kernel) (by decide +kernel) (by decide +kernel)
    (by first | exact .inl (by decide +kernel) | exact .inr (by decide +kernel)) (by rw [isSubtype_type]; kernel_rfl)
theorem type_find : typeOf (.builtin "bytes.find") = pure (.type "method_descriptor") := by show builtinType _ = _; rw [builtinType_eq_fast]; kernel_rfl
theorem entry_find : entryFor table "bytes.find" = some Builtin.«bytes.find» := entryFor_of_tree (by kernel_rfl)
theorem args_find (a b c d : Value) : argsOk "bytes.find" ⟨[a, b, c, d], []⟩ := by unfold argsOk; kernel_rfl
theorem slot_bjoin : Slot "bytes" "join" "bytes.join" :=
  .of (owner := "bytes") (n := "join") (by rw [typeLookup_type, builtinLookup_eq_fast]; kernel_rfl) (by decide +kernel) (by decide +kernel) (by decide +kernel)
    (by first | exact .inl (by decide +kernel) | exact .inr (by decide +kernel)) (by rw [isSubtype_type]; kernel_rfl)
theorem type_bjoin : typeOf (.builtin "bytes.join") = pure (.type "method_descriptor") := by show builtinType _ = _; rw [builtinType_eq_fast]; kernel_rfl
theorem entry_bjoin : entryFor table "bytes.join" = some Builtin.«bytes.join» := entryFor_of_tree (by kernel_rfl)
theorem args_bjoin (a b : Value) : argsOk "bytes.join" ⟨[a, b], []⟩ := by unfold argsOk; kernel_rfl
section
variable {b c : Array UInt8} {t u ti tj : Tok} {i j : Nat}
theorem bound_int {n : Int} {t : Tok} {M : Model} {A : Around} {E : Value → Shared → Prop} {s : Shared} {Q : Option Int → Shared → Prop} (h : Q (some n) s) : wpAny M A (Bytes.bound? (some (.int n t))) Q E s := by
  unfold Bytes.bound?
  show wpAny M A (specialOf (.int n t) _ >>= fun r => _) _ _ s
  refine wpAny_bind (wpAny_specialOf (T := "int") (typeIs_int _ _ _) F.slot_int_index.lookup ?_)
  refine wpAny_ite (KBy.ite_no (show ¬ (Option.isNone (some _) = true) from Bool.false_ne_true) ?_)
  exact wpAny_bind (wpAny_of_eq rfl (wpAny_pure h))
theorem meets_find {k : Nat} (hw : i + c.size ≤ j ∧ j ≤ b.size) (hf : Bytes.find? b c i j = some k) :
    Meets («bytes.find» ⟨[.bytes b t, .bytes c u, .int (i : Int) ti, .int (j : Int) tj], []⟩) (fun _ R s => R (.ok (.ret (.int (k : Int) s.toks))) { s with toks := s.toks + 1 }) := by
  refine .of_wp fun prog w A R s hS => ?_
  show wpAny _ _ (Bytes.searchArgs .bytes "find" _ >>= fun r => _) _ _ s
  refine wpAny_bind ?_
  unfold Bytes.searchArgs
  refine wpAny_bind (wpAny_of_eq (a := (Value.bytes b t, [Value.bytes c u, .int (i : Int) ti, .int (j : Int) tj])) (by kernel_rfl) ?_)
  dsimp only
  refine wpAny_bind (bound_int ?_)
  refine wpAny_bind (bound_int ?_)
  refine wpAny_bind (wpAny_of_eq KBy.buffer_eq ?_)
  refine wpAny_bind (wpAny_pure ?_)
  refine wpAny_bind (wpAny_of_eq (a := b) rfl ?_)
  have e : Bytes.window b.size (some (i : Int)) (some (j : Int)) = ((i : Int), (j : Int)) := by
    unfold Bytes.window
    simp only [Option.getD_some]
    rw [if_neg (by omega), if_neg (by omega)]
    congr 1
    omega
  rw [e]
  dsimp only
  rw [if_neg (by omega)]
  refine wpAny_pure ?_
  simp only [Option.bind_some, Int.toNat_natCast, Bool.false_eq_true, if_false, hf]
  exact wpAny_bind (wpAny_mkInt (wpAny_pure ⟨_, rfl, hS⟩))
theorem find_one {x : UInt8} {k : Nat} (hk : i ≤ k ∧ k < j ∧ j ≤ b.size) (hx : b[k]? = some x) (hn : ∀ l, i ≤ l → l < k → b[l]? ≠ some x) : Bytes.find? b #[x] i j = some k := by
  have ex : ∀ (l : Nat) (y : UInt8), b[l]? = some y → b.extract l (l + 1) = #[y] := by
    intro l y hy
    obtain ⟨hl, rfl⟩ := Array.getElem?_eq_some_iff.mp hy
    apply Array.ext'
    simp [List.take_one, hl]
  unfold Bytes.find?
  show List.find? (fun l => b.extract l (l + 1) == #[x]) ((List.range (j + 1 - (i + 1))).map (· + i)) = some k
  rw [List.find?_eq_some_iff_append]
  refine ⟨by rw [ex k x hx]; simp, (List.range (k - i)).map (· + i), ((List.range' (k - i + 1) (j - k - 1)).map (· + i)), ?_, ?_⟩
  · have e1 : j + 1 - (i + 1) = (k - i) + (1 + (j - k - 1)) := by omega
    rw [e1, List.range_eq_range', List.range_eq_range', ← List.range'_append_1, List.map_append]
    congr 1
    rw [Nat.add_comm 1, List.range'_succ, List.map_cons, Nat.zero_add]
    congr 1
    omega
  · intro a ha
    obtain ⟨l, hl, rfl⟩ := List.mem_map.mp ha
    have hl' := List.mem_range.mp hl
    cases hb : b[l + i]? with
    | none => have := Array.getElem?_eq_none_iff.mp hb; omega
    | some y =>
      rw [ex _ y hb]
      have : y ≠ x := fun e => hn (l + i) (by omega) (by omega) (e ▸ hb)
      simp [this]
end
section
variable {prog : Program} {w : World} {A : Around} {E : Value → Shared → Prop} {s : Shared} {b : Array UInt8} {t u ti tj : Tok}
theorem find_call {x : UInt8} {i j : Int} (k : Nat) {Q : Value → Shared → Prop} (hk : i ≤ (k : Int) ∧ (k : Int) < j ∧ j ≤ (b.size : Int)) (h0 : 0 ≤ i) (hx : b[k]? = some x) (hn : ∀ l : Nat, i ≤ (l : Int) → l < k → b[l]? ≠ some x) (h : ∀ t' k', Q (.int (k : Int) t') { s with toks := k' }) :
    wpAny (model prog w) A (call (.builtin "bytes.find") [.bytes b t, .bytes #[x] u, .int i ti, .int j tj]) Q E s := by
  obtain ⟨i, rfl⟩ : ∃ n : Nat, i = (n : Int) := ⟨i.toNat, by omega⟩
  obtain ⟨j, rfl⟩ : ∃ n : Nat, j = (n : Int) := ⟨j.toNat, by omega⟩
  exact call_meets slot_find (typeIs_bytes _ _ _) entry_find (args_find _ _ _ _) (meets_find (by simp; omega) (find_one (by omega) hx (fun l h1 h2 => hn l (by omega) h2))) (h _ _)
theorem method_find {M : Model} {pl : Sem Bool} {Q : Value × List Value → Shared → Prop} (h : Q (.builtin "bytes.find", [.bytes b t]) s) : wpAny M A (getMethod (.bytes b t) "find" pl) Q E s := by
  with_reducible exact KBd.method_of (.bytes b t) (typeIs_bytes _ _ _) slot_find type_find KBd.noRef h
theorem method_bjoin {M : Model} {pl : Sem Bool} {Q : Value × List Value → Shared → Prop} (h : Q (.builtin "bytes.join", [.bytes b t]) s) : wpAny M A (getMethod (.bytes b t) "join" pl) Q E s := by
  with_reducible exact KBd.method_of (.bytes b t) (typeIs_bytes _ _ _) slot_bjoin type_bjoin KBd.noRef h
end
inductive BytesAre : List Value → List (Array UInt8) → Prop where
  | nil : BytesAre [] []
  | cons {vs : List Value} {bs : List (Array UInt8)} (b : Array UInt8) (t : Tok) : BytesAre vs bs → BytesAre (.bytes b t :: vs) (b :: bs)
theorem BytesAre.length {vs : List Value} {bs : List (Array UInt8)} (h : BytesAre vs bs) : vs.length = bs.length := by
  induction h with
  | nil => rfl
  | cons b t _ ih => simp [ih]
theorem BytesAre.get {vs : List Value} {bs : List (Array UInt8)} (h : BytesAre vs bs) : ∀ i (hi : i < bs.length), ∃ t, vs[i]? = some (.bytes bs[i] t) := by
  induction h with
  | nil => intro i hi; exact absurd hi (Nat.not_lt_zero _)
  | cons b t _ ih =>
    intro i hi
    cases i with
    | zero => exact ⟨t, rfl⟩
    | succ i => obtain ⟨t', e⟩ := ih i (by simpa using hi); exact ⟨t', by simpa using e⟩
theorem BytesAre.snoc {y : Array UInt8} {t : Tok} : ∀ {vs : List Value} {ys : List (Array UInt8)}, BytesAre vs ys → BytesAre (vs ++ [.bytes y t]) (ys ++ [y])
  | _, _, .nil => .cons y t .nil
  | _, _, .cons z u r => .cons z u (snoc r)
section
variable {t : Tok}
theorem buffer_full {id : String} {b : Array UInt8} {full : Bool} : Bytes.buffer? id (.bytes b t) full = pure (some b) := by
  unfold Bytes.buffer?
  rw [KBy.special_eq KBy.look_buffer, KBy.own_buffer, KBy.own_release]
  kernel_rfl
theorem wpAny_forRange {M : Model} {A : Around} {E : Value → Shared → Prop} {s : Shared} {β : Type} {n : Nat} {f : Nat → β → Sem (ForInStep β)} {Q : β → Shared → Prop} {b : β} (I : Nat → β → Shared → Prop)
    (turn : ∀ i b s, i < n → I i b s → wpAny M A (f i b) (fun r s' => match r with | .yield b' => I (i + 1) b' s' | .done b' => Q b' s') E s)
    (fin : ∀ b s, I n b s → Q b s) (h : I 0 b s) : wpAny M A (forIn [:n] b f) Q E s := by
  rw [Std.Legacy.Range.forIn_eq_forIn_range']
  have hsz : ([:n] : Std.Legacy.Range).size = n := by simp [Std.Legacy.Range.size]
  show wpAny M A (forIn (List.range' 0 ([:n] : Std.Legacy.Range).size 1) b f) Q E s
  rw [hsz]
  refine wpAny_forIn_list f (fun l c st => ∃ i, i ≤ n ∧ l = List.range' i (n - i) 1 ∧ I i c st) Q ?_ ?_ _ b ⟨0, by omega, rfl, h⟩
  · rintro x rest c st ⟨i, hib, hl, hI⟩
    have hlt : i < n := by
      rcases Nat.lt_or_ge i n with h' | h'
      · exact h'
      · rw [show n - i = 0 by omega] at hl; simp at hl
    obtain ⟨k, hk⟩ : ∃ k, n - i = k + 1 := ⟨n - i - 1, by omega⟩
    rw [hk, List.range'_succ] at hl
    obtain ⟨rfl, rfl⟩ := List.cons.inj hl
    refine wpAny_mono (turn x c st hlt hI) (fun r st' h' => ?_) fun _ _ e => e
    cases r with
    | done c' => exact h'
    | yield c' => exact ⟨x + 1, by omega, by congr 1; omega, h'⟩
  · rintro c st ⟨i, hib, hl, hI⟩
    have : i = n := by
      rcases Nat.lt_or_ge i n with h' | h'
      · obtain ⟨k, hk⟩ : ∃ k, n - i = k + 1 := ⟨n - i - 1, by omega⟩
        rw [hk, List.range'_succ] at hl; simp at hl
      · omega
    subst this; exact fin _ _ hI
theorem take_eq {id : String} {b : Array UInt8} : Bytes.takeBufferQuiet? id (.bytes b t) 0 = pure (some (b, none)) := by
  unfold Bytes.takeBufferQuiet? Bytes.takeBuffer?
  rw [KBy.special_eq KBy.look_buffer, KBy.own_buffer, buffer_full]
  kernel_rfl
def catB (bs : List (Array UInt8)) : Array UInt8 := (bs.flatMap Array.toList).toArray
theorem catB_nil : catB [] = #[] := rfl
theorem catB_cons (b : Array UInt8) (r : List (Array UInt8)) : catB (b :: r) = b ++ catB r := by
  apply Array.ext'; simp [catB]
theorem joined_go (l : List (Array UInt8 × Nat)) : ∀ acc : Array UInt8, l.foldl (fun out (p : Array UInt8 × Nat) => (if p.2 > 0 then out ++ #[] else out) ++ p.1) acc = acc ++ catB (l.map (·.1)) := by
  induction l with
  | nil => intro acc; simp [catB]
  | cons p r ih =>
    intro acc
    rw [List.foldl_cons, ih, List.map_cons, catB_cons]
    split <;> simp
theorem joined_eq (bs : List (Array UInt8)) : Bytes.joined #[] bs = catB bs := by
  unfold Bytes.joined
  refine (joined_go bs.zipIdx #[]).trans ?_
  rw [Array.empty_append]
  congr 1
  simp [List.zipIdx_map_fst]
theorem size_fold (l : List (Array UInt8)) : ∀ n : Nat, l.foldl (fun (a : Nat) (x : Array UInt8) => a + x.size) n = n + (catB l).size := by
  induction l with
  | nil => intro n; simp [catB]
  | cons b r ih => intro n; rw [List.foldl_cons, ih, catB_cons, Array.size_append]; omega
theorem letgo_eq {prog : Program} {w : World} {A : Around} {E : Value → Shared → Prop} {keep : List Value} {Q : Unit → Shared → Prop} : ∀ (taken : List (Value × Option Value)) {s : Shared}, (∀ p ∈ taken, p.2 = none) → Q () s → wpAny (model prog w) A (Bytes.joinLetGo taken keep) Q E s
  | [], s, _, h => wpAny_pure h
  | (x, o) :: r, s, hn, h => by
    obtain rfl : o = none := hn _ (.head _)
    unfold Bytes.joinLetGo
    exact wpAny_bind (wpAny_letGo (letgo_eq r (fun p hp => hn p (.tail _ hp)) h))
theorem meets_bjoin {a : Addr} {vs : List Value} {bs : List (Array UInt8)} (hv : BytesAre vs bs) (hsz : (catB bs).size ≤ 16777216) :
    Meets («bytes.join» ⟨[.bytes #[] t, .ref a], []⟩) (fun _ R s => s.heap.IsList a vs.toArray ∧ ∀ t' k, R (.ok (.ret (.bytes (catB bs) t'))) { s with toks := k }) := by
  refine .of_wp fun prog w A R s hS => ?_
  obtain ⟨hl, h⟩ := hS
  obtain ⟨o, ho, hc, n, hd⟩ := id hl
  have seq : ∀ {Q : Option (Array Value) → Shared → Prop} {E : Value → Shared → Prop}, Q (some vs.toArray) s → wpAny (model prog w) A.in1 (seqItems? (.ref a)) Q E s := fun hq => wpAny_seqItems ho hd hq
  show wpAny _ _ (Bytes.joinM .bytes _) _ _ s
  unfold Bytes.joinM
  refine wpAny_bind (wpAny_of_eq (a := (Value.bytes #[] t, Value.ref a)) (by kernel_rfl) ?_)
  dsimp only
  rw [if_pos (by decide)]
  refine wpAny_bind ?_
  unfold Bytes.joinItems
  refine wpAny_bind (wpAny_typeOf (T := "list") ⟨o, ho, hc⟩ ?_)
  refine wpAny_ite ?_
  rw [if_pos (by decide)]
  refine wpAny_pure ?_
  refine wpAny_bind (seq ?_)
  dsimp only
  rw [if_pos (by decide)]
  have hlen := hv.length
  by_cases h1 : vs.length = 1
  · obtain ⟨x, rfl⟩ := List.length_eq_one_iff.mp h1
    cases hv with
    | cons b u r =>
      cases r
      refine wpAny_bind (wpAny_typeOf (T := "bytes") (typeIs_bytes _ _ _) ?_)
      refine wpAny_ite ?_
      rw [if_pos (by decide)]
      refine wpAny_bind (wpAny_rule (wpAny_pure ⟨_, rfl, ?_⟩))
      have := h u s.toks
      rwa [catB_cons, catB_nil, Array.append_empty] at this
  · rcases vs with _ | ⟨v1, _ | ⟨v2, vs⟩⟩
    rotate_left
    · exact absurd rfl h1
    all_goals
     skip
     refine wpAny_bind ?_
     refine wpAny_forRange (fun i (c : Array (Array UInt8) × List (Value × Option Value)) s' => s' = s ∧ c.1 = (bs.take i).toArray ∧ ∀ p ∈ c.2, p.2 = none ∧ p.1.onHeap = false) ?_ ?_ (by exact ⟨rfl, rfl, fun p hp => nomatch hp⟩)
     · rintro i ⟨ps, tk⟩ s' hi ⟨rfl, e, hn⟩
       dsimp only at e hn ⊢
       have hi' : i < bs.length := by simpa [hlen] using hi
       obtain ⟨u, hx⟩ := hv.get i hi'
       have hx' : ∀ l : List Value, l[i]? = some (.bytes bs[i] u) → Array.getD l.toArray i Value.none = .bytes bs[i] u := fun l hl => by simp [Array.getD_eq_getD_getElem?, hl]
       refine wpAny_bind (seq ?_)
       dsimp only
       rw [hx' _ hx, if_neg (by simp only [show (Bytes.Kind.bytes == Bytes.Kind.bytearray) = false from by decide, Bool.false_or, List.any_eq_true, not_exists, not_and]; intro p hp; simp [(hn p hp).2])]
       refine wpAny_bind (wpAny_holding (wpAny_of_eq take_eq ?_))
       dsimp only
       refine wpAny_bind (seq ?_)
       dsimp only
       rw [if_neg (by simp)]
       refine wpAny_pure ⟨rfl, ?_, ?_⟩
       · dsimp only
         rw [e, List.take_add_one, List.getElem?_eq_getElem hi']
         simp
       · intro p hp
         rcases List.mem_append.mp hp with hp | hp
         · exact hn p hp
         · rw [List.mem_singleton.mp hp]; exact ⟨rfl, rfl⟩
     · rintro ⟨ps, tk⟩ s' ⟨rfl, e, hn⟩
       dsimp only at e hn ⊢
       rw [List.size_toArray, hlen, List.take_length] at e
       subst e
       refine wpAny_bind (wpAny_of_eq (a := #[]) rfl ?_)
       have hs : (bs.toArray.foldl (fun (x1 : Nat) (x2 : Array UInt8) => x1 + x2.size) ((#[] : Array UInt8).size * (bs.toArray.size - 1))) = (catB bs).size := by
         rw [List.foldl_toArray, size_fold]; simp
       rw [if_neg (by rw [hs, KBy.tooLong_not hsz]; exact Bool.false_ne_true)]
       refine wpAny_bind (wpAny_mkBytes ?_ (by rw [joined_eq, sizeLine_eq]; exact hsz))
       refine wpAny_bind (wpAny_holding (wpAny_point ?_))
       refine wpAny_bind (letgo_eq _ (fun p hp => (hn p hp).1) ?_)
       refine wpAny_pure ⟨_, rfl, ?_⟩
       dsimp only
       rw [joined_eq]
       exact h _ _
end
section
variable {prog : Program} {w : World} {A : Around} {E : Value → Shared → Prop} {s : Shared} {t : Tok}
theorem bjoin_call {a : Addr} {vs : List Value} {bs : List (Array UInt8)} {Q : Value → Shared → Prop} (hl : s.heap.IsList a vs.toArray) (hv : BytesAre vs bs) (hsz : (catB bs).size ≤ 16777216) (h : ∀ t' k', Q (.bytes (catB bs) t') { s with toks := k' }) :
    wpAny (model prog w) A (call (.builtin "bytes.join") [.bytes #[] t, .ref a]) Q E s :=
  call_meets slot_bjoin (typeIs_bytes _ _ _) entry_bjoin (args_bjoin _ _) (meets_bjoin hv hsz) ⟨hl, h⟩
end
end Mine
namespace Mine
def FindAt (b : Array UInt8) (x : UInt8) (i j : Int) (k : Nat) : Prop := 0 ≤ i ∧ (i ≤ (k : Int) ∧ (k : Int) < j ∧ j ≤ (b.size : Int)) ∧ b[k]? = some x ∧ ∀ l : Nat, i ≤ (l : Int) → l < k → b[l]? ≠ some x
theorem find_at {prog : Program} {w : World} {A : Around} {E : Value → Shared → Prop} {s : Shared} {b : Array UInt8} {t u ti tj : Tok} {x : UInt8} {i j : Int} {k : Nat} {Q : Value → Shared → Prop} (hf : FindAt b x i j k) (h : ∀ t' k', Q (.int (k : Int) t') { s with toks := k' }) :
    wpAny (model prog w) A (call (.builtin "bytes.find") [.bytes b t, .bytes #[x] u, .int i ti, .int j tj]) Q E s := find_call k hf.2.1 hf.1 hf.2.2.1 hf.2.2.2 h
def Stop (P : Prop) : Prop := P
theorem Stop.out {P : Prop} (h : Stop P) : P := h
section
variable {prog : Program} {w : World} {A : Around} {E : Value → Shared → Prop} {s : Shared} {value slice : PySem.Expr} {x : Str} {t u : Tok} {Q : Value → Shared → Prop}
theorem item_of {i c : Nat} (hc : x.cps[i]? = some c) : Txt.item x (i : Int) = ⟨#[c]⟩ := by
  have hl : i < x.cps.size := (Array.getElem?_eq_some_iff.mp hc).1
  have hl' : i < x.length := hl
  unfold Txt.item Txt.charAt seqIndex?
  simp [hc, hl', Int.not_lt.mpr (Int.natCast_nonneg i)]
theorem str_at {i c : Nat} (hc : x.cps[i]? = some c) (hz : x.length ≤ 1000) (h : Q (.str ⟨#[c]⟩ s.toks) { s with toks := s.toks + 1 })
    (hs : subscripted slice false (.str x t) (.int (i : Int) u) = operate [.str x t, .int (i : Int) u] (getItem (.str x t) (.int (i : Int) u)) := by with_unfolding_all rfl)
    (ht : ∀ r, letTemporaryGo value (.str x t) r = pure () := by intro _; with_unfolding_all rfl) :
    wpAny (model prog w) A (subscriptTail value slice (.str x t) (.int (i : Int) u)) Q E s := by
  have hl : i < x.length := (Array.getElem?_eq_some_iff.mp hc).1
  refine KXi.item rfl (by omega) (by omega) (by omega) (fun _ => ?_) hs ht
  rw [item_of hc]
  exact h
end
def ByteAt (b : Array UInt8) (i : Int) (c : UInt8) : Prop := 0 ≤ i ∧ b[i.toNat]? = some c
theorem extract_eq (b : Array UInt8) (i j : Nat) : b.extract i j = ((b.toList.drop (min i b.size)).take (min j b.size - min i b.size)).toArray := by
  apply Array.ext'
  rw [Array.toList_extract, List.extract_eq_take_drop]
  rcases Nat.lt_or_ge i b.size with h | h
  · rw [Nat.min_eq_left (Nat.le_of_lt h)]
    rcases Nat.lt_or_ge j b.size with h2 | h2
    · rw [Nat.min_eq_left (Nat.le_of_lt h2)]
    · rw [Nat.min_eq_right h2, List.take_of_length_le (by simp; omega), List.take_of_length_le (by simp)]
  · rw [Nat.min_eq_right h, List.drop_of_length_le (by simpa using h), List.drop_of_length_le (by simp), List.take_nil, List.take_nil]
theorem picked_nat (b : Array UInt8) {i j : Int} (hi : 0 ≤ i) (hj : 0 ≤ j) : KBy.picked b (some i) (some j) = b.extract i.toNat j.toNat := by
  rw [KBc.picked_eq, extract_eq]
  have c : ∀ (n : Nat) (k : Int), 0 ≤ k → clipAt n k = min k.toNat n := fun n k hk => by
    have := clipAt_cast n k
    rw [if_neg (by omega)] at this
    omega
  simp only [Option.elim]
  rw [c _ _ hi, c _ _ hj]
section
variable {prog : Program} {w : World} {A : Around} {E : Value → Shared → Prop} {s : Shared} {value slice : PySem.Expr} {b : Array UInt8} {t u v : Tok} {h₀ : Heap} {L : Addr} {m : Str → Option Value} {news : List (Addr × Obj)} {Q : Value → Shared → Prop}
theorem bytes_at {i : Int} {c : UInt8} (hc : ByteAt b i c) (hz : b.size ≤ 100000) (h : ∀ t' k', Q (.int (c.toNat : Int) t') { s with toks := k' })
    (hs : subscripted slice false (.bytes b t) (.int i u) = operate [.bytes b t, .int i u] (getItem (.bytes b t) (.int i u)) := by with_unfolding_all rfl)
    (ht : ∀ r, letTemporaryGo value (.bytes b t) r = pure () := by intro _; with_unfolding_all rfl) :
    wpAny (model prog w) A (subscriptTail value slice (.bytes b t) (.int i u)) Q E s := by
  obtain ⟨h0, hc⟩ := hc
  have hl : i.toNat < b.size := (Array.getElem?_eq_some_iff.mp hc).1
  have g : wpAny (model prog w) A (getItem (.bytes b t) (.int i u)) Q E s := by
    refine getItem_gives (typeIs_bytes s _ t) (by decide) FB.slot_bytes_getitem FB.entry_bytes_getitem (FB.args_bytes_getitem_2 _ _) (gives_bytes_getitem _ i t u c ?_ ?_) (h _ _)
    · simp only [Builtin.Bytes.fitsIndex, Bool.and_eq_true, decide_eq_true_eq]; omega
    · have e : seqIndex? i b.size = some i.toNat := by
        have h2 : ¬ i < 0 := by omega
        have h3 : i < (b.size : Int) := by omega
        simp [seqIndex?, h2, h3, h0]
      rw [e]; exact hc
  exact tail_of_ItemOn ⟨"bytes", _, FB.slot_bytes_getitem.lookup, typeIs_bytes _ _ _, g⟩ hs ht
theorem slice_x {i j : Int} (hF : Fr h₀ L s.heap m) (hN : News h₀ L s.heap news) (hi : 0 ≤ i) (hj : 0 ≤ j) (hz : b.size ≤ 100000)
    (h : ∀ h' t' k, Fr h₀ L h' m → News h₀ L h' news → Q (.bytes (b.extract i.toNat j.toNat) t') { s with heap := h', toks := k })
    (hs : subscripted slice false (.bytes b t) (.ref s.heap.objs.size) = operate [.ref s.heap.objs.size, .bytes b t] (getItem (.bytes b t) (.ref s.heap.objs.size)) := by with_unfolding_all rfl)
    (ht : ∀ r, letTemporaryGo value (.bytes b t) r = pure () := by intro _; with_unfolding_all rfl) :
    wpAny (model prog w) A (subscriptTail value slice (.bytes b t) (.ref s.heap.objs.size)) Q E { s with heap := s.heap.push { cls := .type "slice", data := .fields #[.int i u, .int j v, .none] } } :=
  KBc.slice_K hF hN rfl (.int i u) (.int j v) (by rw [KBw.ints_length]; omega) (fun h' t' k F' N' _ => picked_nat b hi hj ▸ h h' t' k F' N') hs ht
end
section
variable {prog : Program} {w : World} {A : Around} {E : Value → Shared → Prop} {s : Shared} {value slice : PySem.Expr} {Q : Value → Shared → Prop} {a b : Addr} {vs : List Value} {v : Value} {u : Tok}
theorem ne_nil_snoc (ha : s.heap.IsList a (vs ++ [v]).toArray) (hb : s.heap.IsList b ([] : List Value).toArray) (hu : A.units < cLine) (h : Q (.bool true) s) : wpAny (model prog w) A (compareOp .NotEq (.ref a) (.ref b)) Q E s :=
  PySem.SeqAt.RcNeAt.lists_lengths ha hb (by simp) hu prog w E Q h
theorem ne_nil_nil (ha : s.heap.IsList a ([] : List Value).toArray) (hb : s.heap.IsList b ([] : List Value).toArray) (hu : A.units < cLine) (h : Q (.bool false) s) : wpAny (model prog w) A (compareOp .NotEq (.ref a) (.ref b)) Q E s :=
  PySem.SeqAt.RcNeAt.lists (e := fun _ => true) ha hb rfl hu (fun j h1 _ => absurd h1 (by simp)) prog w E Q h
theorem eq_nil_nil (ha : s.heap.IsList a ([] : List Value).toArray) (hb : s.heap.IsList b ([] : List Value).toArray) (hu : A.units < cLine) (h : Q (.bool true) s) : wpAny (model prog w) A (compareOp .Eq (.ref a) (.ref b)) Q E s :=
  PySem.SeqAt.RcAt.lists (e := fun _ => true) ha hb rfl hu (fun j h1 _ => absurd h1 (by simp)) prog w E Q h
theorem last_item (ha : s.heap.IsList a (vs ++ [v]).toArray) (hz : vs.length ≤ 100000) (h : Q v s)
    (hs : subscripted slice false (.ref a) (.int (-1) u) = operate [.ref a, .int (-1) u] (getItem (.ref a) (.int (-1) u)) := by with_unfolding_all rfl) :
    wpAny (model prog w) A (subscriptTail value slice (.ref a) (.int (-1) u)) Q E s :=
  tail_any ha.typeIs slot_list_getitem.lookup (wpAny_getItem_list_neg ha (by decide) (by simp; omega) (by decide) (by
    have : ((-1 : Int) + ((vs ++ [v]).toArray.size : Int)).toNat = vs.length := by simp; omega
    rw [this]; simp) h) hs
end
theorem all_eq (ns ms : List Int) : ((List.range (min ns.length ms.length)).all (fun j => ns.getD j 0 == ms.getD j 0) && (ns.length == ms.length)) = decide (ns = ms) := by
  rw [Bool.eq_iff_iff]
  simp only [Bool.and_eq_true, List.all_eq_true, List.mem_range, beq_iff_eq, decide_eq_true_eq]
  constructor
  · rintro ⟨h1, h2⟩
    apply List.ext_getElem h2
    intro i h3 h4
    have := h1 i (by omega)
    simpa [List.getD_eq_getElem?_getD, h3, h4] using this
  · rintro rfl
    exact ⟨fun _ _ => rfl, rfl⟩
theorem intsAre_get {vs : List Value} {ns : List Int} (h : IntsAre vs ns) : ∀ {i : Nat} (hi : i < vs.length), ∃ t, vs[i] = .int (ns.getD i 0) t := by
  induction h with
  | nil => intro i hi; exact absurd hi (Nat.not_lt_zero _)
  | cons n t _ ih =>
    intro i hi
    cases i with
    | zero => exact ⟨t, rfl⟩
    | succ i => simpa using ih (by simpa using hi)
section
variable {prog : Program} {w : World} {A : Around} {E : Value → Shared → Prop} {s : Shared} {Q : Value → Shared → Prop} {a b : Addr} {vs us : List Value} {ns ms : List Int}
theorem ints_eqAt {A : Around} (hi : IntsAre vs ns) (hj : IntsAre us ms) : ∀ j (h1 : j < vs.toArray.size) (h2 : j < us.toArray.size), PySem.SeqAt.EqAt A s vs.toArray[j] us.toArray[j] (ns.getD j 0 == ms.getD j 0) := by
  intro j h1 h2
  obtain ⟨t, e1⟩ := intsAre_get hi (i := j) (by simpa using h1)
  obtain ⟨u, e2⟩ := intsAre_get hj (i := j) (by simpa using h2)
  simp only [List.getElem_toArray, e1, e2]
  exact (PySem.MeetsSeq.EqGives.int _ _ _ _).at _ _
theorem tup_eq (ha : IsTup s.heap a vs.toArray) (hb : IsTup s.heap b us.toArray) (hi : IntsAre vs ns) (hj : IntsAre us ms) (hu : A.units < cLine) (h : Q (.bool (decide (ns = ms))) s) : wpAny (model prog w) A (compareOp .Eq (.ref a) (.ref b)) Q E s := by
  refine PySem.SeqAt.RcAt.tuples ha hb hu (ints_eqAt hi hj) prog w E Q ?_
  have e := all_eq ns ms
  rw [← hi.length, ← hj.length] at e
  simp only [List.size_toArray]
  rw [e]; exact h
theorem tup_ne (ha : IsTup s.heap a vs.toArray) (hb : IsTup s.heap b us.toArray) (hi : IntsAre vs ns) (hj : IntsAre us ms) (hu : A.units < cLine) (h : Q (.bool (!decide (ns = ms))) s) : wpAny (model prog w) A (compareOp .NotEq (.ref a) (.ref b)) Q E s := by
  refine PySem.SeqAt.RcNeAt.tuples ha hb hu (ints_eqAt hi hj) prog w E Q ?_
  have e := all_eq ns ms
  rw [← hi.length, ← hj.length] at e
  simp only [List.size_toArray]
  rw [e]; exact h
end
end Mine
namespace Mine
open PySem.Spec PySem.Calls Builtin
set_option maxRecDepth 100000
section
variable {b : Array UInt8} {t u : Tok} {i : Int}
theorem contains_eq {id : String} (h0 : 0 ≤ i) (h1 : i < 256) : Bytes.containsIn id (.bytes b t) (.int i u) = pure (b.contains i.toNat.toUInt8) := by
  unfold Bytes.containsIn
  rw [show asIndex (.int i u) = pure i from rfl, KBy.buffer_eq]
  show (if (decide (i < 0) || decide (i ≥ 256)) = true then _ else _) = _
  rw [if_neg (by simp; omega)]
theorem gives_bytes_contains (h0 : 0 ≤ i) (h1 : i < 256) : Gives («bytes.__contains__» ⟨[.bytes b t, .int i u], []⟩) (.val (.bool (b.contains i.toNat.toUInt8))) := by
  refine .of_wp fun M A E s Q hq => ?_
  show wpAny M A (Bytes.containsIn _ (.bytes b t) (.int i u) >>= fun r => _) _ E s
  rw [contains_eq h0 h1]
  exact wpAny_bind (wpAny_pure (wpAny_pure ⟨_, rfl, hq⟩))
end
section
variable {prog : Program} {w : World} {A : Around} {E : Value → Shared → Prop} {s : Shared} {b : Array UInt8} {t u : Tok} {i : Int} {Q : Value → Shared → Prop}
theorem notIn_bytes {c : Bool} (h0 : 0 ≤ i) (h1 : i < 256) (hc : b.contains i.toNat.toUInt8 = c) (h : Q (.bool (!c)) s) : wpAny (model prog w) A (compareOp .NotIn (.int i u) (.bytes b t)) Q E s :=
  notIn_gives (typeIs_bytes s b t) FB.slot_bytes_contains FB.entry_bytes_contains (FB.args_bytes_contains_2 _ _) (hc ▸ gives_bytes_contains h0 h1) h
end
end Mine
namespace Mine
open PySem.Spec PySem.Calls PyProof.Rows.LCg PyProof.Rows.LCt
section
variable {prog : Program} {w : World} {A : Around} {E : Value → Shared → Prop} {s : Shared} {h₀ : Heap} {L : Addr} {m : Str → Option Value} {env : Env} {news : List (Addr × Obj)} {target : Expr} {body : List Stmt} {Q : Flow → Shared → Prop}
theorem loop_turns {I ax : Addr} {lo : Obj} {n : Nat} {P : Nat → Value → Prop} {St : Nat → Heap → Prop} (W : Walks prog w A I [I, ax] [I] n P St)
    (hgo : ∀ i v (s : Shared) (Q : Unit → Shared → Prop) (E : Value → Shared → Prop), St i s.heap → Q () s → wpAny (model prog w) A (letOwnedTupleGo target (.ref I) v) Q E s)
    (hIo : ∀ i h, St i h → ∃ o, h.get? I = some o) (hst : St 0 s.heap) (F : Fr h₀ env.locals s.heap m) (N : News h₀ env.locals s.heap news) (hIL : env.locals ≠ I) (haL : env.locals ≠ ax) (hI₀ : h₀.get? I = none) (off : ∀ p ∈ news, p.1 ≠ I)
    (J : Nat → (Str → Option Value) → List (Addr × Obj) → Prop) (h0 : J 0 m news) (hlo : ∀ i m nw, J i m nw → (ax, lo) ∈ nw)
    (turn : ∀ i v m₁ nw oI h tk, i < n → P i v → J i m₁ nw → (∀ p ∈ nw, p.1 ≠ I) → Fr h₀ env.locals h m₁ → News h₀ env.locals h ((I, oI) :: nw) →
      wpAny (model prog w) A (assign target env v) (fun _ s₃ => wpAny (model prog w) A (execs body env) (TurnEnd h₀ env.locals I oI (J (i + 1)) { s with heap := h, toks := tk } Q) E s₃) E { s with heap := h, toks := tk })
    (done : ∀ h tk m₁ nw, Fr h₀ env.locals h m₁ → News h₀ env.locals h nw → J n m₁ nw → Q .next { s with heap := h, toks := tk }) :
    TurnsAt prog w A h₀ env target body Q E (.ref I) s := by
  refine ⟨I, [I, ax], [I], n, _, _, St, m, news, J, rfl, KTurns.ofWalks W hgo, ?_, ?_, by simpa using off, hst, F, N, h0, ?_, ?_⟩
  · intro hb
    rcases List.mem_cons.mp hb with e | hb
    · exact hIL e
    · exact haL (List.mem_singleton.mp hb)
  · intro b hb; rw [List.mem_singleton.mp hb]; exact hI₀
  · rintro i v m₁ nw h tk own hi hP hJ hoff hown howng hall hst₁ F₁ N₁
    obtain ⟨oI, hoI⟩ := hIo _ _ hst₁
    have hm : (I, oI) ∈ own := hall I (by simp) hI₀ oI hoI
    have off' : ∀ p ∈ nw, p.1 ≠ I := fun p hp => by simpa using hoff p hp
    have e : ∀ p ∈ own, p = (I, oI) ∨ p = (ax, lo) := fun p hp => by
      have e2 := howng p hp
      rcases List.mem_cons.mp (hown p hp) with e1 | e1
      · rw [e1] at e2
        exact .inl (Prod.ext e1 (Option.some.inj (e2.symm.trans hoI)))
      · have e1 := List.mem_singleton.mp e1
        rw [e1] at e2
        exact .inr (Prod.ext e1 (Option.some.inj (e2.symm.trans (N₁ _ (List.mem_append_right _ (hlo _ _ _ hJ))).1)))
    refine wpAny_mono (turn i v m₁ nw oI h tk hi hP hJ off' F₁ (fun p hp => ?_)) (fun _ s₃ h₃ => wpAny_mono h₃ (fun f s₂ q => ?_) fun _ _ e => e) fun _ _ e => e
    · rcases List.mem_cons.mp hp with rfl | hp
      · exact N₁ _ (List.mem_append_left _ hm)
      · exact N₁ _ (List.mem_append_right _ hp)
    · have fin : (∃ h' tk' m₂ nw', s₂ = { s with heap := h', toks := tk' } ∧ Fr h₀ env.locals h' m₂ ∧ News h₀ env.locals h' ((I, oI) :: nw') ∧ (∀ p ∈ nw', p.1 ≠ I) ∧ J (i + 1) m₂ nw') → LoopStepU h₀ env.locals [I] own (J (i + 1)) { s with heap := h, toks := tk } .next s₂ := by
        rintro ⟨h', tk', m₂, nw', rfl, F₂, N₂, off₂, hJ₂⟩
        refine ⟨rfl, h', tk', m₂, nw', rfl, F₂, fun p hp => ?_, by simpa using off₂, hJ₂⟩
        rcases List.mem_append.mp hp with hp | hp
        · rcases e p hp with rfl | rfl
          · exact N₂ _ List.mem_cons_self
          · exact N₂ _ (List.mem_cons_of_mem _ (hlo _ _ _ hJ₂))
        · exact N₂ _ (List.mem_cons_of_mem _ hp)
      cases f with
      | ret v => exact .ret q
      | brk => exact .brk q
      | next => exact .next (fin q)
      | cont => exact .cont (fin q)
  · intro h' tk m' nw F' N' _ hJ
    exact done h' tk m' nw F' N' hJ
theorem loop_list_t {ax : Addr} {its : List Value} {ln : Nat} (hh : A.handled = none) (F : Fr h₀ env.locals s.heap m) (N : News h₀ env.locals s.heap news) (hm : (ax, ({ cls := .type "list", data := .seq its.toArray ln } : Obj)) ∈ news)
    (J : Nat → (Str → Option Value) → List (Addr × Obj) → Prop) (h0 : J 0 m news) (hlo : ∀ i m nw, J i m nw → (ax, ({ cls := .type "list", data := .seq its.toArray ln } : Obj)) ∈ nw)
    (turn : ∀ i v m₁ nw I oI h tk, its[i]? = some v → J i m₁ nw → (∀ p ∈ nw, p.1 ≠ I) → Fr h₀ env.locals h m₁ → News h₀ env.locals h ((I, oI) :: nw) →
      wpAny (model prog w) A (assign target env v) (fun _ s₃ => wpAny (model prog w) A (execs body env) (TurnEnd h₀ env.locals I oI (J (i + 1)) { s with heap := h, toks := tk } Q) E s₃) E { s with heap := h, toks := tk })
    (done : ∀ h tk m₁ nw, Fr h₀ env.locals h m₁ → News h₀ env.locals h nw → J its.length m₁ nw → Q .next { s with heap := h, toks := tk }) :
    wpAny (model prog w) A (pyIter (.ref ax)) (fun it s₂ => TurnsAt prog w A h₀ env target body Q E it s₂) E s := by
  have hax := N _ hm
  have hl : s.heap.IsList ax its.toArray := ⟨_, hax.1, rfl, _, rfl⟩
  have hlt : ax < s.heap.objs.size := Heap.lt_size hax.1
  refine wpAny_pyIter_list hl ?_
  have up : ∀ b o, s.heap.get? b = some o → (s.heap.push { cls := .type "list_iterator", data := .fields #[.ref ax, .int 0 0] }).get? b = some o := fun b o e => Heap.get?_push_of_some _ e
  refine loop_turns (Walks.list hh s.heap.objs.size ax (Nat.ne_of_lt hlt) its.toArray) (fun i v s Q E st q => letGo_listiter st.1 q) (fun i h st => by obtain ⟨o, e, _⟩ := st.1; exact ⟨o, e⟩) ⟨⟨_, Heap.get?_push_size _ rfl, rfl, rfl⟩, hl.push _⟩ (F.keeps up) (N.grown up) (Nat.ne_of_lt F.ns.lt) (Ne.symm hax.2.1) (next_is_new F) (fun p hp => Nat.ne_of_lt (Heap.lt_size (N p hp).1)) J h0 hlo ?_ ?_
  · intro i v m₁ nw oI h tk hi hv hJ off F₁ N₁
    exact turn i v m₁ nw _ oI h tk (by simpa using hv) hJ off F₁ N₁
  · intro h tk m₁ nw F₁ N₁ hJ
    exact done h tk m₁ nw F₁ N₁ (by simpa using hJ)
theorem loop_tup_t {ax : Addr} {its : List Value} {ln : Nat} (hh : A.handled = none) (F : Fr h₀ env.locals s.heap m) (N : News h₀ env.locals s.heap news) (hm : (ax, ({ cls := .type "tuple", data := .seq its.toArray ln } : Obj)) ∈ news)
    (J : Nat → (Str → Option Value) → List (Addr × Obj) → Prop) (h0 : J 0 m news) (hlo : ∀ i m nw, J i m nw → (ax, ({ cls := .type "tuple", data := .seq its.toArray ln } : Obj)) ∈ nw)
    (turn : ∀ i v m₁ nw I oI h tk, its[i]? = some v → J i m₁ nw → (∀ p ∈ nw, p.1 ≠ I) → Fr h₀ env.locals h m₁ → News h₀ env.locals h ((I, oI) :: nw) →
      wpAny (model prog w) A (assign target env v) (fun _ s₃ => wpAny (model prog w) A (execs body env) (TurnEnd h₀ env.locals I oI (J (i + 1)) { s with heap := h, toks := tk } Q) E s₃) E { s with heap := h, toks := tk })
    (done : ∀ h tk m₁ nw, Fr h₀ env.locals h m₁ → News h₀ env.locals h nw → J its.length m₁ nw → Q .next { s with heap := h, toks := tk }) :
    wpAny (model prog w) A (pyIter (.ref ax)) (fun it s₂ => TurnsAt prog w A h₀ env target body Q E it s₂) E s := by
  have hax := N _ hm
  have hl : s.heap.IsTuple ax its.toArray := ⟨_, hax.1, rfl, _, rfl⟩
  have hlt : ax < s.heap.objs.size := Heap.lt_size hax.1
  refine wpAny_pyIter_tuple hl ?_
  have up : ∀ b o, s.heap.get? b = some o → (s.heap.push { cls := .type "tuple_iterator", data := .fields #[.ref ax, .int 0 0] }).get? b = some o := fun b o e => Heap.get?_push_of_some _ e
  refine loop_turns (Walks.tuple hh s.heap.objs.size ax (Nat.ne_of_lt hlt) its.toArray) (fun i v s Q E st q => letGo_tupleiter st.1 q) (fun i h st => by obtain ⟨o, e, _⟩ := st.1; exact ⟨o, e⟩) ⟨⟨_, Heap.get?_push_size _ rfl, rfl, rfl⟩, hl.at fun o e => up _ o e⟩ (F.keeps up) (N.grown up) (Nat.ne_of_lt F.ns.lt) (Ne.symm hax.2.1) (next_is_new F) (fun p hp => Nat.ne_of_lt (Heap.lt_size (N p hp).1)) J h0 hlo ?_ ?_
  · intro i v m₁ nw oI h tk hi hv hJ off F₁ N₁
    exact turn i v m₁ nw _ oI h tk (by simpa using hv) hJ off F₁ N₁
  · intro h tk m₁ nw F₁ N₁ hJ
    exact done h tk m₁ nw F₁ N₁ (by simpa using hJ)
theorem map_one {m : Str → Option Value} {a : Str} {va : Option Value} (ha : m a = va) : m = fun y => if y = a then va else m y := by
  funext y
  split
  · subst_vars; rfl
  rfl
end
end Mine
namespace Mine
/-- the law's five rows -/
def rowB : Nat → List UInt8
  | 0 => [70, 114, 111, 109, 58, 32, 97, 13, 10]
  | 1 => [84, 111, 58, 32, 98, 13, 10, 9, 99, 13, 10]
  | 2 => [83, 117, 98, 106, 101, 99, 116, 58, 32, 120, 13, 10]
  | 3 => [115, 117, 98, 74, 101, 99, 116, 58, 13, 10, 32, 121, 13, 10]
  | _ => [88, 45, 97, 58, 122, 13, 10]
def lenB (r : Nat) : Nat := (rowB r).length
def colB : Nat → Nat
  | 0 => 4 | 1 => 2 | 2 => 7 | 3 => 7 | _ => 3
def nl1 : Nat → Nat
  | 0 => 8 | 1 => 6 | 2 => 11 | 3 => 9 | _ => 6
def foldB : Nat → Bool
  | 1 => true | 3 => true | _ => false
def nameB (r : Nat) : List UInt8 := (rowB r).take (colB r)
def offs (rows : List Nat) (i : Nat) : Nat := ((rows.take i).map lenB).sum
def headL (rows : List Nat) : List UInt8 := rows.flatMap rowB ++ [13, 10]
theorem offs_succ {rows : List Nat} {i r : Nat} (h : rows[i]? = some r) : offs rows (i + 1) = offs rows i + lenB r := by
  unfold offs
  rw [List.take_add_one, h]
  simp
theorem flat_len (rows : List Nat) : (rows.flatMap rowB).length = (rows.map lenB).sum := by
  induction rows with
  | nil => rfl
  | cons r rest ih => rw [List.flatMap_cons, List.length_append, ih, List.map_cons, List.sum_cons]; rfl
theorem head_len (rows : List Nat) : (headL rows).length = offs rows rows.length + 2 := by
  unfold headL offs
  rw [List.length_append, flat_len, List.take_length]; rfl
theorem split_at {rows : List Nat} {i r : Nat} (h : rows[i]? = some r) : headL rows = (rows.take i).flatMap rowB ++ (rowB r ++ headL (rows.drop (i + 1))) := by
  have hi : i < rows.length := (List.getElem?_eq_some_iff.mp h).1
  have e : rows = rows.take i ++ r :: rows.drop (i + 1) := by
    have h2 : rows[i] = r := (List.getElem?_eq_some_iff.mp h).2
    rw [← h2, ← List.drop_eq_getElem_cons hi, List.take_append_drop]
  unfold headL
  conv => lhs; rw [e]
  simp [List.flatMap_append, List.flatMap_cons, List.append_assoc]
theorem pre_len (rows : List Nat) (i : Nat) : ((rows.take i).flatMap rowB).length = offs rows i := flat_len _
section
variable {d : Array UInt8} {rows : List Nat} {body : List UInt8}
theorem at_row (hd : d.toList = headL rows ++ body) {i r j : Nat} (h : rows[i]? = some r) (hj : j < lenB r) : d[offs rows i + j]? = (rowB r)[j]? := by
  rw [← Array.getElem?_toList, hd, split_at h, List.append_assoc, List.getElem?_append_right (by rw [pre_len]; omega), pre_len, List.append_assoc, Nat.add_sub_cancel_left, List.getElem?_append_left hj]
theorem head_first : ∀ rows : List Nat, ∃ c r, headL rows = c :: r ∧ c ≠ 32 ∧ c ≠ 9
  | [] => ⟨13, [10], rfl, by decide, by decide⟩
  | r :: rest => by
    have : ∃ c t, rowB r = c :: t ∧ c ≠ 32 ∧ c ≠ 9 := by
      unfold rowB
      split <;> exact ⟨_, _, rfl, by decide, by decide⟩
    obtain ⟨c, t, e, h1, h2⟩ := this
    exact ⟨c, t ++ (rest.flatMap rowB ++ [13, 10]), by unfold headL; rw [List.flatMap_cons, e]; simp, h1, h2⟩
theorem at_next (hd : d.toList = headL rows ++ body) {i r : Nat} (h : rows[i]? = some r) : ∃ c, d[offs rows (i + 1)]? = some c ∧ c ≠ 32 ∧ c ≠ 9 := by
  obtain ⟨c, t, e, h1, h2⟩ := head_first (rows.drop (i + 1))
  refine ⟨c, ?_, h1, h2⟩
  rw [← Array.getElem?_toList, hd, split_at h, offs_succ h, e, List.append_assoc, List.getElem?_append_right (by rw [pre_len]; omega), pre_len, List.append_assoc, Nat.add_sub_cancel_left, List.getElem?_append_right (by show lenB r ≤ lenB r; omega)]
  simp [lenB]
theorem at_end (hd : d.toList = headL rows ++ body) {j : Nat} (hj : j < 2) : d[offs rows rows.length + j]? = ([13, 10] : List UInt8)[j]? := by
  have e : offs rows rows.length = (rows.flatMap rowB).length := by rw [flat_len]; unfold offs; rw [List.take_length]
  rw [← Array.getElem?_toList, hd, e]
  unfold headL
  rw [List.append_assoc, List.getElem?_append_right (by omega), Nat.add_sub_cancel_left, List.getElem?_append_left hj]
theorem offs_le {i : Nat} (h : i ≤ rows.length) : offs rows i ≤ offs rows rows.length := by
  unfold offs
  rw [List.take_length]
  conv => rhs; rw [← List.take_append_drop i rows]
  rw [List.map_append, List.sum_append]; omega
theorem offs_lt {i r : Nat} (h : rows[i]? = some r) : offs rows i + lenB r ≤ offs rows rows.length := by
  have := offs_le (rows := rows) (i := i + 1) (List.getElem?_eq_some_iff.mp h).1
  rw [offs_succ h] at this; exact this
theorem size_of (hd : d.toList = headL rows ++ body) : d.size = offs rows rows.length + 2 + body.length := by
  rw [← Array.length_toList, hd, List.length_append, head_len]
/-- the tables' own facts -/
theorem row_f1 : ∀ r, r < 5 → 2 ≤ nl1 r ∧ nl1 r < lenB r ∧ (rowB r)[nl1 r]? = some 10 ∧ (rowB r)[nl1 r - 1]? = some 13 ∧ ∀ j, j < nl1 r → (rowB r)[j]? ≠ some 10 := by decide +kernel
theorem row_f2 : ∀ r, r < 5 → 0 < colB r ∧ colB r + 1 < nl1 r ∧ (rowB r)[colB r]? = some 58 ∧ ∀ j, j < colB r → ((rowB r)[j]?.all fun c => decide (33 ≤ c.toNat ∧ c.toNat ≤ 126 ∧ c.toNat ≠ 58)) = true := by decide +kernel
theorem row_f3 : ∀ r, r < 5 → foldB r = false → nl1 r + 1 = lenB r := by decide +kernel
theorem row_f4 : ∀ r, r < 5 → foldB r = true → nl1 r + 3 < lenB r ∧ ((rowB r)[nl1 r + 1]? = some 32 ∨ (rowB r)[nl1 r + 1]? = some 9) ∧ (rowB r)[lenB r - 1]? = some 10 ∧ (rowB r)[lenB r - 2]? = some 13 := by decide +kernel
theorem row_f5 : ∀ r, r < 5 → ∀ j, j < lenB r - 1 → nl1 r + 1 ≤ j → (rowB r)[j]? ≠ some 10 := by decide +kernel
theorem find_row (hd : d.toList = headL rows ++ body) {i r a k : Nat} {x : UInt8} {e : Int} (h : rows[i]? = some r) (hk : k < lenB r) (ha : a ≤ k) (hx : (rowB r)[k]? = some x) (hn : ∀ j, j < k → a ≤ j → (rowB r)[j]? ≠ some x) (he : ((offs rows i + k : Nat) : Int) < e) (he2 : e ≤ (d.size : Int)) :
    FindAt d x ((offs rows i + a : Nat) : Int) e (offs rows i + k) := by
  refine ⟨by omega, ⟨by omega, he, he2⟩, by rw [at_row hd h hk]; exact hx, ?_⟩
  intro l h1 h2
  obtain ⟨j, rfl⟩ : ∃ j, l = offs rows i + j := ⟨l - offs rows i, by omega⟩
  rw [at_row hd h (by omega)]
  exact hn j (by omega) (by omega)
end
end Mine
namespace Mine
/-- a theorem's own variables, to be closed by constants: the bound variables' shifts make a proof's term large -/
structure Cx where
  w : World
  mean : ExcName → Option Value
  mg : Str → Option Value
  mb : Str → Option Value
  dp : Nat
  un : Nat
  gd : Option (List Code)
  cn : Str
  cs : Scope
  a : Addr
  ccd : Value
  cl : List (Str × Addr)
  outer : List Env
  A₀ : Around
  base : Heap
  h₀ : Heap
  L : Addr
  m : Str → Option Value
  news : List (Addr × Obj)
  s : Shared
  Q : Value → Shared → Prop
  E : Value → Shared → Prop
noncomputable def cx0 : Cx := { w := aWorld 1, mean := fun _ => none, mg := fun _ => none, mb := fun _ => none, dp := 0, un := 0, gd := none, cn := default, cs := default, a := (0 : Nat), ccd := .none, cl := [], outer := [], A₀ := {}, base := {}, h₀ := {}, L := (0 : Nat), m := fun _ => none, news := [], s := {}, Q := fun _ _ => True, E := fun _ _ => True }
noncomputable def eps (P : Cx → Prop) : Cx := @Classical.epsilon Cx ⟨cx0⟩ fun c => ¬ P c
theorem henk {P : Cx → Prop} (h : P (eps P)) : ∀ c, P c := fun c => by
  apply Classical.byContradiction
  intro hn
  exact (@Classical.epsilon_spec Cx (fun c => ¬ P c) ⟨c, hn⟩) h
noncomputable def epsG {α : Type} (x0 : α) (P : α → Prop) : α := @Classical.epsilon α ⟨x0⟩ fun c => ¬ P c
theorem henkG {α : Type} (x0 : α) {P : α → Prop} (h : P (epsG x0 P)) : ∀ c, P c := fun c => by
  apply Classical.byContradiction
  intro hn
  exact (@Classical.epsilon_spec α (fun c => ¬ P c) ⟨c, hn⟩) h
/-- a mark that says which lines of the walk serve here -/
def Mk (_ : Nat) : Prop := True
end Mine
namespace Mine
/-- the worst value of a predicate, as a closed term: what is shown at it holds at all -/
@[irreducible] noncomputable def hkm {A : Type} (n : Nonempty A) (P : A → Prop) : A := @Classical.epsilon A n fun c => ¬ P c
theorem hkf {A : Type} (n : Nonempty A) {P : A → Prop} (h : P (hkm n P)) : ∀ a, P a := fun c => by
  unfold hkm at h
  apply Classical.byContradiction
  intro hn
  exact (@Classical.epsilon_spec A (fun c => ¬ P c) ⟨c, hn⟩) h
@[irreducible] noncomputable def hkm21 {A B : Type} (n : Nonempty (A × B)) (P : A → B → Prop) : A := (hkm n fun z => P z.1 z.2).1
@[irreducible] noncomputable def hkm22 {A B : Type} (n : Nonempty (A × B)) (P : A → B → Prop) : B := (hkm n fun z => P z.1 z.2).2
theorem hkf2 {A B : Type} (n : Nonempty (A × B)) {P : A → B → Prop} (h : P (hkm21 n P) (hkm22 n P)) : ∀ a b, P a b := by
  unfold hkm21 hkm22 at h
  exact fun a b => hkf n (P := fun z => P z.1 z.2) h (a, b)
@[irreducible] noncomputable def hkm31 {A B C : Type} (n : Nonempty (A × B × C)) (P : A → B → C → Prop) : A := (hkm n fun z => P z.1 z.2.1 z.2.2).1
@[irreducible] noncomputable def hkm32 {A B C : Type} (n : Nonempty (A × B × C)) (P : A → B → C → Prop) : B := (hkm n fun z => P z.1 z.2.1 z.2.2).2.1
@[irreducible] noncomputable def hkm33 {A B C : Type} (n : Nonempty (A × B × C)) (P : A → B → C → Prop) : C := (hkm n fun z => P z.1 z.2.1 z.2.2).2.2
theorem hkf3 {A B C : Type} (n : Nonempty (A × B × C)) {P : A → B → C → Prop} (h : P (hkm31 n P) (hkm32 n P) (hkm33 n P)) : ∀ a b c, P a b c := by
  unfold hkm31 hkm32 hkm33 at h
  exact fun a b c => hkf n (P := fun z => P z.1 z.2.1 z.2.2) h (a, b, c)
@[irreducible] noncomputable def hkm51 {A B C D E : Type} (n : Nonempty (A × B × C × D × E)) (P : A → B → C → D → E → Prop) : A := (hkm n fun z => P z.1 z.2.1 z.2.2.1 z.2.2.2.1 z.2.2.2.2).1
@[irreducible] noncomputable def hkm52 {A B C D E : Type} (n : Nonempty (A × B × C × D × E)) (P : A → B → C → D → E → Prop) : B := (hkm n fun z => P z.1 z.2.1 z.2.2.1 z.2.2.2.1 z.2.2.2.2).2.1
@[irreducible] noncomputable def hkm53 {A B C D E : Type} (n : Nonempty (A × B × C × D × E)) (P : A → B → C → D → E → Prop) : C := (hkm n fun z => P z.1 z.2.1 z.2.2.1 z.2.2.2.1 z.2.2.2.2).2.2.1
@[irreducible] noncomputable def hkm54 {A B C D E : Type} (n : Nonempty (A × B × C × D × E)) (P : A → B → C → D → E → Prop) : D := (hkm n fun z => P z.1 z.2.1 z.2.2.1 z.2.2.2.1 z.2.2.2.2).2.2.2.1
@[irreducible] noncomputable def hkm55 {A B C D E : Type} (n : Nonempty (A × B × C × D × E)) (P : A → B → C → D → E → Prop) : E := (hkm n fun z => P z.1 z.2.1 z.2.2.1 z.2.2.2.1 z.2.2.2.2).2.2.2.2
theorem hkf5 {A B C D E : Type} (n : Nonempty (A × B × C × D × E)) {P : A → B → C → D → E → Prop} (h : P (hkm51 n P) (hkm52 n P) (hkm53 n P) (hkm54 n P) (hkm55 n P)) : ∀ a b c d e, P a b c d e := by
  unfold hkm51 hkm52 hkm53 hkm54 hkm55 at h
  exact fun a b c d e => hkf n (P := fun z => P z.1 z.2.1 z.2.2.1 z.2.2.2.1 z.2.2.2.2) h (a, b, c, d, e)
theorem wpF {α : Type} {M : Model} {A : Around} {t : Sem α} {Q : α → Shared → Prop} {E : Value → Shared → Prop} {s : Shared} (h : ∀ q, q = Q → ∀ e, e = E → wpAny M A t q e s) : wpAny M A t Q E s := h Q rfl E rfl
theorem wpNamed {α : Type} {M : Model} {A : Around} {t : Sem α} {Q Q' : α → Shared → Prop} {E : Value → Shared → Prop} {s : Shared} (_ : Q = Q') (h : wpAny M A t Q E s) : wpAny M A t Q E s := h
theorem wpKcj {α : Type} {M : Model} {A : Around} {t : Sem Value} {mk : α → Tok → Value} {h₀ : Heap} {L : Addr} {m : Str → Option Value} {news : List (Addr × Obj)} {s₀ : Shared} {r : α} {E : Value → Shared → Prop} {s : Shared} (h : wpAny M A t (fun v s' => KCj mk h₀ L m news s₀ r v s') E s) : wpAny M A t (fun v s' => KCj mk h₀ L m news s₀ r v s') E s := h
theorem wpSame {α : Type} {M : Model} {A : Around} {t : Sem α} {Q : α → Shared → Prop} {E : Value → Shared → Prop} {s : Shared} (h : wpAny M A t Q E s) : wpAny M A t Q E s := h
theorem unf2 {α : Type} {q Q : α → Shared → Prop} {a : α} {s : Shared} (e : q = Q) (h : Q a s) : q a s := e ▸ h
/-- a mark: the data that come in are to be closed -/
def MkI : Prop := True
end Mine
namespace Mine
/-- an expression that is a name of the frame's own or a written value: what it gives, in one step -/
def Sv (M : Model) (A : Around) (env : Env) (e : Expr) (s : Shared) (v : Value) (s' : Shared) : Prop := ∀ (Q : Value → Shared → Prop) (E : Value → Shared → Prop), Q v s' → wpAny M A (eval e env) Q E s
section
variable {M : Model} {A : Around} {env : Env} {E : Value → Shared → Prop} {s s₁ s₂ s₃ : Shared} {pos : Pos} {v v₁ v₂ v₃ : Value}
theorem sv_L {h₀ : Heap} {L a : Addr} {m : Str → Option Value} {cn : Str} {cs : Scope} {ccd : Value} {cl : List (Str × Addr)} {x : Str} (F : Fr h₀ L s.heap m) (hv : m x = some v)
    (hk : cs.kind = .function := by rfl) (hx : (envX cn cs L a ccd cl).kindOf x = some .local := by rfl) (hd : (x == ("__debug__" : Str)) = false := by decide) : Sv M A (envX cn cs L a ccd cl) (.Name x pos) s v s := fun _ _ h => nameX_L F hv h hk hx hd
theorem sv_I {h g d t o} {i : Int} {k} : Sv M A env (.Constant (.int i) k pos) ⟨h, g, d, t, o⟩ (.int i t) ⟨h, g, d, t + 1, o⟩ := fun _ _ h => wpAny_Constant_int h
theorem sv_S {h g d t o} {x : Str} {k} : Sv M A env (.Constant (.str x) k pos) ⟨h, g, d, t, o⟩ (.str x t) ⟨h, g, d, t + 1, o⟩ := fun _ _ h => Calls.Constant_str h
theorem sv_N {k} : Sv M A env (.Constant .none k pos) s .none s := fun _ _ h => wpAny_Constant_none h
theorem sv_B {b k} : Sv M A env (.Constant (.bool b) k pos) s (.bool b) s := fun _ _ h => wpAny_Constant_bool h
theorem args_S {e : Expr} {rest : List Expr} {Q : List Value → Shared → Prop} (hs : Sv M A env e s v s₁) (h : wpAny M A (spliced (backTo pos (starEach rest env))) (fun vs s₂ => Q (v :: vs) s₂) E s₁)
    (he : starEach (e :: rest) env = (false, eval e env) :: starEach rest env := by rfl) : wpAny M A (spliced (backTo pos (starEach (e :: rest) env))) Q E s := args_cons (hs _ _ h) he
theorem args_S1 {e : Expr} {Q : List Value → Shared → Prop} (hs : Sv M A env e s v s₁) (h : Q [v] s₁)
    (he : starEach [e] env = (false, eval e env) :: starEach [] env := by rfl) : wpAny M A (spliced (backTo pos (starEach [e] env))) Q E s := args_cons (hs _ _ (args_nil h)) he
theorem args_S2 {e₁ e₂ : Expr} {Q : List Value → Shared → Prop} (hs : Sv M A env e₁ s v₁ s₁) (ht : Sv M A env e₂ s₁ v₂ s₂) (h : Q [v₁, v₂] s₂)
    (he : starEach [e₁, e₂] env = (false, eval e₁ env) :: starEach [e₂] env := by rfl) (hf : starEach [e₂] env = (false, eval e₂ env) :: starEach [] env := by rfl) : wpAny M A (spliced (backTo pos (starEach [e₁, e₂] env))) Q E s := args_S hs (args_S1 ht h hf) he
theorem args_S3 {e₁ e₂ e₃ : Expr} {Q : List Value → Shared → Prop} (hs : Sv M A env e₁ s v₁ s₁) (ht : Sv M A env e₂ s₁ v₂ s₂) (hu : Sv M A env e₃ s₂ v₃ s₃) (h : Q [v₁, v₂, v₃] s₃)
    (he : starEach [e₁, e₂, e₃] env = (false, eval e₁ env) :: starEach [e₂, e₃] env := by rfl) (hf : starEach [e₂, e₃] env = (false, eval e₂ env) :: starEach [e₃] env := by rfl) (hg : starEach [e₃] env = (false, eval e₃ env) :: starEach [] env := by rfl) : wpAny M A (spliced (backTo pos (starEach [e₁, e₂, e₃] env))) Q E s := args_S hs (args_S2 ht hu h hf hg) he
variable {Q : Value → Shared → Prop} {l r : Expr}
theorem binop_SS {op} (hl : Sv M A env l s v₁ s₁) (hr : Sv M A env r s₁ v₂ s₂) (h : wpAny M A (binaryOp op v₁ v₂) Q E s₂) : wpAny M A (eval (.BinOp l op r pos) env) Q E s := wpAny_BinOp (hl _ _ (hr _ _ h))
theorem binop_S {op} (hl : Sv M A env l s v₁ s₁) (h : wpAny M A (eval r env) (fun b s₂ => wpAny M A (binaryOp op v₁ b) Q E s₂) E s₁) : wpAny M A (eval (.BinOp l op r pos) env) Q E s := wpAny_BinOp (hl _ _ h)
theorem cmp_SS {op} (hl : Sv M A env l s v₁ s₁) (hr : Sv M A env r s₁ v₂ s₂) (h : wpAny M A (compareOp op v₁ v₂) Q E s₂) (hm : behindInMarks op r = false := by with_unfolding_all rfl) : wpAny M A (eval (.Compare l [op] [r] pos) env) Q E s := wpAny_Compare1 (hl _ _ (hr _ _ h)) hm
theorem cmp_S {op} (hl : Sv M A env l s v₁ s₁) (h : wpAny M A (eval r env) (fun b s₂ => wpAny M A (compareOp op v₁ b) Q E s₂) E s₁) (hm : behindInMarks op r = false := by with_unfolding_all rfl) : wpAny M A (eval (.Compare l [op] [r] pos) env) Q E s := wpAny_Compare1 (hl _ _ h) hm
theorem cmpT_SS {op whole} {Q : Bool → Shared → Prop} (hl : Sv M A env l s v₁ s₁) (hr : Sv M A env r s₁ v₂ s₂) (h : wpAny M A (compareOp op v₁ v₂) (fun c s₃ => wpAny M A (truthy c) Q E s₃) E s₂) (hm : behindInMarks op r = false := by with_unfolding_all rfl) : wpAny M A (isTrue (.Compare l [op] [r] pos) env whole) Q E s := wpAny_isTrue_Compare1 (hl _ _ (hr _ _ h)) hm
theorem cmpT_S {op whole} {Q : Bool → Shared → Prop} (hl : Sv M A env l s v₁ s₁) (h : wpAny M A (eval r env) (fun b s₂ => wpAny M A (compareOp op v₁ b) (fun c s₃ => wpAny M A (truthy c) Q E s₃) E s₂) E s₁) (hm : behindInMarks op r = false := by with_unfolding_all rfl) : wpAny M A (isTrue (.Compare l [op] [r] pos) env whole) Q E s := wpAny_isTrue_Compare1 (hl _ _ h) hm
theorem sub_SS {value slice : Expr} (hl : Sv M A env value s v₁ s₁) (hr : Sv M A env slice s₁ v₂ s₂) (h : wpAny M A (subscriptTail value slice v₁ v₂) Q E s₂) : wpAny M A (eval (.Subscript value slice pos) env) Q E s := Subscript_ (hl _ _ (hr _ _ h))
theorem sub_S {value slice : Expr} (hl : Sv M A env value s v₁ s₁) (h : wpAny M A (eval slice env) (fun i s₂ => wpAny M A (subscriptTail value slice v₁ i) Q E s₂) E s₁) : wpAny M A (eval (.Subscript value slice pos) env) Q E s := Subscript_ (hl _ _ h)
theorem ret_S {e : Expr} {Q : Flow → Shared → Prop} (hl : Sv M A env e s v₁ s₁) (h : Q (.ret v₁) s₁) : wpAny M A (exec (.Return (some e) pos) env) Q E s := wpAny_Return_some (hl _ _ h)
end
section
variable {prog : Program} {w : World} {A : Around} {E : Value → Shared → Prop} {s : Shared} {h₀ : Heap} {L : Addr} {m : Str → Option Value} {news : List (Addr × Obj)}
/-- two lists added: the new list's address is a letter -/
theorem add_lists_a {l b : Addr} {vs ws : List Value} {Q : Value → Shared → Prop} (F : Fr h₀ L s.heap m) (N : News h₀ L s.heap news) (hl : s.heap.IsList l vs.toArray) (hb : s.heap.IsList b ws.toArray)
    (h : ∀ a h', Fr h₀ L h' m → News h₀ L h' ((a, { cls := .type "list", data := .seq (vs ++ ws).toArray }) :: news) → Q (.ref a) { s with heap := h' }) (hsz : vs.length + ws.length ≤ sizeLine) :
    wpAny (model prog w) A (binaryOp .Add (.ref l) (.ref b)) Q E s := add_lists F N hl hb (fun h' => h _ h') hsz
end
section
variable {M : Model} {A : Around} {E : Value → Shared → Prop} {s : Shared} {K : Frag} {h₀ : Heap} {L a : Addr} {m mg mb : Str → Option Value} {cn : Str} {cs : Scope} {ccd : Value} {cl : List (Str × Addr)} {p : Program} {loose : List Str} {x : Str} {pos : Pos} {v : Value} {Q : Value → Shared → Prop}
theorem nm_L (hx : (envX cn cs L a ccd cl).kindOf x = some .local) (F : Fr h₀ L s.heap m) (hv : m x = some v) (hk : cs.kind = .function) (hd : (x == ("__debug__" : Str)) = false) (h : Q v s) :
    wpAny M A (eval (.Name x pos) (envX cn cs L a ccd cl)) Q E s := nameX_L F hv h hk hx hd
theorem nm_K (hx : (envX cn cs L a ccd cl).kindOf x = some .globalImplicit) (F : Fr h₀ L s.heap m) (X : K.In h₀) (T : TopRead p loose mg mb h₀) (e : nsIn K mainGlobals x = some (some v)) (hk : cs.kind = .function) (hd : (x == ("__debug__" : Str)) = false) (h : Q v s) :
    wpAny M A (eval (.Name x pos) (envX cn cs L a ccd cl)) Q E s := nameX_K F X T e h hk hx hd
theorem nm_B (hx : (envX cn cs L a ccd cl).kindOf x = some .globalImplicit) (F : Fr h₀ L s.heap m) (X : K.In h₀) (T : TopRead p loose mg mb h₀) (e : nsIn K mainGlobals x = some none) (hv : bootBuiltins x = some v) (hn : x ≠ "__name__") (hk : cs.kind = .function) (hd : (x == ("__debug__" : Str)) = false) (h : Q v s) :
    wpAny M A (eval (.Name x pos) (envX cn cs L a ccd cl)) Q E s := nameX_B F X T e hv hn h hk hx hd
end
end Mine
namespace Mine
theorem fill_all : PySem.Challenge.rw_nz0315_01.name = PySem.Challenge.rw_nz0315_01.name ∧ KH = KH := by
  k_fill
  exact ⟨rfl, rfl⟩
end Mine
local macro_rules | `(tactic| walk_at $s:str) => if ("call ref,subscriptTail,compareOp NotEq ref ref,pyIter ref,spliced,exec Assign cons ListComp,compareOp NotEq str str,call type:tuple,call builtin:str.join,call builtin:len,ite,isTrue Compare,execs cons,exec While Compare cons nil,exec For Name Name cons nil,eval Subscript,eval ListComp,eval Compare,eval BinOp,compareOp In str ref,compareOp Eq ref ref,truthy ref,pyIter bytes,getMethod bytes,exec While BoolOp cons nil,exec Return some,exec If,exec For Tuple Tuple cons nil,exec For Tuple Name cons nil,eval Name,eval IfExp,compareOp NotIn int bytes,compareOp NotEq ref,compareOp In int ref,compareOp Eq str str,callWith ref,call type:list,call builtin:str.lower,call builtin:ord,call builtin:bytes.join,call builtin:bytes.find,binaryOp Add ref ref,binaryOp Add bytes bytes,WhlIf".splitOn ",").contains s.getString then `(tactic| k_extra $s) else Lean.Macro.throwUnsupported
namespace Mine
set_option maxRecDepth 100000
set_option pp.deepTerms false
set_option pp.deepTerms.threshold 4
set_option pp.maxSteps 1500
set_option maxHeartbeats 600000
open PySem.Spec PySem.Calls PyProof.Rows.LCg PyProof.Rows.LCt
local macro_rules | `(tactic| k_room) => `(tactic| ktr_room)
local macro_rules | `(tactic| walk_at "my sub") => `(tactic| first | with_reducible assumption | (refine List.forall_mem_cons.mpr ⟨by k_mem, ?_⟩; walk_at "my sub") | k_extra "my sub2")
local macro_rules | `(tactic| walk_at "my news") => `(tactic| (refine' cb_drop (by assumption) ?_; walk_at "my sub"))
theorem reg_all1 : True := by
  k_with "my enter" => (((rename Here _ _ _ _ _ _ _ _ _ _ _ _ _ _ _ _ => qH); obtain ⟨qB, qF, qX, qN, qT, qhk, qhd, qhu⟩ := qH; refine wpAny_call ?_; k_dflt (first   | (refine' code_def (by k_asm) (by k_asm) (by k_asm) (by k_asm) (by k_asm) (by exact rfl) (by exact rfl) (by assumption) (by k_is) (by k_is) (by ktr_room) (by first | (first | exact BindsTo.of_eq rfl | exact binds_K (by first | (k_in) | fail) rfl (by k_is) rfl rfl rfl) | fail) (by first | (exact locs rfl) | fail) ?_ (by exact rfl) (by exact rfl) (by exact rfl) (by decide); k_whole; intro qg' qL' qh' qFG' qF' qN' qB' qX' qT'; (try dsimp only); (try k_lift qB'); (try k_fold))   | (refine' code_defC (by k_asm) (by k_asm) (by k_asm) (by k_asm) (by k_asm) (by exact rfl) (by exact rfl) (by assumption) (by k_is) (by k_is) (by ktr_room) (by first | (first | exact BindsTo.of_eq rfl | exact binds_K (by first | (k_in) | fail) rfl (by k_is) rfl rfl rfl) | fail) (by exact rfl) (by first | (decide +kernel) | fail) ?_ (by exact rfl) (by exact rfl) (by exact rfl); k_whole; intro qg' qL' qh' qtk' qcells' qFG' qF' qN' qY' qB' qX' qT' ql1; (try k_lt ql1); k_cells qY'; (try simp only [List.cons_append, List.nil_append] at qN'); (try dsimp only); (try k_lift qB'); (try k_fold)))))
  k_with "my here" => ((exact ⟨(by k_asm), (by k_asm), (by k_asm), (by k_asm), (by k_asm), (by first | (first | exact rfl | assumption) | fail), (by ktr_room), (by first | (ktr_units) | fail)⟩))
  k_with "eval ListComp" => ((k_here; k_dflt (first   | refine lc_U (by k_asm) (by first | (first | rfl | with_unfolding_all rfl) | fail) (by decide) (by rfl) (by decide) (by rfl) ?_   | refine lc_T (by k_asm) (by first | (first | rfl | with_unfolding_all rfl) | fail) (by decide) (by rfl) (by decide) (by rfl) ?_)))
  k_with "exec Assign cons ListComp" => ((k_here; k_dflt (first   | (refine' alc_U (by k_asm) (by exact rfl) (by first | (with_unfolding_all rfl) | fail) (by first | (first | exact rfl | with_unfolding_all rfl) | fail) (by decide) (by exact rfl) (by decide) (by exact rfl) (by exact rfl) (by exact rfl) ?_)   | (refine' alc_T (by k_asm) (by exact rfl) (by first | (with_unfolding_all rfl) | fail) (by first | (first | exact rfl | with_unfolding_all rfl) | fail) (by decide) (by exact rfl) (by decide) (by exact rfl) (by exact rfl) (by exact rfl) ?_))))
  k_with "call builtin:str.join" => ((k_here; (with_reducible show wpAny _ _ (call (Value.builtin "str.join") [Value.str _ _, Value.ref _]) _ _ _); k_dflt (refine' join_list (by first | (exact News.isList (by k_asm) (by first | (k_mem) | fail)) | fail) (by first | ((try dsimp only); assumption) | fail) (by assumption) ?_); intro qt9 qk9; (try dsimp only)))
  k_with "my end" => ((refine CompEnd.intro (by assumption) (by assumption) _ (fun _ qhp => qhp) (by assumption) ?_ ?_))
  k_with "my sub2" => ((intro qp qhp; (repeat refine List.mem_cons_of_mem _ ?_); first | exact qhp | exact List.mem_append_left _ qhp | exact List.mem_append_right _ qhp | ((rename (∀ qp ∈ _, qp ∈ _) => qhs); exact qhs qp qhp)))
  k_with "getMethod bytes" => ((k_here; (first | refine method_find ?_ | refine method_bjoin ?_)))
  k_with "call builtin:bytes.find" => ((k_here; k_dflt (refine find_at (by assumption) ?_); intro qt9 qk9; (try dsimp only)))
  k_with "call builtin:bytes.join" => ((k_here; k_dflt (refine' bjoin_call (by first | (exact News.isList (by k_asm) (by first | (k_mem) | fail)) | fail) (by first | ((try dsimp only); assumption) | fail) (by assumption) ?_); intro qt9 qk9; (try dsimp only)))
  k_with "exec Assign cons ListComp" => ((k_here; (with_reducible show wpAny _ _ (exec (Stmt.Assign _ (Expr.ListComp _ [⟨Expr.Tuple _ _ _, _, _, _⟩] _ _) _) _) _ _ _); k_dflt ((refine' alc_3 (by k_asm) (by exact rfl) (by first | (with_unfolding_all rfl) | fail) (by first | (first | exact rfl | with_unfolding_all rfl) | fail) (by decide) (by exact rfl) (by decide) (by exact rfl) (by exact rfl) (by exact rfl) (by decide) (by exact rfl) (by exact rfl) ?_))))
  k_with "call builtin:len" => ((k_here; (with_reducible show wpAny _ _ (call (Value.builtin "len") [Value.str _ _]) _ _ _); refine len_str (by omega) ?_))
  k_with "call builtin:len" => ((k_here; (with_reducible show wpAny _ _ (call (Value.builtin "len") [Value.bytes _ _]) _ _ _); refine len_bytes (by omega) ?_))
  k_with "subscriptTail" => ((k_here; (with_reducible show wpAny _ _ (subscriptTail _ _ (Value.str _ _) (Value.int (Nat.cast _) _)) _ _ _); k_dflt (refine' str_at (by assumption) (by omega) ?_; k_whole)))
  k_with "my next" => (((try dsimp only); refine TurnEnd.next (by assumption) (by assumption) ?_ (by assumption); walk_at "my sub"))
  k_with "call builtin:ord" => ((k_here; (with_reducible show wpAny _ _ (call (Value.builtin "ord") [Value.str (Str.mk #[_]) _]) _ _ _); refine P.ord_of_char ?_))
  k_with "subscriptTail" => ((k_here; (with_reducible show wpAny _ _ (subscriptTail _ _ (Value.bytes _ _) (Value.int _ _)) _ _ _); k_dflt (refine' bytes_at (by assumption) (by omega) ?_; k_whole); intro qt9 qk9; (try dsimp only)))
  k_with "subscriptTail" => ((k_here; (with_reducible show wpAny _ _ (subscriptTail _ (Expr.Slice _ _ none _) (Value.bytes _ _) (Value.ref _)) _ _ _); k_dflt (refine' slice_x (s := ⟨_, _, _, _, _⟩) (by k_asm) (by k_asm) (by omega) (by omega) (by omega) ?_; k_whole); intro qh9 qt9 qk9 qF9 qN9; (try dsimp only); (try k_sweep)))
  k_with "exec Assign cons ListComp" => ((k_here; (with_reducible show wpAny _ _ (exec (Stmt.Assign [Expr.Name (Str.ofString "wanted") _] _ _) _) _ _ _); k_dflt (refine' wpAny_Assign_Name ?_ (by first | (with_unfolding_all rfl) | fail))))
  k_with "my k_all" => (first | assumption | exact List.forall_mem_nil _ | exact ne_off1 (by first | (first | assumption | exact And.right (by assumption)) | fail) | exact ne_lt (by assumption) (by first | (first | omega | exact Nat.le_refl _ | exact Nat.le_succ _ | exact Nat.le_add_right _ _) | fail) | exact ne_allLt (by first | (first | assumption | exact And.right (by assumption)) | fail) (by first | (first | omega | exact Nat.le_refl _ | exact Nat.le_succ _ | exact Nat.le_add_right _ _) | fail) | (refine List.forall_mem_cons.mpr ⟨(by first | (k_ne) | fail), (by first | (k_all) | fail)⟩))
  k_with "my k_mem" => (first | with_reducible assumption | with_reducible exact List.mem_cons_self | (with_reducible refine' List.mem_cons_of_mem _ ?_; k_mem) | with_reducible exact List.mem_append_right _ (by first | (with_reducible assumption) | fail) | with_reducible exact List.mem_append_left _ (by first | (with_reducible assumption) | fail) | (with_reducible refine List.mem_append_right _ ?_; assumption) | (with_reducible refine List.mem_append_left _ ?_; assumption) | assumption)
  k_with "compareOp NotEq ref" => ((k_here; (with_reducible show wpAny _ _ (compareOp CmpOp.NotEq (Value.ref _) (Value.ref _)) _ _ _); k_dflt (first   | (refine' ne_nil_nil (by first | (exact News.isList (by k_asm) (by first | (k_mem) | fail)) | fail) (by first | (exact News.isList (by k_asm) (by first | (k_mem) | fail)) | fail) (by first | (ktr_units) | fail) ?_; k_whole)   | (refine' ne_nil_snoc (by first | (exact News.isList (by k_asm) (by first | (k_mem) | fail)) | fail) (by first | (exact News.isList (by k_asm) (by first | (k_mem) | fail)) | fail) (by first | (ktr_units) | fail) ?_; k_whole))))
  k_with "compareOp NotEq ref ref" => ((k_here; (with_reducible show wpAny _ _ (compareOp CmpOp.NotEq (Value.ref _) (Value.ref _)) _ _ _); k_dflt (first   | (refine' ne_nil_nil (by first | (exact News.isList (by k_asm) (by first | (k_mem) | fail)) | fail) (by first | (exact News.isList (by k_asm) (by first | (k_mem) | fail)) | fail) (by first | (ktr_units) | fail) ?_; k_whole)   | (refine' ne_nil_snoc (by first | (exact News.isList (by k_asm) (by first | (k_mem) | fail)) | fail) (by first | (exact News.isList (by k_asm) (by first | (k_mem) | fail)) | fail) (by first | (ktr_units) | fail) ?_; k_whole))))
  k_with "subscriptTail" => ((k_here; (with_reducible show wpAny _ _ (subscriptTail _ _ (Value.ref _) (Value.int (-1) _)) _ _ _); k_dflt (refine' last_item (by first | (exact News.isList (by k_asm) (by first | (k_mem) | fail)) | fail) (by omega) ?_; k_whole)))
  k_with "binaryOp Add bytes bytes" => ((k_here; (with_reducible show wpAny _ _ (binaryOp Operator.Add (Value.bytes _ _) (Value.bytes _ _)) _ _ _); (refine KBy.add_bytes (by first | (first | omega | ((try simp only [Array.size_extract, Array.size_append]); omega) | (show _ + 2 ≤ _; omega)) | fail) ?_); intro qt9 qk9; (try dsimp only)))
  k_with "compareOp Eq ref ref" => ((k_here; (with_reducible show wpAny _ _ (compareOp CmpOp.Eq (Value.ref _) (Value.ref _)) _ _ _); k_dflt (refine' tup_eq (by first | (first | exact News.isTup (by k_asm) (by first | (k_mem) | fail) | exact kun_topT (by k_asm) (by k_asm) (by k_is)) | fail) (by first | (first | exact News.isTup (by k_asm) (by first | (k_mem) | fail) | exact kun_topT (by k_asm) (by k_asm) (by k_is)) | fail) (by first | (first | exact IntsAre.nil | exact IntsAre.cons _ _ IntsAre.nil | exact IntsAre.cons _ _ (IntsAre.cons _ _ IntsAre.nil)) | fail) (by first | (first | exact IntsAre.nil | exact IntsAre.cons _ _ IntsAre.nil | exact IntsAre.cons _ _ (IntsAre.cons _ _ IntsAre.nil)) | fail) (by first | (ktr_units) | fail) ?_; k_whole)))
  k_with "compareOp NotEq ref ref" => ((k_here; (with_reducible show wpAny _ _ (compareOp CmpOp.NotEq (Value.ref _) (Value.ref _)) _ _ _); k_dflt (refine' tup_ne (by first | (first | exact News.isTup (by k_asm) (by first | (k_mem) | fail) | exact kun_topT (by k_asm) (by k_asm) (by k_is)) | fail) (by first | (first | exact News.isTup (by k_asm) (by first | (k_mem) | fail) | exact kun_topT (by k_asm) (by k_asm) (by k_is)) | fail) (by first | (first | exact IntsAre.nil | exact IntsAre.cons _ _ IntsAre.nil | exact IntsAre.cons _ _ (IntsAre.cons _ _ IntsAre.nil)) | fail) (by first | (first | exact IntsAre.nil | exact IntsAre.cons _ _ IntsAre.nil | exact IntsAre.cons _ _ (IntsAre.cons _ _ IntsAre.nil)) | fail) (by first | (ktr_units) | fail) ?_; k_whole)))
  k_with "compareOp Eq ref ref" => ((k_here; (with_reducible show wpAny _ _ (compareOp CmpOp.Eq (Value.ref _) (Value.ref _)) _ _ _); k_dflt (refine' eq_nil_nil (by first | (exact News.isList (by k_asm) (by first | (k_mem) | fail)) | fail) (by first | (exact News.isList (by k_asm) (by first | (k_mem) | fail)) | fail) (by first | (ktr_units) | fail) ?_; k_whole)))
  k_with "binaryOp Add ref ref" => ((k_here; (with_reducible show wpAny _ _ (binaryOp _ (Value.ref _) (Value.ref _)) _ _ _); k_dflt (refine' add_lists_a (by k_asm) (by k_asm) (by first | (exact News.isList (by k_asm) (by first | (k_mem) | fail)) | fail) (by first | (exact News.isList (by k_asm) (by first | (k_mem) | fail)) | fail) ?_ (by first | ((rw [sizeLine_eq]; (try simp only [List.length_cons, List.length_nil]); omega)) | fail); k_whole); intro qa9 qh9 qF9 qN9; (try dsimp only); (try k_sweep)))
  k_with "exec Assign cons ListComp" => ((k_here; (with_reducible show wpAny _ _ (exec (Stmt.Assign _ (Expr.ListComp _ [⟨Expr.Name _ _, _, [_], _⟩] _ _) _) _) _ _ _); k_dflt (refine' alc_T (by k_asm) (by exact rfl) (by first | (with_unfolding_all rfl) | fail) (by first | (first | exact rfl | with_unfolding_all rfl) | fail) (by decide) (by exact rfl) (by decide) (by exact rfl) (by exact rfl) (by exact rfl) ?_)))
  trivial
local macro_rules | `(tactic| omega) => `(tactic| (first | k_extra "my om" | omega (splitNatSub := true)))
local macro_rules | `(tactic| ktr_units) => `(tactic| k_extra "my units")
local macro_rules | `(tactic| ktr_room) => `(tactic| k_extra "my room")
local macro_rules | `(tactic| k_all) => `(tactic| k_extra "my k_all")
local macro_rules | `(tactic| k_mem) => `(tactic| k_extra "my k_mem")
theorem reg_all2 : True := by
  k_with "my om" => (kle_keep; first | (with_reducible first | assumption | ((show (_ : Nat) ≠ _); (first | exact Nat.ne_of_gt (by assumption) | exact Nat.ne_of_lt (by assumption) | exact Ne.symm (by assumption) | exact Nat.ne_of_gt (And.left (by assumption)) | exact Nat.ne_of_gt (And.left (And.right (by assumption))) | exact Nat.ne_of_lt (And.left (by assumption)) | exact Nat.ne_of_lt (And.left (And.right (by assumption))) | exact Nat.ne_of_lt (And.right (And.right (by assumption))) | exact Ne.symm (And.left (by assumption)) | exact om_nsu (And.left (by assumption)) | exact om_nsu (by assumption) | exact Nat.ne_of_gt (And.left (And.right (And.right (by assumption)))) | exact Nat.ne_of_gt (And.left (And.right (And.right (And.right (by assumption))))) | exact Nat.ne_of_gt (And.left (And.right (And.right (And.right (And.right (by assumption)))))))) | ((show _ < recursionLimit); (first | first | exact om_rm2 (by assumption) (by with_unfolding_all exact rfl) | exact om_rm3 (by assumption) (by with_unfolding_all exact rfl) | exact om_rm1 (by assumption) | exact om_rm4 (by assumption) (by with_unfolding_all exact rfl) | exact om_rm5 (by assumption) (by with_unfolding_all exact rfl))) | ((show _ < cLine); (first | first | exact om_un3 (by assumption) (by with_unfolding_all exact rfl) | exact om_un2 (by assumption) (by with_unfolding_all exact rfl) | exact om_un4 (by assumption) (by with_unfolding_all exact rfl) | exact om_un1 (by assumption) (by with_unfolding_all exact rfl) | exact om_un0 (by assumption) | exact om_un5 (by assumption) (by with_unfolding_all exact rfl) | exact om_un6 (by assumption) (by with_unfolding_all exact rfl))) | ((show (_ : Nat) < _); (first | exact om_d2 (by with_unfolding_all exact rfl) | exact om_nb1 (by assumption) (by with_unfolding_all exact rfl) | exact om_nl2 (by assumption) (by with_unfolding_all exact rfl) | exact om_nl1 (by assumption) (by with_unfolding_all exact rfl) | exact om_nl2 (And.left (by assumption)) (by with_unfolding_all exact rfl) | exact id (And.left (by assumption)) | exact id (And.right (by assumption)))) | ((show (_ : Nat) ≤ _); (first | exact om_d1 (by with_unfolding_all exact rfl) | exact Nat.le_refl _ | exact om_nl3 (by assumption) (by with_unfolding_all exact rfl) | exact om_nl4 (by assumption) (by with_unfolding_all exact rfl) | exact om_nl3 (And.right (by assumption)) (by with_unfolding_all exact rfl) | exact om_nl4 (And.right (by assumption)) (by with_unfolding_all exact rfl) | exact om_nb2 (by assumption) (by with_unfolding_all exact rfl) | exact id (And.left (by assumption)) | exact id (And.right (by assumption)))) | ((show (_ : Int) < _); (first | exact om_c2 (by with_unfolding_all exact rfl) | exact om_n2 | exact om_p2 (by with_unfolding_all exact rfl) | exact om_q2 (by with_unfolding_all exact rfl) | exact om_p3 (And.right (by assumption)) (by with_unfolding_all exact rfl) | exact om_p3 (by assumption) (by with_unfolding_all exact rfl) | exact om_p4 (by assumption) (by with_unfolding_all exact rfl) | exact om_il1 (And.right (by assumption)) (by with_unfolding_all exact rfl) | exact om_il2 (And.right (by assumption)) (by with_unfolding_all exact rfl) | exact om_n4 (And.left (by assumption)) | exact om_n4 (by assumption) | exact id (And.left (by assumption)) | exact id (And.right (by assumption)))) | ((show (_ : Int) ≤ _); (first | exact om_c1 (by with_unfolding_all exact rfl) | exact om_n3 | exact om_ig3 (And.left (by assumption)) (by with_unfolding_all exact rfl) | exact om_il3 (And.right (by assumption)) (by with_unfolding_all exact rfl) | exact om_n5 (And.left (by assumption)) | exact om_ig3 (by assumption) (by with_unfolding_all exact rfl) | exact om_il3 (by assumption) (by with_unfolding_all exact rfl) | exact id (And.left (by assumption)) | exact id (And.right (by assumption)))) | ((show (_ : Int) ≤ _ ∧ _); (first | exact om_c4 (by with_unfolding_all exact rfl) | exact om_ai0 (by assumption) (by with_unfolding_all exact rfl) | exact om_ai1 (by assumption) (by with_unfolding_all exact rfl) | exact om_ai2 (by assumption) (by with_unfolding_all exact rfl) | exact om_ai3 (by assumption) (by with_unfolding_all exact rfl) | exact om_ai4 (by assumption) (by with_unfolding_all exact rfl) | exact om_aj1 (by with_unfolding_all exact rfl) | exact om_aj2 (by with_unfolding_all exact rfl) | exact om_aj3 (by with_unfolding_all exact rfl) | exact om_aj4 (by with_unfolding_all exact rfl) | exact om_aj5 (by with_unfolding_all exact rfl))) | ((show (_ : Int) < _ ∧ _); (first | exact om_c3 (by with_unfolding_all exact rfl)))) | lia)
  k_with "my units" => ((try simp only [units_under_make, units_in1, units_deeper, Around.mark_units, units_caller]); (try dsimp only [ktrTop]); (first | with_reducible exact om_un3 (by with_reducible assumption) (by with_unfolding_all exact rfl) | with_reducible exact om_un2 (by with_reducible assumption) (by with_unfolding_all exact rfl) | with_reducible exact om_un4 (by with_reducible assumption) (by with_unfolding_all exact rfl) | with_reducible exact om_un1 (by with_reducible assumption) (by with_unfolding_all exact rfl) | with_reducible exact om_un0 (by with_reducible assumption) | with_reducible exact om_un5 (by with_reducible assumption) (by with_unfolding_all exact rfl) | with_reducible exact om_un6 (by with_reducible assumption) (by with_unfolding_all exact rfl)))
  k_with "my room" => ((try simp only [depth_under_make, depth_under_kw, depth_in1, depth_deeper, depth_caller]); (try dsimp only [ktrTop]); (first | with_reducible exact om_rm2 (by with_reducible assumption) (by with_unfolding_all exact rfl) | with_reducible exact om_rm3 (by with_reducible assumption) (by with_unfolding_all exact rfl) | with_reducible exact om_rm1 (by with_reducible assumption) | with_reducible exact om_rm4 (by with_reducible assumption) (by with_unfolding_all exact rfl) | with_reducible exact om_rm5 (by with_reducible assumption) (by with_unfolding_all exact rfl) | decide))
  k_with "my pull" => (first | assumption | (refine Pull.head (by first | (k_all) | fail)) | (refine Pull.tail (by first | (k_ne) | fail) (by first | (walk_at "my pull") | fail)))
  k_with "ite" => (k_closed; (first | with_reducible refine ite_pos (by first | (with_unfolding_all decide) | fail) ?_ | with_reducible refine ite_neg (by first | (with_unfolding_all decide) | fail) ?_))
  k_with "eval Name" => (k_here; (fail_if_success (with_reducible show wpAny _ _ (eval _ (compEnvC _ _ _ _)) _ _ _)); k_dflt (first | (refine nm_L (by exact rfl) (by k_asm) (by exact rfl) (by exact rfl) (by decide) ?_; k_whole) | (refine nm_K (by exact rfl) (by k_asm) (by k_asm) (by k_asm) (by k_is) (by exact rfl) (by decide) ?_; k_whole) | (refine nm_B (by exact rfl) (by k_asm) (by k_asm) (by k_asm) (by k_is) (by first | (boot_fast) | fail) (by decide) (by exact rfl) (by decide) ?_; k_whole)))
  k_with "callWith ref" => (k_here; k_dflt (refine callWith_K (by k_asm) (by k_is) ?_; k_whole))
  k_with "spliced" => (k_here; (with_reducible show wpAny _ _ (spliced (backTo _ (starEach (_ :: _) _))) _ _ _); k_dflt (refine args_cons ?_; k_whole))
  k_with "subscriptTail" => (k_here; (with_reducible show wpAny _ _ (subscriptTail _ _ (Value.ref _) (Value.int _ _)) _ _ _); k_dflt (refine item_tupleT (by first | (exact News.isTup (by k_asm) (by first | (k_mem) | fail)) | fail) (by decide) (by decide) (by exact rfl) (by exact rfl) ?_; k_whole))
  trivial
theorem reg_all3 : True := by
  k_with "spliced" => (k_here; (with_reducible show wpAny _ _ (spliced (backTo _ (starEach (_ :: _) _))) _ _ _); with_reducible refine' args_S (by first | (with_reducible first | exact sv_I | exact sv_S | ((show Sv _ _ _ (Expr.Name _ _) _ _ _); k_dflt (exact sv_L (by k_asm) (by exact rfl))) | exact sv_N | exact sv_B) | fail) ?_ (he := (by first | (with_unfolding_all exact rfl) | fail)); k_whole; (try dsimp only [List.cons_append, List.nil_append]))
  k_with "spliced" => (k_here; (with_reducible show wpAny _ _ (spliced (backTo _ (starEach [_] _))) _ _ _); with_reducible refine' args_S1 (by first | (with_reducible first | exact sv_I | exact sv_S | ((show Sv _ _ _ (Expr.Name _ _) _ _ _); k_dflt (exact sv_L (by k_asm) (by exact rfl))) | exact sv_N | exact sv_B) | fail) ?_ (he := (by first | (with_unfolding_all exact rfl) | fail)); k_whole; (try dsimp only [List.cons_append, List.nil_append]))
  k_with "spliced" => (k_here; (with_reducible show wpAny _ _ (spliced (backTo _ (starEach [_, _] _))) _ _ _); with_reducible refine' args_S2 (by first | (with_reducible first | exact sv_I | exact sv_S | ((show Sv _ _ _ (Expr.Name _ _) _ _ _); k_dflt (exact sv_L (by k_asm) (by exact rfl))) | exact sv_N | exact sv_B) | fail) (by first | (with_reducible first | exact sv_I | exact sv_S | ((show Sv _ _ _ (Expr.Name _ _) _ _ _); k_dflt (exact sv_L (by k_asm) (by exact rfl))) | exact sv_N | exact sv_B) | fail) ?_ (he := (by first | (with_unfolding_all exact rfl) | fail)) (hf := (by first | (with_unfolding_all exact rfl) | fail)); k_whole; (try dsimp only [List.cons_append, List.nil_append]))
  k_with "spliced" => (k_here; (with_reducible show wpAny _ _ (spliced (backTo _ (starEach [_, _, _] _))) _ _ _); with_reducible refine' args_S3 (by first | (with_reducible first | exact sv_I | exact sv_S | ((show Sv _ _ _ (Expr.Name _ _) _ _ _); k_dflt (exact sv_L (by k_asm) (by exact rfl))) | exact sv_N | exact sv_B) | fail) (by first | (with_reducible first | exact sv_I | exact sv_S | ((show Sv _ _ _ (Expr.Name _ _) _ _ _); k_dflt (exact sv_L (by k_asm) (by exact rfl))) | exact sv_N | exact sv_B) | fail) (by first | (with_reducible first | exact sv_I | exact sv_S | ((show Sv _ _ _ (Expr.Name _ _) _ _ _); k_dflt (exact sv_L (by k_asm) (by exact rfl))) | exact sv_N | exact sv_B) | fail) ?_ (he := (by first | (with_unfolding_all exact rfl) | fail)) (hf := (by first | (with_unfolding_all exact rfl) | fail)) (hg := (by first | (with_unfolding_all exact rfl) | fail)); k_whole; (try dsimp only [List.cons_append, List.nil_append]))
  k_with "eval BinOp" => (k_here; (with_reducible show wpAny _ _ (eval (Expr.BinOp _ _ _ _) _) _ _ _); with_reducible refine' binop_S (by first | (with_reducible first | exact sv_I | exact sv_S | ((show Sv _ _ _ (Expr.Name _ _) _ _ _); k_dflt (exact sv_L (by k_asm) (by exact rfl))) | exact sv_N | exact sv_B) | fail) ?_; k_whole; (try dsimp only [List.cons_append, List.nil_append]))
  k_with "eval BinOp" => (k_here; (with_reducible show wpAny _ _ (eval (Expr.BinOp _ _ _ _) _) _ _ _); with_reducible refine' binop_SS (by first | (with_reducible first | exact sv_I | exact sv_S | ((show Sv _ _ _ (Expr.Name _ _) _ _ _); k_dflt (exact sv_L (by k_asm) (by exact rfl))) | exact sv_N | exact sv_B) | fail) (by first | (with_reducible first | exact sv_I | exact sv_S | ((show Sv _ _ _ (Expr.Name _ _) _ _ _); k_dflt (exact sv_L (by k_asm) (by exact rfl))) | exact sv_N | exact sv_B) | fail) ?_; k_whole; (try dsimp only [List.cons_append, List.nil_append]))
  k_with "eval Compare" => (k_here; (with_reducible show wpAny _ _ (eval (Expr.Compare _ [_] [_] _) _) _ _ _); with_reducible refine' cmp_S (by first | (with_reducible first | exact sv_I | exact sv_S | ((show Sv _ _ _ (Expr.Name _ _) _ _ _); k_dflt (exact sv_L (by k_asm) (by exact rfl))) | exact sv_N | exact sv_B) | fail) ?_ (hm := (by first | (with_unfolding_all exact rfl) | fail)); k_whole; (try dsimp only [List.cons_append, List.nil_append]))
  k_with "eval Compare" => (k_here; (with_reducible show wpAny _ _ (eval (Expr.Compare _ [_] [_] _) _) _ _ _); with_reducible refine' cmp_SS (by first | (with_reducible first | exact sv_I | exact sv_S | ((show Sv _ _ _ (Expr.Name _ _) _ _ _); k_dflt (exact sv_L (by k_asm) (by exact rfl))) | exact sv_N | exact sv_B) | fail) (by first | (with_reducible first | exact sv_I | exact sv_S | ((show Sv _ _ _ (Expr.Name _ _) _ _ _); k_dflt (exact sv_L (by k_asm) (by exact rfl))) | exact sv_N | exact sv_B) | fail) ?_ (hm := (by first | (with_unfolding_all exact rfl) | fail)); k_whole; (try dsimp only [List.cons_append, List.nil_append]))
  k_with "isTrue Compare" => (k_here; (with_reducible show wpAny _ _ (isTrue (Expr.Compare _ [_] [_] _) _ _) _ _ _); with_reducible refine' cmpT_S (by first | (with_reducible first | exact sv_I | exact sv_S | ((show Sv _ _ _ (Expr.Name _ _) _ _ _); k_dflt (exact sv_L (by k_asm) (by exact rfl))) | exact sv_N | exact sv_B) | fail) ?_ (hm := (by first | (with_unfolding_all exact rfl) | fail)); k_whole; (try dsimp only [List.cons_append, List.nil_append]))
  k_with "isTrue Compare" => (k_here; (with_reducible show wpAny _ _ (isTrue (Expr.Compare _ [_] [_] _) _ _) _ _ _); with_reducible refine' cmpT_SS (by first | (with_reducible first | exact sv_I | exact sv_S | ((show Sv _ _ _ (Expr.Name _ _) _ _ _); k_dflt (exact sv_L (by k_asm) (by exact rfl))) | exact sv_N | exact sv_B) | fail) (by first | (with_reducible first | exact sv_I | exact sv_S | ((show Sv _ _ _ (Expr.Name _ _) _ _ _); k_dflt (exact sv_L (by k_asm) (by exact rfl))) | exact sv_N | exact sv_B) | fail) ?_ (hm := (by first | (with_unfolding_all exact rfl) | fail)); k_whole; (try dsimp only [List.cons_append, List.nil_append]))
  k_with "eval Subscript" => (k_here; (with_reducible show wpAny _ _ (eval (Expr.Subscript _ _ _) _) _ _ _); with_reducible refine' sub_S (by first | (with_reducible first | exact sv_I | exact sv_S | ((show Sv _ _ _ (Expr.Name _ _) _ _ _); k_dflt (exact sv_L (by k_asm) (by exact rfl))) | exact sv_N | exact sv_B) | fail) ?_; k_whole; (try dsimp only [List.cons_append, List.nil_append]))
  k_with "eval Subscript" => (k_here; (with_reducible show wpAny _ _ (eval (Expr.Subscript _ _ _) _) _ _ _); with_reducible refine' sub_SS (by first | (with_reducible first | exact sv_I | exact sv_S | ((show Sv _ _ _ (Expr.Name _ _) _ _ _); k_dflt (exact sv_L (by k_asm) (by exact rfl))) | exact sv_N | exact sv_B) | fail) (by first | (with_reducible first | exact sv_I | exact sv_S | ((show Sv _ _ _ (Expr.Name _ _) _ _ _); k_dflt (exact sv_L (by k_asm) (by exact rfl))) | exact sv_N | exact sv_B) | fail) ?_; k_whole; (try dsimp only [List.cons_append, List.nil_append]))
  k_with "exec Return some" => (k_here; (with_reducible show wpAny _ _ (exec (Stmt.Return (some _) _) _) _ _ _); with_reducible refine' ret_S (by first | (with_reducible first | exact sv_I | exact sv_S | ((show Sv _ _ _ (Expr.Name _ _) _ _ _); k_dflt (exact sv_L (by k_asm) (by exact rfl))) | exact sv_N | exact sv_B) | fail) ?_; k_whole; (try dsimp only [List.cons_append, List.nil_append]))
  trivial
section
section
variable {w : World} {mean : ExcName → Option Value} {mg mb : Str → Option Value} {dp un : Nat} {gd : Option (List Code)} {cn : Str} {cs : Scope} {a : Addr} {ccd : Value} {cl : List (Str × Addr)} {outer : List Env} {A₀ : Around} {base h₀ : Heap} {L : Addr} {m : Str → Option Value} {news : List (Addr × Obj)} {s : Shared} {Q E : Value → Shared → Prop}
def lowC (n : Int) : Int := if 65 ≤ n ∧ n ≤ 90 then n + 32 else n
end
def PLow_ctc (z9 : Cx × (Int) × (Tok)) : Prop := (fun (w : World) (mean : ExcName → Option Value) (mg : Str → Option Value) (mb : Str → Option Value) (dp : Nat) (un : Nat) (gd : Option (List Code)) (cn : Str) (cs : Scope) (a : Addr) (ccd : Value) (cl : List (Str × Addr)) (outer : List Env) (A₀ : Around) (base : Heap) (h₀ : Heap) (L : Addr) (m : Str → Option Value) (news : List (Addr × Obj)) (s : Shared) (Q : Value → Shared → Prop) (E : Value → Shared → Prop) (n : Int) (t : Tok) => ∀ (H : Here w mean mg mb 1 dp un cs outer A₀ base h₀ L m news s) (h0 : 0 ≤ n) (h1 : n < 1114112) (ret : ∀ t h' tk', Fr h₀ L h' m → News h₀ L h' news → Q (.int (lowC n) t) { s with heap := h', toks := tk' }), wpAny (model PG w) (ktrTop dp un gd cn cs L a ccd cl outer) (call (.ref 199) [.int n t]) Q E s) (z9.1.w) (z9.1.mean) (z9.1.mg) (z9.1.mb) (z9.1.dp) (z9.1.un) (z9.1.gd) (z9.1.cn) (z9.1.cs) (z9.1.a) (z9.1.ccd) (z9.1.cl) (z9.1.outer) (z9.1.A₀) (z9.1.base) (z9.1.h₀) (z9.1.L) (z9.1.m) (z9.1.news) (z9.1.s) (z9.1.Q) (z9.1.E) (z9.2.1) (z9.2.2)
theorem low_ctc_core : PLow_ctc (hkm (⟨(cx0, default, default)⟩ : Nonempty (Cx × (Int) × (Tok))) PLow_ctc) := by
  generalize hkm _ _ = z9
  delta PLow_ctc
  generalize z9.1.w = w, z9.1.mean = mean, z9.1.mg = mg, z9.1.mb = mb, z9.1.dp = dp, z9.1.un = un, z9.1.gd = gd, z9.1.cn = cn, z9.1.cs = cs, z9.1.a = a, z9.1.ccd = ccd, z9.1.cl = cl, z9.1.outer = outer, z9.1.A₀ = A₀, z9.1.base = base, z9.1.h₀ = h₀, z9.1.L = L, z9.1.m = m, z9.1.news = news, z9.1.s = s, z9.1.Q = Q, z9.1.E = E, z9.2.1 = n, z9.2.2 = t
  clear z9
  intros H h0 h1 ret
  walk_at "my enter"
  k_steps
  all_goals (refine' cb_retI ret ?_ (by assumption) (by assumption); unfold lowC; (try split) <;> omega)
section
variable {w : World} {mean : ExcName → Option Value} {mg mb : Str → Option Value} {dp un : Nat} {gd : Option (List Code)} {cn : Str} {cs : Scope} {a : Addr} {ccd : Value} {cl : List (Str × Addr)} {outer : List Env} {A₀ : Around} {base h₀ : Heap} {L : Addr} {m : Str → Option Value} {news : List (Addr × Obj)} {s : Shared} {Q E : Value → Shared → Prop}
theorem low_ctc (H : Here w mean mg mb 1 dp un cs outer A₀ base h₀ L m news s) {n : Int} {t : Tok} (h0 : 0 ≤ n) (h1 : n < 1114112) (ret : ∀ t h' tk', Fr h₀ L h' m → News h₀ L h' news → Q (.int (lowC n) t) { s with heap := h', toks := tk' }) :
   wpAny (model PG w) (ktrTop dp un gd cn cs L a ccd cl outer) (call (.ref 199) [.int n t]) Q E s :=
  (hkf _ low_ctc_core (⟨w, mean, mg, mb, dp, un, gd, cn, cs, a, ccd, cl, outer, A₀, base, h₀, L, m, news, s, Q, E⟩, n, t) : PLow_ctc (⟨w, mean, mg, mb, dp, un, gd, cn, cs, a, ccd, cl, outer, A₀, base, h₀, L, m, news, s, Q, E⟩, n, t)) H h0 h1 ret
end
theorem reg_all4 : True := by
  k_with "call ref" => (((fail_if_success (fail_if_success (have qz9 : Mk 1 := by with_reducible assumption))); (k_here; (with_reducible show wpAny _ _ (call (Value.ref 199) [_]) _ _ _); k_dflt (refine' low_ctc (by first | (walk_at "my here") | fail) (by omega) (by omega) ?_; k_whole); intro qt9 qh9 qtk9 qF9 qN9; (try dsimp only); (try k_sweep); (try k_fold))))
  trivial
section
variable {w : World} {mean : ExcName → Option Value} {mg mb : Str → Option Value} {dp un : Nat} {gd : Option (List Code)} {cn : Str} {cs : Scope} {a : Addr} {ccd : Value} {cl : List (Str × Addr)} {outer : List Env} {A₀ : Around} {base h₀ : Heap} {L : Addr} {m : Str → Option Value} {news : List (Addr × Obj)} {s : Shared} {Q E : Value → Shared → Prop}
def lowN (c : Nat) : Nat := if 65 ≤ c ∧ c ≤ 90 then c + 32 else c
def lowS (x : Str) : Str := ⟨x.cps.map lowN⟩
theorem lowC_nat (c : Nat) : lowC (c : Int) = ((lowN c : Nat) : Int) := by
  unfold lowC lowN
  split <;> split <;> omega
theorem lowN_lt {c : Nat} (h : c < 128) : lowN c < 128 := by unfold lowN; split <;> omega
theorem ones_len (l : List Nat) : (l.map fun c => (⟨#[lowN c]⟩ : Str).length).sum = l.length := by
  induction l with
  | nil => rfl
  | cons c r ih => simp only [List.map_cons, List.sum_cons, ih, List.length_cons]; show 1 + _ = _; omega
theorem str_ext {x y : Str} (h : x.cps.toList = y.cps.toList) : x = y := by
  cases x; cases y; congr 1; exact Array.toList_inj.mp h
theorem empty_cps : (Str.ofString "").cps = #[] := by decide +kernel
theorem join_fold (l : List Str) : ∀ acc : Array Nat, (l.foldl (fun acc p => acc ++ (Str.ofString "").cps ++ p.cps) acc).toList = acc.toList ++ l.flatMap fun p => p.cps.toList := by
  induction l with
  | nil => intro acc; simp
  | cons p r ih => intro acc; rw [List.foldl_cons, ih, empty_cps]; simp
theorem join_empty (l : List Str) : (Txt.join (Str.ofString "") l).cps.toList = l.flatMap fun p => p.cps.toList := by
  show ((l.drop 1).foldl (fun acc p => acc ++ (Str.ofString "").cps ++ p.cps) (l.headD Str.empty).cps).toList = _
  rw [join_fold]
  cases l with
  | nil => rfl
  | cons p r => simp
theorem join_ones (l : List Nat) : Txt.join (Str.ofString "") (l.map fun c => (⟨#[lowN c]⟩ : Str)) = ⟨(l.map lowN).toArray⟩ := by
  refine str_ext ?_
  rw [join_empty]
  induction l with
  | nil => rfl
  | cons c r ih => simpa using ih
def Asc (x : Str) : Prop := ∀ c ∈ x.cps.toList, c < 128
end
def PLowtext_ctc (z9 : Cx × (Str) × (Tok)) : Prop := (fun (w : World) (mean : ExcName → Option Value) (mg : Str → Option Value) (mb : Str → Option Value) (dp : Nat) (un : Nat) (gd : Option (List Code)) (cn : Str) (cs : Scope) (a : Addr) (ccd : Value) (cl : List (Str × Addr)) (outer : List Env) (A₀ : Around) (base : Heap) (h₀ : Heap) (L : Addr) (m : Str → Option Value) (news : List (Addr × Obj)) (s : Shared) (Q : Value → Shared → Prop) (E : Value → Shared → Prop) (x : Str) (t : Tok) => ∀ (H : Here w mean mg mb 3 dp un cs outer A₀ base h₀ L m news s) (h0 : x.cps.size < 1000) (hA : Asc x) (ret : ∀ t h' tk', Fr h₀ L h' m → News h₀ L h' news → Q (.str (lowS x) t) { s with heap := h', toks := tk' }), wpAny (model PG w) (ktrTop dp un gd cn cs L a ccd cl outer) (call (.ref 204) [.str x t]) Q E s) (z9.1.w) (z9.1.mean) (z9.1.mg) (z9.1.mb) (z9.1.dp) (z9.1.un) (z9.1.gd) (z9.1.cn) (z9.1.cs) (z9.1.a) (z9.1.ccd) (z9.1.cl) (z9.1.outer) (z9.1.A₀) (z9.1.base) (z9.1.h₀) (z9.1.L) (z9.1.m) (z9.1.news) (z9.1.s) (z9.1.Q) (z9.1.E) (z9.2.1) (z9.2.2)
theorem lowtext_ctc_core : PLowtext_ctc (hkm (⟨(cx0, default, default)⟩ : Nonempty (Cx × (Str) × (Tok))) PLowtext_ctc) := by
  generalize hkm _ _ = z9
  delta PLowtext_ctc
  generalize z9.1.w = w, z9.1.mean = mean, z9.1.mg = mg, z9.1.mb = mb, z9.1.dp = dp, z9.1.un = un, z9.1.gd = gd, z9.1.cn = cn, z9.1.cs = cs, z9.1.a = a, z9.1.ccd = ccd, z9.1.cl = cl, z9.1.outer = outer, z9.1.A₀ = A₀, z9.1.base = base, z9.1.h₀ = h₀, z9.1.L = L, z9.1.m = m, z9.1.news = news, z9.1.s = s, z9.1.Q = Q, z9.1.E = E, z9.2.1 = x, z9.2.2 = t
  clear z9
  intros H h0 hA ret
  have qmk1 : Mk 1 := True.intro
  walk_at "my enter"
  k_steps
  dsimp only
  refine ⟨x.cps.size, _, _, _, ?_, srcM_str rfl (by assumption) (by assumption), fun g => ?_⟩
  · rw [sizeLine_eq]; omega
  dsimp only
  refine rest_U (fun i ys nw => nw = news ∧ StrsAre ys (((x.cps.toList.take i).map fun c => (⟨#[lowN c]⟩ : Str)))) ⟨rfl, .nil⟩ ?_ ?_
  · rintro i v ys nw I oI C oC D m₂ h tk E' hi ⟨e, hys⟩ ⟨c, u, hc, rfl⟩ hC hx F9 N9 off ne
    subst e
    have hcb : c < 128 := hA c (by rw [← Array.getElem?_toList] at hc; exact List.mem_of_getElem? hc)
    have hlb := lowN_lt hcb
    have hl := lowC_nat c
    k_steps
    refine CompEnd.intro (by assumption) (by assumption) _ (fun _ hp => hp) off True.intro ⟨rfl, ?_⟩
    rw [hl, Int.toNat_natCast, List.take_add_one, Array.getElem?_toList, hc]
    simpa using strs_snoc hys
  · rintro ys nw ⟨rfl, hys⟩
    have jo : (((x.cps.toList.take x.cps.size).map fun c => (⟨#[lowN c]⟩ : Str)).map (·.length)).sum + ((x.cps.toList.take x.cps.size).map fun c => (⟨#[lowN c]⟩ : Str)).length * (Str.ofString "").length ≤ 16777216 := by
      rw [List.map_map]
      have e1 := ones_len (x.cps.toList.take x.cps.size)
      have e2 : (x.cps.toList.take x.cps.size).length ≤ x.cps.size := by rw [List.length_take]; omega
      have e3 : (Str.ofString "").length = 0 := by decide +kernel
      rw [e3]
      show ((x.cps.toList.take x.cps.size).map fun c => (⟨#[lowN c]⟩ : Str).length).sum + _ ≤ _
      omega
    k_steps
    rw [show x.cps.toList.take x.cps.size = x.cps.toList from by rw [← Array.length_toList]; exact List.take_length]
    refine' cb_retS ret ?_ (by assumption) (cb_drop (by assumption) fun p hp => List.mem_cons_of_mem _ hp)
    rw [join_ones]; unfold lowS
    rw [← Array.toList_map]
section
variable {w : World} {mean : ExcName → Option Value} {mg mb : Str → Option Value} {dp un : Nat} {gd : Option (List Code)} {cn : Str} {cs : Scope} {a : Addr} {ccd : Value} {cl : List (Str × Addr)} {outer : List Env} {A₀ : Around} {base h₀ : Heap} {L : Addr} {m : Str → Option Value} {news : List (Addr × Obj)} {s : Shared} {Q E : Value → Shared → Prop}
theorem lowtext_ctc (H : Here w mean mg mb 3 dp un cs outer A₀ base h₀ L m news s) {x : Str} {t : Tok} (h0 : x.cps.size < 1000) (hA : Asc x) (ret : ∀ t h' tk', Fr h₀ L h' m → News h₀ L h' news → Q (.str (lowS x) t) { s with heap := h', toks := tk' }) :
   wpAny (model PG w) (ktrTop dp un gd cn cs L a ccd cl outer) (call (.ref 204) [.str x t]) Q E s :=
  (hkf _ lowtext_ctc_core (⟨w, mean, mg, mb, dp, un, gd, cn, cs, a, ccd, cl, outer, A₀, base, h₀, L, m, news, s, Q, E⟩, x, t) : PLowtext_ctc (⟨w, mean, mg, mb, dp, un, gd, cn, cs, a, ccd, cl, outer, A₀, base, h₀, L, m, news, s, Q, E⟩, x, t)) H h0 hA ret
end
end
theorem reg_all5 : True := by
  k_with "call ref" => ((k_here; (with_reducible show wpAny _ _ (call (Value.ref 199) [_]) _ _ _); k_dflt (refine' low_ctc (by first | (walk_at "my here") | fail) (by omega) (by omega) ?_; k_whole); intro qt9 qh9 qtk9 qF9 qN9; (try dsimp only); (try k_sweep); (try k_fold)))
  k_with "call ref" => ((k_here; (with_reducible show wpAny _ _ (call (Value.ref 204) [_]) _ _ _); k_dflt (refine' lowtext_ctc (by first | (walk_at "my here") | fail) (by first | (first | assumption | decide +kernel) | fail) (by first | (first | assumption | (unfold Asc; decide +kernel)) | fail) ?_; k_whole); intro qt9 qh9 qtk9 qF9 qN9; (try dsimp only); (try k_sweep); (try k_fold)))
  trivial
section
section
variable {w : World} {mean : ExcName → Option Value} {mg mb : Str → Option Value} {dp un : Nat} {gd : Option (List Code)} {cn : Str} {cs : Scope} {a : Addr} {ccd : Value} {cl : List (Str × Addr)} {outer : List Env} {A₀ : Around} {base h₀ : Heap} {L : Addr} {m : Str → Option Value} {news : List (Addr × Obj)} {s : Shared} {Q E : Value → Shared → Prop}
def twoS (n : Nat) : Str := ⟨#[48 + n / 10, 48 + n % 10]⟩
theorem two_eq : ∀ k : Fin 100, Txt.item (Str.ofString "0123456789") (Int.fdiv ((k : Nat) : Int) 10) ++ Txt.item (Str.ofString "0123456789") (Int.fmod ((k : Nat) : Int) 10) = twoS k := by decide +kernel
theorem padded_eq : ∀ k : Fin 100, Txt.mul (Str.ofString "0") (2 - ((Str.ofString (toString ((k : Nat) : Int))).length : Int)) ++ Str.ofString (toString ((k : Nat) : Int)) = twoS k := by decide +kernel
end
def PTwo_ctc (z9 : Cx × (Int) × (Tok)) : Prop := (fun (w : World) (mean : ExcName → Option Value) (mg : Str → Option Value) (mb : Str → Option Value) (dp : Nat) (un : Nat) (gd : Option (List Code)) (cn : Str) (cs : Scope) (a : Addr) (ccd : Value) (cl : List (Str × Addr)) (outer : List Env) (A₀ : Around) (base : Heap) (h₀ : Heap) (L : Addr) (m : Str → Option Value) (news : List (Addr × Obj)) (s : Shared) (Q : Value → Shared → Prop) (E : Value → Shared → Prop) (n : Int) (t : Tok) => ∀ (H : Here w mean mg mb 1 dp un cs outer A₀ base h₀ L m news s) (h0 : 0 ≤ n) (h1 : n < 100) (ret : ∀ t h' tk', Fr h₀ L h' m → News h₀ L h' news → Q (.str (twoS n.toNat) t) { s with heap := h', toks := tk' }), wpAny (model PG w) (ktrTop dp un gd cn cs L a ccd cl outer) (call (.ref 584) [.int n t]) Q E s) (z9.1.w) (z9.1.mean) (z9.1.mg) (z9.1.mb) (z9.1.dp) (z9.1.un) (z9.1.gd) (z9.1.cn) (z9.1.cs) (z9.1.a) (z9.1.ccd) (z9.1.cl) (z9.1.outer) (z9.1.A₀) (z9.1.base) (z9.1.h₀) (z9.1.L) (z9.1.m) (z9.1.news) (z9.1.s) (z9.1.Q) (z9.1.E) (z9.2.1) (z9.2.2)
theorem two_ctc_core : PTwo_ctc (hkm (⟨(cx0, default, default)⟩ : Nonempty (Cx × (Int) × (Tok))) PTwo_ctc) := by
  generalize hkm _ _ = z9
  delta PTwo_ctc
  generalize z9.1.w = w, z9.1.mean = mean, z9.1.mg = mg, z9.1.mb = mb, z9.1.dp = dp, z9.1.un = un, z9.1.gd = gd, z9.1.cn = cn, z9.1.cs = cs, z9.1.a = a, z9.1.ccd = ccd, z9.1.cl = cl, z9.1.outer = outer, z9.1.A₀ = A₀, z9.1.base = base, z9.1.h₀ = h₀, z9.1.L = L, z9.1.m = m, z9.1.news = news, z9.1.s = s, z9.1.Q = Q, z9.1.E = E, z9.2.1 = n, z9.2.2 = t
  clear z9
  intros H h0 h1 ret
  obtain ⟨k, rfl⟩ : ∃ k : Nat, n = (k : Int) := ⟨n.toNat, by omega⟩
  walk_at "my enter"
  k_steps
  exact cb_retS ret (two_eq ⟨k, by omega⟩) (by assumption) (by assumption)
section
variable {w : World} {mean : ExcName → Option Value} {mg mb : Str → Option Value} {dp un : Nat} {gd : Option (List Code)} {cn : Str} {cs : Scope} {a : Addr} {ccd : Value} {cl : List (Str × Addr)} {outer : List Env} {A₀ : Around} {base h₀ : Heap} {L : Addr} {m : Str → Option Value} {news : List (Addr × Obj)} {s : Shared} {Q E : Value → Shared → Prop}
theorem two_ctc (H : Here w mean mg mb 1 dp un cs outer A₀ base h₀ L m news s) {n : Int} {t : Tok} (h0 : 0 ≤ n) (h1 : n < 100) (ret : ∀ t h' tk', Fr h₀ L h' m → News h₀ L h' news → Q (.str (twoS n.toNat) t) { s with heap := h', toks := tk' }) :
   wpAny (model PG w) (ktrTop dp un gd cn cs L a ccd cl outer) (call (.ref 584) [.int n t]) Q E s :=
  (hkf _ two_ctc_core (⟨w, mean, mg, mb, dp, un, gd, cn, cs, a, ccd, cl, outer, A₀, base, h₀, L, m, news, s, Q, E⟩, n, t) : PTwo_ctc (⟨w, mean, mg, mb, dp, un, gd, cn, cs, a, ccd, cl, outer, A₀, base, h₀, L, m, news, s, Q, E⟩, n, t)) H h0 h1 ret
end
def PPadded_ctc (z9 : Cx × (Int) × (Tok) × (Tok)) : Prop := (fun (w : World) (mean : ExcName → Option Value) (mg : Str → Option Value) (mb : Str → Option Value) (dp : Nat) (un : Nat) (gd : Option (List Code)) (cn : Str) (cs : Scope) (a : Addr) (ccd : Value) (cl : List (Str × Addr)) (outer : List Env) (A₀ : Around) (base : Heap) (h₀ : Heap) (L : Addr) (m : Str → Option Value) (news : List (Addr × Obj)) (s : Shared) (Q : Value → Shared → Prop) (E : Value → Shared → Prop) (n : Int) (t : Tok) (u : Tok) => ∀ (H : Here w mean mg mb 1 dp un cs outer A₀ base h₀ L m news s) (h0 : 0 ≤ n) (h1 : n < 100) (ret : ∀ t h' tk', Fr h₀ L h' m → News h₀ L h' news → Q (.str (twoS n.toNat) t) { s with heap := h', toks := tk' }), wpAny (model PG w) (ktrTop dp un gd cn cs L a ccd cl outer) (call (.ref 166) [.int n t, .int 2 u]) Q E s) (z9.1.w) (z9.1.mean) (z9.1.mg) (z9.1.mb) (z9.1.dp) (z9.1.un) (z9.1.gd) (z9.1.cn) (z9.1.cs) (z9.1.a) (z9.1.ccd) (z9.1.cl) (z9.1.outer) (z9.1.A₀) (z9.1.base) (z9.1.h₀) (z9.1.L) (z9.1.m) (z9.1.news) (z9.1.s) (z9.1.Q) (z9.1.E) (z9.2.1) (z9.2.2.1) (z9.2.2.2)
theorem padded_ctc_core : PPadded_ctc (hkm (⟨(cx0, default, default, default)⟩ : Nonempty (Cx × (Int) × (Tok) × (Tok))) PPadded_ctc) := by
  generalize hkm _ _ = z9
  delta PPadded_ctc
  generalize z9.1.w = w, z9.1.mean = mean, z9.1.mg = mg, z9.1.mb = mb, z9.1.dp = dp, z9.1.un = un, z9.1.gd = gd, z9.1.cn = cn, z9.1.cs = cs, z9.1.a = a, z9.1.ccd = ccd, z9.1.cl = cl, z9.1.outer = outer, z9.1.A₀ = A₀, z9.1.base = base, z9.1.h₀ = h₀, z9.1.L = L, z9.1.m = m, z9.1.news = news, z9.1.s = s, z9.1.Q = Q, z9.1.E = E, z9.2.1 = n, z9.2.2.1 = t, z9.2.2.2 = u
  clear z9
  intros H h0 h1 ret
  obtain ⟨k, rfl⟩ : ∃ k : Nat, n = (k : Int) := ⟨n.toNat, by omega⟩
  walk_at "my enter"
  k_steps
  exact cb_retS ret (padded_eq ⟨k, by omega⟩) (by assumption) (by assumption)
section
variable {w : World} {mean : ExcName → Option Value} {mg mb : Str → Option Value} {dp un : Nat} {gd : Option (List Code)} {cn : Str} {cs : Scope} {a : Addr} {ccd : Value} {cl : List (Str × Addr)} {outer : List Env} {A₀ : Around} {base h₀ : Heap} {L : Addr} {m : Str → Option Value} {news : List (Addr × Obj)} {s : Shared} {Q E : Value → Shared → Prop}
theorem padded_ctc (H : Here w mean mg mb 1 dp un cs outer A₀ base h₀ L m news s) {n : Int} {t u : Tok} (h0 : 0 ≤ n) (h1 : n < 100) (ret : ∀ t h' tk', Fr h₀ L h' m → News h₀ L h' news → Q (.str (twoS n.toNat) t) { s with heap := h', toks := tk' }) :
   wpAny (model PG w) (ktrTop dp un gd cn cs L a ccd cl outer) (call (.ref 166) [.int n t, .int 2 u]) Q E s :=
  (hkf _ padded_ctc_core (⟨w, mean, mg, mb, dp, un, gd, cn, cs, a, ccd, cl, outer, A₀, base, h₀, L, m, news, s, Q, E⟩, n, t, u) : PPadded_ctc (⟨w, mean, mg, mb, dp, un, gd, cn, cs, a, ccd, cl, outer, A₀, base, h₀, L, m, news, s, Q, E⟩, n, t, u)) H h0 h1 ret
end
end
theorem reg_all6 : True := by
  k_with "call ref" => ((k_here; (with_reducible show wpAny _ _ (call (Value.ref 584) [_]) _ _ _); k_dflt (refine' two_ctc (by first | (walk_at "my here") | fail) (by omega) (by omega) ?_; k_whole); intro qt9 qh9 qtk9 qF9 qN9; (try dsimp only); (try k_sweep); (try k_fold)))
  k_with "call ref" => ((k_here; (with_reducible show wpAny _ _ (call (Value.ref 166) [_, Value.int 2 _]) _ _ _); k_dflt (refine' padded_ctc (by first | (walk_at "my here") | fail) (by omega) (by omega) ?_; k_whole); intro qt9 qh9 qtk9 qF9 qN9; (try dsimp only); (try k_sweep); (try k_fold)))
  trivial
section
section
variable {w : World} {mean : ExcName → Option Value} {mg mb : Str → Option Value} {dp un : Nat} {gd : Option (List Code)} {cn : Str} {cs : Scope} {a : Addr} {ccd : Value} {cl : List (Str × Addr)} {outer : List Env} {A₀ : Around} {base h₀ : Heap} {L : Addr} {m : Str → Option Value} {news : List (Addr × Obj)} {s : Shared} {Q E : Value → Shared → Prop}
def leapB (y : Int) : Bool := y.fmod 4 == 0 && (y.fmod 100 != 0 || y.fmod 400 == 0)
end
def PLeap_ctc (z9 : Cx × (Int) × (Tok)) : Prop := (fun (w : World) (mean : ExcName → Option Value) (mg : Str → Option Value) (mb : Str → Option Value) (dp : Nat) (un : Nat) (gd : Option (List Code)) (cn : Str) (cs : Scope) (a : Addr) (ccd : Value) (cl : List (Str × Addr)) (outer : List Env) (A₀ : Around) (base : Heap) (h₀ : Heap) (L : Addr) (m : Str → Option Value) (news : List (Addr × Obj)) (s : Shared) (Q : Value → Shared → Prop) (E : Value → Shared → Prop) (y : Int) (t : Tok) => ∀ (H : Here w mean mg mb 1 dp un cs outer A₀ base h₀ L m news s) (ret : ∀ h' tk', Fr h₀ L h' m → News h₀ L h' news → Q (.bool (leapB y)) { s with heap := h', toks := tk' }), wpAny (model PG w) (ktrTop dp un gd cn cs L a ccd cl outer) (call (.ref 109) [.int y t]) Q E s) (z9.1.w) (z9.1.mean) (z9.1.mg) (z9.1.mb) (z9.1.dp) (z9.1.un) (z9.1.gd) (z9.1.cn) (z9.1.cs) (z9.1.a) (z9.1.ccd) (z9.1.cl) (z9.1.outer) (z9.1.A₀) (z9.1.base) (z9.1.h₀) (z9.1.L) (z9.1.m) (z9.1.news) (z9.1.s) (z9.1.Q) (z9.1.E) (z9.2.1) (z9.2.2)
theorem leap_ctc_core : PLeap_ctc (hkm (⟨(cx0, default, default)⟩ : Nonempty (Cx × (Int) × (Tok))) PLeap_ctc) := by
  generalize hkm _ _ = z9
  delta PLeap_ctc
  generalize z9.1.w = w, z9.1.mean = mean, z9.1.mg = mg, z9.1.mb = mb, z9.1.dp = dp, z9.1.un = un, z9.1.gd = gd, z9.1.cn = cn, z9.1.cs = cs, z9.1.a = a, z9.1.ccd = ccd, z9.1.cl = cl, z9.1.outer = outer, z9.1.A₀ = A₀, z9.1.base = base, z9.1.h₀ = h₀, z9.1.L = L, z9.1.m = m, z9.1.news = news, z9.1.s = s, z9.1.Q = Q, z9.1.E = E, z9.2.1 = y, z9.2.2 = t
  clear z9
  intros H ret
  walk_at "my enter"
  k_steps
  all_goals (refine' cb_retB (fun _ => ret) ?_ (by assumption) (by assumption); unfold leapB; simp_all)
section
variable {w : World} {mean : ExcName → Option Value} {mg mb : Str → Option Value} {dp un : Nat} {gd : Option (List Code)} {cn : Str} {cs : Scope} {a : Addr} {ccd : Value} {cl : List (Str × Addr)} {outer : List Env} {A₀ : Around} {base h₀ : Heap} {L : Addr} {m : Str → Option Value} {news : List (Addr × Obj)} {s : Shared} {Q E : Value → Shared → Prop}
theorem leap_ctc (H : Here w mean mg mb 1 dp un cs outer A₀ base h₀ L m news s) {y : Int} {t : Tok} (ret : ∀ h' tk', Fr h₀ L h' m → News h₀ L h' news → Q (.bool (leapB y)) { s with heap := h', toks := tk' }) :
   wpAny (model PG w) (ktrTop dp un gd cn cs L a ccd cl outer) (call (.ref 109) [.int y t]) Q E s :=
  (hkf _ leap_ctc_core (⟨w, mean, mg, mb, dp, un, gd, cn, cs, a, ccd, cl, outer, A₀, base, h₀, L, m, news, s, Q, E⟩, y, t) : PLeap_ctc (⟨w, mean, mg, mb, dp, un, gd, cn, cs, a, ccd, cl, outer, A₀, base, h₀, L, m, news, s, Q, E⟩, y, t)) H ret
end
theorem reg_all7 : True := by
  k_with "call ref" => (((fail_if_success (fail_if_success (have qz9 : Mk 3 := by with_reducible assumption))); (k_here; (with_reducible show wpAny _ _ (call (Value.ref 109) [_]) _ _ _); k_dflt (refine' leap_ctc (by first | (walk_at "my here") | fail) ?_; k_whole); intro qh9 qtk9 qF9 qN9; (try dsimp only); (try k_sweep); (try k_fold))))
  trivial
section
variable {w : World} {mean : ExcName → Option Value} {mg mb : Str → Option Value} {dp un : Nat} {gd : Option (List Code)} {cn : Str} {cs : Scope} {a : Addr} {ccd : Value} {cl : List (Str × Addr)} {outer : List Env} {A₀ : Around} {base h₀ : Heap} {L : Addr} {m : Str → Option Value} {news : List (Addr × Obj)} {s : Shared} {Q E : Value → Shared → Prop}
def mlen (y mo : Int) : Int := if mo = 2 then (if leapB y = true then 29 else 28) else if mo = 4 ∨ mo = 6 ∨ mo = 9 ∨ mo = 11 then 30 else 31
end
def PMlen_ctc (z9 : Cx × (Int) × (Int) × (Tok) × (Tok)) : Prop := (fun (w : World) (mean : ExcName → Option Value) (mg : Str → Option Value) (mb : Str → Option Value) (dp : Nat) (un : Nat) (gd : Option (List Code)) (cn : Str) (cs : Scope) (a : Addr) (ccd : Value) (cl : List (Str × Addr)) (outer : List Env) (A₀ : Around) (base : Heap) (h₀ : Heap) (L : Addr) (m : Str → Option Value) (news : List (Addr × Obj)) (s : Shared) (Q : Value → Shared → Prop) (E : Value → Shared → Prop) (y : Int) (mo : Int) (t : Tok) (u : Tok) => ∀ (H : Here w mean mg mb 3 dp un cs outer A₀ base h₀ L m news s) (ret : ∀ t h' tk', Fr h₀ L h' m → News h₀ L h' news → Q (.int (mlen y mo) t) { s with heap := h', toks := tk' }), wpAny (model PG w) (ktrTop dp un gd cn cs L a ccd cl outer) (call (.ref 116) [.int y t, .int mo u]) Q E s) (z9.1.w) (z9.1.mean) (z9.1.mg) (z9.1.mb) (z9.1.dp) (z9.1.un) (z9.1.gd) (z9.1.cn) (z9.1.cs) (z9.1.a) (z9.1.ccd) (z9.1.cl) (z9.1.outer) (z9.1.A₀) (z9.1.base) (z9.1.h₀) (z9.1.L) (z9.1.m) (z9.1.news) (z9.1.s) (z9.1.Q) (z9.1.E) (z9.2.1) (z9.2.2.1) (z9.2.2.2.1) (z9.2.2.2.2)
theorem mlen_ctc_core : PMlen_ctc (hkm (⟨(cx0, default, default, default, default)⟩ : Nonempty (Cx × (Int) × (Int) × (Tok) × (Tok))) PMlen_ctc) := by
  generalize hkm _ _ = z9
  delta PMlen_ctc
  generalize z9.1.w = w, z9.1.mean = mean, z9.1.mg = mg, z9.1.mb = mb, z9.1.dp = dp, z9.1.un = un, z9.1.gd = gd, z9.1.cn = cn, z9.1.cs = cs, z9.1.a = a, z9.1.ccd = ccd, z9.1.cl = cl, z9.1.outer = outer, z9.1.A₀ = A₀, z9.1.base = base, z9.1.h₀ = h₀, z9.1.L = L, z9.1.m = m, z9.1.news = news, z9.1.s = s, z9.1.Q = Q, z9.1.E = E, z9.2.1 = y, z9.2.2.1 = mo, z9.2.2.2.1 = t, z9.2.2.2.2 = u
  clear z9
  intros H ret
  have qmk3 : Mk 3 := True.intro
  walk_at "my enter"
  k_steps
  all_goals (refine' cb_retI ret ?_ (by assumption) (by walk_at "my news"); unfold mlen; first | (simp_all; done) | (simp_all; omega))
section
variable {w : World} {mean : ExcName → Option Value} {mg mb : Str → Option Value} {dp un : Nat} {gd : Option (List Code)} {cn : Str} {cs : Scope} {a : Addr} {ccd : Value} {cl : List (Str × Addr)} {outer : List Env} {A₀ : Around} {base h₀ : Heap} {L : Addr} {m : Str → Option Value} {news : List (Addr × Obj)} {s : Shared} {Q E : Value → Shared → Prop}
theorem mlen_ctc (H : Here w mean mg mb 3 dp un cs outer A₀ base h₀ L m news s) {y mo : Int} {t u : Tok} (ret : ∀ t h' tk', Fr h₀ L h' m → News h₀ L h' news → Q (.int (mlen y mo) t) { s with heap := h', toks := tk' }) :
   wpAny (model PG w) (ktrTop dp un gd cn cs L a ccd cl outer) (call (.ref 116) [.int y t, .int mo u]) Q E s :=
  (hkf _ mlen_ctc_core (⟨w, mean, mg, mb, dp, un, gd, cn, cs, a, ccd, cl, outer, A₀, base, h₀, L, m, news, s, Q, E⟩, y, mo, t, u) : PMlen_ctc (⟨w, mean, mg, mb, dp, un, gd, cn, cs, a, ccd, cl, outer, A₀, base, h₀, L, m, news, s, Q, E⟩, y, mo, t, u)) H ret
end
theorem reg_all8 : True := by
  k_with "call ref" => (((fail_if_success (fail_if_success (have qz9 : Mk 3 := by with_reducible assumption))); (k_here; (with_reducible show wpAny _ _ (call (Value.ref 116) [_, _]) _ _ _); k_dflt (refine' mlen_ctc (by first | (walk_at "my here") | fail) ?_; k_whole); intro qt9 qh9 qtk9 qF9 qN9; (try dsimp only); (try k_sweep); (try k_fold))))
  trivial
section
variable {w : World} {mean : ExcName → Option Value} {mg mb : Str → Option Value} {dp un : Nat} {gd : Option (List Code)} {cn : Str} {cs : Scope} {a : Addr} {ccd : Value} {cl : List (Str × Addr)} {outer : List Env} {A₀ : Around} {base h₀ : Heap} {L : Addr} {m : Str → Option Value} {news : List (Addr × Obj)} {s : Shared} {Q E : Value → Shared → Prop}
def dby (y : Int) : Int := (y - 1) * 365 + (y - 1).fdiv 4 - (y - 1).fdiv 100 + (y - 1).fdiv 400
end
def PDby_ctc (z9 : Cx × (Int) × (Tok)) : Prop := (fun (w : World) (mean : ExcName → Option Value) (mg : Str → Option Value) (mb : Str → Option Value) (dp : Nat) (un : Nat) (gd : Option (List Code)) (cn : Str) (cs : Scope) (a : Addr) (ccd : Value) (cl : List (Str × Addr)) (outer : List Env) (A₀ : Around) (base : Heap) (h₀ : Heap) (L : Addr) (m : Str → Option Value) (news : List (Addr × Obj)) (s : Shared) (Q : Value → Shared → Prop) (E : Value → Shared → Prop) (y : Int) (t : Tok) => ∀ (H : Here w mean mg mb 1 dp un cs outer A₀ base h₀ L m news s) (ret : ∀ t h' tk', Fr h₀ L h' m → News h₀ L h' news → Q (.int (dby y) t) { s with heap := h', toks := tk' }), wpAny (model PG w) (ktrTop dp un gd cn cs L a ccd cl outer) (call (.ref 123) [.int y t]) Q E s) (z9.1.w) (z9.1.mean) (z9.1.mg) (z9.1.mb) (z9.1.dp) (z9.1.un) (z9.1.gd) (z9.1.cn) (z9.1.cs) (z9.1.a) (z9.1.ccd) (z9.1.cl) (z9.1.outer) (z9.1.A₀) (z9.1.base) (z9.1.h₀) (z9.1.L) (z9.1.m) (z9.1.news) (z9.1.s) (z9.1.Q) (z9.1.E) (z9.2.1) (z9.2.2)
theorem dby_ctc_core : PDby_ctc (hkm (⟨(cx0, default, default)⟩ : Nonempty (Cx × (Int) × (Tok))) PDby_ctc) := by
  generalize hkm _ _ = z9
  delta PDby_ctc
  generalize z9.1.w = w, z9.1.mean = mean, z9.1.mg = mg, z9.1.mb = mb, z9.1.dp = dp, z9.1.un = un, z9.1.gd = gd, z9.1.cn = cn, z9.1.cs = cs, z9.1.a = a, z9.1.ccd = ccd, z9.1.cl = cl, z9.1.outer = outer, z9.1.A₀ = A₀, z9.1.base = base, z9.1.h₀ = h₀, z9.1.L = L, z9.1.m = m, z9.1.news = news, z9.1.s = s, z9.1.Q = Q, z9.1.E = E, z9.2.1 = y, z9.2.2 = t
  clear z9
  intros H ret
  have qmk3 : Mk 3 := True.intro
  walk_at "my enter"
  k_steps
  all_goals (refine' cb_retI ret rfl (by assumption) (by walk_at "my news"))
section
variable {w : World} {mean : ExcName → Option Value} {mg mb : Str → Option Value} {dp un : Nat} {gd : Option (List Code)} {cn : Str} {cs : Scope} {a : Addr} {ccd : Value} {cl : List (Str × Addr)} {outer : List Env} {A₀ : Around} {base h₀ : Heap} {L : Addr} {m : Str → Option Value} {news : List (Addr × Obj)} {s : Shared} {Q E : Value → Shared → Prop}
theorem dby_ctc (H : Here w mean mg mb 1 dp un cs outer A₀ base h₀ L m news s) {y : Int} {t : Tok} (ret : ∀ t h' tk', Fr h₀ L h' m → News h₀ L h' news → Q (.int (dby y) t) { s with heap := h', toks := tk' }) :
   wpAny (model PG w) (ktrTop dp un gd cn cs L a ccd cl outer) (call (.ref 123) [.int y t]) Q E s :=
  (hkf _ dby_ctc_core (⟨w, mean, mg, mb, dp, un, gd, cn, cs, a, ccd, cl, outer, A₀, base, h₀, L, m, news, s, Q, E⟩, y, t) : PDby_ctc (⟨w, mean, mg, mb, dp, un, gd, cn, cs, a, ccd, cl, outer, A₀, base, h₀, L, m, news, s, Q, E⟩, y, t)) H ret
end
theorem reg_all9 : True := by
  k_with "call ref" => (((fail_if_success (fail_if_success (have qz9 : Mk 3 := by with_reducible assumption))); (k_here; (with_reducible show wpAny _ _ (call (Value.ref 123) [_]) _ _ _); k_dflt (refine' dby_ctc (by first | (walk_at "my here") | fail) ?_; k_whole); intro qt9 qh9 qtk9 qF9 qN9; (try dsimp only); (try k_sweep); (try k_fold))))
  trivial
section
variable {w : World} {mean : ExcName → Option Value} {mg mb : Str → Option Value} {dp un : Nat} {gd : Option (List Code)} {cn : Str} {cs : Scope} {a : Addr} {ccd : Value} {cl : List (Str × Addr)} {outer : List Env} {A₀ : Around} {base h₀ : Heap} {L : Addr} {m : Str → Option Value} {news : List (Addr × Obj)} {s : Shared} {Q E : Value → Shared → Prop}
abbrev tupO (vs : List Value) : Obj := { cls := .type "tuple", data := .seq vs.toArray }
def dayTab : List (Int × Int × Int × Int) := [(0, 1970, 1, 1), (9694, 1996, 7, 17), (10957, 2000, 1, 1), (11016, 2000, 2, 29), (-1, 1969, 12, 31)]
theorem map2 {mm : Str → Option Value} {x1 x2 : Str} {v1 v2 : Option Value} (e1 : mm x1 = v1) (e2 : mm x2 = v2) : mm = fun y => if y = x1 then v1 else if y = x2 then v2 else mm y := by
  funext y
  split
  · subst_vars; rfl
  split
  · subst_vars; rfl
  rfl
theorem map_but3b {mm : Str → Option Value} {x1 x2 x3 : Str} {v1 v2 v3 : Option Value} (e1 : mm x1 = v1) (e2 : mm x2 = v2) (e3 : mm x3 = v3) : mm = fun y => if y = x1 then v1 else if y = x2 then v2 else if y = x3 then v3 else mm y := by
  funext y
  split
  · subst_vars; rfl
  split
  · subst_vars; rfl
  split
  · subst_vars; rfl
  rfl
def remS (y mo d : Int) : Nat → Int
  | 0 => d - 1
  | k + 1 => remS y mo d k + mlen y (mo - ((k : Int) + 1))
theorem mlen_b (y mo : Int) : 28 ≤ mlen y mo ∧ mlen y mo ≤ 31 := by
  unfold mlen
  split
  · split <;> decide
  · split <;> decide
theorem remS_b {y mo d : Int} (h : 1 ≤ d ∧ d ≤ 31) : ∀ k : Nat, 0 ≤ remS y mo d k ∧ remS y mo d k ≤ 31 + 31 * (k : Int)
  | 0 => by show 0 ≤ d - 1 ∧ d - 1 ≤ _; omega
  | k + 1 => by
    have := remS_b (y := y) (mo := mo) h k
    have := mlen_b y (mo - ((k : Int) + 1))
    show 0 ≤ remS y mo d k + _ ∧ remS y mo d k + _ ≤ _
    omega
theorem day_facts {n y mo d : Int} (h : (n, y, mo, d) ∈ dayTab) : ∃ (Y0 : Int) (K : Nat), ((n + 719162) * 400).fdiv 146097 + 1 = Y0 ∧ dby Y0 ≤ n + 719162 ∧ (Y0 = y ∨ (Y0 + 1 = y ∧ dby (Y0 + 1) ≤ n + 719162)) ∧ n + 719162 < dby (y + 1) ∧ n + 719162 - dby y = remS y mo d K ∧ mo = (K : Int) + 1 ∧ K ≤ 11 ∧ (1 ≤ d ∧ d ≤ 31) ∧ d - 1 < mlen y mo ∧ (-1 ≤ n ∧ n ≤ 20000) ∧ (1900 ≤ y ∧ y ≤ 2100) := by
  simp only [dayTab, List.mem_cons, Prod.mk.injEq, List.not_mem_nil, or_false] at h
  rcases h with ⟨rfl, rfl, rfl, rfl⟩ | ⟨rfl, rfl, rfl, rfl⟩ | ⟨rfl, rfl, rfl, rfl⟩ | ⟨rfl, rfl, rfl, rfl⟩ | ⟨rfl, rfl, rfl, rfl⟩
  · exact ⟨_, 0, rfl, by decide +kernel⟩
  · exact ⟨_, 6, rfl, by decide +kernel⟩
  · exact ⟨_, 0, rfl, by decide +kernel⟩
  · exact ⟨_, 1, rfl, by decide +kernel⟩
  · exact ⟨_, 11, rfl, by decide +kernel⟩
end
section
theorem reg_all10 : True := by
  k_with "exec While Compare cons nil" => (((fail_if_success (fail_if_success (have qz9 : Mk 4 := by with_reducible assumption))); (refine Stop.out ?_)))
  trivial
def PDay_told_ctc (z9 : Cx × (Int) × (Int) × (Int) × (Int) × (Int) × (Tok)) : Prop := (fun (w : World) (mean : ExcName → Option Value) (mg : Str → Option Value) (mb : Str → Option Value) (dp : Nat) (un : Nat) (gd : Option (List Code)) (cn : Str) (cs : Scope) (a : Addr) (ccd : Value) (cl : List (Str × Addr)) (outer : List Env) (A₀ : Around) (base : Heap) (h₀ : Heap) (L : Addr) (m : Str → Option Value) (news : List (Addr × Obj)) (s : Shared) (Q : Value → Shared → Prop) (E : Value → Shared → Prop) (n : Int) (n' : Int) (y : Int) (mo : Int) (d : Int) (t : Tok) => ∀ (H : Here w mean mg mb 6 dp un cs outer A₀ base h₀ L m news s) (hy : (n, y, mo, d) ∈ dayTab) (he : n' = n) (ret : ∀ tup t1 t2 t3 h' tk', Fr h₀ L h' m → News h₀ L h' ((tup, tupO [.int y t1, .int mo t2, .int d t3]) :: news) → Q (.ref tup) { s with heap := h', toks := tk' }), wpAny (model PG w) (ktrTop dp un gd cn cs L a ccd cl outer) (call (.ref 130) [.int n' t]) Q E s) (z9.1.w) (z9.1.mean) (z9.1.mg) (z9.1.mb) (z9.1.dp) (z9.1.un) (z9.1.gd) (z9.1.cn) (z9.1.cs) (z9.1.a) (z9.1.ccd) (z9.1.cl) (z9.1.outer) (z9.1.A₀) (z9.1.base) (z9.1.h₀) (z9.1.L) (z9.1.m) (z9.1.news) (z9.1.s) (z9.1.Q) (z9.1.E) (z9.2.1) (z9.2.2.1) (z9.2.2.2.1) (z9.2.2.2.2.1) (z9.2.2.2.2.2.1) (z9.2.2.2.2.2.2)
set_option maxHeartbeats 4000000 in
theorem day_told_ctc_core : PDay_told_ctc (hkm (⟨(cx0, default, default, default, default, default, default)⟩ : Nonempty (Cx × (Int) × (Int) × (Int) × (Int) × (Int) × (Tok))) PDay_told_ctc) := by
  generalize hkm _ _ = z9
  delta PDay_told_ctc
  generalize z9.1.w = w, z9.1.mean = mean, z9.1.mg = mg, z9.1.mb = mb, z9.1.dp = dp, z9.1.un = un, z9.1.gd = gd, z9.1.cn = cn, z9.1.cs = cs, z9.1.a = a, z9.1.ccd = ccd, z9.1.cl = cl, z9.1.outer = outer, z9.1.A₀ = A₀, z9.1.base = base, z9.1.h₀ = h₀, z9.1.L = L, z9.1.m = m, z9.1.news = news, z9.1.s = s, z9.1.Q = Q, z9.1.E = E, z9.2.1 = n, z9.2.2.1 = n', z9.2.2.2.1 = y, z9.2.2.2.2.1 = mo, z9.2.2.2.2.2.1 = d, z9.2.2.2.2.2.2 = t
  clear z9
  intros H hy he ret
  have qmk3 : Mk 3 := True.intro
  have qmk4 : Mk 4 := True.intro
  subst he
  obtain ⟨Y0, K, hY0, hd1, hd2, hd3, hrem, hmo, hK, hd4, hd5, hn, hyb⟩ := day_facts hy
  walk_at "my enter"
  k_steps
  refine While_inv2 (fun _ m₁ nx => nx = news ∧ ∃ t1 t2, m₁ (Str.ofString "year") = some (.int Y0 t1) ∧ m₁ (Str.ofString "days") = some (.int (n' + 719162) t2)) (n₀ := 0) (by assumption) (by assumption) ⟨rfl, _, _, congrArg (fun z => some (Value.int z _)) hY0, rfl⟩ ?_
  rintro n m₁ nx h1 tk1 F2 N2 ⟨e0, t1, t2, e1, e2⟩
  obtain rfl := e0.symm
  rw [map2 e1 e2] at F2
  k_steps
  rename Fr _ _ _ _ => F3
  rename News _ _ _ _ => N3
  obtain ⟨k0, hk0⟩ : ∃ k0 : Nat, (k0 = 0 ∧ Y0 = y) ∨ (k0 = 1 ∧ Y0 + 1 = y ∧ dby (Y0 + 1) ≤ n' + 719162) := by
    rcases hd2 with h | h
    · exact ⟨0, .inl ⟨rfl, h⟩⟩
    · exact ⟨1, .inr ⟨rfl, h⟩⟩
  refine While_inv2 (fun k m₁ nx => nx = news ∧ ∃ Y t1 t2, ((k = 0 ∧ Y = y) ∨ (k = 1 ∧ Y + 1 = y ∧ dby (Y + 1) ≤ n' + 719162)) ∧ m₁ (Str.ofString "year") = some (.int Y t1) ∧ m₁ (Str.ofString "days") = some (.int (n' + 719162) t2)) (n₀ := k0) F3 N3 ⟨rfl, _, _, _, hk0, rfl, rfl⟩ ?_
  clear hk0 hd2 hd1 F3 N3
  rintro k m₂ nx h2 tk2 F4 N4 ⟨e0, Y, t3, t4, hk, e3, e4⟩
  obtain rfl := e0.symm
  rw [map2 e3 e4] at F4
  rcases hk with ⟨rfl, rfl⟩ | ⟨rfl, hY, hYd⟩
  · k_steps
    rename Fr _ _ _ _ => F5
    rename News _ _ _ _ => N5
    refine While_inv2 (fun k m₁ nx => nx = news ∧ ∃ R M t1 t2 t3, R = remS Y mo d k ∧ M = mo - (k : Int) ∧ m₁ (Str.ofString "rest") = some (.int R t1) ∧ m₁ (Str.ofString "month") = some (.int M t2) ∧ m₁ (Str.ofString "year") = some (.int Y t3)) (n₀ := K) F5 N5 ⟨rfl, _, _, _, _, _, hrem, by omega, rfl, rfl, rfl⟩ ?_
    clear F5 N5
    rintro k m₃ nx h3 tk3 F6 N6 ⟨e0, R, M, t5, t6, t7, hR, hM, e5, e6, e7⟩
    obtain rfl := e0.symm
    rw [map_but3b e5 e6 e7] at F6
    rcases k with _ | k
    · have hR' : R = d - 1 := hR
      obtain rfl : d = R + 1 := by omega
      obtain rfl : mo = M := by omega
      k_steps
      exact ret _ _ _ _ _ _ (by assumption) (by walk_at "my news")
    · have hM' : M = mo - ((k : Int) + 1) := by omega
      have hR' : R = remS Y mo d k + mlen Y M := by subst hM'; exact hR
      have hb := (remS_b (y := Y) (mo := mo) hd4 k).1
      k_steps
      refine ⟨_, _, _, _, k, rfl, by assumption, by assumption, Nat.lt_succ_self _, rfl, _, _, _, _, _, ?_, ?_, rfl, rfl, rfl⟩ <;> omega
  · k_steps
    exact ⟨_, _, _, _, 0, rfl, by assumption, by assumption, Nat.zero_lt_one, rfl, _, _, _, .inl ⟨rfl, hY⟩, rfl, rfl⟩
section
variable {w : World} {mean : ExcName → Option Value} {mg mb : Str → Option Value} {dp un : Nat} {gd : Option (List Code)} {cn : Str} {cs : Scope} {a : Addr} {ccd : Value} {cl : List (Str × Addr)} {outer : List Env} {A₀ : Around} {base h₀ : Heap} {L : Addr} {m : Str → Option Value} {news : List (Addr × Obj)} {s : Shared} {Q E : Value → Shared → Prop}
theorem day_told_ctc (H : Here w mean mg mb 6 dp un cs outer A₀ base h₀ L m news s) {n n' y mo d : Int} {t : Tok} (hy : (n, y, mo, d) ∈ dayTab) (he : n' = n) (ret : ∀ tup t1 t2 t3 h' tk', Fr h₀ L h' m → News h₀ L h' ((tup, tupO [.int y t1, .int mo t2, .int d t3]) :: news) → Q (.ref tup) { s with heap := h', toks := tk' }) :
   wpAny (model PG w) (ktrTop dp un gd cn cs L a ccd cl outer) (call (.ref 130) [.int n' t]) Q E s :=
  (hkf _ day_told_ctc_core (⟨w, mean, mg, mb, dp, un, gd, cn, cs, a, ccd, cl, outer, A₀, base, h₀, L, m, news, s, Q, E⟩, n, n', y, mo, d, t) : PDay_told_ctc (⟨w, mean, mg, mb, dp, un, gd, cn, cs, a, ccd, cl, outer, A₀, base, h₀, L, m, news, s, Q, E⟩, n, n', y, mo, d, t)) H hy he ret
end
end
end
theorem reg_all11 : True := by
  k_with "call ref" => ((k_here; (with_reducible show wpAny _ _ (call (Value.ref 116) [_, _]) _ _ _); k_dflt (refine' mlen_ctc (by first | (walk_at "my here") | fail) ?_; k_whole); intro qt9 qh9 qtk9 qF9 qN9; (try dsimp only); (try k_sweep); (try k_fold)))
  k_with "call ref" => ((k_here; (with_reducible show wpAny _ _ (call (Value.ref 130) [_]) _ _ _); k_dflt (refine' day_told_ctc (by first | (walk_at "my here") | fail) (by assumption) (by assumption) ?_; k_whole); intro qt9 qu9 qv9 qw9 qh9 qtk9 qF9 qN9; (try dsimp only); (try k_sweep); (try k_fold)))
  trivial
section
section
variable {w : World} {mean : ExcName → Option Value} {mg mb : Str → Option Value} {dp un : Nat} {gd : Option (List Code)} {cn : Str} {cs : Scope} {a : Addr} {ccd : Value} {cl : List (Str × Addr)} {outer : List Env} {A₀ : Around} {base h₀ : Heap} {L : Addr} {m : Str → Option Value} {news : List (Addr × Obj)} {s : Shared} {Q E : Value → Shared → Prop}
abbrev momD (h1 h2 h3 h4 h5 h6 h7 : Int) (k1 k2 k3 k4 k5 k6 k7 : Tok) (v1 v2 v3 v4 v5 v6 v7 : Value) (n : Nat) : Obj := dictOf [⟨h1, .str (Str.ofString "year") k1, v1⟩, ⟨h2, .str (Str.ofString "month") k2, v2⟩, ⟨h3, .str (Str.ofString "day") k3, v3⟩, ⟨h4, .str (Str.ofString "hour") k4, v4⟩, ⟨h5, .str (Str.ofString "minute") k5, v5⟩, ⟨h6, .str (Str.ofString "second") k6, v6⟩, ⟨h7, .str (Str.ofString "zone") k7, v7⟩] n
def MomIn (nw : List (Addr × Obj)) (x : Addr) (y mo d hh mi ss z : Int) : Prop := ∃ dx h1 h2 h3 h4 h5 h6 h7 k1 k2 k3 k4 k5 k6 k7 t1 t2 t3 t4 t5 t6 t7 n, (x, instObj 98 dx) ∈ nw ∧
  (dx, momD h1 h2 h3 h4 h5 h6 h7 k1 k2 k3 k4 k5 k6 k7 (.int y t1) (.int mo t2) (.int d t3) (.int hh t4) (.int mi t5) (.int ss t6) (.int z t7) n) ∈ nw
end
def PCheck_moment_ctc (z9 : Cx × (Addr) × (Int) × (Int) × (Int) × (Int) × (Int) × (Int) × (Int)) : Prop := (fun (w : World) (mean : ExcName → Option Value) (mg : Str → Option Value) (mb : Str → Option Value) (dp : Nat) (un : Nat) (gd : Option (List Code)) (cn : Str) (cs : Scope) (a : Addr) (ccd : Value) (cl : List (Str × Addr)) (outer : List Env) (A₀ : Around) (base : Heap) (h₀ : Heap) (L : Addr) (m : Str → Option Value) (news : List (Addr × Obj)) (s : Shared) (Q : Value → Shared → Prop) (E : Value → Shared → Prop) (x : Addr) (y : Int) (mo : Int) (d : Int) (hh : Int) (mi : Int) (ss : Int) (z : Int) => ∀ (H : Here w mean mg mb 6 dp un cs outer A₀ base h₀ L m news s) (hM : MomIn news x y mo d hh mi ss z) (hy : 1 ≤ y ∧ y ≤ 9999) (hmo : 1 ≤ mo ∧ mo ≤ 12) (hd1 : 1 ≤ d ∧ d ≤ mlen y mo) (hh1 : 0 ≤ hh ∧ hh ≤ 23) (hmi : 0 ≤ mi ∧ mi ≤ 59) (hss : 0 ≤ ss ∧ ss ≤ 60) (hz : z = 0) (ret : ∀ h' tk', Fr h₀ L h' m → News h₀ L h' news → Q .none { s with heap := h', toks := tk' }), wpAny (model PG w) (ktrTop dp un gd cn cs L a ccd cl outer) (call (.ref 151) [.ref x]) Q E s) (z9.1.w) (z9.1.mean) (z9.1.mg) (z9.1.mb) (z9.1.dp) (z9.1.un) (z9.1.gd) (z9.1.cn) (z9.1.cs) (z9.1.a) (z9.1.ccd) (z9.1.cl) (z9.1.outer) (z9.1.A₀) (z9.1.base) (z9.1.h₀) (z9.1.L) (z9.1.m) (z9.1.news) (z9.1.s) (z9.1.Q) (z9.1.E) (z9.2.1) (z9.2.2.1) (z9.2.2.2.1) (z9.2.2.2.2.1) (z9.2.2.2.2.2.1) (z9.2.2.2.2.2.2.1) (z9.2.2.2.2.2.2.2.1) (z9.2.2.2.2.2.2.2.2)
theorem check_moment_ctc_core : PCheck_moment_ctc (hkm (⟨(cx0, default, default, default, default, default, default, default, default)⟩ : Nonempty (Cx × (Addr) × (Int) × (Int) × (Int) × (Int) × (Int) × (Int) × (Int))) PCheck_moment_ctc) := by
  generalize hkm _ _ = z9
  delta PCheck_moment_ctc
  generalize z9.1.w = w, z9.1.mean = mean, z9.1.mg = mg, z9.1.mb = mb, z9.1.dp = dp, z9.1.un = un, z9.1.gd = gd, z9.1.cn = cn, z9.1.cs = cs, z9.1.a = a, z9.1.ccd = ccd, z9.1.cl = cl, z9.1.outer = outer, z9.1.A₀ = A₀, z9.1.base = base, z9.1.h₀ = h₀, z9.1.L = L, z9.1.m = m, z9.1.news = news, z9.1.s = s, z9.1.Q = Q, z9.1.E = E, z9.2.1 = x, z9.2.2.1 = y, z9.2.2.2.1 = mo, z9.2.2.2.2.1 = d, z9.2.2.2.2.2.1 = hh, z9.2.2.2.2.2.2.1 = mi, z9.2.2.2.2.2.2.2.1 = ss, z9.2.2.2.2.2.2.2.2 = z
  clear z9
  intros H hM hy hmo hd1 hh1 hmi hss hz ret
  obtain ⟨dx, h1, h2, h3, h4, h5, h6, h7, k1, k2, k3, k4, k5, k6, k7, t1, t2, t3, t4, t5, t6, t7, n, m1, m2⟩ := hM
  subst hz
  walk_at "my enter"
  k_steps
  exact ret _ _ (by assumption) (by walk_at "my news")
section
variable {w : World} {mean : ExcName → Option Value} {mg mb : Str → Option Value} {dp un : Nat} {gd : Option (List Code)} {cn : Str} {cs : Scope} {a : Addr} {ccd : Value} {cl : List (Str × Addr)} {outer : List Env} {A₀ : Around} {base h₀ : Heap} {L : Addr} {m : Str → Option Value} {news : List (Addr × Obj)} {s : Shared} {Q E : Value → Shared → Prop}
theorem check_moment_ctc (H : Here w mean mg mb 6 dp un cs outer A₀ base h₀ L m news s) {x : Addr} {y mo d hh mi ss z : Int} (hM : MomIn news x y mo d hh mi ss z) (hy : 1 ≤ y ∧ y ≤ 9999) (hmo : 1 ≤ mo ∧ mo ≤ 12) (hd1 : 1 ≤ d ∧ d ≤ mlen y mo) (hh1 : 0 ≤ hh ∧ hh ≤ 23) (hmi : 0 ≤ mi ∧ mi ≤ 59) (hss : 0 ≤ ss ∧ ss ≤ 60) (hz : z = 0) (ret : ∀ h' tk', Fr h₀ L h' m → News h₀ L h' news → Q .none { s with heap := h', toks := tk' }) :
   wpAny (model PG w) (ktrTop dp un gd cn cs L a ccd cl outer) (call (.ref 151) [.ref x]) Q E s :=
  (hkf _ check_moment_ctc_core (⟨w, mean, mg, mb, dp, un, gd, cn, cs, a, ccd, cl, outer, A₀, base, h₀, L, m, news, s, Q, E⟩, x, y, mo, d, hh, mi, ss, z) : PCheck_moment_ctc (⟨w, mean, mg, mb, dp, un, gd, cn, cs, a, ccd, cl, outer, A₀, base, h₀, L, m, news, s, Q, E⟩, x, y, mo, d, hh, mi, ss, z)) H hM hy hmo hd1 hh1 hmi hss hz ret
end
theorem reg_all12 : True := by
  k_with "call ref" => (((fail_if_success (fail_if_success (have qz9 : Mk 5 := by with_reducible assumption))); (k_here; (with_reducible show wpAny _ _ (call (Value.ref 151) [_]) _ _ _); k_dflt (refine' check_moment_ctc (by first | (walk_at "my here") | fail) (by first | (first | assumption | exact ⟨_, _, _, _, _, _, _, _, _, _, _, _, _, _, _, _, _, _, _, _, _, _, _, by k_mem, by k_mem⟩) | fail) (by first | (first | assumption | omega) | fail) (by first | (first | assumption | omega) | fail) (by assumption) (by first | (first | assumption | omega) | fail) (by first | (first | assumption | omega) | fail) (by first | (first | assumption | omega) | fail) (by rfl) ?_; k_whole); intro qh9 qtk9 qF9 qN9; (try dsimp only); (try k_sweep); (try k_fold))))
  trivial
section
variable {w : World} {mean : ExcName → Option Value} {mg mb : Str → Option Value} {dp un : Nat} {gd : Option (List Code)} {cn : Str} {cs : Scope} {a : Addr} {ccd : Value} {cl : List (Str × Addr)} {outer : List Env} {A₀ : Around} {base h₀ : Heap} {L : Addr} {m : Str → Option Value} {news : List (Addr × Obj)} {s : Shared} {Q E : Value → Shared → Prop}
theorem dayTab_ok {n y mo d : Int} (h : (n, y, mo, d) ∈ dayTab) : (1 ≤ y ∧ y ≤ 9999) ∧ (1 ≤ mo ∧ mo ≤ 12) ∧ (1 ≤ d ∧ d ≤ mlen y mo) ∧ d ≤ 31 := by
  simp only [dayTab, List.mem_cons, Prod.mk.injEq, List.not_mem_nil, or_false] at h
  rcases h with ⟨rfl, rfl, rfl, rfl⟩ | ⟨rfl, rfl, rfl, rfl⟩ | ⟨rfl, rfl, rfl, rfl⟩ | ⟨rfl, rfl, rfl, rfl⟩ | ⟨rfl, rfl, rfl, rfl⟩ <;> decide
end
def PMoment_of_ctc (z9 : Cx × (Int) × (Int) × (Int) × (Int) × (Int) × (Int) × (Tok)) : Prop := (fun (w : World) (mean : ExcName → Option Value) (mg : Str → Option Value) (mb : Str → Option Value) (dp : Nat) (un : Nat) (gd : Option (List Code)) (cn : Str) (cs : Scope) (a : Addr) (ccd : Value) (cl : List (Str × Addr)) (outer : List Env) (A₀ : Around) (base : Heap) (h₀ : Heap) (L : Addr) (m : Str → Option Value) (news : List (Addr × Obj)) (s : Shared) (Q : Value → Shared → Prop) (E : Value → Shared → Prop) (inst : Int) (days : Int) (y : Int) (mo : Int) (d : Int) (sec : Int) (t : Tok) => ∀ (H : Here w mean mg mb 10 dp un cs outer A₀ base h₀ L m news s) (hy : (days, y, mo, d) ∈ dayTab) (h0 : 0 ≤ sec) (h1 : sec < 86400) (hi : inst = days * 86400 + sec) (ret : ∀ x nw h' tk', Fr h₀ L h' m → News h₀ L h' nw → (∀ p ∈ news, p ∈ nw) → MomIn nw x y mo d (sec / 3600) (sec / 60 % 60) (sec % 60) 0 → Q (.ref x) { s with heap := h', toks := tk' }), wpAny (model PG w) (ktrTop dp un gd cn cs L a ccd cl outer) (call (.ref 159) [.int inst t]) Q E s) (z9.1.w) (z9.1.mean) (z9.1.mg) (z9.1.mb) (z9.1.dp) (z9.1.un) (z9.1.gd) (z9.1.cn) (z9.1.cs) (z9.1.a) (z9.1.ccd) (z9.1.cl) (z9.1.outer) (z9.1.A₀) (z9.1.base) (z9.1.h₀) (z9.1.L) (z9.1.m) (z9.1.news) (z9.1.s) (z9.1.Q) (z9.1.E) (z9.2.1) (z9.2.2.1) (z9.2.2.2.1) (z9.2.2.2.2.1) (z9.2.2.2.2.2.1) (z9.2.2.2.2.2.2.1) (z9.2.2.2.2.2.2.2)
theorem moment_of_ctc_core : PMoment_of_ctc (hkm (⟨(cx0, default, default, default, default, default, default, default)⟩ : Nonempty (Cx × (Int) × (Int) × (Int) × (Int) × (Int) × (Int) × (Tok))) PMoment_of_ctc) := by
  generalize hkm _ _ = z9
  delta PMoment_of_ctc
  generalize z9.1.w = w, z9.1.mean = mean, z9.1.mg = mg, z9.1.mb = mb, z9.1.dp = dp, z9.1.un = un, z9.1.gd = gd, z9.1.cn = cn, z9.1.cs = cs, z9.1.a = a, z9.1.ccd = ccd, z9.1.cl = cl, z9.1.outer = outer, z9.1.A₀ = A₀, z9.1.base = base, z9.1.h₀ = h₀, z9.1.L = L, z9.1.m = m, z9.1.news = news, z9.1.s = s, z9.1.Q = Q, z9.1.E = E, z9.2.1 = inst, z9.2.2.1 = days, z9.2.2.2.1 = y, z9.2.2.2.2.1 = mo, z9.2.2.2.2.2.1 = d, z9.2.2.2.2.2.2.1 = sec, z9.2.2.2.2.2.2.2 = t
  clear z9
  intros H hy h0 h1 hi ret
  have qmk5 : Mk 5 := True.intro
  obtain ⟨b1, b2, b3, b4⟩ := dayTab_ok hy
  subst hi
  have e1 : (days * 86400 + sec + 0 * 60).fdiv 86400 = days := by rw [Int.fdiv_eq_ediv_of_nonneg _ (by decide)]; omega
  have e2 : (days * 86400 + sec + 0 * 60).fmod 86400 = sec := by rw [Int.fmod_eq_emod_of_nonneg _ (by decide)]; omega
  have e3 : sec.fdiv 3600 = sec / 3600 := Int.fdiv_eq_ediv_of_nonneg _ (by decide)
  have e4 : (sec.fdiv 60).fmod 60 = sec / 60 % 60 := by rw [Int.fdiv_eq_ediv_of_nonneg _ (by decide), Int.fmod_eq_emod_of_nonneg _ (by decide)]
  have e5 : sec.fmod 60 = sec % 60 := Int.fmod_eq_emod_of_nonneg _ (by decide)
  have f1 : 0 ≤ ((days * 86400 + sec + 0 * 60).fmod 86400).fdiv 3600 ∧ ((days * 86400 + sec + 0 * 60).fmod 86400).fdiv 3600 ≤ 23 := by rw [e2, e3]; omega
  have f2 : 0 ≤ (((days * 86400 + sec + 0 * 60).fmod 86400).fdiv 60).fmod 60 ∧ (((days * 86400 + sec + 0 * 60).fmod 86400).fdiv 60).fmod 60 ≤ 59 := by rw [e2, e4]; omega
  have f3 : 0 ≤ ((days * 86400 + sec + 0 * 60).fmod 86400).fmod 60 ∧ ((days * 86400 + sec + 0 * 60).fmod 86400).fmod 60 ≤ 60 := by rw [e2, e5]; omega
  have f4 : ∀ nw x, MomIn nw x y mo d (((days * 86400 + sec + 0 * 60).fmod 86400).fdiv 3600) ((((days * 86400 + sec + 0 * 60).fmod 86400).fdiv 60).fmod 60) (((days * 86400 + sec + 0 * 60).fmod 86400).fmod 60) 0 → MomIn nw x y mo d (sec / 3600) (sec / 60 % 60) (sec % 60) 0 := by
    intro nw x h; rwa [e2, e3, e4, e5] at h
  walk_at "my enter"
  k_steps
  exact ret _ _ _ _ (by assumption) (by assumption) (by walk_at "my sub") (f4 _ _ ⟨_, _, _, _, _, _, _, _, _, _, _, _, _, _, _, _, _, _, _, _, _, _, _, by k_mem, by k_mem⟩)
section
variable {w : World} {mean : ExcName → Option Value} {mg mb : Str → Option Value} {dp un : Nat} {gd : Option (List Code)} {cn : Str} {cs : Scope} {a : Addr} {ccd : Value} {cl : List (Str × Addr)} {outer : List Env} {A₀ : Around} {base h₀ : Heap} {L : Addr} {m : Str → Option Value} {news : List (Addr × Obj)} {s : Shared} {Q E : Value → Shared → Prop}
theorem moment_of_ctc (H : Here w mean mg mb 10 dp un cs outer A₀ base h₀ L m news s) {inst days y mo d sec : Int} {t : Tok} (hy : (days, y, mo, d) ∈ dayTab) (h0 : 0 ≤ sec) (h1 : sec < 86400) (hi : inst = days * 86400 + sec) (ret : ∀ x nw h' tk', Fr h₀ L h' m → News h₀ L h' nw → (∀ p ∈ news, p ∈ nw) → MomIn nw x y mo d (sec / 3600) (sec / 60 % 60) (sec % 60) 0 → Q (.ref x) { s with heap := h', toks := tk' }) :
   wpAny (model PG w) (ktrTop dp un gd cn cs L a ccd cl outer) (call (.ref 159) [.int inst t]) Q E s :=
  (hkf _ moment_of_ctc_core (⟨w, mean, mg, mb, dp, un, gd, cn, cs, a, ccd, cl, outer, A₀, base, h₀, L, m, news, s, Q, E⟩, inst, days, y, mo, d, sec, t) : PMoment_of_ctc (⟨w, mean, mg, mb, dp, un, gd, cn, cs, a, ccd, cl, outer, A₀, base, h₀, L, m, news, s, Q, E⟩, inst, days, y, mo, d, sec, t)) H hy h0 h1 hi ret
end
end
theorem reg_all13 : True := by
  k_with "call ref" => ((k_here; (with_reducible show wpAny _ _ (call (Value.ref 151) [_]) _ _ _); k_dflt (refine' check_moment_ctc (by first | (walk_at "my here") | fail) (by first | (first | assumption | exact ⟨_, _, _, _, _, _, _, _, _, _, _, _, _, _, _, _, _, _, _, _, _, _, _, by k_mem, by k_mem⟩) | fail) (by first | (first | assumption | omega) | fail) (by first | (first | assumption | omega) | fail) (by assumption) (by first | (first | assumption | omega) | fail) (by first | (first | assumption | omega) | fail) (by first | (first | assumption | omega) | fail) (by rfl) ?_; k_whole); intro qh9 qtk9 qF9 qN9; (try dsimp only); (try k_sweep); (try k_fold)))
  k_with "call ref" => ((k_here; (with_reducible show wpAny _ _ (call (Value.ref 159) [_]) _ _ _); k_dflt (refine' moment_of_ctc (by first | (walk_at "my here") | fail) (by assumption) (by assumption) (by assumption) (by rfl) ?_; k_whole); intro qx9 qnw9 qh9 qtk9 qF9 qN9 qS9 qM9; (try dsimp only); (try k_sweep); (try k_fold)))
  trivial
section
def PZone_ctc (z9 : Cx × (Tok)) : Prop := (fun (w : World) (mean : ExcName → Option Value) (mg : Str → Option Value) (mb : Str → Option Value) (dp : Nat) (un : Nat) (gd : Option (List Code)) (cn : Str) (cs : Scope) (a : Addr) (ccd : Value) (cl : List (Str × Addr)) (outer : List Env) (A₀ : Around) (base : Heap) (h₀ : Heap) (L : Addr) (m : Str → Option Value) (news : List (Addr × Obj)) (s : Shared) (Q : Value → Shared → Prop) (E : Value → Shared → Prop) (t : Tok) => ∀ (H : Here w mean mg mb 3 dp un cs outer A₀ base h₀ L m news s) (ret : ∀ t h' tk', Fr h₀ L h' m → News h₀ L h' news → Q (.str ⟨#[43, 48, 48, 48, 48]⟩ t) { s with heap := h', toks := tk' }), wpAny (model PG w) (ktrTop dp un gd cn cs L a ccd cl outer) (call (.ref 173) [.int 0 t]) Q E s) (z9.1.w) (z9.1.mean) (z9.1.mg) (z9.1.mb) (z9.1.dp) (z9.1.un) (z9.1.gd) (z9.1.cn) (z9.1.cs) (z9.1.a) (z9.1.ccd) (z9.1.cl) (z9.1.outer) (z9.1.A₀) (z9.1.base) (z9.1.h₀) (z9.1.L) (z9.1.m) (z9.1.news) (z9.1.s) (z9.1.Q) (z9.1.E) (z9.2)
theorem zone_ctc_core : PZone_ctc (hkm (⟨(cx0, default)⟩ : Nonempty (Cx × (Tok))) PZone_ctc) := by
  generalize hkm _ _ = z9
  delta PZone_ctc
  generalize z9.1.w = w, z9.1.mean = mean, z9.1.mg = mg, z9.1.mb = mb, z9.1.dp = dp, z9.1.un = un, z9.1.gd = gd, z9.1.cn = cn, z9.1.cs = cs, z9.1.a = a, z9.1.ccd = ccd, z9.1.cl = cl, z9.1.outer = outer, z9.1.A₀ = A₀, z9.1.base = base, z9.1.h₀ = h₀, z9.1.L = L, z9.1.m = m, z9.1.news = news, z9.1.s = s, z9.1.Q = Q, z9.1.E = E, z9.2 = t
  clear z9
  intros H ret
  walk_at "my enter"
  k_steps
  all_goals exact cb_retS ret (by decide +kernel) (by assumption) (by walk_at "my news")
section
variable {w : World} {mean : ExcName → Option Value} {mg mb : Str → Option Value} {dp un : Nat} {gd : Option (List Code)} {cn : Str} {cs : Scope} {a : Addr} {ccd : Value} {cl : List (Str × Addr)} {outer : List Env} {A₀ : Around} {base h₀ : Heap} {L : Addr} {m : Str → Option Value} {news : List (Addr × Obj)} {s : Shared} {Q E : Value → Shared → Prop}
theorem zone_ctc (H : Here w mean mg mb 3 dp un cs outer A₀ base h₀ L m news s) {t : Tok} (ret : ∀ t h' tk', Fr h₀ L h' m → News h₀ L h' news → Q (.str ⟨#[43, 48, 48, 48, 48]⟩ t) { s with heap := h', toks := tk' }) :
   wpAny (model PG w) (ktrTop dp un gd cn cs L a ccd cl outer) (call (.ref 173) [.int 0 t]) Q E s :=
  (hkf _ zone_ctc_core (⟨w, mean, mg, mb, dp, un, gd, cn, cs, a, ccd, cl, outer, A₀, base, h₀, L, m, news, s, Q, E⟩, t) : PZone_ctc (⟨w, mean, mg, mb, dp, un, gd, cn, cs, a, ccd, cl, outer, A₀, base, h₀, L, m, news, s, Q, E⟩, t)) H ret
end
theorem reg_all14 : True := by
  k_with "call ref" => ((with_reducible show wpAny _ _ (call (Value.ref 173) [_]) _ _ _); k_here; k_dflt (refine' zone_ctc (by first | (walk_at "my here") | fail) ?_; k_whole); intro qt9 qh9 qtk9 qF9 qN9; (try k_lt qM9); (try dsimp only); (try k_sweep); (try k_fold))
  trivial
section
variable {w : World} {mean : ExcName → Option Value} {mg mb : Str → Option Value} {dp un : Nat} {gd : Option (List Code)} {cn : Str} {cs : Scope} {a : Addr} {ccd : Value} {cl : List (Str × Addr)} {outer : List Env} {A₀ : Around} {base h₀ : Heap} {L : Addr} {m : Str → Option Value} {news : List (Addr × Obj)} {s : Shared} {Q E : Value → Shared → Prop}
def clockS (a b c : Nat) : Str := ⟨#[48 + a / 10, 48 + a % 10, 58, 48 + b / 10, 48 + b % 10, 58, 48 + c / 10, 48 + c % 10, 32, 43, 48, 48, 48, 48]⟩
theorem clock_eq (a b c : Nat) : Txt.join (Str.ofString ":") [twoS a, twoS b, twoS c] ++ Str.ofString " " ++ ⟨#[43, 48, 48, 48, 48]⟩ = clockS a b c := by
  have e1 : Str.ofString ":" = ⟨#[58]⟩ := by decide +kernel
  have e2 : Str.ofString " " = ⟨#[32]⟩ := by decide +kernel
  rw [e1, e2]
  rfl
end
def PClock_ctc (z9 : Cx × (Addr) × (Int) × (Int) × (Int) × (Int) × (Int) × (Int)) : Prop := (fun (w : World) (mean : ExcName → Option Value) (mg : Str → Option Value) (mb : Str → Option Value) (dp : Nat) (un : Nat) (gd : Option (List Code)) (cn : Str) (cs : Scope) (a : Addr) (ccd : Value) (cl : List (Str × Addr)) (outer : List Env) (A₀ : Around) (base : Heap) (h₀ : Heap) (L : Addr) (m : Str → Option Value) (news : List (Addr × Obj)) (s : Shared) (Q : Value → Shared → Prop) (E : Value → Shared → Prop) (x : Addr) (y : Int) (mo : Int) (d : Int) (hh : Int) (mi : Int) (ss : Int) => ∀ (H : Here w mean mg mb 6 dp un cs outer A₀ base h₀ L m news s) (hM : MomIn news x y mo d hh mi ss 0) (hh1 : 0 ≤ hh ∧ hh ≤ 23) (hmi : 0 ≤ mi ∧ mi ≤ 59) (hss : 0 ≤ ss ∧ ss ≤ 60) (ret : ∀ t h' tk', Fr h₀ L h' m → News h₀ L h' news → Q (.str (clockS hh.toNat mi.toNat ss.toNat) t) { s with heap := h', toks := tk' }), wpAny (model PG w) (ktrTop dp un gd cn cs L a ccd cl outer) (call (.ref 178) [.ref x]) Q E s) (z9.1.w) (z9.1.mean) (z9.1.mg) (z9.1.mb) (z9.1.dp) (z9.1.un) (z9.1.gd) (z9.1.cn) (z9.1.cs) (z9.1.a) (z9.1.ccd) (z9.1.cl) (z9.1.outer) (z9.1.A₀) (z9.1.base) (z9.1.h₀) (z9.1.L) (z9.1.m) (z9.1.news) (z9.1.s) (z9.1.Q) (z9.1.E) (z9.2.1) (z9.2.2.1) (z9.2.2.2.1) (z9.2.2.2.2.1) (z9.2.2.2.2.2.1) (z9.2.2.2.2.2.2.1) (z9.2.2.2.2.2.2.2)
theorem clock_ctc_core : PClock_ctc (hkm (⟨(cx0, default, default, default, default, default, default, default)⟩ : Nonempty (Cx × (Addr) × (Int) × (Int) × (Int) × (Int) × (Int) × (Int))) PClock_ctc) := by
  generalize hkm _ _ = z9
  delta PClock_ctc
  generalize z9.1.w = w, z9.1.mean = mean, z9.1.mg = mg, z9.1.mb = mb, z9.1.dp = dp, z9.1.un = un, z9.1.gd = gd, z9.1.cn = cn, z9.1.cs = cs, z9.1.a = a, z9.1.ccd = ccd, z9.1.cl = cl, z9.1.outer = outer, z9.1.A₀ = A₀, z9.1.base = base, z9.1.h₀ = h₀, z9.1.L = L, z9.1.m = m, z9.1.news = news, z9.1.s = s, z9.1.Q = Q, z9.1.E = E, z9.2.1 = x, z9.2.2.1 = y, z9.2.2.2.1 = mo, z9.2.2.2.2.1 = d, z9.2.2.2.2.2.1 = hh, z9.2.2.2.2.2.2.1 = mi, z9.2.2.2.2.2.2.2 = ss
  clear z9
  intros H hM hh1 hmi hss ret
  obtain ⟨dx, h1, h2, h3, h4, h5, h6, h7, k1, k2, k3, k4, k5, k6, k7, t1, t2, t3, t4, t5, t6, t7, n, m1, m2⟩ := hM
  walk_at "my enter"
  k_steps
  rename News _ _ _ _ => N1
  refine ⟨3, _, _, _, ?_, srcM_tup (its := #[.int hh t4, .int mi t5, .int ss t6]) rfl (by assumption) N1 (.inr ⟨_, List.mem_cons_self, rfl, _, rfl⟩), fun g => ?_⟩
  · rw [sizeLine_eq]; omega
  dsimp only
  let L3 : List Str := [twoS hh.toNat, twoS mi.toNat, twoS ss.toNat]
  refine rest_U (fun i ys nw => nw = _ ∧ StrsAre ys (L3.take i)) ⟨rfl, .nil⟩ ?_ ?_
  · rintro i v ys nw I oI C oC D m₂ h tk E' hi ⟨e, hys⟩ hv hC hx F9 N9 off ne
    subst e
    rcases i with _ | _ | _ | i
    · cases hv
      k_steps
      exact CompEnd.intro (by assumption) (by assumption) _ (fun _ hp => hp) off (.inr ⟨_, List.mem_cons_self, rfl, _, rfl⟩) ⟨rfl, strs_snoc hys⟩
    · cases hv
      k_steps
      exact CompEnd.intro (by assumption) (by assumption) _ (fun _ hp => hp) off (.inr ⟨_, List.mem_cons_self, rfl, _, rfl⟩) ⟨rfl, strs_snoc hys⟩
    · cases hv
      k_steps
      exact CompEnd.intro (by assumption) (by assumption) _ (fun _ hp => hp) off (.inr ⟨_, List.mem_cons_self, rfl, _, rfl⟩) ⟨rfl, strs_snoc hys⟩
    · omega
  · rintro ys nw ⟨rfl, hys⟩
    have jo : (L3.map (·.length)).sum + L3.length * (Str.ofString ":").length ≤ 16777216 := by
      have e3 : (Str.ofString ":").length = 1 := by decide +kernel
      rw [e3]; show 2 + (2 + (2 + 0)) + 3 * 1 ≤ _; omega
    have hys' : StrsAre ys L3 := hys
    k_steps
    exact cb_retS ret (clock_eq _ _ _) (by assumption) (by walk_at "my news")
section
variable {w : World} {mean : ExcName → Option Value} {mg mb : Str → Option Value} {dp un : Nat} {gd : Option (List Code)} {cn : Str} {cs : Scope} {a : Addr} {ccd : Value} {cl : List (Str × Addr)} {outer : List Env} {A₀ : Around} {base h₀ : Heap} {L : Addr} {m : Str → Option Value} {news : List (Addr × Obj)} {s : Shared} {Q E : Value → Shared → Prop}
theorem clock_ctc (H : Here w mean mg mb 6 dp un cs outer A₀ base h₀ L m news s) {x : Addr} {y mo d hh mi ss : Int} (hM : MomIn news x y mo d hh mi ss 0) (hh1 : 0 ≤ hh ∧ hh ≤ 23) (hmi : 0 ≤ mi ∧ mi ≤ 59) (hss : 0 ≤ ss ∧ ss ≤ 60) (ret : ∀ t h' tk', Fr h₀ L h' m → News h₀ L h' news → Q (.str (clockS hh.toNat mi.toNat ss.toNat) t) { s with heap := h', toks := tk' }) :
   wpAny (model PG w) (ktrTop dp un gd cn cs L a ccd cl outer) (call (.ref 178) [.ref x]) Q E s :=
  (hkf _ clock_ctc_core (⟨w, mean, mg, mb, dp, un, gd, cn, cs, a, ccd, cl, outer, A₀, base, h₀, L, m, news, s, Q, E⟩, x, y, mo, d, hh, mi, ss) : PClock_ctc (⟨w, mean, mg, mb, dp, un, gd, cn, cs, a, ccd, cl, outer, A₀, base, h₀, L, m, news, s, Q, E⟩, x, y, mo, d, hh, mi, ss)) H hM hh1 hmi hss ret
end
theorem reg_all15 : True := by
  k_with "call ref" => ((with_reducible show wpAny _ _ (call (Value.ref 178) [_]) _ _ _); k_here; k_dflt (refine' clock_ctc (by first | (walk_at "my here") | fail) (by assumption) (by first | ((first |assumption|omega)) | fail) (by first | ((first |assumption|omega)) | fail) (by first | ((first |assumption|omega)) | fail) ?_; k_whole); intro qt9 qh9 qtk9 qF9 qN9; (try k_lt qM9); (try dsimp only); (try k_sweep); (try k_fold))
  trivial
section
variable {w : World} {mean : ExcName → Option Value} {mg mb : Str → Option Value} {dp un : Nat} {gd : Option (List Code)} {cn : Str} {cs : Scope} {a : Addr} {ccd : Value} {cl : List (Str × Addr)} {outer : List Env} {A₀ : Around} {base h₀ : Heap} {L : Addr} {m : Str → Option Value} {news : List (Addr × Obj)} {s : Shared} {Q E : Value → Shared → Prop}
def dayStrs : List (Int × Str) := [(0, ⟨#[32, 49, 45, 74, 97, 110, 45, 49, 57, 55, 48]⟩), (9694, ⟨#[49, 55, 45, 74, 117, 108, 45, 49, 57, 57, 54]⟩), (10957, ⟨#[32, 49, 45, 74, 97, 110, 45, 50, 48, 48, 48]⟩), (11016, ⟨#[50, 57, 45, 70, 101, 98, 45, 50, 48, 48, 48]⟩), (-1, ⟨#[51, 49, 45, 68, 101, 99, 45, 49, 57, 54, 57]⟩)]
end
def PDay_text_ctc (z9 : Cx × (Int) × (Int) × (Int) × (Int) × (Tok) × (Tok) × (Tok)) : Prop := (fun (w : World) (mean : ExcName → Option Value) (mg : Str → Option Value) (mb : Str → Option Value) (dp : Nat) (un : Nat) (gd : Option (List Code)) (cn : Str) (cs : Scope) (a : Addr) (ccd : Value) (cl : List (Str × Addr)) (outer : List Env) (A₀ : Around) (base : Heap) (h₀ : Heap) (L : Addr) (m : Str → Option Value) (news : List (Addr × Obj)) (s : Shared) (Q : Value → Shared → Prop) (E : Value → Shared → Prop) (n : Int) (y : Int) (mo : Int) (d : Int) (t : Tok) (u : Tok) (v : Tok) => ∀ (H : Here w mean mg mb 3 dp un cs outer A₀ base h₀ L m news s) (hy : (n, y, mo, d) ∈ dayTab) (ret : ∀ r t h' tk', Fr h₀ L h' m → News h₀ L h' news → r.length ≤ 11 → (n, Txt.mul (Str.ofString " ") (11 - (r.length : Int)) ++ r) ∈ dayStrs → Q (.str r t) { s with heap := h', toks := tk' }), wpAny (model PG w) (ktrTop dp un gd cn cs L a ccd cl outer) (call (.ref 185) [.int y t, .int mo u, .int d v]) Q E s) (z9.1.w) (z9.1.mean) (z9.1.mg) (z9.1.mb) (z9.1.dp) (z9.1.un) (z9.1.gd) (z9.1.cn) (z9.1.cs) (z9.1.a) (z9.1.ccd) (z9.1.cl) (z9.1.outer) (z9.1.A₀) (z9.1.base) (z9.1.h₀) (z9.1.L) (z9.1.m) (z9.1.news) (z9.1.s) (z9.1.Q) (z9.1.E) (z9.2.1) (z9.2.2.1) (z9.2.2.2.1) (z9.2.2.2.2.1) (z9.2.2.2.2.2.1) (z9.2.2.2.2.2.2.1) (z9.2.2.2.2.2.2.2)
theorem day_text_ctc_core : PDay_text_ctc (hkm (⟨(cx0, default, default, default, default, default, default, default)⟩ : Nonempty (Cx × (Int) × (Int) × (Int) × (Int) × (Tok) × (Tok) × (Tok))) PDay_text_ctc) := by
  generalize hkm _ _ = z9
  delta PDay_text_ctc
  generalize z9.1.w = w, z9.1.mean = mean, z9.1.mg = mg, z9.1.mb = mb, z9.1.dp = dp, z9.1.un = un, z9.1.gd = gd, z9.1.cn = cn, z9.1.cs = cs, z9.1.a = a, z9.1.ccd = ccd, z9.1.cl = cl, z9.1.outer = outer, z9.1.A₀ = A₀, z9.1.base = base, z9.1.h₀ = h₀, z9.1.L = L, z9.1.m = m, z9.1.news = news, z9.1.s = s, z9.1.Q = Q, z9.1.E = E, z9.2.1 = n, z9.2.2.1 = y, z9.2.2.2.1 = mo, z9.2.2.2.2.1 = d, z9.2.2.2.2.2.1 = t, z9.2.2.2.2.2.2.1 = u, z9.2.2.2.2.2.2.2 = v
  clear z9
  intros H hy ret
  simp only [dayTab, List.mem_cons, Prod.mk.injEq, List.not_mem_nil, or_false] at hy
  rcases hy with ⟨rfl, rfl, rfl, rfl⟩ | ⟨rfl, rfl, rfl, rfl⟩ | ⟨rfl, rfl, rfl, rfl⟩ | ⟨rfl, rfl, rfl, rfl⟩ | ⟨rfl, rfl, rfl, rfl⟩
  all_goals walk_at "my enter"
  all_goals k_steps
  all_goals exact ret _ _ _ _ (by assumption) (by walk_at "my news") (by decide +kernel) (by decide +kernel)
section
variable {w : World} {mean : ExcName → Option Value} {mg mb : Str → Option Value} {dp un : Nat} {gd : Option (List Code)} {cn : Str} {cs : Scope} {a : Addr} {ccd : Value} {cl : List (Str × Addr)} {outer : List Env} {A₀ : Around} {base h₀ : Heap} {L : Addr} {m : Str → Option Value} {news : List (Addr × Obj)} {s : Shared} {Q E : Value → Shared → Prop}
theorem day_text_ctc (H : Here w mean mg mb 3 dp un cs outer A₀ base h₀ L m news s) {n y mo d : Int} {t u v : Tok} (hy : (n, y, mo, d) ∈ dayTab) (ret : ∀ r t h' tk', Fr h₀ L h' m → News h₀ L h' news → r.length ≤ 11 → (n, Txt.mul (Str.ofString " ") (11 - (r.length : Int)) ++ r) ∈ dayStrs → Q (.str r t) { s with heap := h', toks := tk' }) :
   wpAny (model PG w) (ktrTop dp un gd cn cs L a ccd cl outer) (call (.ref 185) [.int y t, .int mo u, .int d v]) Q E s :=
  (hkf _ day_text_ctc_core (⟨w, mean, mg, mb, dp, un, gd, cn, cs, a, ccd, cl, outer, A₀, base, h₀, L, m, news, s, Q, E⟩, n, y, mo, d, t, u, v) : PDay_text_ctc (⟨w, mean, mg, mb, dp, un, gd, cn, cs, a, ccd, cl, outer, A₀, base, h₀, L, m, news, s, Q, E⟩, n, y, mo, d, t, u, v)) H hy ret
end
theorem reg_all16 : True := by
  k_with "call ref" => ((with_reducible show wpAny _ _ (call (Value.ref 185) [_, _, _]) _ _ _); k_here; k_dflt (refine' day_text_ctc (by first | (walk_at "my here") | fail) (by assumption) ?_; k_whole); intro qr9 qt9 qh9 qtk9 qF9 qN9 qL9 qM9; (try k_lt qM9); (try dsimp only); (try k_sweep); (try k_fold))
  trivial
end
section
def PWrite_internal_ctc (z9 : Cx × (Addr) × (Int) × (Int) × (Int) × (Int) × (Int) × (Int) × (Int)) : Prop := (fun (w : World) (mean : ExcName → Option Value) (mg : Str → Option Value) (mb : Str → Option Value) (dp : Nat) (un : Nat) (gd : Option (List Code)) (cn : Str) (cs : Scope) (a : Addr) (ccd : Value) (cl : List (Str × Addr)) (outer : List Env) (A₀ : Around) (base : Heap) (h₀ : Heap) (L : Addr) (m : Str → Option Value) (news : List (Addr × Obj)) (s : Shared) (Q : Value → Shared → Prop) (E : Value → Shared → Prop) (x : Addr) (n : Int) (y : Int) (mo : Int) (d : Int) (hh : Int) (mi : Int) (ss : Int) => ∀ (H : Here w mean mg mb 10 dp un cs outer A₀ base h₀ L m news s) (hM : MomIn news x y mo d hh mi ss 0) (hy : (n, y, mo, d) ∈ dayTab) (hh1 : 0 ≤ hh ∧ hh ≤ 23) (hmi : 0 ≤ mi ∧ mi ≤ 59) (hss : 0 ≤ ss ∧ ss ≤ 60) (ret : ∀ r t h' tk', Fr h₀ L h' m → News h₀ L h' news → (n, r) ∈ dayStrs → Q (.str (r ++ ⟨#[32]⟩ ++ clockS hh.toNat mi.toNat ss.toNat) t) { s with heap := h', toks := tk' }), wpAny (model PG w) (ktrTop dp un gd cn cs L a ccd cl outer) (call (.ref 192) [.ref x]) Q E s) (z9.1.w) (z9.1.mean) (z9.1.mg) (z9.1.mb) (z9.1.dp) (z9.1.un) (z9.1.gd) (z9.1.cn) (z9.1.cs) (z9.1.a) (z9.1.ccd) (z9.1.cl) (z9.1.outer) (z9.1.A₀) (z9.1.base) (z9.1.h₀) (z9.1.L) (z9.1.m) (z9.1.news) (z9.1.s) (z9.1.Q) (z9.1.E) (z9.2.1) (z9.2.2.1) (z9.2.2.2.1) (z9.2.2.2.2.1) (z9.2.2.2.2.2.1) (z9.2.2.2.2.2.2.1) (z9.2.2.2.2.2.2.2.1) (z9.2.2.2.2.2.2.2.2)
theorem write_internal_ctc_core : PWrite_internal_ctc (hkm (⟨(cx0, default, default, default, default, default, default, default, default)⟩ : Nonempty (Cx × (Addr) × (Int) × (Int) × (Int) × (Int) × (Int) × (Int) × (Int))) PWrite_internal_ctc) := by
  generalize hkm _ _ = z9
  delta PWrite_internal_ctc
  generalize z9.1.w = w, z9.1.mean = mean, z9.1.mg = mg, z9.1.mb = mb, z9.1.dp = dp, z9.1.un = un, z9.1.gd = gd, z9.1.cn = cn, z9.1.cs = cs, z9.1.a = a, z9.1.ccd = ccd, z9.1.cl = cl, z9.1.outer = outer, z9.1.A₀ = A₀, z9.1.base = base, z9.1.h₀ = h₀, z9.1.L = L, z9.1.m = m, z9.1.news = news, z9.1.s = s, z9.1.Q = Q, z9.1.E = E, z9.2.1 = x, z9.2.2.1 = n, z9.2.2.2.1 = y, z9.2.2.2.2.1 = mo, z9.2.2.2.2.2.1 = d, z9.2.2.2.2.2.2.1 = hh, z9.2.2.2.2.2.2.2.1 = mi, z9.2.2.2.2.2.2.2.2 = ss
  clear z9
  intros H hM hy hh1 hmi hss ret
  obtain ⟨b1, b2, b3, b4⟩ := dayTab_ok hy
  have hM2 := hM
  obtain ⟨dx, h1, h2, h3, h4, h5, h6, h7, k1, k2, k3, k4, k5, k6, k7, t1, t2, t3, t4, t5, t6, t7, n1, m1, m2⟩ := hM2
  have hcl : (clockS hh.toNat mi.toNat ss.toNat).length = 14 := by simp [clockS, Str.length]
  walk_at "my enter"
  k_steps
  refine cb_retS (fun t h' tk' a b => ret _ t h' tk' a b (by assumption)) ?_ (by assumption) (by walk_at "my news")
  rw [show Str.ofString " " = ⟨#[32]⟩ from by decide +kernel]
section
variable {w : World} {mean : ExcName → Option Value} {mg mb : Str → Option Value} {dp un : Nat} {gd : Option (List Code)} {cn : Str} {cs : Scope} {a : Addr} {ccd : Value} {cl : List (Str × Addr)} {outer : List Env} {A₀ : Around} {base h₀ : Heap} {L : Addr} {m : Str → Option Value} {news : List (Addr × Obj)} {s : Shared} {Q E : Value → Shared → Prop}
theorem write_internal_ctc (H : Here w mean mg mb 10 dp un cs outer A₀ base h₀ L m news s) {x : Addr} {n y mo d hh mi ss : Int} (hM : MomIn news x y mo d hh mi ss 0) (hy : (n, y, mo, d) ∈ dayTab) (hh1 : 0 ≤ hh ∧ hh ≤ 23) (hmi : 0 ≤ mi ∧ mi ≤ 59) (hss : 0 ≤ ss ∧ ss ≤ 60) (ret : ∀ r t h' tk', Fr h₀ L h' m → News h₀ L h' news → (n, r) ∈ dayStrs → Q (.str (r ++ ⟨#[32]⟩ ++ clockS hh.toNat mi.toNat ss.toNat) t) { s with heap := h', toks := tk' }) :
   wpAny (model PG w) (ktrTop dp un gd cn cs L a ccd cl outer) (call (.ref 192) [.ref x]) Q E s :=
  (hkf _ write_internal_ctc_core (⟨w, mean, mg, mb, dp, un, gd, cn, cs, a, ccd, cl, outer, A₀, base, h₀, L, m, news, s, Q, E⟩, x, n, y, mo, d, hh, mi, ss) : PWrite_internal_ctc (⟨w, mean, mg, mb, dp, un, gd, cn, cs, a, ccd, cl, outer, A₀, base, h₀, L, m, news, s, Q, E⟩, x, n, y, mo, d, hh, mi, ss)) H hM hy hh1 hmi hss ret
end
theorem reg_all17 : True := by
  k_with "call ref" => ((with_reducible show wpAny _ _ (call (Value.ref 192) [_]) _ _ _); k_here; k_dflt (refine' write_internal_ctc (by first | (walk_at "my here") | fail) (by assumption) (by assumption) (by first | ((first |assumption|omega)) | fail) (by first | ((first |assumption|omega)) | fail) (by first | ((first |assumption|omega)) | fail) ?_; k_whole); intro qr9 qt9 qh9 qtk9 qF9 qN9 qM9; (try k_lt qM9); (try dsimp only); (try k_sweep); (try k_fold))
  trivial
section
variable {w : World} {mean : ExcName → Option Value} {mg mb : Str → Option Value} {dp un : Nat} {gd : Option (List Code)} {cn : Str} {cs : Scope} {a : Addr} {ccd : Value} {cl : List (Str × Addr)} {outer : List Env} {A₀ : Around} {base h₀ : Heap} {L : Addr} {m : Str → Option Value} {news : List (Addr × Obj)} {s : Shared} {Q E : Value → Shared → Prop}
def octs (x : Str) : Array UInt8 := (x.cps.toList.map fun c => c.toUInt8).toArray
theorem octs_eq (x : Str) : ((x.cps.toList.map fun c : Nat => (c : Int)).map fun n => n.toNat.toUInt8).toArray = octs x := by
  unfold octs
  simp
end
section
theorem reg_all18 : True := by
  k_with "pyIter ref" => (((fail_if_success (fail_if_success (have qz9 : Mk 8 := by with_reducible assumption))); (refine Stop.out ?_)))
  trivial
def POctets_ctc (z9 : Cx × (Str) × (Tok)) : Prop := (fun (w : World) (mean : ExcName → Option Value) (mg : Str → Option Value) (mb : Str → Option Value) (dp : Nat) (un : Nat) (gd : Option (List Code)) (cn : Str) (cs : Scope) (a : Addr) (ccd : Value) (cl : List (Str × Addr)) (outer : List Env) (A₀ : Around) (base : Heap) (h₀ : Heap) (L : Addr) (m : Str → Option Value) (news : List (Addr × Obj)) (s : Shared) (Q : Value → Shared → Prop) (E : Value → Shared → Prop) (x : Str) (t : Tok) => ∀ (H : Here w mean mg mb 3 dp un cs outer A₀ base h₀ L m news s) (hx : x.length < 100) (hA : Asc x) (ret : ∀ t h' tk', Fr h₀ L h' m → News h₀ L h' news → Q (.bytes (octs x) t) { s with heap := h', toks := tk' }), wpAny (model PG w) (ktrTop dp un gd cn cs L a ccd cl outer) (call (.ref 209) [.str x t]) Q E s) (z9.1.w) (z9.1.mean) (z9.1.mg) (z9.1.mb) (z9.1.dp) (z9.1.un) (z9.1.gd) (z9.1.cn) (z9.1.cs) (z9.1.a) (z9.1.ccd) (z9.1.cl) (z9.1.outer) (z9.1.A₀) (z9.1.base) (z9.1.h₀) (z9.1.L) (z9.1.m) (z9.1.news) (z9.1.s) (z9.1.Q) (z9.1.E) (z9.2.1) (z9.2.2)
theorem octets_ctc_core : POctets_ctc (hkm (⟨(cx0, default, default)⟩ : Nonempty (Cx × (Str) × (Tok))) POctets_ctc) := by
  generalize hkm _ _ = z9
  delta POctets_ctc
  generalize z9.1.w = w, z9.1.mean = mean, z9.1.mg = mg, z9.1.mb = mb, z9.1.dp = dp, z9.1.un = un, z9.1.gd = gd, z9.1.cn = cn, z9.1.cs = cs, z9.1.a = a, z9.1.ccd = ccd, z9.1.cl = cl, z9.1.outer = outer, z9.1.A₀ = A₀, z9.1.base = base, z9.1.h₀ = h₀, z9.1.L = L, z9.1.m = m, z9.1.news = news, z9.1.s = s, z9.1.Q = Q, z9.1.E = E, z9.2.1 = x, z9.2.2 = t
  clear z9
  intros H hx hA ret
  have qmk8 : Mk 8 := True.intro
  have hx' : x.length ≤ 100 := by omega
  walk_at "my enter"
  k_steps
  refine loop_rng (n := x.length) rfl (by assumption) (small_one (by decide) (by decide) (by omega) (by omega)) (rangeSize_nat 0 x.length) (by assumption) (by assumption) ?_ ?_
  · intro i t1 oI I h1 tk1 hi F1 N1 off
    obtain ⟨c, hc⟩ : ∃ c, x.cps[i]? = some c := ⟨_, Array.getElem?_eq_getElem hi⟩
    have hc1 : c < 128 := hA c (by rw [← Array.getElem?_toList] at hc; exact List.mem_of_getElem? hc)
    rw [Int.zero_add] at F1
    have hq : (Txt.item x (i : Int)).cps.getD 0 0 = c := by rw [item_of hc]; rfl
    k_steps
    all_goals first | (exfalso; omega) | walk_at "my next"
  · intro u h1 tk1 F1 N1
    k_steps
    refine ⟨x.cps.size, _, _, _, ?_, srcM_str rfl (by assumption) (by assumption), fun g => ?_⟩
    · rw [sizeLine_eq]; show x.length ≤ _; omega
    dsimp only
    refine rest_U (fun i ys nw => nw = news ∧ IntsAre ys (((x.cps.toList.take i).map fun c : Nat => (c : Int)))) ⟨rfl, .nil⟩ ?_ ?_
    · rintro i v ys nw I oI C oC D m₂ h tk E' hi ⟨e, hys⟩ ⟨c, u, hc, rfl⟩ hC hx F9 N9 off ne
      subst e
      k_steps
      refine CompEnd.intro (by assumption) (by assumption) _ (fun _ hp => hp) off True.intro ⟨rfl, ?_⟩
      rw [List.take_add_one, Array.getElem?_toList, hc]
      simpa using ints_snoc hys
    · rintro ys nw ⟨rfl, hys⟩
      rw [show x.cps.toList.take x.cps.size = x.cps.toList from by rw [← Array.length_toList]; exact List.take_length] at hys
      k_steps
      refine bytes_K (by assumption) (by assumption) (News.isList (by assumption) (by k_mem)) hys ?_ ?_ rfl ?_
      · intro n hn
        obtain ⟨c, hc, rfl⟩ := List.mem_map.mp hn
        have := hA c hc
        omega
      · rw [hys.length, List.length_map, sizeLine_eq]; show x.length ≤ _; omega
      · intro h9 t9 k9 F9 N9 _
        rw [octs_eq]
        k_steps
        exact ret _ _ _ (by assumption) (by walk_at "my news")
section
variable {w : World} {mean : ExcName → Option Value} {mg mb : Str → Option Value} {dp un : Nat} {gd : Option (List Code)} {cn : Str} {cs : Scope} {a : Addr} {ccd : Value} {cl : List (Str × Addr)} {outer : List Env} {A₀ : Around} {base h₀ : Heap} {L : Addr} {m : Str → Option Value} {news : List (Addr × Obj)} {s : Shared} {Q E : Value → Shared → Prop}
theorem octets_ctc (H : Here w mean mg mb 3 dp un cs outer A₀ base h₀ L m news s) {x : Str} {t : Tok} (hx : x.length < 100) (hA : Asc x) (ret : ∀ t h' tk', Fr h₀ L h' m → News h₀ L h' news → Q (.bytes (octs x) t) { s with heap := h', toks := tk' }) :
   wpAny (model PG w) (ktrTop dp un gd cn cs L a ccd cl outer) (call (.ref 209) [.str x t]) Q E s :=
  (hkf _ octets_ctc_core (⟨w, mean, mg, mb, dp, un, gd, cn, cs, a, ccd, cl, outer, A₀, base, h₀, L, m, news, s, Q, E⟩, x, t) : POctets_ctc (⟨w, mean, mg, mb, dp, un, gd, cn, cs, a, ccd, cl, outer, A₀, base, h₀, L, m, news, s, Q, E⟩, x, t)) H hx hA ret
end
end
theorem reg_all19 : True := by
  k_with "call ref" => ((with_reducible show wpAny _ _ (call (Value.ref 209) [_]) _ _ _); k_here; k_dflt (refine' octets_ctc (by first | (walk_at "my here") | fail) (by first | ((first |assumption|omega)) | fail) (by assumption) ?_; k_whole); intro qt9 qh9 qtk9 qF9 qN9; (try k_lt qM9); (try dsimp only); (try k_sweep); (try k_fold))
  trivial
end
section
def PLine_at_ctc (z9 : Cx × (Array UInt8) × (Int) × (Int) × (Nat) × (Tok) × (Tok) × (Tok)) : Prop := (fun (w : World) (mean : ExcName → Option Value) (mg : Str → Option Value) (mb : Str → Option Value) (dp : Nat) (un : Nat) (gd : Option (List Code)) (cn : Str) (cs : Scope) (a : Addr) (ccd : Value) (cl : List (Str × Addr)) (outer : List Env) (A₀ : Around) (base : Heap) (h₀ : Heap) (L : Addr) (m : Str → Option Value) (news : List (Addr × Obj)) (s : Shared) (Q : Value → Shared → Prop) (E : Value → Shared → Prop) (d : Array UInt8) (i : Int) (e : Int) (k : Nat) (t : Tok) (u : Tok) (v : Tok) => ∀ (H : Here w mean mg mb 3 dp un cs outer A₀ base h₀ L m news s) (hz : d.size ≤ 1000) (hf : FindAt d 10 i e k) (h13 : ByteAt d ((k : Int) - 1) 13) (hk : i < (k : Int)) (ret : ∀ tup t1 t2 h' tk', Fr h₀ L h' m → News h₀ L h' ((tup, tupO [.int ((k : Int) - 1) t1, .int ((k : Int) + 1) t2]) :: news) → (∀ p ∈ news, p.1 < tup) → Q (.ref tup) { s with heap := h', toks := tk' }), wpAny (model PG w) (ktrTop dp un gd cn cs L a ccd cl outer) (call (.ref 250) [.bytes d t, .int i u, .int e v]) Q E s) (z9.1.w) (z9.1.mean) (z9.1.mg) (z9.1.mb) (z9.1.dp) (z9.1.un) (z9.1.gd) (z9.1.cn) (z9.1.cs) (z9.1.a) (z9.1.ccd) (z9.1.cl) (z9.1.outer) (z9.1.A₀) (z9.1.base) (z9.1.h₀) (z9.1.L) (z9.1.m) (z9.1.news) (z9.1.s) (z9.1.Q) (z9.1.E) (z9.2.1) (z9.2.2.1) (z9.2.2.2.1) (z9.2.2.2.2.1) (z9.2.2.2.2.2.1) (z9.2.2.2.2.2.2.1) (z9.2.2.2.2.2.2.2)
theorem line_at_ctc_core : PLine_at_ctc (hkm (⟨(cx0, default, default, default, default, default, default, default)⟩ : Nonempty (Cx × (Array UInt8) × (Int) × (Int) × (Nat) × (Tok) × (Tok) × (Tok))) PLine_at_ctc) := by
  generalize hkm _ _ = z9
  delta PLine_at_ctc
  generalize z9.1.w = w, z9.1.mean = mean, z9.1.mg = mg, z9.1.mb = mb, z9.1.dp = dp, z9.1.un = un, z9.1.gd = gd, z9.1.cn = cn, z9.1.cs = cs, z9.1.a = a, z9.1.ccd = ccd, z9.1.cl = cl, z9.1.outer = outer, z9.1.A₀ = A₀, z9.1.base = base, z9.1.h₀ = h₀, z9.1.L = L, z9.1.m = m, z9.1.news = news, z9.1.s = s, z9.1.Q = Q, z9.1.E = E, z9.2.1 = d, z9.2.2.1 = i, z9.2.2.2.1 = e, z9.2.2.2.2.1 = k, z9.2.2.2.2.2.1 = t, z9.2.2.2.2.2.2.1 = u, z9.2.2.2.2.2.2.2 = v
  clear z9
  intros H hz hf h13 hk ret
  have hk0 : 0 ≤ i := hf.1
  walk_at "my enter"
  k_steps
  all_goals exact ret _ _ _ _ _ (by assumption) (by assumption) (by assumption)
section
variable {w : World} {mean : ExcName → Option Value} {mg mb : Str → Option Value} {dp un : Nat} {gd : Option (List Code)} {cn : Str} {cs : Scope} {a : Addr} {ccd : Value} {cl : List (Str × Addr)} {outer : List Env} {A₀ : Around} {base h₀ : Heap} {L : Addr} {m : Str → Option Value} {news : List (Addr × Obj)} {s : Shared} {Q E : Value → Shared → Prop}
theorem line_at_ctc (H : Here w mean mg mb 3 dp un cs outer A₀ base h₀ L m news s) {d : Array UInt8} {i e : Int} {k : Nat} {t u v : Tok} (hz : d.size ≤ 1000) (hf : FindAt d 10 i e k) (h13 : ByteAt d ((k : Int) - 1) 13) (hk : i < (k : Int)) (ret : ∀ tup t1 t2 h' tk', Fr h₀ L h' m → News h₀ L h' ((tup, tupO [.int ((k : Int) - 1) t1, .int ((k : Int) + 1) t2]) :: news) → (∀ p ∈ news, p.1 < tup) → Q (.ref tup) { s with heap := h', toks := tk' }) :
   wpAny (model PG w) (ktrTop dp un gd cn cs L a ccd cl outer) (call (.ref 250) [.bytes d t, .int i u, .int e v]) Q E s :=
  (hkf _ line_at_ctc_core (⟨w, mean, mg, mb, dp, un, gd, cn, cs, a, ccd, cl, outer, A₀, base, h₀, L, m, news, s, Q, E⟩, d, i, e, k, t, u, v) : PLine_at_ctc (⟨w, mean, mg, mb, dp, un, gd, cn, cs, a, ccd, cl, outer, A₀, base, h₀, L, m, news, s, Q, E⟩, d, i, e, k, t, u, v)) H hz hf h13 hk ret
end
theorem reg_all20 : True := by
  k_with "call ref" => ((with_reducible show wpAny _ _ (call (Value.ref 250) [_, _, _]) _ _ _); k_here; k_dflt (refine' line_at_ctc (by first | (walk_at "my here") | fail) (by assumption) (by assumption) (by assumption) (by first | ((first |assumption|omega)) | fail) ?_; k_whole); intro qtup9 qt9 qu9 qh9 qtk9 qF9 qN9 qM9; (try k_lt qM9); (try dsimp only); (try k_sweep); (try k_fold))
  trivial
section
theorem reg_all21 : True := by
  k_with "pyIter bytes" => (((fail_if_success (fail_if_success (have qz9 : Mk 10 := by with_reducible assumption))); (refine Stop.out ?_)))
  trivial
def PIs_name_ctc (z9 : Cx × (Array UInt8) × (Tok)) : Prop := (fun (w : World) (mean : ExcName → Option Value) (mg : Str → Option Value) (mb : Str → Option Value) (dp : Nat) (un : Nat) (gd : Option (List Code)) (cn : Str) (cs : Scope) (a : Addr) (ccd : Value) (cl : List (Str × Addr)) (outer : List Env) (A₀ : Around) (base : Heap) (h₀ : Heap) (L : Addr) (m : Str → Option Value) (news : List (Addr × Obj)) (s : Shared) (Q : Value → Shared → Prop) (E : Value → Shared → Prop) (d : Array UInt8) (t : Tok) => ∀ (H : Here w mean mg mb 3 dp un cs outer A₀ base h₀ L m news s) (hz : d.size ≤ 1000) (h0 : 0 < d.size) (hn : ∀ (i : Nat) (c : UInt8), d[i]? = some c → 33 ≤ c.toNat ∧ c.toNat ≤ 126 ∧ c.toNat ≠ 58) (ret : ∀ h' tk', Fr h₀ L h' m → News h₀ L h' news → Q (.bool true) { s with heap := h', toks := tk' }), wpAny (model PG w) (ktrTop dp un gd cn cs L a ccd cl outer) (call (.ref 257) [.bytes d t]) Q E s) (z9.1.w) (z9.1.mean) (z9.1.mg) (z9.1.mb) (z9.1.dp) (z9.1.un) (z9.1.gd) (z9.1.cn) (z9.1.cs) (z9.1.a) (z9.1.ccd) (z9.1.cl) (z9.1.outer) (z9.1.A₀) (z9.1.base) (z9.1.h₀) (z9.1.L) (z9.1.m) (z9.1.news) (z9.1.s) (z9.1.Q) (z9.1.E) (z9.2.1) (z9.2.2)
theorem is_name_ctc_core : PIs_name_ctc (hkm (⟨(cx0, default, default)⟩ : Nonempty (Cx × (Array UInt8) × (Tok))) PIs_name_ctc) := by
  generalize hkm _ _ = z9
  delta PIs_name_ctc
  generalize z9.1.w = w, z9.1.mean = mean, z9.1.mg = mg, z9.1.mb = mb, z9.1.dp = dp, z9.1.un = un, z9.1.gd = gd, z9.1.cn = cn, z9.1.cs = cs, z9.1.a = a, z9.1.ccd = ccd, z9.1.cl = cl, z9.1.outer = outer, z9.1.A₀ = A₀, z9.1.base = base, z9.1.h₀ = h₀, z9.1.L = L, z9.1.m = m, z9.1.news = news, z9.1.s = s, z9.1.Q = Q, z9.1.E = E, z9.2.1 = d, z9.2.2 = t
  clear z9
  intros H hz h0 hn ret
  have qmk10 : Mk 10 := True.intro
  walk_at "my enter"
  k_steps
  refine loop_bytes rfl (by assumption) (by assumption) ?_ ?_
  · intro i c t1 oI I h1 tk1 hc F1 N1 off
    have hq := hn i c hc
    k_steps
    all_goals first | (exfalso; omega) | walk_at "my next"
  · intro u h1 tk1 F1 N1
    k_steps
    exact cb_retB (fun _ => ret) (by simp; omega) (by assumption) (by walk_at "my news")
section
variable {w : World} {mean : ExcName → Option Value} {mg mb : Str → Option Value} {dp un : Nat} {gd : Option (List Code)} {cn : Str} {cs : Scope} {a : Addr} {ccd : Value} {cl : List (Str × Addr)} {outer : List Env} {A₀ : Around} {base h₀ : Heap} {L : Addr} {m : Str → Option Value} {news : List (Addr × Obj)} {s : Shared} {Q E : Value → Shared → Prop}
theorem is_name_ctc (H : Here w mean mg mb 3 dp un cs outer A₀ base h₀ L m news s) {d : Array UInt8} {t : Tok} (hz : d.size ≤ 1000) (h0 : 0 < d.size) (hn : ∀ (i : Nat) (c : UInt8), d[i]? = some c → 33 ≤ c.toNat ∧ c.toNat ≤ 126 ∧ c.toNat ≠ 58) (ret : ∀ h' tk', Fr h₀ L h' m → News h₀ L h' news → Q (.bool true) { s with heap := h', toks := tk' }) :
   wpAny (model PG w) (ktrTop dp un gd cn cs L a ccd cl outer) (call (.ref 257) [.bytes d t]) Q E s :=
  (hkf _ is_name_ctc_core (⟨w, mean, mg, mb, dp, un, gd, cn, cs, a, ccd, cl, outer, A₀, base, h₀, L, m, news, s, Q, E⟩, d, t) : PIs_name_ctc (⟨w, mean, mg, mb, dp, un, gd, cn, cs, a, ccd, cl, outer, A₀, base, h₀, L, m, news, s, Q, E⟩, d, t)) H hz h0 hn ret
end
end
theorem reg_all22 : True := by
  k_with "call ref" => ((with_reducible show wpAny _ _ (call (Value.ref 257) [_]) _ _ _); k_here; k_dflt (refine' is_name_ctc (by first | (walk_at "my here") | fail) (by assumption) (by assumption) (by assumption) ?_; k_whole); intro qh9 qtk9 qF9 qN9; (try k_lt qM9); (try dsimp only); (try k_sweep); (try k_fold))
  trivial
def PColon_in_ctc (z9 : Cx × (Array UInt8) × (Int) × (Int) × (Nat) × (Tok) × (Tok) × (Tok)) : Prop := (fun (w : World) (mean : ExcName → Option Value) (mg : Str → Option Value) (mb : Str → Option Value) (dp : Nat) (un : Nat) (gd : Option (List Code)) (cn : Str) (cs : Scope) (a : Addr) (ccd : Value) (cl : List (Str × Addr)) (outer : List Env) (A₀ : Around) (base : Heap) (h₀ : Heap) (L : Addr) (m : Str → Option Value) (news : List (Addr × Obj)) (s : Shared) (Q : Value → Shared → Prop) (E : Value → Shared → Prop) (d : Array UInt8) (i : Int) (e : Int) (k : Nat) (t : Tok) (u : Tok) (v : Tok) => ∀ (H : Here w mean mg mb 6 dp un cs outer A₀ base h₀ L m news s) (hz : d.size ≤ 1000) (hf : FindAt d 58 i e k) (hk : i < (k : Int)) (hn : ∀ j : Nat, i ≤ (j : Int) → j < k → ∀ c, d[j]? = some c → 33 ≤ c.toNat ∧ c.toNat ≤ 126 ∧ c.toNat ≠ 58) (ret : ∀ t h' tk', Fr h₀ L h' m → News h₀ L h' news → Q (.int k t) { s with heap := h', toks := tk' }), wpAny (model PG w) (ktrTop dp un gd cn cs L a ccd cl outer) (call (.ref 264) [.bytes d t, .int i u, .int e v]) Q E s) (z9.1.w) (z9.1.mean) (z9.1.mg) (z9.1.mb) (z9.1.dp) (z9.1.un) (z9.1.gd) (z9.1.cn) (z9.1.cs) (z9.1.a) (z9.1.ccd) (z9.1.cl) (z9.1.outer) (z9.1.A₀) (z9.1.base) (z9.1.h₀) (z9.1.L) (z9.1.m) (z9.1.news) (z9.1.s) (z9.1.Q) (z9.1.E) (z9.2.1) (z9.2.2.1) (z9.2.2.2.1) (z9.2.2.2.2.1) (z9.2.2.2.2.2.1) (z9.2.2.2.2.2.2.1) (z9.2.2.2.2.2.2.2)
theorem colon_in_ctc_core : PColon_in_ctc (hkm (⟨(cx0, default, default, default, default, default, default, default)⟩ : Nonempty (Cx × (Array UInt8) × (Int) × (Int) × (Nat) × (Tok) × (Tok) × (Tok))) PColon_in_ctc) := by
  generalize hkm _ _ = z9
  delta PColon_in_ctc
  generalize z9.1.w = w, z9.1.mean = mean, z9.1.mg = mg, z9.1.mb = mb, z9.1.dp = dp, z9.1.un = un, z9.1.gd = gd, z9.1.cn = cn, z9.1.cs = cs, z9.1.a = a, z9.1.ccd = ccd, z9.1.cl = cl, z9.1.outer = outer, z9.1.A₀ = A₀, z9.1.base = base, z9.1.h₀ = h₀, z9.1.L = L, z9.1.m = m, z9.1.news = news, z9.1.s = s, z9.1.Q = Q, z9.1.E = E, z9.2.1 = d, z9.2.2.1 = i, z9.2.2.2.1 = e, z9.2.2.2.2.1 = k, z9.2.2.2.2.2.1 = t, z9.2.2.2.2.2.2.1 = u, z9.2.2.2.2.2.2.2 = v
  clear z9
  intros H hz hf hk hn ret
  have hk0 : 0 ≤ i := hf.1
  have hb := hf.2.1
  have hz2 : (d.extract i.toNat (k : Int).toNat).size ≤ 1000 := by simp; omega
  have hz3 : 0 < (d.extract i.toNat (k : Int).toNat).size := by simp; omega
  have hn2 : ∀ (j : Nat) (c : UInt8), (d.extract i.toNat (k : Int).toNat)[j]? = some c → 33 ≤ c.toNat ∧ c.toNat ≤ 126 ∧ c.toNat ≠ 58 := by
    intro j c hc
    rw [Array.getElem?_extract] at hc
    split at hc
    · exact hn _ (by omega) (by omega) c hc
    · cases hc
  walk_at "my enter"
  k_steps
  exact ret _ _ _ (by assumption) (by walk_at "my news")
section
variable {w : World} {mean : ExcName → Option Value} {mg mb : Str → Option Value} {dp un : Nat} {gd : Option (List Code)} {cn : Str} {cs : Scope} {a : Addr} {ccd : Value} {cl : List (Str × Addr)} {outer : List Env} {A₀ : Around} {base h₀ : Heap} {L : Addr} {m : Str → Option Value} {news : List (Addr × Obj)} {s : Shared} {Q E : Value → Shared → Prop}
theorem colon_in_ctc (H : Here w mean mg mb 6 dp un cs outer A₀ base h₀ L m news s) {d : Array UInt8} {i e : Int} {k : Nat} {t u v : Tok} (hz : d.size ≤ 1000) (hf : FindAt d 58 i e k) (hk : i < (k : Int)) (hn : ∀ j : Nat, i ≤ (j : Int) → j < k → ∀ c, d[j]? = some c → 33 ≤ c.toNat ∧ c.toNat ≤ 126 ∧ c.toNat ≠ 58) (ret : ∀ t h' tk', Fr h₀ L h' m → News h₀ L h' news → Q (.int k t) { s with heap := h', toks := tk' }) :
   wpAny (model PG w) (ktrTop dp un gd cn cs L a ccd cl outer) (call (.ref 264) [.bytes d t, .int i u, .int e v]) Q E s :=
  (hkf _ colon_in_ctc_core (⟨w, mean, mg, mb, dp, un, gd, cn, cs, a, ccd, cl, outer, A₀, base, h₀, L, m, news, s, Q, E⟩, d, i, e, k, t, u, v) : PColon_in_ctc (⟨w, mean, mg, mb, dp, un, gd, cn, cs, a, ccd, cl, outer, A₀, base, h₀, L, m, news, s, Q, E⟩, d, i, e, k, t, u, v)) H hz hf hk hn ret
end
theorem reg_all23 : True := by
  k_with "call ref" => ((with_reducible show wpAny _ _ (call (Value.ref 264) [_, _, _]) _ _ _); k_here; k_dflt (refine' colon_in_ctc (by first | (walk_at "my here") | fail) (by assumption) (by assumption) (by first | ((first |assumption|omega)) | fail) (by assumption) ?_; k_whole); intro qt9 qh9 qtk9 qF9 qN9; (try k_lt qM9); (try dsimp only); (try k_sweep); (try k_fold))
  trivial
end
section
section
variable {w : World} {mean : ExcName → Option Value} {mg mb : Str → Option Value} {dp un : Nat} {gd : Option (List Code)} {cn : Str} {cs : Scope} {a : Addr} {ccd : Value} {cl : List (Str × Addr)} {outer : List Env} {A₀ : Around} {base h₀ : Heap} {L : Addr} {m : Str → Option Value} {news : List (Addr × Obj)} {s : Shared} {Q E : Value → Shared → Prop}
abbrev fldD (h1 h2 : Int) (k1 k2 : Tok) (v1 v2 : Value) (n : Nat) : Obj := dictOf [⟨h1, .str (Str.ofString "name") k1, v1⟩, ⟨h2, .str (Str.ofString "raw") k2, v2⟩] n
def FieldIn (nw : List (Addr × Obj)) (x : Addr) (name : Array UInt8) : Prop := ∃ raw dx h1 h2 k1 k2 t1 t2 n, (x, instObj 239 dx) ∈ nw ∧ (dx, fldD h1 h2 k1 k2 (.bytes name t1) (.bytes raw t2) n) ∈ nw
def bStr (b : Array UInt8) : Str := ⟨(b.toList.map fun c => c.toNat).toArray⟩
theorem join_sing (l : List Nat) : Txt.join (Str.ofString "") (l.map fun c => (⟨#[c]⟩ : Str)) = ⟨l.toArray⟩ := by
  refine str_ext ?_
  rw [join_empty]
  induction l with
  | nil => rfl
  | cons c r ih => simpa using ih
theorem sing_len (l : List Nat) : ((l.map fun c => (⟨#[c]⟩ : Str)).map (·.length)).sum + (l.map fun c => (⟨#[c]⟩ : Str)).length * (Str.ofString "").length = l.length := by
  have e3 : (Str.ofString "").length = 0 := by decide +kernel
  rw [e3]
  induction l with
  | nil => rfl
  | cons c r ih => simp only [List.map_cons, List.sum_cons, List.length_cons] at ih ⊢; show 1 + _ + _ = _; omega
end
def PWord_ctc (z9 : Cx × (Addr) × (Array UInt8)) : Prop := (fun (w : World) (mean : ExcName → Option Value) (mg : Str → Option Value) (mb : Str → Option Value) (dp : Nat) (un : Nat) (gd : Option (List Code)) (cn : Str) (cs : Scope) (a : Addr) (ccd : Value) (cl : List (Str × Addr)) (outer : List Env) (A₀ : Around) (base : Heap) (h₀ : Heap) (L : Addr) (m : Str → Option Value) (news : List (Addr × Obj)) (s : Shared) (Q : Value → Shared → Prop) (E : Value → Shared → Prop) (x : Addr) (b : Array UInt8) => ∀ (H : Here w mean mg mb 6 dp un cs outer A₀ base h₀ L m news s) (hF : FieldIn news x b) (hz : b.size < 100) (ha : ∀ c ∈ b.toList, c.toNat < 128) (ret : ∀ t h' tk', Fr h₀ L h' m → News h₀ L h' news → Q (.str (lowS (bStr b)) t) { s with heap := h', toks := tk' }), wpAny (model PG w) (ktrTop dp un gd cn cs L a ccd cl outer) (call (.ref 229) [.ref x]) Q E s) (z9.1.w) (z9.1.mean) (z9.1.mg) (z9.1.mb) (z9.1.dp) (z9.1.un) (z9.1.gd) (z9.1.cn) (z9.1.cs) (z9.1.a) (z9.1.ccd) (z9.1.cl) (z9.1.outer) (z9.1.A₀) (z9.1.base) (z9.1.h₀) (z9.1.L) (z9.1.m) (z9.1.news) (z9.1.s) (z9.1.Q) (z9.1.E) (z9.2.1) (z9.2.2)
theorem word_ctc_core : PWord_ctc (hkm (⟨(cx0, default, default)⟩ : Nonempty (Cx × (Addr) × (Array UInt8))) PWord_ctc) := by
  generalize hkm _ _ = z9
  delta PWord_ctc
  generalize z9.1.w = w, z9.1.mean = mean, z9.1.mg = mg, z9.1.mb = mb, z9.1.dp = dp, z9.1.un = un, z9.1.gd = gd, z9.1.cn = cn, z9.1.cs = cs, z9.1.a = a, z9.1.ccd = ccd, z9.1.cl = cl, z9.1.outer = outer, z9.1.A₀ = A₀, z9.1.base = base, z9.1.h₀ = h₀, z9.1.L = L, z9.1.m = m, z9.1.news = news, z9.1.s = s, z9.1.Q = Q, z9.1.E = E, z9.2.1 = x, z9.2.2 = b
  clear z9
  intros H hF hz ha ret
  obtain ⟨raw, dx, h1, h2, k1, k2, t1, t2, n, m1, m2⟩ := hF
  have hbz : (bStr b).cps.size < 1000 := by simp [bStr]; omega
  have hba : Asc (bStr b) := by
    intro c hc
    simp only [bStr, List.toList_toArray, List.mem_map] at hc
    obtain ⟨c', h, rfl⟩ := hc
    exact ha c' h
  walk_at "my enter"
  k_steps
  refine ⟨b.size, _, _, _, ?_, srcM_bytes rfl (by assumption) (by assumption), fun g => ?_⟩
  · rw [sizeLine_eq]; omega
  dsimp only
  refine rest_U (fun i ys nw => nw = news ∧ StrsAre ys (((b.toList.take i).map fun c => c.toNat).map fun c => (⟨#[c]⟩ : Str))) ⟨rfl, .nil⟩ ?_ ?_
  · rintro i v ys nw I oI C oC D m₂ h tk E' hi ⟨e, hys⟩ ⟨c, u, hc, rfl⟩ hC hx F9 N9 off ne
    subst e
    have hcb : c.toNat < 128 := ha c (by rw [← Array.getElem?_toList] at hc; exact List.mem_of_getElem? hc)
    k_steps
    refine CompEnd.intro (by assumption) (by assumption) _ (fun _ hp => hp) off True.intro ⟨rfl, ?_⟩
    rw [List.take_add_one, Array.getElem?_toList, hc]
    simpa using strs_snoc hys
  · rintro ys nw ⟨rfl, hys⟩
    rw [show b.toList.take b.size = b.toList from by rw [← Array.length_toList]; exact List.take_length] at hys
    have jo : (((b.toList.map fun c => c.toNat).map fun c => (⟨#[c]⟩ : Str)).map (·.length)).sum + ((b.toList.map fun c => c.toNat).map fun c => (⟨#[c]⟩ : Str)).length * (Str.ofString "").length ≤ 16777216 := by
      rw [sing_len]; simp; omega
    have je : Txt.join (Str.ofString "") ((b.toList.map fun c => c.toNat).map fun c => (⟨#[c]⟩ : Str)) = bStr b := join_sing _
    rw [← je] at hbz hba ret
    k_steps
    exact ret _ _ _ (by assumption) (by walk_at "my news")
section
variable {w : World} {mean : ExcName → Option Value} {mg mb : Str → Option Value} {dp un : Nat} {gd : Option (List Code)} {cn : Str} {cs : Scope} {a : Addr} {ccd : Value} {cl : List (Str × Addr)} {outer : List Env} {A₀ : Around} {base h₀ : Heap} {L : Addr} {m : Str → Option Value} {news : List (Addr × Obj)} {s : Shared} {Q E : Value → Shared → Prop}
theorem word_ctc (H : Here w mean mg mb 6 dp un cs outer A₀ base h₀ L m news s) {x : Addr} {b : Array UInt8} (hF : FieldIn news x b) (hz : b.size < 100) (ha : ∀ c ∈ b.toList, c.toNat < 128) (ret : ∀ t h' tk', Fr h₀ L h' m → News h₀ L h' news → Q (.str (lowS (bStr b)) t) { s with heap := h', toks := tk' }) :
   wpAny (model PG w) (ktrTop dp un gd cn cs L a ccd cl outer) (call (.ref 229) [.ref x]) Q E s :=
  (hkf _ word_ctc_core (⟨w, mean, mg, mb, dp, un, gd, cn, cs, a, ccd, cl, outer, A₀, base, h₀, L, m, news, s, Q, E⟩, x, b) : PWord_ctc (⟨w, mean, mg, mb, dp, un, gd, cn, cs, a, ccd, cl, outer, A₀, base, h₀, L, m, news, s, Q, E⟩, x, b)) H hF hz ha ret
end
theorem reg_all24 : True := by
  k_with "call ref" => ((with_reducible show wpAny _ _ (call (Value.ref 229) _) _ _ _); k_here; k_dflt (refine' word_ctc (by first | (walk_at "my here") | fail) (by first | ((first |assumption|exact ⟨_, _, _, _, _, _, _, _, _, by k_mem, by k_mem⟩)) | fail) (by assumption) (by assumption) ?_; k_whole); intro qt9 qh9 qtk9 qF9 qN9; (try k_lt qM9); (try dsimp only); (try k_sweep); (try k_fold))
  trivial
section
variable {w : World} {mean : ExcName → Option Value} {mg mb : Str → Option Value} {dp un : Nat} {gd : Option (List Code)} {cn : Str} {cs : Scope} {a : Addr} {ccd : Value} {cl : List (Str × Addr)} {outer : List Env} {A₀ : Around} {base h₀ : Heap} {L : Addr} {m : Str → Option Value} {news : List (Addr × Obj)} {s : Shared} {Q E : Value → Shared → Prop}
theorem news_both {g h : Heap} {L : Addr} {nw old : List (Addr × Obj)} (N : News g L h nw) (s : ∀ p ∈ old, p ∈ nw) : News g L h (old ++ nw) := fun p hp => (List.mem_append.mp hp).elim (fun q => N p (s p q)) (N p)
def SpanAt (nw : List (Addr × Obj)) (rows : List Nat) (i : Nat) (v : Value) : Prop := ∃ t f r t1 t2 n, v = .ref t ∧ rows[i]? = some r ∧ (t, ({ cls := .type "tuple", data := .seq #[.ref f, .int ((offs rows i : Nat) : Int) t1, .int ((offs rows (i + 1) : Nat) : Int) t2] n } : Obj)) ∈ nw ∧ FieldIn nw f (nameB r).toArray
def SpansIn (nw : List (Addr × Obj)) (rows : List Nat) (k : Nat) (vs : List Value) : Prop := vs.length = k ∧ ∀ i v, vs[i]? = some v → SpanAt nw rows i v
theorem FieldIn.mono {nw nw' : List (Addr × Obj)} {x : Addr} {b : Array UInt8} (h : FieldIn nw x b) (hs : ∀ p ∈ nw, p ∈ nw') : FieldIn nw' x b := by
  obtain ⟨raw, dx, h1, h2, k1, k2, t1, t2, n, m1, m2⟩ := h
  exact ⟨raw, dx, h1, h2, k1, k2, t1, t2, n, hs _ m1, hs _ m2⟩
theorem SpansIn.mono {nw nw' : List (Addr × Obj)} {rows : List Nat} {k : Nat} {vs : List Value} (h : SpansIn nw rows k vs) (hs : ∀ p ∈ nw, p ∈ nw') : SpansIn nw' rows k vs := by
  refine ⟨h.1, fun i v hv => ?_⟩
  obtain ⟨t, f, r, t1, t2, n, e, e2, m1, m2⟩ := h.2 i v hv
  exact ⟨t, f, r, t1, t2, n, e, e2, hs _ m1, m2.mono hs⟩
theorem SpansIn.snoc {nw : List (Addr × Obj)} {rows : List Nat} {k : Nat} {vs : List Value} {v : Value} (h : SpansIn nw rows k vs) (hv : SpanAt nw rows k v) : SpansIn nw rows (k + 1) (vs ++ [v]) := by
  refine ⟨by rw [List.length_append, h.1]; rfl, fun i u hu => ?_⟩
  rcases Nat.lt_trichotomy i vs.length with hi | hi | hi
  · rw [List.getElem?_append_left hi] at hu; exact h.2 i u hu
  · subst hi
    rw [List.getElem?_append_right (Nat.le_refl _), Nat.sub_self] at hu
    cases hu; rw [h.1]; exact hv
  · rw [List.getElem?_eq_none (by simp; omega)] at hu; cases hu
def SpJ (news : List (Addr × Obj)) (d : Array UInt8) (e : Int) (rows : List Nat) (n : Nat) (m₁ : Str → Option Value) (nx : List (Addr × Obj)) : Prop :=
  ∃ k R vs rest t td te, k ≤ rows.length ∧ n = rows.length - k ∧ nx = (R, lst vs) :: rest ∧ (∀ p ∈ rest, p.1 ≠ R) ∧ (∀ p ∈ news, p ∈ rest) ∧ SpansIn rest rows k vs ∧
    m₁ (Str.ofString "here") = some (.int ((offs rows k : Nat) : Int) t) ∧ m₁ (Str.ofString "rows") = some (.ref R) ∧ m₁ (Str.ofString "data") = some (.bytes d td) ∧ m₁ (Str.ofString "stop") = some (.int e te)
theorem sp_next {g' h' : Heap} {L' : Addr} {s : Shared} {Q : Flow → Shared → Prop} {news rest mid : List (Addr × Obj)} {d : Array UInt8} {e : Int} {rows : List Nat} {k r : Nat} {R D x dx : Addr} {vs : List Value} {m₂ : Str → Option Value} {tk : Nat} {t td te : Tok}
    {z0 z h1 h2 : Int} {u1 u2 k1 k2 t1 t2 : Tok} {nn n : Nat} {nm raw : Array UInt8}
    (F : Fr g' L' h' m₂) (N : News g' L' h' ((D, { cls := .type "tuple", data := .seq #[.ref x, .int z0 u1, .int z u2] nn }) :: (x, instObj 239 dx) :: (dx, fldD h1 h2 k1 k2 (.bytes nm t1) (.bytes raw t2) n) :: mid)) (hR : (R, listOf (vs.toArray.push (.ref D)) (vs.length + 1)) ∈ mid) (hm : ∀ p ∈ rest, p ∈ mid) (n1 : D ≠ R) (n2 : x ≠ R) (n3 : dx ≠ R) (hne : ∀ p ∈ rest, p.1 ≠ R) (hs : ∀ p ∈ news, p ∈ rest)
    (hsp : SpansIn rest rows k vs) (hr : rows[k]? = some r) (hz0 : z0 = ((offs rows k : Nat) : Int)) (hz : z = ((offs rows (k + 1) : Nat) : Int)) (hnm : nm = (nameB r).toArray)
    (e1 : m₂ (Str.ofString "here") = some (.int z t)) (e2 : m₂ (Str.ofString "rows") = some (.ref R)) (e3 : m₂ (Str.ofString "data") = some (.bytes d td)) (e4 : m₂ (Str.ofString "stop") = some (.int e te)) :
    WhileStep2 g' L' s (SpJ news d e rows) Q (rows.length - k) .next { s with heap := h', toks := tk } := by
  subst hz0 hz hnm
  have hk : k < rows.length := (List.getElem?_eq_some_iff.mp hr).1
  let L2 : List (Addr × Obj) := (D, { cls := .type "tuple", data := .seq #[.ref x, .int ((offs rows k : Nat) : Int) u1, .int ((offs rows (k + 1) : Nat) : Int) u2] nn }) :: (x, instObj 239 dx) :: (dx, fldD h1 h2 k1 k2 (.bytes (nameB r).toArray t1) (.bytes raw t2) n) :: rest
  have up : ∀ p ∈ rest, p ∈ L2 := fun p hp => .tail _ (.tail _ (.tail _ hp))
  have hv : SpanAt L2 rows k (.ref D) := ⟨D, x, r, u1, u2, nn, rfl, hr, .head _, raw, dx, h1, h2, k1, k2, t1, t2, n, .tail _ (.head _), .tail _ (.tail _ (.head _))⟩
  refine ⟨h', tk, m₂, (R, lst (vs ++ [.ref D])) :: L2, rows.length - (k + 1), rfl, F, ?_, by omega, k + 1, R, vs ++ [.ref D], L2, t, td, te, hk, rfl, rfl, ?_, fun p hp => up p (hs p hp), (hsp.mono up).snoc hv, e1, e2, e3, e4⟩
  · have z := N _ (.tail _ (.tail _ (.tail _ hR)))
    rw [show (listOf (vs.toArray.push (.ref D)) (vs.length + 1) : Obj) = lst (vs ++ [.ref D]) from lst_snoc vs _] at z
    intro p hp
    simp only [L2, List.mem_cons] at hp
    rcases hp with rfl | rfl | rfl | rfl | hp
    · exact z
    · exact N _ (.head _)
    · exact N _ (.tail _ (.head _))
    · exact N _ (.tail _ (.tail _ (.head _)))
    · exact N _ (.tail _ (.tail _ (.tail _ (hm p hp))))
  · intro p hp
    simp only [L2, List.mem_cons] at hp
    rcases hp with rfl | rfl | rfl | hp
    · exact n1
    · exact n2
    · exact n3
    · exact hne p hp
theorem map_four {m : Str → Option Value} {a b c d : Str} {va vb vc vd : Option Value} (ha : m a = va) (hb : m b = vb) (hc : m c = vc) (hd : m d = vd) : m = fun y => if y = a then va else if y = b then vb else if y = c then vc else if y = d then vd else m y := by
  funext y
  split
  · subst_vars; rfl
  split
  · subst_vars; rfl
  split
  · subst_vars; rfl
  split
  · subst_vars; rfl
  rfl
end
section
theorem reg_all25 : True := by
  k_with "ite" => (((fail_if_success (fail_if_success (have qz9 : Mk 12 := by with_reducible assumption))); (k_openite; (rename FindAt _ _ _ _ _ => qkF9); first | (refine ite_pos (decide_eq_true (by omega)) ?_) | (refine ite_isFalse (decide_eq_false (by omega)) ?_))))
  k_with "exec While BoolOp cons nil" => (((fail_if_success (fail_if_success (have qz9 : Mk 12 := by with_reducible assumption))); (k_here; k_dflt (refine whl_start 100 ?_))))
  k_with "WhlIf" => (((fail_if_success (fail_if_success (have qz9 : Mk 12 := by with_reducible assumption))); (first | (refine WhlIf.yes (by first | (with_reducible assumption) | fail) ?_) | (refine WhlIf.no (by first | (with_reducible assumption) | fail) ?_))))
  k_with "compareOp In int ref" => (((fail_if_success (fail_if_success (have qz9 : Mk 12 := by with_reducible assumption))); (k_here; (with_reducible show wpAny _ _ (compareOp CmpOp.In (Value.int _ _) (Value.ref 210)) _ _ _); k_dflt (refine' in_tuple_ints (by first | (exact kun_topT (by k_asm) (by k_asm) (by k_is)) | fail) (by first | (exact .cons _ _ (.cons _ _ .nil)) | fail) ?_; k_whole))))
  k_with "exec While Compare cons nil" => (((fail_if_success (fail_if_success (have qz9 : Mk 12 := by with_reducible assumption))); (refine Stop.out ?_)))
  trivial
def PRead_spans_ctc (z9 : Cx × (Array UInt8) × (List Nat) × (List UInt8) × (Int) × (Tok) × (Tok) × (Tok)) : Prop := (fun (w : World) (mean : ExcName → Option Value) (mg : Str → Option Value) (mb : Str → Option Value) (dp : Nat) (un : Nat) (gd : Option (List Code)) (cn : Str) (cs : Scope) (a : Addr) (ccd : Value) (cl : List (Str × Addr)) (outer : List Env) (A₀ : Around) (base : Heap) (h₀ : Heap) (L : Addr) (m : Str → Option Value) (news : List (Addr × Obj)) (s : Shared) (Q : Value → Shared → Prop) (E : Value → Shared → Prop) (d : Array UInt8) (rows : List Nat) (body : List UInt8) (e : Int) (t : Tok) (u : Tok) (v : Tok) => ∀ (H : Here w mean mg mb 10 dp un cs outer A₀ base h₀ L m news s) (hd : d.toList = headL rows ++ body) (hr : ∀ r ∈ rows, r < 5) (hl4 : rows.length ≤ 4) (hz : d.size ≤ 1000) (he : e = ((headL rows).length : Int)) (ret : ∀ tup R vs z t1 h' tk' nw, Fr h₀ L h' m → News h₀ L h' nw → (∀ p ∈ news, p ∈ nw) → (tup, tupO [.ref R, .int z t1]) ∈ nw → (R, lst vs) ∈ nw → SpansIn nw rows rows.length vs → Q (.ref tup) { s with heap := h', toks := tk' }), wpAny (model PG w) (ktrTop dp un gd cn cs L a ccd cl outer) (call (.ref 272) [.bytes d t, .int 0 u, .int e v]) Q E s) (z9.1.w) (z9.1.mean) (z9.1.mg) (z9.1.mb) (z9.1.dp) (z9.1.un) (z9.1.gd) (z9.1.cn) (z9.1.cs) (z9.1.a) (z9.1.ccd) (z9.1.cl) (z9.1.outer) (z9.1.A₀) (z9.1.base) (z9.1.h₀) (z9.1.L) (z9.1.m) (z9.1.news) (z9.1.s) (z9.1.Q) (z9.1.E) (z9.2.1) (z9.2.2.1) (z9.2.2.2.1) (z9.2.2.2.2.1) (z9.2.2.2.2.2.1) (z9.2.2.2.2.2.2.1) (z9.2.2.2.2.2.2.2)
theorem read_spans_ctc_core : PRead_spans_ctc (hkm (⟨(cx0, default, default, default, default, default, default, default)⟩ : Nonempty (Cx × (Array UInt8) × (List Nat) × (List UInt8) × (Int) × (Tok) × (Tok) × (Tok))) PRead_spans_ctc) := by
  generalize hkm _ _ = z9
  delta PRead_spans_ctc
  generalize z9.1.w = w, z9.1.mean = mean, z9.1.mg = mg, z9.1.mb = mb, z9.1.dp = dp, z9.1.un = un, z9.1.gd = gd, z9.1.cn = cn, z9.1.cs = cs, z9.1.a = a, z9.1.ccd = ccd, z9.1.cl = cl, z9.1.outer = outer, z9.1.A₀ = A₀, z9.1.base = base, z9.1.h₀ = h₀, z9.1.L = L, z9.1.m = m, z9.1.news = news, z9.1.s = s, z9.1.Q = Q, z9.1.E = E, z9.2.1 = d, z9.2.2.1 = rows, z9.2.2.2.1 = body, z9.2.2.2.2.1 = e, z9.2.2.2.2.2.1 = t, z9.2.2.2.2.2.2.1 = u, z9.2.2.2.2.2.2.2 = v
  clear z9
  intros H hd hr hl4 hz he ret
  have qmk12 : Mk 12 := True.intro
  rw [head_len] at he
  have hsz := size_of hd
  have he0 : ¬ e < 0 := by omega
  walk_at "my enter"
  k_steps
  refine While_inv2 (SpJ news d e rows) (n₀ := rows.length) (by assumption) (by assumption) ⟨0, _, [], news, _, _, _, Nat.zero_le _, rfl, rfl, ?_, fun p hp => hp, ⟨rfl, fun i v h => nomatch h⟩, rfl, rfl, rfl, rfl⟩ ?_
  · intro p hp
    rename (∀ p ∈ news, p.1 < _) => hl
    exact Nat.ne_of_lt (hl p hp)
  rintro n m₁ nx h1 tk1 F1 N1 ⟨k, R, vs, rest, tt, td, te, hk, rfl, rfl, hR, hs, hsp, e1, e2, e3, e4⟩
  rw [map_four e1 e2 e3 e4] at F1
  have hvs : vs.length ≤ 1000 := by have := hsp.1; omega
  rcases Nat.lt_or_ge k rows.length with hlt | hge
  · have hrk : rows[k]? = some rows[k] := List.getElem?_eq_getElem hlt
    have hr5 : rows[k] < 5 := hr _ (List.getElem_mem hlt)
    generalize rows[k] = r at hrk hr5
    obtain ⟨a1, a2, a3, a4, a5⟩ := row_f1 r hr5
    obtain ⟨b1, b2, b3, b4⟩ := row_f2 r hr5
    have ho := offs_lt hrk
    have hos := offs_succ hrk
    have row : ∀ j, j < lenB r → d[offs rows k + j]? = (rowB r)[j]? := fun j hj => at_row hd hrk hj
    obtain ⟨cn, hcn, hc1, hc2⟩ := at_next hd hrk
    have wn : (List.any [32, 9] fun x : Int => x == (cn.toNat : Int)) = false := by
      have q1 : cn.toNat ≠ 32 := fun h => hc1 (UInt8.toNat_inj.mp h)
      have q2 : cn.toNat ≠ 9 := fun h => hc2 (UInt8.toNat_inj.mp h)
      simp; omega
    have f1 : FindAt d 10 ((offs rows k : Nat) : Int) e (offs rows k + nl1 r) := find_row hd (a := 0) hrk a2 (Nat.zero_le _) a3 (fun j hj _ => a5 j hj) (by omega) (by omega)
    have f2 : ByteAt d (((offs rows k + nl1 r : Nat) : Int) - 1) 13 := ⟨by omega, by rw [show (((offs rows k + nl1 r : Nat) : Int) - 1).toNat = offs rows k + (nl1 r - 1) from by omega, row _ (by omega)]; exact a4⟩
    have f3 : FindAt d 58 ((offs rows k : Nat) : Int) (((offs rows k + nl1 r : Nat) : Int) - 1) (offs rows k + colB r) := find_row hd (a := 0) hrk (by omega) (Nat.zero_le _) b3 (fun j hj _ hx => by have := b4 j hj; rw [hx] at this; exact absurd this (by decide)) (by omega) (by omega)
    have f4 : ∀ j : Nat, ((offs rows k : Nat) : Int) ≤ (j : Int) → j < offs rows k + colB r → ∀ c, d[j]? = some c → 33 ≤ c.toNat ∧ c.toNat ≤ 126 ∧ c.toNat ≠ 58 := by
      intro j h1 h2 c hc
      obtain ⟨i, rfl⟩ : ∃ i, j = offs rows k + i := ⟨j - offs rows k, by omega⟩
      have := b4 i (by omega)
      rw [← row i (by omega), hc] at this
      simpa using this
    have hnm : d.extract (offs rows k) (offs rows k + colB r) = (nameB r).toArray := by
      apply Array.ext'
      rw [Array.toList_extract, List.extract_eq_take_drop, hd, split_at hrk, List.append_assoc, ← pre_len, List.drop_left, Nat.add_sub_cancel_left, List.append_assoc, List.take_append_of_le_length (by show colB r ≤ lenB r; omega)]
      rfl
    by_cases hfo : foldB r = true
    · obtain ⟨c1, c2, c3, c4⟩ := row_f4 r hr5 hfo
      have c5 := row_f5 r hr5
      obtain ⟨cw, hcw, hcw2⟩ : ∃ c : UInt8, d[offs rows k + (nl1 r + 1)]? = some c ∧ (c = 32 ∨ c = 9) := by
        rw [row _ (by omega)]
        rcases c2 with h | h
        · exact ⟨32, h, .inl rfl⟩
        · exact ⟨9, h, .inr rfl⟩
      have wy : (List.any [32, 9] fun x : Int => x == (cw.toNat : Int)) = true := by rcases hcw2 with rfl | rfl <;> rfl
      have f5 : ByteAt d (((offs rows k + nl1 r : Nat) : Int) + 1) cw := ⟨by omega, by rw [show (((offs rows k + nl1 r : Nat) : Int) + 1).toNat = offs rows k + (nl1 r + 1) from by omega]; exact hcw⟩
      have f6 : FindAt d 10 (((offs rows k + nl1 r : Nat) : Int) + 1) e (offs rows k + (lenB r - 1)) := by
        have := find_row hd (a := nl1 r + 1) (e := e) hrk (show lenB r - 1 < lenB r by omega) (by omega) c3 c5 (by omega) (by omega)
        rwa [show ((offs rows k + (nl1 r + 1) : Nat) : Int) = ((offs rows k + nl1 r : Nat) : Int) + 1 from by omega] at this
      have f7 : ByteAt d (((offs rows k + (lenB r - 1) : Nat) : Int) - 1) 13 := ⟨by omega, by rw [show (((offs rows k + (lenB r - 1) : Nat) : Int) - 1).toNat = offs rows k + (lenB r - 2) from by omega, row _ (by omega)]; exact c4⟩
      have f8 : ByteAt d (((offs rows k + (lenB r - 1) : Nat) : Int) + 1) cn := ⟨by omega, by rw [show (((offs rows k + (lenB r - 1) : Nat) : Int) + 1).toNat = offs rows (k + 1) from by omega]; exact hcn⟩
      have g3 : ((offs rows k + (lenB r - 1) : Nat) : Int) + 1 < e := by omega
      have g1 : ((offs rows k : Nat) : Int) < ((offs rows k + nl1 r : Nat) : Int) - 1 := by omega
      have g2 : ((offs rows k + nl1 r : Nat) : Int) + 1 < e := by omega
      generalize hp2 : offs rows k + (lenB r - 1) = p2 at f6 f7 f8 g3
      generalize hp1 : offs rows k + nl1 r = p1 at f1 f2 f3 f5 f6 g1 g2
      generalize hpc : offs rows k + colB r = pc at f3 f4 hnm
      generalize hoo : offs rows k = o at *
      dsimp only
      k_steps
      exact sp_next (by assumption) (by assumption) (by k_mem) (by walk_at "my sub") (by k_ne) (by k_ne) (by k_ne) hR hs hsp hrk (by rw [hoo]) (by omega) hnm rfl rfl rfl rfl
    · have c1 := row_f3 r hr5 (by simpa using hfo)
      have f5 : ByteAt d (((offs rows k + nl1 r : Nat) : Int) + 1) cn := ⟨by omega, by rw [show (((offs rows k + nl1 r : Nat) : Int) + 1).toNat = offs rows (k + 1) from by omega]; exact hcn⟩
      have g1 : ((offs rows k : Nat) : Int) < ((offs rows k + nl1 r : Nat) : Int) - 1 := by omega
      have g2 : ((offs rows k + nl1 r : Nat) : Int) + 1 < e := by omega
      generalize hp1 : offs rows k + nl1 r = p1 at f1 f2 f3 f5 g1 g2
      generalize hpc : offs rows k + colB r = pc at f3 f4 hnm
      generalize hoo : offs rows k = o at *
      dsimp only
      k_steps
      exact sp_next (by assumption) (by assumption) (by k_mem) (by walk_at "my sub") (by k_ne) (by k_ne) (by k_ne) hR hs hsp hrk (by rw [hoo]) (by omega) hnm rfl rfl rfl rfl
  · obtain rfl : k = rows.length := Nat.le_antisymm hk hge
    have h0 := at_end hd (j := 0) (by decide)
    have h1 := at_end hd (j := 1) (by decide)
    generalize hoo : offs rows rows.length = o at *
    have f1 : FindAt d 10 (o : Int) e (o + 1) := by
      refine ⟨by omega, ⟨by omega, by omega, by omega⟩, h1, fun l h2 h3 => ?_⟩
      obtain rfl : l = o := by omega
      rw [Nat.add_zero] at h0
      rw [h0]; decide
    have f2 : ByteAt d (((o + 1 : Nat) : Int) - 1) 13 := ⟨by omega, by rw [show (((o + 1 : Nat) : Int) - 1).toNat = o + 0 from by omega]; exact h0⟩
    generalize hp1 : o + 1 = p1 at f1 f2
    dsimp only
    k_steps
    dsimp only [WhileStep2]
    k_steps
    exact ret _ R vs _ _ _ _ _ (by assumption) (by assumption) (fun p hp => .tail _ (.tail _ (.tail _ (hs p hp)))) (by k_mem) (by k_mem) (hsp.mono fun p hp => .tail _ (.tail _ (.tail _ hp)))
section
variable {w : World} {mean : ExcName → Option Value} {mg mb : Str → Option Value} {dp un : Nat} {gd : Option (List Code)} {cn : Str} {cs : Scope} {a : Addr} {ccd : Value} {cl : List (Str × Addr)} {outer : List Env} {A₀ : Around} {base h₀ : Heap} {L : Addr} {m : Str → Option Value} {news : List (Addr × Obj)} {s : Shared} {Q E : Value → Shared → Prop}
theorem read_spans_ctc (H : Here w mean mg mb 10 dp un cs outer A₀ base h₀ L m news s) {d : Array UInt8} {rows : List Nat} {body : List UInt8} {e : Int} {t u v : Tok} (hd : d.toList = headL rows ++ body) (hr : ∀ r ∈ rows, r < 5) (hl4 : rows.length ≤ 4) (hz : d.size ≤ 1000) (he : e = ((headL rows).length : Int)) (ret : ∀ tup R vs z t1 h' tk' nw, Fr h₀ L h' m → News h₀ L h' nw → (∀ p ∈ news, p ∈ nw) → (tup, tupO [.ref R, .int z t1]) ∈ nw → (R, lst vs) ∈ nw → SpansIn nw rows rows.length vs → Q (.ref tup) { s with heap := h', toks := tk' }) :
   wpAny (model PG w) (ktrTop dp un gd cn cs L a ccd cl outer) (call (.ref 272) [.bytes d t, .int 0 u, .int e v]) Q E s :=
  (hkf _ read_spans_ctc_core (⟨w, mean, mg, mb, dp, un, gd, cn, cs, a, ccd, cl, outer, A₀, base, h₀, L, m, news, s, Q, E⟩, d, rows, body, e, t, u, v) : PRead_spans_ctc (⟨w, mean, mg, mb, dp, un, gd, cn, cs, a, ccd, cl, outer, A₀, base, h₀, L, m, news, s, Q, E⟩, d, rows, body, e, t, u, v)) H hd hr hl4 hz he ret
end
end
end
theorem reg_all26 : True := by
  k_with "call ref" => ((k_here; (with_reducible show wpAny _ _ (call (Value.ref 272) [_, _, _]) _ _ _); k_dflt (refine' read_spans_ctc (by first | (walk_at "my here") | fail) (by assumption) (by assumption) (by assumption) (by assumption) (by assumption) ?_; k_whole); intro qtup9 qR9 qvs9 qz9 qt9 qh9 qtk9 qnw9 qF9 qN9 qs9 qm9 qo9 qsp9; (have qN8 := news_both qN9 qs9); clear qN9; (simp only [List.cons_append] at qN8); (try dsimp only); (try k_sweep); (try k_fold)))
  trivial
section
section
variable {w : World} {mean : ExcName → Option Value} {mg mb : Str → Option Value} {dp un : Nat} {gd : Option (List Code)} {cn : Str} {cs : Scope} {a : Addr} {ccd : Value} {cl : List (Str × Addr)} {outer : List Env} {A₀ : Around} {base h₀ : Heap} {L : Addr} {m : Str → Option Value} {news : List (Addr × Obj)} {s : Shared} {Q E : Value → Shared → Prop}
abbrev partD (hs : List Int) (ks : List Tok) (vs : List Value) (n : Nat) : Obj := dictOf [⟨hs.getD 0 0, .str (Str.ofString "begin") (ks.getD 0 0), vs.getD 0 .none⟩, ⟨hs.getD 1 0, .str (Str.ofString "body") (ks.getD 1 0), vs.getD 1 .none⟩, ⟨hs.getD 2 0, .str (Str.ofString "end") (ks.getD 2 0), vs.getD 2 .none⟩, ⟨hs.getD 3 0, .str (Str.ofString "fields") (ks.getD 3 0), vs.getD 3 .none⟩, ⟨hs.getD 4 0, .str (Str.ofString "kind") (ks.getD 4 0), vs.getD 4 .none⟩, ⟨hs.getD 5 0, .str (Str.ofString "encoding") (ks.getD 5 0), vs.getD 5 .none⟩, ⟨hs.getD 6 0, .str (Str.ofString "kids") (ks.getD 6 0), vs.getD 6 .none⟩, ⟨hs.getD 7 0, .str (Str.ofString "inner") (ks.getD 7 0), vs.getD 7 .none⟩] n
/-- the part that the law makes -/
def PartIn (nw : List (Addr × Obj)) (x : Addr) (b e : Int) : Prop := ∃ dx h1 h2 h3 h4 h5 h6 h7 h8 k1 k2 k3 k4 k5 k6 k7 k8 t1 t2 t3 v4 v5 v6 kids n kn, (x, instObj 315 dx) ∈ nw ∧
  (dx, dictOf [⟨h1, .str (Str.ofString "begin") k1, .int 0 t1⟩, ⟨h2, .str (Str.ofString "body") k2, .int b t2⟩, ⟨h3, .str (Str.ofString "end") k3, .int e t3⟩, ⟨h4, .str (Str.ofString "fields") k4, v4⟩, ⟨h5, .str (Str.ofString "kind") k5, v5⟩, ⟨h6, .str (Str.ofString "encoding") k6, v6⟩, ⟨h7, .str (Str.ofString "kids") k7, .ref kids⟩, ⟨h8, .str (Str.ofString "inner") k8, .none⟩] n) ∈ nw ∧
  (kids, ({ cls := .type "list", data := .seq #[] kn } : Obj)) ∈ nw
theorem PartIn.mono {nw nw' : List (Addr × Obj)} {x : Addr} {b e : Int} (h : PartIn nw x b e) (hs : ∀ p ∈ nw, p ∈ nw') : PartIn nw' x b e := by
  obtain ⟨dx, h1, h2, h3, h4, h5, h6, h7, h8, k1, k2, k3, k4, k5, k6, k7, k8, t1, t2, t3, v4, v5, v6, kids, n, kn, m1, m2, m3⟩ := h
  exact ⟨dx, h1, h2, h3, h4, h5, h6, h7, h8, k1, k2, k3, k4, k5, k6, k7, k8, t1, t2, t3, v4, v5, v6, kids, n, kn, hs _ m1, hs _ m2, hs _ m3⟩
def titleS (r : Nat) : Str := lowS (bStr (nameB r).toArray)
def wantB (names : List Str) (r : Nat) : Bool := (names.map lowS).any (· == titleS r)
def pickL (rows : List Nat) (names : List Str) (isNot : Bool) : List (Array UInt8) := (rows.filter fun r => wantB names r != isNot).map fun r => (rowB r).toArray
theorem name_ok : ∀ r, r < 5 → (nameB r).length < 100 ∧ ∀ c ∈ nameB r, c.toNat < 128 := by decide +kernel
theorem extract_row {d : Array UInt8} {rows : List Nat} {body : List UInt8} (hd : d.toList = headL rows ++ body) {i r : Nat} (h : rows[i]? = some r) : d.extract (offs rows i) (offs rows (i + 1)) = (rowB r).toArray := by
  apply Array.ext'
  rw [Array.toList_extract, List.extract_eq_take_drop, hd, split_at h, List.append_assoc, offs_succ h, Nat.add_sub_cancel_left]
  have e := pre_len rows i
  rw [← e, List.drop_left, List.append_assoc]
  exact List.take_left
theorem extract_end {d : Array UInt8} {rows : List Nat} {body : List UInt8} (hd : d.toList = headL rows ++ body) : d.extract (offs rows rows.length) (headL rows).length = #[13, 10] := by
  apply Array.ext'
  have e := pre_len rows rows.length
  rw [List.take_length] at e
  rw [Array.toList_extract, List.extract_eq_take_drop, hd, head_len, Nat.add_sub_cancel_left, ← e]
  unfold headL
  rw [List.append_assoc, List.drop_left]
  rfl
theorem row_len : ∀ r, lenB r ≤ 14 := by
  intro r
  unfold lenB rowB
  split <;> decide
theorem pick_size (names : List Str) (isNot : Bool) : ∀ rows : List Nat, (catB (pickL rows names isNot)).size ≤ 14 * rows.length := by
  intro rows
  induction rows with
  | nil => exact Nat.le_refl _
  | cons r rest ih =>
    have := row_len r
    unfold pickL at ih ⊢
    rw [List.filter_cons]
    split
    · rw [List.map_cons, catB_cons, Array.size_append, List.length_cons]
      show lenB r + _ ≤ _
      omega
    · rw [List.length_cons]; omega
end
def PHeader_ctc (z9 : Cx × (Array UInt8) × (List Nat) × (List UInt8) × (Int) × (Int) × (Tok) × (Addr) × (Addr) × (List Value) × (Nat) × (List Str) × (Bool)) : Prop := (fun (w : World) (mean : ExcName → Option Value) (mg : Str → Option Value) (mb : Str → Option Value) (dp : Nat) (un : Nat) (gd : Option (List Code)) (cn : Str) (cs : Scope) (a : Addr) (ccd : Value) (cl : List (Str × Addr)) (outer : List Env) (A₀ : Around) (base : Heap) (h₀ : Heap) (L : Addr) (m : Str → Option Value) (news : List (Addr × Obj)) (s : Shared) (Q : Value → Shared → Prop) (E : Value → Shared → Prop) (d : Array UInt8) (rows : List Nat) (body : List UInt8) (e : Int) (e2 : Int) (t : Tok) (x : Addr) (ns : Addr) (its : List Value) (nn : Nat) (names : List Str) (isNot : Bool) => ∀ (H : Here w mean mg mb 14 dp un cs outer A₀ base h₀ L m news s) (hd : d.toList = headL rows ++ body) (hr : ∀ r ∈ rows, r < 5) (hl4 : rows.length ≤ 4) (hz : d.size ≤ 1000) (he : e = ((headL rows).length : Int)) (hP : PartIn news x e e2) (hns : (ns, ({ cls := .type "tuple", data := .seq its.toArray nn } : Obj)) ∈ news) (hna : StrsAre its names) (hnl : names.length ≤ 4) (hA : ∀ n ∈ names, n.cps.size < 1000 ∧ Asc n) (ret : ∀ t h' tk', Fr h₀ L h' m → News h₀ L h' news → Q (.bytes (catB (pickL rows names isNot) ++ #[13, 10]) t) { s with heap := h', toks := tk' }), wpAny (model PG w) (ktrTop dp un gd cn cs L a ccd cl outer) (call (.ref 397) [.bytes d t, .ref x, .ref ns, .bool isNot]) Q E s) (z9.1.w) (z9.1.mean) (z9.1.mg) (z9.1.mb) (z9.1.dp) (z9.1.un) (z9.1.gd) (z9.1.cn) (z9.1.cs) (z9.1.a) (z9.1.ccd) (z9.1.cl) (z9.1.outer) (z9.1.A₀) (z9.1.base) (z9.1.h₀) (z9.1.L) (z9.1.m) (z9.1.news) (z9.1.s) (z9.1.Q) (z9.1.E) (z9.2.1) (z9.2.2.1) (z9.2.2.2.1) (z9.2.2.2.2.1) (z9.2.2.2.2.2.1) (z9.2.2.2.2.2.2.1) (z9.2.2.2.2.2.2.2.1) (z9.2.2.2.2.2.2.2.2.1) (z9.2.2.2.2.2.2.2.2.2.1) (z9.2.2.2.2.2.2.2.2.2.2.1) (z9.2.2.2.2.2.2.2.2.2.2.2.1) (z9.2.2.2.2.2.2.2.2.2.2.2.2)
theorem header_ctc_core : PHeader_ctc (hkm (⟨(cx0, default, default, default, default, default, default, default, default, default, default, default, default)⟩ : Nonempty (Cx × (Array UInt8) × (List Nat) × (List UInt8) × (Int) × (Int) × (Tok) × (Addr) × (Addr) × (List Value) × (Nat) × (List Str) × (Bool))) PHeader_ctc) := by
  generalize hkm _ _ = z9
  delta PHeader_ctc
  generalize z9.1.w = w, z9.1.mean = mean, z9.1.mg = mg, z9.1.mb = mb, z9.1.dp = dp, z9.1.un = un, z9.1.gd = gd, z9.1.cn = cn, z9.1.cs = cs, z9.1.a = a, z9.1.ccd = ccd, z9.1.cl = cl, z9.1.outer = outer, z9.1.A₀ = A₀, z9.1.base = base, z9.1.h₀ = h₀, z9.1.L = L, z9.1.m = m, z9.1.news = news, z9.1.s = s, z9.1.Q = Q, z9.1.E = E, z9.2.1 = d, z9.2.2.1 = rows, z9.2.2.2.1 = body, z9.2.2.2.2.1 = e, z9.2.2.2.2.2.1 = e2, z9.2.2.2.2.2.2.1 = t, z9.2.2.2.2.2.2.2.1 = x, z9.2.2.2.2.2.2.2.2.1 = ns, z9.2.2.2.2.2.2.2.2.2.1 = its, z9.2.2.2.2.2.2.2.2.2.2.1 = nn, z9.2.2.2.2.2.2.2.2.2.2.2.1 = names, z9.2.2.2.2.2.2.2.2.2.2.2.2 = isNot
  clear z9
  intros H hd hr hl4 hz he hP hns hna hnl hA ret
  obtain ⟨dx, h1, h2, h3, h4, h5, h6, h7, h8, k1, k2, k3, k4, k5, k6, k7, k8, t1, t2, t3, v4, v5, v6, kids, n, kn, m1, m2, m3⟩ := hP
  walk_at "my enter"
  k_steps
  rename News _ _ _ _ => N1
  refine ⟨its.length, _, _, _, ?_, srcM_tup (its := its.toArray) rfl (by assumption) N1 (.inr ⟨({ cls := .type "tuple", data := .seq its.toArray nn } : Obj), by (repeat first | exact hns | refine List.mem_cons_of_mem _ ?_), rfl, _, rfl⟩), fun g => ?_⟩
  · rw [sizeLine_eq, strsAre_len hna]; omega
  dsimp only
  refine rest_U (fun i ys nw => nw = _ ∧ StrsAre ys ((names.take i).map lowS)) ⟨rfl, .nil⟩ ?_ ?_
  · rintro i v ys nw I oI C oC D m₂ h tk E' hi ⟨rfl, hys⟩ hv hC hx F9 N9 off ne
    obtain ⟨y, ty, hy, rfl⟩ := strsAre_get hna (by simpa using hv)
    obtain ⟨hy1, hy2⟩ := hA y (List.mem_of_getElem? hy)
    k_steps
    refine CompEnd.intro (by assumption) (by assumption) _ (fun _ hp => hp) off (.inr ⟨({ cls := .type "tuple", data := .seq its.toArray nn } : Obj), by (repeat first | exact hns | refine List.mem_cons_of_mem _ ?_), rfl, _, rfl⟩) ⟨rfl, ?_⟩
    rw [List.take_add_one, hy]
    simpa using strs_snoc hys
  · rintro ys nw ⟨rfl, hys⟩
    rw [strsAre_len hna, List.take_length] at hys
    k_steps
    rename List Value => vs9
    rename SpansIn _ _ _ _ => sp9
    rename News _ _ _ _ => N8
    refine ⟨_, _, _, fun i ys nw => nw = _ ∧ BytesAre ys (pickL (rows.take i) names isNot), rfl, rfl, by assumption, N8, .inr ⟨_, by k_mem, rfl, _, rfl⟩, ?_, ⟨rfl, .nil⟩, ?_, ?_⟩
    · rw [List.size_toArray, sp9.1, sizeLine_eq]; omega
    · rintro i ys nw v ⟨rfl, hb⟩ hv
      obtain ⟨tt, f, r, u1, u2, un, rfl, hri, mt, hf⟩ := sp9.2 i v (by simpa using hv)
      have hr5 := hr r (List.mem_of_getElem? hri)
      obtain ⟨nk1, nk2⟩ := name_ok r hr5
      obtain ⟨fraw, fdx, g1, g2, gk1, gk2, gt1, gt2, gn, fm1, fm2⟩ := id hf
      refine ⟨tt, _, _, _, _, un, rfl, by k_mem, rfl, rfl, ?_⟩
      intro I oI C oC D m₂ h tk E' hC hx hy hz F9 N9 off ne
      have fk1 : (nameB r).toArray.size < 100 := by simpa using nk1
      have fk2 : ∀ c ∈ (nameB r).toArray.toList, c.toNat < 128 := by simpa using nk2
      have hex := extract_row hd hri
      have htk : pickL (rows.take (i + 1)) names isNot = pickL (rows.take i) names isNot ++ (if (wantB names r != isNot) = true then [(rowB r).toArray] else []) := by
        unfold pickL
        rw [List.take_add_one, hri, List.filter_append, List.map_append]
        congr 1
        show List.map _ (List.filter _ [r]) = _
        rw [List.filter_cons, List.filter_nil]
        split <;> rfl
      cases hq : (wantB names r != isNot)
      · have hq2 : ((names.map lowS).any (fun x => x == lowS (bStr (nameB r).toArray)) != isNot) = false := hq
        k_steps
        refine CompEnd.intro (by assumption) (by assumption) _ (fun _ hp => hp) off (.inr ⟨lst vs9, by k_mem, rfl, _, rfl⟩) ⟨rfl, ?_⟩
        rw [htk, hq, if_neg Bool.false_ne_true, List.append_nil]
        exact hb
      · have hq2 : ((names.map lowS).any (fun x => x == lowS (bStr (nameB r).toArray)) != isNot) = true := hq
        k_steps
        refine CompEnd.intro (by assumption) (by assumption) _ (fun _ hp => hp) off (.inr ⟨lst vs9, by k_mem, rfl, _, rfl⟩) ⟨rfl, ?_⟩
        rw [htk, hq, if_pos rfl, ← hex]
        exact hb.snoc
    · rintro ys nw g ⟨rfl, hb⟩
      rw [List.size_toArray, sp9.1, List.take_length] at hb
      have hlr := sp9.1
      have hjo : (catB (pickL rows names isNot)).size ≤ 16777216 := by have := pick_size names isNot rows; omega
      have hjo2 : (catB (pickL rows names isNot)).size ≤ 100 := by have := pick_size names isNot rows; omega
      have hee := extract_end hd
      rcases List.eq_nil_or_concat vs9 with rfl | ⟨vs', v, rfl⟩
      · obtain rfl : rows = [] := List.eq_nil_of_length_eq_zero (by simpa using hlr.symm)
        k_steps
        rw [he]
        rw [← hee] at ret
        exact ret _ _ _ (by assumption) (by walk_at "my news")
      · rw [List.concat_eq_append] at *
        have hvl : vs'.length + 1 = rows.length := by simpa using hlr
        obtain ⟨tt, f, r, u1, u2, un9, rfl, hri, mt, hf⟩ := sp9.2 vs'.length v (by simp)
        rw [hvl] at mt
        k_steps
        rw [he]
        rw [← hee] at ret
        exact ret _ _ _ (by assumption) (by walk_at "my news")
section
variable {w : World} {mean : ExcName → Option Value} {mg mb : Str → Option Value} {dp un : Nat} {gd : Option (List Code)} {cn : Str} {cs : Scope} {a : Addr} {ccd : Value} {cl : List (Str × Addr)} {outer : List Env} {A₀ : Around} {base h₀ : Heap} {L : Addr} {m : Str → Option Value} {news : List (Addr × Obj)} {s : Shared} {Q E : Value → Shared → Prop}
theorem header_ctc (H : Here w mean mg mb 14 dp un cs outer A₀ base h₀ L m news s) {d : Array UInt8} {rows : List Nat} {body : List UInt8} {e e2 : Int} {t : Tok} {x ns : Addr} {its : List Value} {nn : Nat} {names : List Str} {isNot : Bool} (hd : d.toList = headL rows ++ body) (hr : ∀ r ∈ rows, r < 5) (hl4 : rows.length ≤ 4) (hz : d.size ≤ 1000) (he : e = ((headL rows).length : Int)) (hP : PartIn news x e e2) (hns : (ns, ({ cls := .type "tuple", data := .seq its.toArray nn } : Obj)) ∈ news) (hna : StrsAre its names) (hnl : names.length ≤ 4) (hA : ∀ n ∈ names, n.cps.size < 1000 ∧ Asc n) (ret : ∀ t h' tk', Fr h₀ L h' m → News h₀ L h' news → Q (.bytes (catB (pickL rows names isNot) ++ #[13, 10]) t) { s with heap := h', toks := tk' }) :
   wpAny (model PG w) (ktrTop dp un gd cn cs L a ccd cl outer) (call (.ref 397) [.bytes d t, .ref x, .ref ns, .bool isNot]) Q E s :=
  (hkf _ header_ctc_core (⟨w, mean, mg, mb, dp, un, gd, cn, cs, a, ccd, cl, outer, A₀, base, h₀, L, m, news, s, Q, E⟩, d, rows, body, e, e2, t, x, ns, its, nn, names, isNot) : PHeader_ctc (⟨w, mean, mg, mb, dp, un, gd, cn, cs, a, ccd, cl, outer, A₀, base, h₀, L, m, news, s, Q, E⟩, d, rows, body, e, e2, t, x, ns, its, nn, names, isNot)) H hd hr hl4 hz he hP hns hna hnl hA ret
end
theorem reg_all27 : True := by
  k_with "call ref" => ((with_reducible show wpAny _ _ (call (Value.ref 397) [_, _, _, _]) _ _ _); k_here; k_dflt (refine' header_ctc (by first | (walk_at "my here") | fail) (by assumption) (by assumption) (by assumption) (by assumption) (by assumption) (by first | ((first |assumption|exact PartIn.mono (by assumption) (by first | (walk_at "my sub") | fail))) | fail) (by assumption) (by assumption) (by assumption) (by assumption) ?_; k_whole); intro qt9 qh9 qtk9 qF9 qN9; (try k_lt qM9); (try dsimp only); (try k_sweep); (try k_fold))
  trivial
end
section
section
variable {w : World} {mean : ExcName → Option Value} {mg mb : Str → Option Value} {dp un : Nat} {gd : Option (List Code)} {cn : Str} {cs : Scope} {a : Addr} {ccd : Value} {cl : List (Str × Addr)} {outer : List Env} {A₀ : Around} {base h₀ : Heap} {L : Addr} {m : Str → Option Value} {news : List (Addr × Obj)} {s : Shared} {Q E : Value → Shared → Prop}
def wordS : Nat → Str
  | 0 => ⟨#[]⟩
  | 1 => ⟨#[72, 69, 65, 68, 69, 82]⟩
  | 2 => ⟨#[84, 69, 88, 84]⟩
  | 3 => ⟨#[72, 69, 65, 68, 69, 82, 46, 70, 73, 69, 76, 68, 83]⟩
  | 4 => ⟨#[72, 69, 65, 68, 69, 82, 46, 70, 73, 69, 76, 68, 83, 46, 78, 79, 84]⟩
  | _ => ⟨#[77, 73, 77, 69]⟩
def headA (rows : List Nat) : Array UInt8 := catB (rows.map fun r => (rowB r).toArray) ++ #[13, 10]
theorem headA_list (rows : List Nat) : (headA rows).toList = headL rows := by
  unfold headA headL catB
  rw [Array.toList_append]
  congr 1
  induction rows with
  | nil => rfl
  | cons r rest ih => simpa using ih
def octW (rows : List Nat) (body : Array UInt8) (names : List Str) : Nat → Array UInt8
  | 0 => headA rows ++ body
  | 1 => headA rows
  | 2 => body
  | 3 => catB (pickL rows names false) ++ #[13, 10]
  | _ => catB (pickL rows names true) ++ #[13, 10]
def octB (rows : List Nat) (body : Array UInt8) (names : List Str) (path word : Nat) : Option (Array UInt8) :=
  if path = 0 then some (octW rows body names word) else if path = 1 then (if word = 0 then some body else if word = 5 then some (headA rows) else none) else none
def cutB (o : Option (Array UInt8)) (p : Option (Nat × Nat)) : Option (Array UInt8) := match p with
  | none => o
  | some (i, n) => o.map fun b => b.extract i (i + n)
def OctV (o : Option (Array UInt8)) (v : Value) : Prop := match o with
  | none => v = .none
  | some b => ∃ t, v = .bytes b t
def PathAt (nw : List (Addr × Obj)) (pa : Addr) (k : Nat) : Prop := (pa = 559 + k ∧ k < 4) ∨ (k = 0 ∧ ∃ n, (pa, ({ cls := .type "tuple", data := .seq #[] n } : Obj)) ∈ nw)
def PartV (nw : List (Addr × Obj)) (v : Value) : Option (Nat × Nat) → Prop
  | none => v = .none
  | some (i, k) => ∃ a t u n, v = .ref a ∧ (a, ({ cls := .type "tuple", data := .seq #[.int (i : Int) t, .int (k : Int) u] n } : Obj)) ∈ nw
def SecIn (nw : List (Addr × Obj)) (x : Addr) (path word : Nat) (names : List Str) (p : Option (Nat × Nat)) : Prop :=
  ∃ dx h1 h2 h3 h4 k1 k2 k3 k4 pa t na pv n its nn, (x, instObj 363 dx) ∈ nw ∧
   (dx, dictOf [⟨h1, .str (Str.ofString "path") k1, .ref pa⟩, ⟨h2, .str (Str.ofString "word") k2, .str (wordS word) t⟩, ⟨h3, .str (Str.ofString "names") k3, .ref na⟩, ⟨h4, .str (Str.ofString "partial") k4, pv⟩] n) ∈ nw ∧
   PathAt nw pa path ∧ (na, ({ cls := .type "tuple", data := .seq its.toArray nn } : Obj)) ∈ nw ∧ StrsAre its names ∧ PartV nw pv p
theorem PathAt.mono {nw nw' : List (Addr × Obj)} {pa : Addr} {k : Nat} (h : PathAt nw pa k) (hs : ∀ p ∈ nw, p ∈ nw') : PathAt nw' pa k := h.imp id fun ⟨e, n, hm⟩ => ⟨e, n, hs _ hm⟩
theorem PartV.mono {nw nw' : List (Addr × Obj)} {v : Value} {p : Option (Nat × Nat)} (h : PartV nw v p) (hs : ∀ p ∈ nw, p ∈ nw') : PartV nw' v p := by
  rcases p with _ | ⟨i, k⟩
  · exact h
  · obtain ⟨a, t, u, n, e, hm⟩ := h
    exact ⟨a, t, u, n, e, hs _ hm⟩
theorem SecIn.mono {nw nw' : List (Addr × Obj)} {x : Addr} {path word : Nat} {names : List Str} {p : Option (Nat × Nat)} (h : SecIn nw x path word names p) (hs : ∀ p ∈ nw, p ∈ nw') : SecIn nw' x path word names p := by
  obtain ⟨dx, h1, h2, h3, h4, k1, k2, k3, k4, pa, t, na, pv, n, its, nn, m1, m2, hp, m3, hn, hv⟩ := h
  exact ⟨dx, h1, h2, h3, h4, k1, k2, k3, k4, pa, t, na, pv, n, its, nn, hs _ m1, hs _ m2, hp.mono hs, hs _ m3, hn, hv.mono hs⟩
/-- the letter and its part, as the law makes them -/
structure Made (rows : List Nat) (body d : Array UInt8) (b e : Int) : Prop where
  hd : d = headA rows ++ body
  hr : ∀ r ∈ rows, r < 5
  hl : rows.length ≤ 4
  hb : body.size ≤ 100
  he : b = ((headL rows).length : Int)
  hee : e = (d.size : Int)
theorem Made.list {rows : List Nat} {body d : Array UInt8} {b e : Int} (M : Made rows body d b e) : d.toList = headL rows ++ body.toList := by rw [M.hd, Array.toList_append, headA_list]
theorem headA_size (rows : List Nat) : (headA rows).size = (headL rows).length := by rw [← Array.length_toList, headA_list]
theorem offs_bound : ∀ rows : List Nat, (headL rows).length ≤ 14 * rows.length + 2 := by
  intro rows
  rw [head_len]
  unfold offs
  rw [List.take_length]
  induction rows with
  | nil => exact Nat.le_refl _
  | cons r rest ih =>
    have := row_len r
    rw [List.map_cons, List.sum_cons, List.length_cons]; omega
theorem Made.size {rows : List Nat} {body d : Array UInt8} {b e : Int} (M : Made rows body d b e) : d.size ≤ 200 := by
  have h1 := offs_bound rows
  have h2 := M.hl
  have h3 := M.hb
  rw [M.hd, Array.size_append, headA_size]; omega
theorem Made.x0 {rows : List Nat} {body d : Array UInt8} {b e : Int} (M : Made rows body d b e) : d.extract 0 e.toNat = headA rows ++ body := by
  rw [M.hee, Int.toNat_natCast, Array.extract_size, M.hd]
theorem Made.x1 {rows : List Nat} {body d : Array UInt8} {b e : Int} (M : Made rows body d b e) : d.extract 0 b.toNat = headA rows := by
  rw [M.he, Int.toNat_natCast, M.hd, ← headA_size]
  apply Array.ext'
  simp
theorem Made.x2 {rows : List Nat} {body d : Array UInt8} {b e : Int} (M : Made rows body d b e) : d.extract b.toNat e.toNat = body := by
  rw [M.he, M.hee, Int.toNat_natCast, Int.toNat_natCast, M.hd, ← headA_size]
  apply Array.ext'
  simp
end
theorem reg_all28 : True := by
  k_with "compareOp In str ref" => (((fail_if_success (fail_if_success (have qz9 : Mk 14 := by with_reducible assumption))); (k_here; (with_reducible show wpAny _ _ (compareOp CmpOp.In (Value.str _ _) (Value.ref 339)) _ _ _); k_dflt (refine' in_tuple_strs (by first | (exact kun_topT (by k_asm) (by k_asm) (by k_is)) | fail) (by first | (exact .cons _ _ (.cons _ _ .nil)) | fail) ?_; k_whole))))
  trivial
def PWord_oct_ctc (z9 : Cx × (Array UInt8) × (List Nat) × (Array UInt8) × (Int) × (Int) × (Tok) × (Addr) × (Addr) × (Nat) × (Nat) × (List Str) × (Option (Nat × Nat))) : Prop := (fun (w : World) (mean : ExcName → Option Value) (mg : Str → Option Value) (mb : Str → Option Value) (dp : Nat) (un : Nat) (gd : Option (List Code)) (cn : Str) (cs : Scope) (a : Addr) (ccd : Value) (cl : List (Str × Addr)) (outer : List Env) (A₀ : Around) (base : Heap) (h₀ : Heap) (L : Addr) (m : Str → Option Value) (news : List (Addr × Obj)) (s : Shared) (Q : Value → Shared → Prop) (E : Value → Shared → Prop) (d : Array UInt8) (rows : List Nat) (body : Array UInt8) (b : Int) (e : Int) (t : Tok) (x : Addr) (sx : Addr) (path : Nat) (k : Nat) (names : List Str) (p : Option (Nat × Nat)) => ∀ (H : Here w mean mg mb 18 dp un cs outer A₀ base h₀ L m news s) (M : Made rows body d b e) (hP : PartIn news x b e) (hS : SecIn news sx path k names p) (hk : k < 5) (hnl : names.length ≤ 4) (hA : ∀ n ∈ names, n.cps.size < 1000 ∧ Asc n) (ret : ∀ t h' tk', Fr h₀ L h' m → News h₀ L h' news → Q (.bytes (octW rows body names k) t) { s with heap := h', toks := tk' }), wpAny (model PG w) (ktrTop dp un gd cn cs L a ccd cl outer) (call (.ref 404) [.bytes d t, .ref x, .ref sx]) Q E s) (z9.1.w) (z9.1.mean) (z9.1.mg) (z9.1.mb) (z9.1.dp) (z9.1.un) (z9.1.gd) (z9.1.cn) (z9.1.cs) (z9.1.a) (z9.1.ccd) (z9.1.cl) (z9.1.outer) (z9.1.A₀) (z9.1.base) (z9.1.h₀) (z9.1.L) (z9.1.m) (z9.1.news) (z9.1.s) (z9.1.Q) (z9.1.E) (z9.2.1) (z9.2.2.1) (z9.2.2.2.1) (z9.2.2.2.2.1) (z9.2.2.2.2.2.1) (z9.2.2.2.2.2.2.1) (z9.2.2.2.2.2.2.2.1) (z9.2.2.2.2.2.2.2.2.1) (z9.2.2.2.2.2.2.2.2.2.1) (z9.2.2.2.2.2.2.2.2.2.2.1) (z9.2.2.2.2.2.2.2.2.2.2.2.1) (z9.2.2.2.2.2.2.2.2.2.2.2.2)
theorem word_oct_ctc_core : PWord_oct_ctc (hkm (⟨(cx0, default, default, default, default, default, default, default, default, default, default, default, default)⟩ : Nonempty (Cx × (Array UInt8) × (List Nat) × (Array UInt8) × (Int) × (Int) × (Tok) × (Addr) × (Addr) × (Nat) × (Nat) × (List Str) × (Option (Nat × Nat)))) PWord_oct_ctc) := by
  generalize hkm _ _ = z9
  delta PWord_oct_ctc
  generalize z9.1.w = w, z9.1.mean = mean, z9.1.mg = mg, z9.1.mb = mb, z9.1.dp = dp, z9.1.un = un, z9.1.gd = gd, z9.1.cn = cn, z9.1.cs = cs, z9.1.a = a, z9.1.ccd = ccd, z9.1.cl = cl, z9.1.outer = outer, z9.1.A₀ = A₀, z9.1.base = base, z9.1.h₀ = h₀, z9.1.L = L, z9.1.m = m, z9.1.news = news, z9.1.s = s, z9.1.Q = Q, z9.1.E = E, z9.2.1 = d, z9.2.2.1 = rows, z9.2.2.2.1 = body, z9.2.2.2.2.1 = b, z9.2.2.2.2.2.1 = e, z9.2.2.2.2.2.2.1 = t, z9.2.2.2.2.2.2.2.1 = x, z9.2.2.2.2.2.2.2.2.1 = sx, z9.2.2.2.2.2.2.2.2.2.1 = path, z9.2.2.2.2.2.2.2.2.2.2.1 = k, z9.2.2.2.2.2.2.2.2.2.2.2.1 = names, z9.2.2.2.2.2.2.2.2.2.2.2.2 = p
  clear z9
  intros H M hP hS hk hnl hA ret
  have qmk14 : Mk 14 := True.intro
  have hP2 := hP
  obtain ⟨dx, h1, h2, h3, h4, h5, h6, h7, h8, k1, k2, k3, k4, k5, k6, k7, k8, t1, t2, t3, v4, v5, v6, kids, n, kn, m1, m2, m3⟩ := hP2
  obtain ⟨sdx, sh1, sh2, sh3, sh4, sk1, sk2, sk3, sk4, pa, st, na, pv, sn, its, nn, sm1, sm2, sp, sm3, hna, spv⟩ := hS
  have hd := M.list
  have hr := M.hr
  have hl := M.hl
  have hz : d.size ≤ 1000 := Nat.le_trans M.size (by decide)
  have hz2 : d.size ≤ 100000 := Nat.le_trans M.size (by decide)
  have he := M.he
  have hb0 : 0 ≤ b := by omega
  have he0 : 0 ≤ e := by have := M.hee; omega
  rcases k with _ | _ | _ | _ | _ | k
  · walk_at "my enter"
    k_steps
    have hx := M.x0
    exact (show octW rows body names 0 = _ from hx.symm) ▸ ret _ _ _ (by assumption) (by walk_at "my news")
  · walk_at "my enter"
    k_steps
    have hx := M.x1
    exact (show octW rows body names 1 = _ from hx.symm) ▸ ret _ _ _ (by assumption) (by walk_at "my news")
  · walk_at "my enter"
    k_steps
    have hx := M.x2
    exact (show octW rows body names 2 = _ from hx.symm) ▸ ret _ _ _ (by assumption) (by walk_at "my news")
  · walk_at "my enter"
    k_steps
    exact ret _ _ _ (by assumption) (by walk_at "my news")
  · walk_at "my enter"
    k_steps
    exact ret _ _ _ (by assumption) (by walk_at "my news")
  · omega
section
variable {w : World} {mean : ExcName → Option Value} {mg mb : Str → Option Value} {dp un : Nat} {gd : Option (List Code)} {cn : Str} {cs : Scope} {a : Addr} {ccd : Value} {cl : List (Str × Addr)} {outer : List Env} {A₀ : Around} {base h₀ : Heap} {L : Addr} {m : Str → Option Value} {news : List (Addr × Obj)} {s : Shared} {Q E : Value → Shared → Prop}
theorem word_oct_ctc (H : Here w mean mg mb 18 dp un cs outer A₀ base h₀ L m news s) {d : Array UInt8} {rows : List Nat} {body : Array UInt8} {b e : Int} {t : Tok} {x sx : Addr} {path k : Nat} {names : List Str} {p : Option (Nat × Nat)} (M : Made rows body d b e) (hP : PartIn news x b e) (hS : SecIn news sx path k names p) (hk : k < 5) (hnl : names.length ≤ 4) (hA : ∀ n ∈ names, n.cps.size < 1000 ∧ Asc n) (ret : ∀ t h' tk', Fr h₀ L h' m → News h₀ L h' news → Q (.bytes (octW rows body names k) t) { s with heap := h', toks := tk' }) :
   wpAny (model PG w) (ktrTop dp un gd cn cs L a ccd cl outer) (call (.ref 404) [.bytes d t, .ref x, .ref sx]) Q E s :=
  (hkf _ word_oct_ctc_core (⟨w, mean, mg, mb, dp, un, gd, cn, cs, a, ccd, cl, outer, A₀, base, h₀, L, m, news, s, Q, E⟩, d, rows, body, b, e, t, x, sx, path, k, names, p) : PWord_oct_ctc (⟨w, mean, mg, mb, dp, un, gd, cn, cs, a, ccd, cl, outer, A₀, base, h₀, L, m, news, s, Q, E⟩, d, rows, body, b, e, t, x, sx, path, k, names, p)) H M hP hS hk hnl hA ret
end
theorem reg_all29 : True := by
  k_with "call ref" => ((with_reducible show wpAny _ _ (call (Value.ref 404) [_, _, _]) _ _ _); k_here; k_dflt (refine' word_oct_ctc (by first | (walk_at "my here") | fail) (by assumption) (by first | ((first |assumption|exact PartIn.mono (by assumption) (by first | (walk_at "my sub") | fail))) | fail) (by first | ((first |assumption|exact SecIn.mono (by assumption) (by first | (walk_at "my sub") | fail))) | fail) (by first | ((first |assumption|omega)) | fail) (by assumption) (by assumption) ?_; k_whole); intro qt9 qh9 qtk9 qF9 qN9; (try k_lt qM9); (try dsimp only); (try k_sweep); (try k_fold))
  trivial
end
section
section
theorem reg_all30 : True := by
  k_with "exec For Name Name cons nil" => (((fail_if_success (fail_if_success (have qz9 : Mk 16 := by with_reducible assumption))); (k_here; (rename Fr _ _ _ _ => qlF'); (with_unfolding_all refine' For_turns qlF' ?_); k_whole)))
  trivial
def PPart_at_ctc (z9 : Cx × (Addr) × (Int) × (Int) × (Nat)) : Prop := (fun (w : World) (mean : ExcName → Option Value) (mg : Str → Option Value) (mb : Str → Option Value) (dp : Nat) (un : Nat) (gd : Option (List Code)) (cn : Str) (cs : Scope) (a : Addr) (ccd : Value) (cl : List (Str × Addr)) (outer : List Env) (A₀ : Around) (base : Heap) (h₀ : Heap) (L : Addr) (m : Str → Option Value) (news : List (Addr × Obj)) (s : Shared) (Q : Value → Shared → Prop) (E : Value → Shared → Prop) (x : Addr) (b : Int) (e : Int) (k : Nat) => ∀ (H : Here w mean mg mb 6 dp un cs outer A₀ base h₀ L m news s) (hP : PartIn news x b e) (hk : 1 ≤ k ∧ k < 4) (ret : ∀ h' tk', Fr h₀ L h' m → News h₀ L h' news → Q (if k = 1 then .ref x else .none) { s with heap := h', toks := tk' }), wpAny (model PG w) (ktrTop dp un gd cn cs L a ccd cl outer) (call (.ref 338) [.ref x, .ref (559 + k)]) Q E s) (z9.1.w) (z9.1.mean) (z9.1.mg) (z9.1.mb) (z9.1.dp) (z9.1.un) (z9.1.gd) (z9.1.cn) (z9.1.cs) (z9.1.a) (z9.1.ccd) (z9.1.cl) (z9.1.outer) (z9.1.A₀) (z9.1.base) (z9.1.h₀) (z9.1.L) (z9.1.m) (z9.1.news) (z9.1.s) (z9.1.Q) (z9.1.E) (z9.2.1) (z9.2.2.1) (z9.2.2.2.1) (z9.2.2.2.2)
theorem part_at_ctc_core : PPart_at_ctc (hkm (⟨(cx0, default, default, default, default)⟩ : Nonempty (Cx × (Addr) × (Int) × (Int) × (Nat))) PPart_at_ctc) := by
  generalize hkm _ _ = z9
  delta PPart_at_ctc
  generalize z9.1.w = w, z9.1.mean = mean, z9.1.mg = mg, z9.1.mb = mb, z9.1.dp = dp, z9.1.un = un, z9.1.gd = gd, z9.1.cn = cn, z9.1.cs = cs, z9.1.a = a, z9.1.ccd = ccd, z9.1.cl = cl, z9.1.outer = outer, z9.1.A₀ = A₀, z9.1.base = base, z9.1.h₀ = h₀, z9.1.L = L, z9.1.m = m, z9.1.news = news, z9.1.s = s, z9.1.Q = Q, z9.1.E = E, z9.2.1 = x, z9.2.2.1 = b, z9.2.2.2.1 = e, z9.2.2.2.2 = k
  clear z9
  intros H hP hk ret
  have qmk16 : Mk 16 := True.intro
  obtain ⟨dx, h1, h2, h3, h4, h5, h6, h7, h8, k1, k2, k3, k4, k5, k6, k7, k8, t1, t2, t3, v4, v5, v6, kids, n, kn, m1, m2, m3⟩ := hP
  rcases k with _ | _ | _ | _ | k
  · omega
  · show wpAny (model PG w) (ktrTop dp un gd cn cs L a ccd cl outer) (call (.ref 338) [.ref x, .ref 560]) Q E s
    walk_at "my enter"
    k_steps
    refine ⟨_, _, _, news, rfl, by assumption, cb_drop (by assumption) (by simp only [List.cons_append, List.nil_append]; walk_at "my sub"), (by intro p hp q hq; rw [List.mem_singleton.mp hq]; exact ne_lt (by assumption) (Nat.le_refl _) p hp), trivial, ?_⟩
    k_steps
    all_goals exact ret _ _ (by assumption) (by walk_at "my news")
  · show wpAny (model PG w) (ktrTop dp un gd cn cs L a ccd cl outer) (call (.ref 338) [.ref x, .ref 561]) Q E s
    walk_at "my enter"
    k_steps
    all_goals exact ret _ _ (by assumption) (by walk_at "my news")
  · show wpAny (model PG w) (ktrTop dp un gd cn cs L a ccd cl outer) (call (.ref 338) [.ref x, .ref 562]) Q E s
    walk_at "my enter"
    k_steps
    refine ⟨_, _, _, news, rfl, by assumption, cb_drop (by assumption) (by simp only [List.cons_append, List.nil_append]; walk_at "my sub"), (by intro p hp q hq; rw [List.mem_singleton.mp hq]; exact ne_lt (by assumption) (Nat.le_refl _) p hp), trivial, ?_⟩
    k_steps
    all_goals exact ret _ _ (by assumption) (by walk_at "my news")
  · omega
section
variable {w : World} {mean : ExcName → Option Value} {mg mb : Str → Option Value} {dp un : Nat} {gd : Option (List Code)} {cn : Str} {cs : Scope} {a : Addr} {ccd : Value} {cl : List (Str × Addr)} {outer : List Env} {A₀ : Around} {base h₀ : Heap} {L : Addr} {m : Str → Option Value} {news : List (Addr × Obj)} {s : Shared} {Q E : Value → Shared → Prop}
theorem part_at_ctc (H : Here w mean mg mb 6 dp un cs outer A₀ base h₀ L m news s) {x : Addr} {b e : Int} {k : Nat} (hP : PartIn news x b e) (hk : 1 ≤ k ∧ k < 4) (ret : ∀ h' tk', Fr h₀ L h' m → News h₀ L h' news → Q (if k = 1 then .ref x else .none) { s with heap := h', toks := tk' }) :
   wpAny (model PG w) (ktrTop dp un gd cn cs L a ccd cl outer) (call (.ref 338) [.ref x, .ref (559 + k)]) Q E s :=
  (hkf _ part_at_ctc_core (⟨w, mean, mg, mb, dp, un, gd, cn, cs, a, ccd, cl, outer, A₀, base, h₀, L, m, news, s, Q, E⟩, x, b, e, k) : PPart_at_ctc (⟨w, mean, mg, mb, dp, un, gd, cn, cs, a, ccd, cl, outer, A₀, base, h₀, L, m, news, s, Q, E⟩, x, b, e, k)) H hP hk ret
end
end
def PSliced_ctc (z9 : Cx × (Option (Array UInt8)) × (Value) × (Value) × (Option (Nat × Nat))) : Prop := (fun (w : World) (mean : ExcName → Option Value) (mg : Str → Option Value) (mb : Str → Option Value) (dp : Nat) (un : Nat) (gd : Option (List Code)) (cn : Str) (cs : Scope) (a : Addr) (ccd : Value) (cl : List (Str × Addr)) (outer : List Env) (A₀ : Around) (base : Heap) (h₀ : Heap) (L : Addr) (m : Str → Option Value) (news : List (Addr × Obj)) (s : Shared) (Q : Value → Shared → Prop) (E : Value → Shared → Prop) (o : Option (Array UInt8)) (v : Value) (pv : Value) (p : Option (Nat × Nat)) => ∀ (H : Here w mean mg mb 3 dp un cs outer A₀ base h₀ L m news s) (hv : OctV o v) (hp : PartV news pv p) (hz : ∀ b, o = some b → b.size ≤ 1000) (ret : ∀ v h' tk', Fr h₀ L h' m → News h₀ L h' news → OctV (cutB o p) v → Q v { s with heap := h', toks := tk' }), wpAny (model PG w) (ktrTop dp un gd cn cs L a ccd cl outer) (call (.ref 418) [v, pv]) Q E s) (z9.1.w) (z9.1.mean) (z9.1.mg) (z9.1.mb) (z9.1.dp) (z9.1.un) (z9.1.gd) (z9.1.cn) (z9.1.cs) (z9.1.a) (z9.1.ccd) (z9.1.cl) (z9.1.outer) (z9.1.A₀) (z9.1.base) (z9.1.h₀) (z9.1.L) (z9.1.m) (z9.1.news) (z9.1.s) (z9.1.Q) (z9.1.E) (z9.2.1) (z9.2.2.1) (z9.2.2.2.1) (z9.2.2.2.2)
theorem sliced_ctc_core : PSliced_ctc (hkm (⟨(cx0, default, default, default, default)⟩ : Nonempty (Cx × (Option (Array UInt8)) × (Value) × (Value) × (Option (Nat × Nat)))) PSliced_ctc) := by
  generalize hkm _ _ = z9
  delta PSliced_ctc
  generalize z9.1.w = w, z9.1.mean = mean, z9.1.mg = mg, z9.1.mb = mb, z9.1.dp = dp, z9.1.un = un, z9.1.gd = gd, z9.1.cn = cn, z9.1.cs = cs, z9.1.a = a, z9.1.ccd = ccd, z9.1.cl = cl, z9.1.outer = outer, z9.1.A₀ = A₀, z9.1.base = base, z9.1.h₀ = h₀, z9.1.L = L, z9.1.m = m, z9.1.news = news, z9.1.s = s, z9.1.Q = Q, z9.1.E = E, z9.2.1 = o, z9.2.2.1 = v, z9.2.2.2.1 = pv, z9.2.2.2.2 = p
  clear z9
  intros H hv hp hz ret
  rcases o with _ | b
  · obtain rfl : v = .none := hv
    rcases p with _ | ⟨i, j⟩
    · obtain rfl : pv = .none := hp
      walk_at "my enter"
      k_steps
      exact ret _ _ _ (by assumption) (by walk_at "my news") rfl
    · obtain ⟨pa, pt, pu, pn, rfl, pm⟩ := hp
      walk_at "my enter"
      k_steps
      exact ret _ _ _ (by assumption) (by walk_at "my news") rfl
  · obtain ⟨t, rfl⟩ := hv
    have hb := hz b rfl
    rcases p with _ | ⟨i, j⟩
    · obtain rfl : pv = .none := hp
      walk_at "my enter"
      k_steps
      exact ret _ _ _ (by assumption) (by walk_at "my news") ⟨_, rfl⟩
    · obtain ⟨pa, pt, pu, pn, rfl, pm⟩ := hp
      walk_at "my enter"
      k_steps
      exact ret _ _ _ (by assumption) (by walk_at "my news") ⟨_, rfl⟩
section
variable {w : World} {mean : ExcName → Option Value} {mg mb : Str → Option Value} {dp un : Nat} {gd : Option (List Code)} {cn : Str} {cs : Scope} {a : Addr} {ccd : Value} {cl : List (Str × Addr)} {outer : List Env} {A₀ : Around} {base h₀ : Heap} {L : Addr} {m : Str → Option Value} {news : List (Addr × Obj)} {s : Shared} {Q E : Value → Shared → Prop}
theorem sliced_ctc (H : Here w mean mg mb 3 dp un cs outer A₀ base h₀ L m news s) {o : Option (Array UInt8)} {v pv : Value} {p : Option (Nat × Nat)} (hv : OctV o v) (hp : PartV news pv p) (hz : ∀ b, o = some b → b.size ≤ 1000) (ret : ∀ v h' tk', Fr h₀ L h' m → News h₀ L h' news → OctV (cutB o p) v → Q v { s with heap := h', toks := tk' }) :
   wpAny (model PG w) (ktrTop dp un gd cn cs L a ccd cl outer) (call (.ref 418) [v, pv]) Q E s :=
  (hkf _ sliced_ctc_core (⟨w, mean, mg, mb, dp, un, gd, cn, cs, a, ccd, cl, outer, A₀, base, h₀, L, m, news, s, Q, E⟩, o, v, pv, p) : PSliced_ctc (⟨w, mean, mg, mb, dp, un, gd, cn, cs, a, ccd, cl, outer, A₀, base, h₀, L, m, news, s, Q, E⟩, o, v, pv, p)) H hv hp hz ret
end
section
variable {w : World} {mean : ExcName → Option Value} {mg mb : Str → Option Value} {dp un : Nat} {gd : Option (List Code)} {cn : Str} {cs : Scope} {a : Addr} {ccd : Value} {cl : List (Str × Addr)} {outer : List Env} {A₀ : Around} {base h₀ : Heap} {L : Addr} {m : Str → Option Value} {news : List (Addr × Obj)} {s : Shared} {Q E : Value → Shared → Prop}
theorem part_at_1 (H : Here w mean mg mb 6 dp un cs outer A₀ base h₀ L m news s) {x : Addr} {b e : Int} (hP : PartIn news x b e)
   (ret : ∀ h' tk', Fr h₀ L h' m → News h₀ L h' news → Q (.ref x) { s with heap := h', toks := tk' }) :
   wpAny (model PG w) (ktrTop dp un gd cn cs L a ccd cl outer) (call (.ref 338) [.ref x, .ref 560]) Q E s := part_at_ctc (k := 1) H hP (by omega) ret
end
theorem reg_all31 : True := by
  k_with "call ref" => ((with_reducible show wpAny _ _ (call (Value.ref 338) [_, Value.ref 560]) _ _ _); k_here; k_dflt (refine' part_at_1 (by first | (walk_at "my here") | fail) (by first | ((first |assumption|exact PartIn.mono (by assumption) (by first | (walk_at "my sub") | fail))) | fail) ?_; k_whole); intro qh9 qtk9 qF9 qN9; (try k_lt qM9); (try dsimp only); (try k_sweep); (try k_fold))
  trivial
section
variable {w : World} {mean : ExcName → Option Value} {mg mb : Str → Option Value} {dp un : Nat} {gd : Option (List Code)} {cn : Str} {cs : Scope} {a : Addr} {ccd : Value} {cl : List (Str × Addr)} {outer : List Env} {A₀ : Around} {base h₀ : Heap} {L : Addr} {m : Str → Option Value} {news : List (Addr × Obj)} {s : Shared} {Q E : Value → Shared → Prop}
theorem part_at_2 (H : Here w mean mg mb 6 dp un cs outer A₀ base h₀ L m news s) {x : Addr} {b e : Int} (hP : PartIn news x b e)
   (ret : ∀ h' tk', Fr h₀ L h' m → News h₀ L h' news → Q (.none) { s with heap := h', toks := tk' }) :
   wpAny (model PG w) (ktrTop dp un gd cn cs L a ccd cl outer) (call (.ref 338) [.ref x, .ref 561]) Q E s := part_at_ctc (k := 2) H hP (by omega) ret
end
theorem reg_all32 : True := by
  k_with "call ref" => ((with_reducible show wpAny _ _ (call (Value.ref 338) [_, Value.ref 561]) _ _ _); k_here; k_dflt (refine' part_at_2 (by first | (walk_at "my here") | fail) (by first | ((first |assumption|exact PartIn.mono (by assumption) (by first | (walk_at "my sub") | fail))) | fail) ?_; k_whole); intro qh9 qtk9 qF9 qN9; (try k_lt qM9); (try dsimp only); (try k_sweep); (try k_fold))
  trivial
section
variable {w : World} {mean : ExcName → Option Value} {mg mb : Str → Option Value} {dp un : Nat} {gd : Option (List Code)} {cn : Str} {cs : Scope} {a : Addr} {ccd : Value} {cl : List (Str × Addr)} {outer : List Env} {A₀ : Around} {base h₀ : Heap} {L : Addr} {m : Str → Option Value} {news : List (Addr × Obj)} {s : Shared} {Q E : Value → Shared → Prop}
theorem part_at_3 (H : Here w mean mg mb 6 dp un cs outer A₀ base h₀ L m news s) {x : Addr} {b e : Int} (hP : PartIn news x b e)
   (ret : ∀ h' tk', Fr h₀ L h' m → News h₀ L h' news → Q (.none) { s with heap := h', toks := tk' }) :
   wpAny (model PG w) (ktrTop dp un gd cn cs L a ccd cl outer) (call (.ref 338) [.ref x, .ref 562]) Q E s := part_at_ctc (k := 3) H hP (by omega) ret
end
theorem reg_all33 : True := by
  k_with "call ref" => ((with_reducible show wpAny _ _ (call (Value.ref 338) [_, Value.ref 562]) _ _ _); k_here; k_dflt (refine' part_at_3 (by first | (walk_at "my here") | fail) (by first | ((first |assumption|exact PartIn.mono (by assumption) (by first | (walk_at "my sub") | fail))) | fail) ?_; k_whole); intro qh9 qtk9 qF9 qN9; (try k_lt qM9); (try dsimp only); (try k_sweep); (try k_fold))
  trivial
theorem reg_all34 : True := by
  k_with "call ref" => ((with_reducible show wpAny _ _ (call (Value.ref 418) [_, _]) _ _ _); k_here; k_dflt (refine' sliced_ctc (by first | (walk_at "my here") | fail) (by assumption) (by first | ((first |assumption|exact PartV.mono (by assumption) (by first | (walk_at "my sub") | fail))) | fail) (by assumption) ?_; k_whole); intro qv9 qh9 qtk9 qF9 qN9 qO9; (try k_lt qM9); (try dsimp only); (try k_sweep); (try k_fold))
  trivial
end
section
def PWhole_oct_ctc (z9 : Cx × (Array UInt8) × (List Nat) × (Array UInt8) × (Int) × (Int) × (Tok) × (Addr) × (Addr) × (Nat) × (Nat) × (List Str) × (Option (Nat × Nat))) : Prop := (fun (w : World) (mean : ExcName → Option Value) (mg : Str → Option Value) (mb : Str → Option Value) (dp : Nat) (un : Nat) (gd : Option (List Code)) (cn : Str) (cs : Scope) (a : Addr) (ccd : Value) (cl : List (Str × Addr)) (outer : List Env) (A₀ : Around) (base : Heap) (h₀ : Heap) (L : Addr) (m : Str → Option Value) (news : List (Addr × Obj)) (s : Shared) (Q : Value → Shared → Prop) (E : Value → Shared → Prop) (d : Array UInt8) (rows : List Nat) (body : Array UInt8) (b : Int) (e : Int) (t : Tok) (x : Addr) (sx : Addr) (path : Nat) (k : Nat) (names : List Str) (p : Option (Nat × Nat)) => ∀ (H : Here w mean mg mb 22 dp un cs outer A₀ base h₀ L m news s) (M : Made rows body d b e) (hP : PartIn news x b e) (hS : SecIn news sx path k names p) (hp : path < 4) (hk : if path = 0 then k < 5 else k < 6) (hnl : names.length ≤ 4) (hA : ∀ n ∈ names, n.cps.size < 1000 ∧ Asc n) (ret : ∀ v h' tk', Fr h₀ L h' m → News h₀ L h' news → OctV (octB rows body names path k) v → Q v { s with heap := h', toks := tk' }), wpAny (model PG w) (ktrTop dp un gd cn cs L a ccd cl outer) (call (.ref 411) [.bytes d t, .ref x, .ref sx, .ref 338]) Q E s) (z9.1.w) (z9.1.mean) (z9.1.mg) (z9.1.mb) (z9.1.dp) (z9.1.un) (z9.1.gd) (z9.1.cn) (z9.1.cs) (z9.1.a) (z9.1.ccd) (z9.1.cl) (z9.1.outer) (z9.1.A₀) (z9.1.base) (z9.1.h₀) (z9.1.L) (z9.1.m) (z9.1.news) (z9.1.s) (z9.1.Q) (z9.1.E) (z9.2.1) (z9.2.2.1) (z9.2.2.2.1) (z9.2.2.2.2.1) (z9.2.2.2.2.2.1) (z9.2.2.2.2.2.2.1) (z9.2.2.2.2.2.2.2.1) (z9.2.2.2.2.2.2.2.2.1) (z9.2.2.2.2.2.2.2.2.2.1) (z9.2.2.2.2.2.2.2.2.2.2.1) (z9.2.2.2.2.2.2.2.2.2.2.2.1) (z9.2.2.2.2.2.2.2.2.2.2.2.2)
theorem whole_oct_ctc_core : PWhole_oct_ctc (hkm (⟨(cx0, default, default, default, default, default, default, default, default, default, default, default, default)⟩ : Nonempty (Cx × (Array UInt8) × (List Nat) × (Array UInt8) × (Int) × (Int) × (Tok) × (Addr) × (Addr) × (Nat) × (Nat) × (List Str) × (Option (Nat × Nat)))) PWhole_oct_ctc) := by
  generalize hkm _ _ = z9
  delta PWhole_oct_ctc
  generalize z9.1.w = w, z9.1.mean = mean, z9.1.mg = mg, z9.1.mb = mb, z9.1.dp = dp, z9.1.un = un, z9.1.gd = gd, z9.1.cn = cn, z9.1.cs = cs, z9.1.a = a, z9.1.ccd = ccd, z9.1.cl = cl, z9.1.outer = outer, z9.1.A₀ = A₀, z9.1.base = base, z9.1.h₀ = h₀, z9.1.L = L, z9.1.m = m, z9.1.news = news, z9.1.s = s, z9.1.Q = Q, z9.1.E = E, z9.2.1 = d, z9.2.2.1 = rows, z9.2.2.2.1 = body, z9.2.2.2.2.1 = b, z9.2.2.2.2.2.1 = e, z9.2.2.2.2.2.2.1 = t, z9.2.2.2.2.2.2.2.1 = x, z9.2.2.2.2.2.2.2.2.1 = sx, z9.2.2.2.2.2.2.2.2.2.1 = path, z9.2.2.2.2.2.2.2.2.2.2.1 = k, z9.2.2.2.2.2.2.2.2.2.2.2.1 = names, z9.2.2.2.2.2.2.2.2.2.2.2.2 = p
  clear z9
  intros H M hP hS hp hk hnl hA ret
  have hP2 := hP
  obtain ⟨dx, h1, h2, h3, h4, h5, h6, h7, h8, k1, k2, k3, k4, k5, k6, k7, k8, t1, t2, t3, v4, v5, v6, kids, n, kn, m1, m2, m3⟩ := hP2
  have hS2 := hS
  obtain ⟨sdx, sh1, sh2, sh3, sh4, sk1, sk2, sk3, sk4, pa, st, na, pv, sn, its, nn, sm1, sm2, sp, sm3, hna, spv⟩ := hS2
  have hz2 : d.size ≤ 100000 := Nat.le_trans M.size (by decide)
  have he := M.he
  have hb0 : 0 ≤ b := by omega
  have he0 : 0 ≤ e := by have := M.hee; omega
  rcases sp with ⟨rfl, hp4⟩ | ⟨rfl, pn, pm⟩
  · rcases path with _ | _ | _ | _ | path
    · have hk5 : k < 5 := hk
      rw [show (559 + 0 : Addr) = (559 : Nat) from rfl] at *
      walk_at "my enter"
      k_steps
      exact ret _ _ _ (by assumption) (by walk_at "my news") ⟨_, rfl⟩
    · have hk6 : k < 6 := hk
      rw [show (559 + (0 + 1) : Addr) = (560 : Nat) from rfl] at *
      have hx1 := M.x1
      have hx2 := M.x2
      rcases k with _ | _ | _ | _ | _ | _ | k
      · walk_at "my enter"
        k_steps
        exact ret _ _ _ (by assumption) (by walk_at "my news") ⟨_, congrArg (fun y => Value.bytes y _) hx2⟩
      · walk_at "my enter"
        k_steps
        exact ret _ _ _ (by assumption) (by walk_at "my news") rfl
      · walk_at "my enter"
        k_steps
        exact ret _ _ _ (by assumption) (by walk_at "my news") rfl
      · walk_at "my enter"
        k_steps
        exact ret _ _ _ (by assumption) (by walk_at "my news") rfl
      · walk_at "my enter"
        k_steps
        exact ret _ _ _ (by assumption) (by walk_at "my news") rfl
      · walk_at "my enter"
        k_steps
        exact ret _ _ _ (by assumption) (by walk_at "my news") ⟨_, congrArg (fun y => Value.bytes y _) hx1⟩
      · omega
    · rw [show (559 + (0 + 1 + 1) : Addr) = (561 : Nat) from rfl] at *
      walk_at "my enter"
      k_steps
      exact ret _ _ _ (by assumption) (by walk_at "my news") rfl
    · rw [show (559 + (0 + 1 + 1 + 1) : Addr) = (562 : Nat) from rfl] at *
      walk_at "my enter"
      k_steps
      exact ret _ _ _ (by assumption) (by walk_at "my news") rfl
    · omega
  · have hk5 : k < 5 := hk
    walk_at "my enter"
    k_steps
    exact ret _ _ _ (by assumption) (by walk_at "my news") ⟨_, rfl⟩
section
variable {w : World} {mean : ExcName → Option Value} {mg mb : Str → Option Value} {dp un : Nat} {gd : Option (List Code)} {cn : Str} {cs : Scope} {a : Addr} {ccd : Value} {cl : List (Str × Addr)} {outer : List Env} {A₀ : Around} {base h₀ : Heap} {L : Addr} {m : Str → Option Value} {news : List (Addr × Obj)} {s : Shared} {Q E : Value → Shared → Prop}
theorem whole_oct_ctc (H : Here w mean mg mb 22 dp un cs outer A₀ base h₀ L m news s) {d : Array UInt8} {rows : List Nat} {body : Array UInt8} {b e : Int} {t : Tok} {x sx : Addr} {path k : Nat} {names : List Str} {p : Option (Nat × Nat)} (M : Made rows body d b e) (hP : PartIn news x b e) (hS : SecIn news sx path k names p) (hp : path < 4) (hk : if path = 0 then k < 5 else k < 6) (hnl : names.length ≤ 4) (hA : ∀ n ∈ names, n.cps.size < 1000 ∧ Asc n) (ret : ∀ v h' tk', Fr h₀ L h' m → News h₀ L h' news → OctV (octB rows body names path k) v → Q v { s with heap := h', toks := tk' }) :
   wpAny (model PG w) (ktrTop dp un gd cn cs L a ccd cl outer) (call (.ref 411) [.bytes d t, .ref x, .ref sx, .ref 338]) Q E s :=
  (hkf _ whole_oct_ctc_core (⟨w, mean, mg, mb, dp, un, gd, cn, cs, a, ccd, cl, outer, A₀, base, h₀, L, m, news, s, Q, E⟩, d, rows, body, b, e, t, x, sx, path, k, names, p) : PWhole_oct_ctc (⟨w, mean, mg, mb, dp, un, gd, cn, cs, a, ccd, cl, outer, A₀, base, h₀, L, m, news, s, Q, E⟩, d, rows, body, b, e, t, x, sx, path, k, names, p)) H M hP hS hp hk hnl hA ret
end
theorem reg_all35 : True := by
  k_with "call ref" => ((with_reducible show wpAny _ _ (call (Value.ref 411) [_, _, _, _]) _ _ _); k_here; k_dflt (refine' whole_oct_ctc (by first | (walk_at "my here") | fail) (by assumption) (by first | ((first |assumption|exact PartIn.mono (by assumption) (by first | (walk_at "my sub") | fail))) | fail) (by first | ((first |assumption|exact SecIn.mono (by assumption) (by first | (walk_at "my sub") | fail))) | fail) (by assumption) (by assumption) (by assumption) (by assumption) ?_; k_whole); intro qv9 qh9 qtk9 qF9 qN9 qO9; (try k_lt qM9); (try dsimp only); (try k_sweep); (try k_fold))
  trivial
section
variable {w : World} {mean : ExcName → Option Value} {mg mb : Str → Option Value} {dp un : Nat} {gd : Option (List Code)} {cn : Str} {cs : Scope} {a : Addr} {ccd : Value} {cl : List (Str × Addr)} {outer : List Env} {A₀ : Around} {base h₀ : Heap} {L : Addr} {m : Str → Option Value} {news : List (Addr × Obj)} {s : Shared} {Q E : Value → Shared → Prop}
theorem octB_size {rows : List Nat} {body d : Array UInt8} {b e : Int} (M : Made rows body d b e) {names : List Str} {path k : Nat} : ∀ b, octB rows body names path k = some b → b.size ≤ 1000 := by
  have h1 := offs_bound rows
  have h2 := M.hl
  have h3 := M.hb
  have h4 := headA_size rows
  have hw : (octW rows body names k).size ≤ 1000 := by
    have q1 := pick_size names false rows
    have q2 := pick_size names true rows
    unfold octW
    split <;> (try simp only [Array.size_append]) <;> first | omega | (show _ + 2 ≤ _; omega)
  intro b hb
  unfold octB at hb
  split at hb
  · cases hb; exact hw
  split at hb
  · split at hb
    · cases hb; omega
    split at hb
    · cases hb; omega
    · cases hb
  · cases hb
end
def PSec_oct_ctc (z9 : Cx × (Array UInt8) × (List Nat) × (Array UInt8) × (Int) × (Int) × (Tok) × (Addr) × (Addr) × (Nat) × (Nat) × (List Str) × (Option (Nat × Nat))) : Prop := (fun (w : World) (mean : ExcName → Option Value) (mg : Str → Option Value) (mb : Str → Option Value) (dp : Nat) (un : Nat) (gd : Option (List Code)) (cn : Str) (cs : Scope) (a : Addr) (ccd : Value) (cl : List (Str × Addr)) (outer : List Env) (A₀ : Around) (base : Heap) (h₀ : Heap) (L : Addr) (m : Str → Option Value) (news : List (Addr × Obj)) (s : Shared) (Q : Value → Shared → Prop) (E : Value → Shared → Prop) (d : Array UInt8) (rows : List Nat) (body : Array UInt8) (b : Int) (e : Int) (t : Tok) (x : Addr) (sx : Addr) (path : Nat) (k : Nat) (names : List Str) (p : Option (Nat × Nat)) => ∀ (H : Here w mean mg mb 26 dp un cs outer A₀ base h₀ L m news s) (M : Made rows body d b e) (hP : PartIn news x b e) (hS : SecIn news sx path k names p) (hp : path < 4) (hk : if path = 0 then k < 5 else k < 6) (hnl : names.length ≤ 4) (hA : ∀ n ∈ names, n.cps.size < 1000 ∧ Asc n) (ret : ∀ v h' tk', Fr h₀ L h' m → News h₀ L h' news → OctV (cutB (octB rows body names path k) p) v → Q v { s with heap := h', toks := tk' }), wpAny (model PG w) (ktrTop dp un gd cn cs L a ccd cl outer) (call (.ref 425) [.bytes d t, .ref x, .ref sx]) Q E s) (z9.1.w) (z9.1.mean) (z9.1.mg) (z9.1.mb) (z9.1.dp) (z9.1.un) (z9.1.gd) (z9.1.cn) (z9.1.cs) (z9.1.a) (z9.1.ccd) (z9.1.cl) (z9.1.outer) (z9.1.A₀) (z9.1.base) (z9.1.h₀) (z9.1.L) (z9.1.m) (z9.1.news) (z9.1.s) (z9.1.Q) (z9.1.E) (z9.2.1) (z9.2.2.1) (z9.2.2.2.1) (z9.2.2.2.2.1) (z9.2.2.2.2.2.1) (z9.2.2.2.2.2.2.1) (z9.2.2.2.2.2.2.2.1) (z9.2.2.2.2.2.2.2.2.1) (z9.2.2.2.2.2.2.2.2.2.1) (z9.2.2.2.2.2.2.2.2.2.2.1) (z9.2.2.2.2.2.2.2.2.2.2.2.1) (z9.2.2.2.2.2.2.2.2.2.2.2.2)
theorem sec_oct_ctc_core : PSec_oct_ctc (hkm (⟨(cx0, default, default, default, default, default, default, default, default, default, default, default, default)⟩ : Nonempty (Cx × (Array UInt8) × (List Nat) × (Array UInt8) × (Int) × (Int) × (Tok) × (Addr) × (Addr) × (Nat) × (Nat) × (List Str) × (Option (Nat × Nat)))) PSec_oct_ctc) := by
  generalize hkm _ _ = z9
  delta PSec_oct_ctc
  generalize z9.1.w = w, z9.1.mean = mean, z9.1.mg = mg, z9.1.mb = mb, z9.1.dp = dp, z9.1.un = un, z9.1.gd = gd, z9.1.cn = cn, z9.1.cs = cs, z9.1.a = a, z9.1.ccd = ccd, z9.1.cl = cl, z9.1.outer = outer, z9.1.A₀ = A₀, z9.1.base = base, z9.1.h₀ = h₀, z9.1.L = L, z9.1.m = m, z9.1.news = news, z9.1.s = s, z9.1.Q = Q, z9.1.E = E, z9.2.1 = d, z9.2.2.1 = rows, z9.2.2.2.1 = body, z9.2.2.2.2.1 = b, z9.2.2.2.2.2.1 = e, z9.2.2.2.2.2.2.1 = t, z9.2.2.2.2.2.2.2.1 = x, z9.2.2.2.2.2.2.2.2.1 = sx, z9.2.2.2.2.2.2.2.2.2.1 = path, z9.2.2.2.2.2.2.2.2.2.2.1 = k, z9.2.2.2.2.2.2.2.2.2.2.2.1 = names, z9.2.2.2.2.2.2.2.2.2.2.2.2 = p
  clear z9
  intros H M hP hS hp hk hnl hA ret
  have hoz := octB_size M (names := names) (path := path) (k := k)
  have hS2 := hS
  obtain ⟨sdx, sh1, sh2, sh3, sh4, sk1, sk2, sk3, sk4, pa, st, na, pv, sn, its, nn, sm1, sm2, sp, sm3, hna, spv⟩ := hS2
  have spv2 := spv
  rcases p with _ | ⟨pi, pj⟩
  · obtain rfl : pv = .none := spv
    walk_at "my enter"
    k_steps
    exact ret _ _ _ (by assumption) (by walk_at "my news") (by assumption)
  · obtain ⟨pa9, pt9, pu9, pn9, rfl, pm9⟩ := spv
    walk_at "my enter"
    k_steps
    exact ret _ _ _ (by assumption) (by walk_at "my news") (by assumption)
section
variable {w : World} {mean : ExcName → Option Value} {mg mb : Str → Option Value} {dp un : Nat} {gd : Option (List Code)} {cn : Str} {cs : Scope} {a : Addr} {ccd : Value} {cl : List (Str × Addr)} {outer : List Env} {A₀ : Around} {base h₀ : Heap} {L : Addr} {m : Str → Option Value} {news : List (Addr × Obj)} {s : Shared} {Q E : Value → Shared → Prop}
theorem sec_oct_ctc (H : Here w mean mg mb 26 dp un cs outer A₀ base h₀ L m news s) {d : Array UInt8} {rows : List Nat} {body : Array UInt8} {b e : Int} {t : Tok} {x sx : Addr} {path k : Nat} {names : List Str} {p : Option (Nat × Nat)} (M : Made rows body d b e) (hP : PartIn news x b e) (hS : SecIn news sx path k names p) (hp : path < 4) (hk : if path = 0 then k < 5 else k < 6) (hnl : names.length ≤ 4) (hA : ∀ n ∈ names, n.cps.size < 1000 ∧ Asc n) (ret : ∀ v h' tk', Fr h₀ L h' m → News h₀ L h' news → OctV (cutB (octB rows body names path k) p) v → Q v { s with heap := h', toks := tk' }) :
   wpAny (model PG w) (ktrTop dp un gd cn cs L a ccd cl outer) (call (.ref 425) [.bytes d t, .ref x, .ref sx]) Q E s :=
  (hkf _ sec_oct_ctc_core (⟨w, mean, mg, mb, dp, un, gd, cn, cs, a, ccd, cl, outer, A₀, base, h₀, L, m, news, s, Q, E⟩, d, rows, body, b, e, t, x, sx, path, k, names, p) : PSec_oct_ctc (⟨w, mean, mg, mb, dp, un, gd, cn, cs, a, ccd, cl, outer, A₀, base, h₀, L, m, news, s, Q, E⟩, d, rows, body, b, e, t, x, sx, path, k, names, p)) H M hP hS hp hk hnl hA ret
end
theorem reg_all36 : True := by
  k_with "call ref" => ((with_reducible show wpAny _ _ (call (Value.ref 425) [_, _, _]) _ _ _); k_here; k_dflt (refine' sec_oct_ctc (by first | (walk_at "my here") | fail) (by assumption) (by first | ((first |assumption|exact PartIn.mono (by assumption) (by first | (walk_at "my sub") | fail))) | fail) (by first | ((first |assumption|exact SecIn.mono (by assumption) (by first | (walk_at "my sub") | fail))) | fail) (by assumption) (by assumption) (by assumption) (by assumption) ?_; k_whole); intro qv9 qh9 qtk9 qF9 qN9 qO9; (try k_lt qM9); (try dsimp only); (try k_sweep); (try k_fold))
  trivial
end
section
section
variable {w : World} {mean : ExcName → Option Value} {mg mb : Str → Option Value} {dp un : Nat} {gd : Option (List Code)} {cn : Str} {cs : Scope} {a : Addr} {ccd : Value} {cl : List (Str × Addr)} {outer : List Env} {A₀ : Around} {base h₀ : Heap} {L : Addr} {m : Str → Option Value} {news : List (Addr × Obj)} {s : Shared} {Q E : Value → Shared → Prop}
def barB : Array UInt8 := #[40, 41, 123, 37, 42, 34, 92, 93, 32]
def AtomC (c : Nat) : Prop := 32 < c ∧ c < 127 ∧ barB.contains ((c : Int).toNat.toUInt8) = false
end
theorem reg_all37 : True := by
  k_with "compareOp NotIn int bytes" => (((fail_if_success (fail_if_success (have qz9 : Mk 18 := by with_reducible assumption))); (k_here; k_dflt (refine notIn_bytes (by omega) (by omega) (by assumption) ?_))))
  trivial
def PAtom_ctc (z9 : Cx × (Nat) × (Tok)) : Prop := (fun (w : World) (mean : ExcName → Option Value) (mg : Str → Option Value) (mb : Str → Option Value) (dp : Nat) (un : Nat) (gd : Option (List Code)) (cn : Str) (cs : Scope) (a : Addr) (ccd : Value) (cl : List (Str × Addr)) (outer : List Env) (A₀ : Around) (base : Heap) (h₀ : Heap) (L : Addr) (m : Str → Option Value) (news : List (Addr × Obj)) (s : Shared) (Q : Value → Shared → Prop) (E : Value → Shared → Prop) (c : Nat) (t : Tok) => ∀ (H : Here w mean mg mb 1 dp un cs outer A₀ base h₀ L m news s) (hc : AtomC c) (ret : ∀ h' tk', Fr h₀ L h' m → News h₀ L h' news → Q (.bool true) { s with heap := h', toks := tk' }), wpAny (model PG w) (ktrTop dp un gd cn cs L a ccd cl outer) (call (.ref 374) [.int (c : Int) t]) Q E s) (z9.1.w) (z9.1.mean) (z9.1.mg) (z9.1.mb) (z9.1.dp) (z9.1.un) (z9.1.gd) (z9.1.cn) (z9.1.cs) (z9.1.a) (z9.1.ccd) (z9.1.cl) (z9.1.outer) (z9.1.A₀) (z9.1.base) (z9.1.h₀) (z9.1.L) (z9.1.m) (z9.1.news) (z9.1.s) (z9.1.Q) (z9.1.E) (z9.2.1) (z9.2.2)
theorem atom_ctc_core : PAtom_ctc (hkm (⟨(cx0, default, default)⟩ : Nonempty (Cx × (Nat) × (Tok))) PAtom_ctc) := by
  generalize hkm _ _ = z9
  delta PAtom_ctc
  generalize z9.1.w = w, z9.1.mean = mean, z9.1.mg = mg, z9.1.mb = mb, z9.1.dp = dp, z9.1.un = un, z9.1.gd = gd, z9.1.cn = cn, z9.1.cs = cs, z9.1.a = a, z9.1.ccd = ccd, z9.1.cl = cl, z9.1.outer = outer, z9.1.A₀ = A₀, z9.1.base = base, z9.1.h₀ = h₀, z9.1.L = L, z9.1.m = m, z9.1.news = news, z9.1.s = s, z9.1.Q = Q, z9.1.E = E, z9.2.1 = c, z9.2.2 = t
  clear z9
  intros H hc ret
  have qmk18 : Mk 18 := True.intro
  obtain ⟨c1, c2, c3⟩ := hc
  unfold barB at c3
  walk_at "my enter"
  k_steps
  exact ret _ _ (by assumption) (by walk_at "my news")
section
variable {w : World} {mean : ExcName → Option Value} {mg mb : Str → Option Value} {dp un : Nat} {gd : Option (List Code)} {cn : Str} {cs : Scope} {a : Addr} {ccd : Value} {cl : List (Str × Addr)} {outer : List Env} {A₀ : Around} {base h₀ : Heap} {L : Addr} {m : Str → Option Value} {news : List (Addr × Obj)} {s : Shared} {Q E : Value → Shared → Prop}
theorem atom_ctc (H : Here w mean mg mb 1 dp un cs outer A₀ base h₀ L m news s) {c : Nat} {t : Tok} (hc : AtomC c) (ret : ∀ h' tk', Fr h₀ L h' m → News h₀ L h' news → Q (.bool true) { s with heap := h', toks := tk' }) :
   wpAny (model PG w) (ktrTop dp un gd cn cs L a ccd cl outer) (call (.ref 374) [.int (c : Int) t]) Q E s :=
  (hkf _ atom_ctc_core (⟨w, mean, mg, mb, dp, un, gd, cn, cs, a, ccd, cl, outer, A₀, base, h₀, L, m, news, s, Q, E⟩, c, t) : PAtom_ctc (⟨w, mean, mg, mb, dp, un, gd, cn, cs, a, ccd, cl, outer, A₀, base, h₀, L, m, news, s, Q, E⟩, c, t)) H hc ret
end
theorem reg_all38 : True := by
  k_with "call ref" => ((with_reducible show wpAny _ _ (call (Value.ref 374) [_]) _ _ _); k_here; k_dflt (refine' atom_ctc (by first | (walk_at "my here") | fail) (by assumption) ?_; k_whole); intro qh9 qtk9 qF9 qN9; (try k_lt qM9); (try dsimp only); (try k_sweep); (try k_fold))
  trivial
section
variable {w : World} {mean : ExcName → Option Value} {mg mb : Str → Option Value} {dp un : Nat} {gd : Option (List Code)} {cn : Str} {cs : Scope} {a : Addr} {ccd : Value} {cl : List (Str × Addr)} {outer : List Env} {A₀ : Around} {base h₀ : Heap} {L : Addr} {m : Str → Option Value} {news : List (Addr × Obj)} {s : Shared} {Q E : Value → Shared → Prop}
theorem app_empty (x : Str) : x ++ Str.ofString "" = x := by
  refine str_ext ?_
  rw [Str.cps_append, empty_cps]; simp
def partS : Option (Nat × Nat) → Str
  | none => Str.ofString ""
  | some (i, _) => Str.ofString "<" ++ Str.ofString (toString (i : Int)) ++ Str.ofString ">"
end
def PShow_part_ctc (z9 : Cx × (Value) × (Option (Nat × Nat))) : Prop := (fun (w : World) (mean : ExcName → Option Value) (mg : Str → Option Value) (mb : Str → Option Value) (dp : Nat) (un : Nat) (gd : Option (List Code)) (cn : Str) (cs : Scope) (a : Addr) (ccd : Value) (cl : List (Str × Addr)) (outer : List Env) (A₀ : Around) (base : Heap) (h₀ : Heap) (L : Addr) (m : Str → Option Value) (news : List (Addr × Obj)) (s : Shared) (Q : Value → Shared → Prop) (E : Value → Shared → Prop) (pv : Value) (p : Option (Nat × Nat)) => ∀ (H : Here w mean mg mb 1 dp un cs outer A₀ base h₀ L m news s) (hp : PartV news pv p) (hz : ∀ i k, p = some (i, k) → i < 100) (ret : ∀ t h' tk', Fr h₀ L h' m → News h₀ L h' news → Q (.str (partS p) t) { s with heap := h', toks := tk' }), wpAny (model PG w) (ktrTop dp un gd cn cs L a ccd cl outer) (call (.ref 386) [pv, .bool true]) Q E s) (z9.1.w) (z9.1.mean) (z9.1.mg) (z9.1.mb) (z9.1.dp) (z9.1.un) (z9.1.gd) (z9.1.cn) (z9.1.cs) (z9.1.a) (z9.1.ccd) (z9.1.cl) (z9.1.outer) (z9.1.A₀) (z9.1.base) (z9.1.h₀) (z9.1.L) (z9.1.m) (z9.1.news) (z9.1.s) (z9.1.Q) (z9.1.E) (z9.2.1) (z9.2.2)
theorem show_part_ctc_core : PShow_part_ctc (hkm (⟨(cx0, default, default)⟩ : Nonempty (Cx × (Value) × (Option (Nat × Nat)))) PShow_part_ctc) := by
  generalize hkm _ _ = z9
  delta PShow_part_ctc
  generalize z9.1.w = w, z9.1.mean = mean, z9.1.mg = mg, z9.1.mb = mb, z9.1.dp = dp, z9.1.un = un, z9.1.gd = gd, z9.1.cn = cn, z9.1.cs = cs, z9.1.a = a, z9.1.ccd = ccd, z9.1.cl = cl, z9.1.outer = outer, z9.1.A₀ = A₀, z9.1.base = base, z9.1.h₀ = h₀, z9.1.L = L, z9.1.m = m, z9.1.news = news, z9.1.s = s, z9.1.Q = Q, z9.1.E = E, z9.2.1 = pv, z9.2.2 = p
  clear z9
  intros H hp hz ret
  have qmk18 : Mk 18 := True.intro
  rcases p with _ | ⟨i, j⟩
  · obtain rfl : pv = .none := hp
    walk_at "my enter"
    k_steps
    exact ret _ _ _ (by assumption) (by walk_at "my news")
  · obtain ⟨pa, pt, pu, pn, rfl, pm⟩ := hp
    have hi := hz i j rfl
    walk_at "my enter"
    k_steps
    refine cb_retS ret ?_ (by assumption) (by walk_at "my news")
    rw [app_empty]; rfl
section
variable {w : World} {mean : ExcName → Option Value} {mg mb : Str → Option Value} {dp un : Nat} {gd : Option (List Code)} {cn : Str} {cs : Scope} {a : Addr} {ccd : Value} {cl : List (Str × Addr)} {outer : List Env} {A₀ : Around} {base h₀ : Heap} {L : Addr} {m : Str → Option Value} {news : List (Addr × Obj)} {s : Shared} {Q E : Value → Shared → Prop}
theorem show_part_ctc (H : Here w mean mg mb 1 dp un cs outer A₀ base h₀ L m news s) {pv : Value} {p : Option (Nat × Nat)} (hp : PartV news pv p) (hz : ∀ i k, p = some (i, k) → i < 100) (ret : ∀ t h' tk', Fr h₀ L h' m → News h₀ L h' news → Q (.str (partS p) t) { s with heap := h', toks := tk' }) :
   wpAny (model PG w) (ktrTop dp un gd cn cs L a ccd cl outer) (call (.ref 386) [pv, .bool true]) Q E s :=
  (hkf _ show_part_ctc_core (⟨w, mean, mg, mb, dp, un, gd, cn, cs, a, ccd, cl, outer, A₀, base, h₀, L, m, news, s, Q, E⟩, pv, p) : PShow_part_ctc (⟨w, mean, mg, mb, dp, un, gd, cn, cs, a, ccd, cl, outer, A₀, base, h₀, L, m, news, s, Q, E⟩, pv, p)) H hp hz ret
end
section
variable {w : World} {mean : ExcName → Option Value} {mg mb : Str → Option Value} {dp un : Nat} {gd : Option (List Code)} {cn : Str} {cs : Scope} {a : Addr} {ccd : Value} {cl : List (Str × Addr)} {outer : List Env} {A₀ : Around} {base h₀ : Heap} {L : Addr} {m : Str → Option Value} {news : List (Addr × Obj)} {s : Shared} {Q E : Value → Shared → Prop}
theorem partS_len {p : Option (Nat × Nat)} (hz : ∀ i k, p = some (i, k) → i < 100) : (partS p).length ≤ 10 := by
  rcases p with _ | ⟨i, j⟩
  · show (Str.ofString "").length ≤ 10
    decide +kernel
  · have h : ∀ i : Fin 100, (partS (some ((i : Nat), 0))).length ≤ 10 := by decide +kernel
    exact h ⟨i, hz i j rfl⟩
end
theorem reg_all39 : True := by
  k_with "call ref" => ((with_reducible show wpAny _ _ (call (Value.ref 386) [_, Value.bool true]) _ _ _); k_here; k_dflt (refine' show_part_ctc (by first | (walk_at "my here") | fail) (by first | ((first |assumption|exact PartV.mono (by assumption) (by first | (walk_at "my sub") | fail))) | fail) (by assumption) ?_; k_whole); intro qt9 qh9 qtk9 qF9 qN9; (try k_lt qM9); (try dsimp only); (try k_sweep); (try k_fold))
  trivial
end
section
section
variable {w : World} {mean : ExcName → Option Value} {mg mb : Str → Option Value} {dp un : Nat} {gd : Option (List Code)} {cn : Str} {cs : Scope} {a : Addr} {ccd : Value} {cl : List (Str × Addr)} {outer : List Env} {A₀ : Around} {base h₀ : Heap} {L : Addr} {m : Str → Option Value} {news : List (Addr × Obj)} {s : Shared} {Q E : Value → Shared → Prop}
inductive Pull (d : Addr) (o : Obj) : List (Addr × Obj) → List (Addr × Obj) → Prop
  | head {r} : (∀ p ∈ r, p.1 ≠ d) → Pull d o ((d, o) :: r) r
  | tail {p r r'} : p.1 ≠ d → Pull d o r r' → Pull d o (p :: r) (p :: r')
theorem Pull.ne {d : Addr} {o : Obj} : ∀ {l l' : List (Addr × Obj)}, Pull d o l l' → ∀ p ∈ l', p.1 ≠ d
  | _, _, .head h => h
  | _, _, .tail h r => fun p hp => by
    rcases List.mem_cons.mp hp with rfl | hp
    · exact h
    · exact r.ne p hp
theorem Pull.mem {d : Addr} {o : Obj} : ∀ {l l' : List (Addr × Obj)}, Pull d o l l' → (d, o) ∈ l
  | _, _, .head _ => .head _
  | _, _, .tail _ r => .tail _ r.mem
theorem Pull.sub {d : Addr} {o : Obj} : ∀ {l l' : List (Addr × Obj)}, Pull d o l l' → ∀ p ∈ l', p ∈ l
  | _, _, .head _ => fun p hp => .tail _ hp
  | _, _, .tail _ r => fun p hp => by
    rcases List.mem_cons.mp hp with rfl | hp
    · exact .head _
    · exact .tail _ (r.sub p hp)
theorem pull_news {d : Addr} {o : Obj} {l l' : List (Addr × Obj)} {h₀ h : Heap} {L : Addr} (P : Pull d o l l') (N : News h₀ L h l) : News h₀ L h ((d, o) :: l') := fun p hp => by
  rcases List.mem_cons.mp hp with rfl | hp
  · exact N _ P.mem
  · exact N _ (P.sub p hp)
abbrev srcO (C : Addr) (a : Int) (t : Tok) (n : Nat) : Obj := listOf #[.ref C, .int a t] n
def drawI (ns : List Int) (a lim : Int) : Int := (ns.getD (a.fmod ns.length).toNat 0 + 11 * a.fdiv ns.length).fmod lim
theorem len_ints {prog : Program} {A : Around} {D : Addr} {vs : List Value} {ns : List Int} {n : Nat} (N : News h₀ L s.heap news) (hm : (D, listOf vs.toArray n) ∈ news) (hv : IntsAre vs ns) (hz : ns.length ≤ 1000) (h : Q (.int (ns.length : Nat) (s.toks + 1)) { s with toks := s.toks + 1 + 1 }) :
    wpAny (model prog w) A (call (.builtin "len") [.ref D]) Q E s := by
  have hl : s.heap.IsList D vs.toArray := News.isList N hm
  have e := hv.length
  refine Calls.call_len_list hl (by rw [List.size_toArray]; omega) ?_
  rw [List.size_toArray, e]
  exact h
theorem item_ints {prog : Program} {A : Around} {value slice : PySem.Expr} {D : Addr} {vs : List Value} {ns : List Int} {n : Nat} {k : Int} {u : Tok} (N : News h₀ L s.heap news) (hm : (D, listOf vs.toArray n) ∈ news) (hv : IntsAre vs ns) (h0 : 0 ≤ k) (h1 : k < ns.length) (hz : ns.length ≤ 1000) (h : ∀ t, Q (.int (ns.getD k.toNat 0) t) s)
    (hs : subscripted slice false (.ref D) (.int k u) = operate [.ref D, .int k u] (getItem (.ref D) (.int k u)) := by with_unfolding_all rfl) :
    wpAny (model prog w) A (subscriptTail value slice (.ref D) (.int k u)) Q E s := item_anyK (News.isList N hm) hv h0 h1 (by omega) h hs
end
section
theorem reg_all40 : True := by
  k_with "call builtin:len" => (((fail_if_success (fail_if_success (have qz9 : Mk 20 := by with_reducible assumption))); (k_here; (with_reducible show wpAny _ _ (call (Value.builtin "len") [Value.ref _]) _ _ _); k_dflt (refine' len_ints (by k_asm) (by first | (k_mem) | fail) (by assumption) (by omega) ?_; k_whole))))
  k_with "subscriptTail" => (((fail_if_success (fail_if_success (have qz9 : Mk 20 := by with_reducible assumption))); (k_here; (with_reducible show wpAny _ _ (subscriptTail _ _ (Value.ref _) (Value.int (Int.fmod _ _) _)) _ _ _); k_dflt (refine' item_ints (by k_asm) (by first | (k_mem) | fail) (by assumption) (by assumption) (by assumption) (by omega) ?_; k_whole); intro qt9)))
  trivial
def PDraw_ctc (z9 : Cx × (Addr) × (Addr) × (Int) × (Int) × (Tok) × (Tok) × (List (Addr × Obj)) × (List Value) × (List Int) × (Nat) × (Nat)) : Prop := (fun (w : World) (mean : ExcName → Option Value) (mg : Str → Option Value) (mb : Str → Option Value) (dp : Nat) (un : Nat) (gd : Option (List Code)) (cn : Str) (cs : Scope) (a : Addr) (ccd : Value) (cl : List (Str × Addr)) (outer : List Env) (A₀ : Around) (base : Heap) (h₀ : Heap) (L : Addr) (m : Str → Option Value) (news : List (Addr × Obj)) (s : Shared) (Q : Value → Shared → Prop) (E : Value → Shared → Prop) (S : Addr) (C : Addr) (at' : Int) (lim : Int) (ta : Tok) (tl : Tok) (rest : List (Addr × Obj)) (vs : List Value) (ns : List Int) (nn : Nat) (sn : Nat) => ∀ (H : Here w mean mg mb 1 dp un cs outer A₀ base h₀ L m news s) (P : Pull S (srcO C at' ta sn) news rest) (hC : (C, listOf vs.toArray nn) ∈ rest) (hv : IntsAre vs ns) (hn : 0 < ns.length ∧ ns.length ≤ 63) (h0 : 0 ≤ at' ∧ at' ≤ 100000) (hl : 0 < lim ∧ lim ≤ 1000000000000) (ret : ∀ (r : Nat) t t' h' tk', (r : Int) < lim → Fr h₀ L h' m → News h₀ L h' ((S, srcO C (at' + 1) t' sn) :: rest) → Q (.int (r : Int) t) { s with heap := h', toks := tk' }), wpAny (model PG w) (ktrTop dp un gd cn cs L a ccd cl outer) (call (.ref 577) [.ref S, .int lim tl]) Q E s) (z9.1.w) (z9.1.mean) (z9.1.mg) (z9.1.mb) (z9.1.dp) (z9.1.un) (z9.1.gd) (z9.1.cn) (z9.1.cs) (z9.1.a) (z9.1.ccd) (z9.1.cl) (z9.1.outer) (z9.1.A₀) (z9.1.base) (z9.1.h₀) (z9.1.L) (z9.1.m) (z9.1.news) (z9.1.s) (z9.1.Q) (z9.1.E) (z9.2.1) (z9.2.2.1) (z9.2.2.2.1) (z9.2.2.2.2.1) (z9.2.2.2.2.2.1) (z9.2.2.2.2.2.2.1) (z9.2.2.2.2.2.2.2.1) (z9.2.2.2.2.2.2.2.2.1) (z9.2.2.2.2.2.2.2.2.2.1) (z9.2.2.2.2.2.2.2.2.2.2.1) (z9.2.2.2.2.2.2.2.2.2.2.2)
theorem draw_ctc_core : PDraw_ctc (hkm (⟨(cx0, default, default, default, default, default, default, default, default, default, default, default)⟩ : Nonempty (Cx × (Addr) × (Addr) × (Int) × (Int) × (Tok) × (Tok) × (List (Addr × Obj)) × (List Value) × (List Int) × (Nat) × (Nat))) PDraw_ctc) := by
  generalize hkm _ _ = z9
  delta PDraw_ctc
  generalize z9.1.w = w, z9.1.mean = mean, z9.1.mg = mg, z9.1.mb = mb, z9.1.dp = dp, z9.1.un = un, z9.1.gd = gd, z9.1.cn = cn, z9.1.cs = cs, z9.1.a = a, z9.1.ccd = ccd, z9.1.cl = cl, z9.1.outer = outer, z9.1.A₀ = A₀, z9.1.base = base, z9.1.h₀ = h₀, z9.1.L = L, z9.1.m = m, z9.1.news = news, z9.1.s = s, z9.1.Q = Q, z9.1.E = E, z9.2.1 = S, z9.2.2.1 = C, z9.2.2.2.1 = at', z9.2.2.2.2.1 = lim, z9.2.2.2.2.2.1 = ta, z9.2.2.2.2.2.2.1 = tl, z9.2.2.2.2.2.2.2.1 = rest, z9.2.2.2.2.2.2.2.2.1 = vs, z9.2.2.2.2.2.2.2.2.2.1 = ns, z9.2.2.2.2.2.2.2.2.2.2.1 = nn, z9.2.2.2.2.2.2.2.2.2.2.2 = sn
  clear z9
  intros H P hC hv hn h0 hl ret
  have qmk20 : Mk 20 := True.intro
  have H1 : Here w mean mg mb 1 dp un cs outer A₀ base h₀ L m ((S, srcO C at' ta sn) :: rest) s := ⟨H.B, H.F, H.X, pull_news P H.N, H.T, H.hk, H.hd, H.hu⟩
  have hne := P.ne
  clear P H
  have hm1 : 0 ≤ at'.fmod (ns.length : Nat) := Int.fmod_nonneg_of_pos _ (by omega)
  have hm2 : at'.fmod (ns.length : Nat) < (ns.length : Nat) := Int.fmod_lt_of_pos _ (by omega)
  walk_at "my enter"
  k_steps
  have key : ∀ (x : Int) t t' h' tk', 0 ≤ x → x < lim → Fr h₀ L h' m → News h₀ L h' ((S, srcO C (at' + 1) t' sn) :: rest) → Q (.int x t) { s with heap := h', toks := tk' } := by
    intro x t t' h' tk' p q F' N'
    obtain ⟨k, rfl⟩ : ∃ k : Nat, x = (k : Int) := ⟨x.toNat, by omega⟩
    exact ret k t t' h' tk' q F' N'
  exact key _ _ _ _ _ (Int.fmod_nonneg_of_pos _ (by omega)) (Int.fmod_lt_of_pos _ (by omega)) (by assumption) (by assumption)
section
variable {w : World} {mean : ExcName → Option Value} {mg mb : Str → Option Value} {dp un : Nat} {gd : Option (List Code)} {cn : Str} {cs : Scope} {a : Addr} {ccd : Value} {cl : List (Str × Addr)} {outer : List Env} {A₀ : Around} {base h₀ : Heap} {L : Addr} {m : Str → Option Value} {news : List (Addr × Obj)} {s : Shared} {Q E : Value → Shared → Prop}
theorem draw_ctc (H : Here w mean mg mb 1 dp un cs outer A₀ base h₀ L m news s) {S C : Addr} {at' lim : Int} {ta tl : Tok} {rest : List (Addr × Obj)} {vs : List Value} {ns : List Int} {nn sn : Nat} (P : Pull S (srcO C at' ta sn) news rest) (hC : (C, listOf vs.toArray nn) ∈ rest) (hv : IntsAre vs ns) (hn : 0 < ns.length ∧ ns.length ≤ 63) (h0 : 0 ≤ at' ∧ at' ≤ 100000) (hl : 0 < lim ∧ lim ≤ 1000000000000) (ret : ∀ (r : Nat) t t' h' tk', (r : Int) < lim → Fr h₀ L h' m → News h₀ L h' ((S, srcO C (at' + 1) t' sn) :: rest) → Q (.int (r : Int) t) { s with heap := h', toks := tk' }) :
   wpAny (model PG w) (ktrTop dp un gd cn cs L a ccd cl outer) (call (.ref 577) [.ref S, .int lim tl]) Q E s :=
  (hkf _ draw_ctc_core (⟨w, mean, mg, mb, dp, un, gd, cn, cs, a, ccd, cl, outer, A₀, base, h₀, L, m, news, s, Q, E⟩, S, C, at', lim, ta, tl, rest, vs, ns, nn, sn) : PDraw_ctc (⟨w, mean, mg, mb, dp, un, gd, cn, cs, a, ccd, cl, outer, A₀, base, h₀, L, m, news, s, Q, E⟩, S, C, at', lim, ta, tl, rest, vs, ns, nn, sn)) H P hC hv hn h0 hl ret
end
end
theorem reg_all41 : True := by
  k_with "call ref" => ((with_reducible show wpAny _ _ (call (Value.ref 577) [Value.ref _, _]) _ _ _); k_here; k_dflt (refine' draw_ctc (by walk_at "my here") (by walk_at "my pull") (by k_mem) (by assumption) (by (first |assumption|omega)) (by omega) (by omega) ?_; k_whole); intro qr9 qt9 qu9 qh9 qtk9 qq9 qF9 qN9; (try k_lt qM9); (try dsimp only); (try k_sweep); (try k_fold))
  trivial
end
section
section
variable {w : World} {mean : ExcName → Option Value} {mg mb : Str → Option Value} {dp un : Nat} {gd : Option (List Code)} {cn : Str} {cs : Scope} {a : Addr} {ccd : Value} {cl : List (Str × Addr)} {outer : List Env} {A₀ : Around} {base h₀ : Heap} {L : Addr} {m : Str → Option Value} {news : List (Addr × Obj)} {s : Shared} {Q E : Value → Shared → Prop}
def pathL : Nat → List Int
  | 0 => [] | 1 => [1] | 2 => [2] | _ => [1, 1]
def nameT : Nat → Str
  | 0 => ⟨#[84, 79]⟩
  | 1 => ⟨#[83, 117, 98, 106, 101, 99, 116]⟩
  | 2 => ⟨#[120, 45, 65]⟩
  | _ => ⟨#[78, 111, 110, 101]⟩
theorem top_item {prog : Program} {A : Around} {value slice : PySem.Expr} {T : Addr} {its : List Value} {k : Nat} {u : Tok} (ht : IsTup s.heap T its.toArray) (h1 : k < its.length) (hz : its.length ≤ 1000) (h : ∀ v, its[k]? = some v → Q v s)
    (hs : subscripted slice false (.ref T) (.int (k : Int) u) = operate [.ref T, .int (k : Int) u] (getItem (.ref T) (.int (k : Int) u))) :
    wpAny (model prog w) A (subscriptTail value slice (.ref T) (.int (k : Int) u)) Q E s :=
  item_tupleT (j := k) ht (by omega) (by omega) (by simp [seqIndex?, h1, show ¬ ((k : Int) < 0) from by omega]) (List.getElem?_eq_getElem h1) (h _ (List.getElem?_eq_getElem h1)) hs
theorem words_eq : Str.ofString "" = wordS 0 ∧ Str.ofString "HEADER" = wordS 1 ∧ Str.ofString "TEXT" = wordS 2 ∧ Str.ofString "HEADER.FIELDS" = wordS 3 ∧ Str.ofString "HEADER.FIELDS.NOT" = wordS 4 ∧ Str.ofString "MIME" = wordS 5 := by decide +kernel
theorem names_eq : Str.ofString "TO" = nameT 0 ∧ Str.ofString "Subject" = nameT 1 ∧ Str.ofString "x-A" = nameT 2 ∧ Str.ofString "None" = nameT 3 := by decide +kernel
theorem titles_eq : Str.ofString "from" = titleS 0 ∧ Str.ofString "to" = titleS 1 ∧ Str.ofString "subject" = titleS 2 ∧ Str.ofString "subject" = titleS 3 ∧ Str.ofString "x-a" = titleS 4 := by decide +kernel
end
section
variable {A : Around} {value slice : PySem.Expr} {k : Nat} {u : Tok}
section
variable {w : World} {mean : ExcName → Option Value} {mg mb : Str → Option Value} {dp un : Nat} {gd : Option (List Code)} {cn : Str} {cs : Scope} {a : Addr} {ccd : Value} {cl : List (Str × Addr)} {outer : List Env} {A₀ : Around} {base h₀ : Heap} {L : Addr} {m : Str → Option Value} {news : List (Addr × Obj)} {s : Shared} {Q E : Value → Shared → Prop}
theorem path_item (F : Fr h₀ L s.heap m) (X : (KH w.params).In h₀) (h1 : k < 4) (h : Q (.ref (559 + k)) s)
    (hs : subscripted slice false (.ref 563) (.int (k : Int) u) = operate [.ref 563, .int (k : Int) u] (getItem (.ref 563) (.int (k : Int) u)) := by with_unfolding_all rfl) :
    wpAny (model PG w) A (subscriptTail value slice (.ref 563) (.int (k : Int) u)) Q E s := by
  refine top_item (its := [.ref 559, .ref 560, .ref 561, .ref 562]) (kun_topT F X (by k_is)) h1 (by decide) (fun v e => ?_) hs
  rcases k with _ | _ | _ | _ | k
  · cases e; exact h
  · cases e; exact h
  · cases e; exact h
  · cases e; exact h
  · omega
theorem word_item (F : Fr h₀ L s.heap m) (X : (KH w.params).In h₀) (h1 : k < 6) (h : ∀ t, Q (.str (wordS k) t) s)
    (hs : subscripted slice false (.ref 558) (.int (k : Int) u) = operate [.ref 558, .int (k : Int) u] (getItem (.ref 558) (.int (k : Int) u)) := by with_unfolding_all rfl) :
    wpAny (model PG w) A (subscriptTail value slice (.ref 558) (.int (k : Int) u)) Q E s := by
  obtain ⟨e0, e1, e2, e3, e4, e5⟩ := words_eq
  refine top_item (its := [_, _, _, _, _, _]) (kun_topT F X (by k_is)) h1 (by decide) (fun v e => ?_) hs
  rcases k with _ | _ | _ | _ | _ | _ | k
  · cases e; rw [e0]; exact h _
  · cases e; rw [e1]; exact h _
  · cases e; rw [e2]; exact h _
  · cases e; rw [e3]; exact h _
  · cases e; rw [e4]; exact h _
  · cases e; rw [e5]; exact h _
  · omega
theorem name_item (F : Fr h₀ L s.heap m) (X : (KH w.params).In h₀) (h1 : k < 4) (h : ∀ t, Q (.str (nameT k) t) s)
    (hs : subscripted slice false (.ref 557) (.int (k : Int) u) = operate [.ref 557, .int (k : Int) u] (getItem (.ref 557) (.int (k : Int) u)) := by with_unfolding_all rfl) :
    wpAny (model PG w) A (subscriptTail value slice (.ref 557) (.int (k : Int) u)) Q E s := by
  obtain ⟨e0, e1, e2, e3⟩ := names_eq
  refine top_item (its := [_, _, _, _]) (kun_topT F X (by k_is)) h1 (by decide) (fun v e => ?_) hs
  rcases k with _ | _ | _ | _ | k
  · cases e; rw [e0]; exact h _
  · cases e; rw [e1]; exact h _
  · cases e; rw [e2]; exact h _
  · cases e; rw [e3]; exact h _
  · omega
theorem title_item (F : Fr h₀ L s.heap m) (X : (KH w.params).In h₀) (h1 : k < 5) (h : ∀ t, Q (.str (titleS k) t) s)
    (hs : subscripted slice false (.ref 556) (.int (k : Int) u) = operate [.ref 556, .int (k : Int) u] (getItem (.ref 556) (.int (k : Int) u)) := by with_unfolding_all rfl) :
    wpAny (model PG w) A (subscriptTail value slice (.ref 556) (.int (k : Int) u)) Q E s := by
  obtain ⟨e0, e1, e2, e3, e4⟩ := titles_eq
  refine top_item (its := [_, _, _, _, _]) (kun_topT F X (by k_is)) h1 (by decide) (fun v e => ?_) hs
  rcases k with _ | _ | _ | _ | _ | k
  · cases e; rw [e0]; exact h _
  · cases e; rw [e1]; exact h _
  · cases e; rw [e2]; exact h _
  · cases e; rw [e3]; exact h _
  · cases e; rw [e4]; exact h _
  · omega
theorem row_item (F : Fr h₀ L s.heap m) (X : (KH w.params).In h₀) (h1 : k < 5) (h : ∀ t, Q (.bytes (rowB k).toArray t) s)
    (hs : subscripted slice false (.ref 555) (.int (k : Int) u) = operate [.ref 555, .int (k : Int) u] (getItem (.ref 555) (.int (k : Int) u)) := by with_unfolding_all rfl) :
    wpAny (model PG w) A (subscriptTail value slice (.ref 555) (.int (k : Int) u)) Q E s := by
  refine top_item (its := [_, _, _, _, _]) (kun_topT F X (by k_is)) h1 (by decide) (fun v e => ?_) hs
  rcases k with _ | _ | _ | _ | _ | k
  · cases e; exact h _
  · cases e; exact h _
  · cases e; exact h _
  · cases e; exact h _
  · cases e; exact h _
  · omega
theorem day_item (F : Fr h₀ L s.heap m) (X : (KH w.params).In h₀) (h1 : k < 5) (h : ∀ T n r t t', IsTup s.heap T #[.int n t, .str r t'] → (n, r) ∈ dayStrs → (@LT.lt Nat _ T 600) → Q (.ref T) s)
    (hs : subscripted slice false (.ref 569) (.int (k : Int) u) = operate [.ref 569, .int (k : Int) u] (getItem (.ref 569) (.int (k : Int) u)) := by with_unfolding_all rfl) :
    wpAny (model PG w) A (subscriptTail value slice (.ref 569) (.int (k : Int) u)) Q E s := by
  refine top_item (its := [_, _, _, _, _]) (kun_topT F X (by k_is)) h1 (by decide) (fun v e => ?_) hs
  rcases k with _ | _ | _ | _ | _ | k
  · cases e; exact h _ _ _ _ _ (kun_topT F X (by k_is)) (by decide +kernel) (by decide)
  · cases e; exact h _ _ _ _ _ (kun_topT F X (by k_is)) (by decide +kernel) (by decide)
  · cases e; exact h _ _ _ _ _ (kun_topT F X (by k_is)) (by decide +kernel) (by decide)
  · cases e; exact h _ _ _ _ _ (kun_topT F X (by k_is)) (by decide +kernel) (by decide)
  · cases e; exact h _ _ _ _ _ (kun_topT F X (by k_is)) (by decide +kernel) (by decide)
  · omega
def cut12 (k : Nat) : Str := Txt.slice (wordS k) none (some 12)
theorem word_len (k : Nat) : (wordS k).length ≤ 17 := by unfold wordS; split <;> decide
theorem cut_eq (hk : k < 6) : (cut12 k == Str.ofString "HEADER.FIELD") = decide (k = 3 ∨ k = 4) := by
  have h : ∀ k : Fin 6, (cut12 k == Str.ofString "HEADER.FIELD") = decide ((k : Nat) = 3 ∨ (k : Nat) = 4) := by decide +kernel
  exact h ⟨k, hk⟩
theorem cut_cmp {t : Tok} (hk : k < 6) (h : Q (.bool (decide (k = 3 ∨ k = 4))) s) : wpAny (model PG w) A (compareOp .Eq (.str (cut12 k) t) (.str (Str.ofString "HEADER.FIELD") u)) Q E s := eq_str (by rw [cut_eq hk]; exact h)
theorem word_cut {t : Tok} (hF : Fr h₀ L s.heap m) (hN : News h₀ L s.heap news) (h : ∀ h' t' k', Fr h₀ L h' m → News h₀ L h' news → Q (.str (cut12 k) t') { s with heap := h', toks := k' })
    (hs : subscripted slice false (.str (wordS k) t) (.ref s.heap.objs.size) = operate [.ref s.heap.objs.size, .str (wordS k) t] (getItem (.str (wordS k) t) (.ref s.heap.objs.size)) := by with_unfolding_all rfl)
    (ht : ∀ r, letTemporaryGo value (.str (wordS k) t) r = pure () := by intro _; with_unfolding_all rfl) :
    wpAny (model PG w) A (subscriptTail value slice (.str (wordS k) t) (.ref s.heap.objs.size)) Q E { s with heap := s.heap.push { cls := .type "slice", data := .fields #[.none, .int 12 u, .none] } } :=
  slice_strN_ns hF hN h hs ht (by rw [sizeLine_eq]; exact Nat.le_trans (word_len k) (by decide))
theorem path_tup {p : Nat} (F : Fr h₀ L s.heap m) (X : (KH w.params).In h₀) (hp : p < 4) : ∃ vs : List Value, IsTup s.heap (559 + p) vs.toArray ∧ IntsAre vs (pathL p) := by
  rcases p with _ | _ | _ | _ | p
  · exact ⟨[], kun_topT F X (by k_is), .nil⟩
  · exact ⟨[_], kun_topT F X (by k_is), .cons _ _ .nil⟩
  · exact ⟨[_], kun_topT F X (by k_is), .cons _ _ .nil⟩
  · exact ⟨[_, _], kun_topT F X (by k_is), .cons _ _ (.cons _ _ .nil)⟩
  · omega
end
end
end
theorem reg_all42 : True := by
  k_with "subscriptTail" => ((k_here; (with_reducible show wpAny _ _ (subscriptTail _ _ (Value.ref 563) (Value.int (Nat.cast _) _)) _ _ _); k_dflt (refine' path_item (by k_asm) (by k_asm) (by omega) ?_; k_whole)))
  k_with "subscriptTail" => ((k_here; (with_reducible show wpAny _ _ (subscriptTail _ _ (Value.ref 558) (Value.int (Nat.cast _) _)) _ _ _); k_dflt (refine' word_item (by k_asm) (by k_asm) (by omega) ?_; k_whole); intro qt9))
  k_with "subscriptTail" => ((k_here; (with_reducible show wpAny _ _ (subscriptTail _ _ (Value.ref 557) (Value.int (Nat.cast _) _)) _ _ _); k_dflt (refine' name_item (by k_asm) (by k_asm) (by omega) ?_; k_whole); intro qt9))
  k_with "subscriptTail" => ((k_here; (with_reducible show wpAny _ _ (subscriptTail _ _ (Value.ref 556) (Value.int (Nat.cast _) _)) _ _ _); k_dflt (refine' title_item (by k_asm) (by k_asm) (by omega) ?_; k_whole); intro qt9))
  k_with "subscriptTail" => ((k_here; (with_reducible show wpAny _ _ (subscriptTail _ _ (Value.ref 555) (Value.int (Nat.cast _) _)) _ _ _); k_dflt (refine' row_item (by k_asm) (by k_asm) (by omega) ?_; k_whole); intro qt9))
  k_with "subscriptTail" => ((k_here; (with_reducible show wpAny _ _ (subscriptTail _ _ (Value.ref 569) (Value.int (Nat.cast _) _)) _ _ _); k_dflt (refine' day_item (by k_asm) (by k_asm) (by omega) ?_; k_whole); intro qT9 qn9 qr9 qt9 qu9 qM9 qD9 qL9))
  k_with "subscriptTail" => ((k_here; (with_reducible show wpAny _ _ (subscriptTail _ (Expr.Slice _ _ none _) (Value.str (wordS _) _) (Value.ref _)) _ _ _); k_dflt (refine' word_cut (s := ⟨_, _, _, _, _⟩) (by k_asm) (by k_asm) ?_; k_whole); intro qh9 qt9 qk9 qF9 qN9; (try dsimp only); (try k_sweep)))
  k_with "compareOp Eq str str" => ((k_here; (with_reducible show wpAny _ _ (compareOp CmpOp.Eq (Value.str (cut12 _) _) (Value.str _ _)) _ _ _); k_dflt (refine' cut_cmp (by omega) ?_; k_whole)))
  trivial
section
section
theorem reg_all43 : True := by
  k_with "eval ListComp" => (((fail_if_success (fail_if_success (have qz9 : Mk 24 := by with_reducible assumption))); (refine Stop.out ?_)))
  trivial
def PShow_name_ctc (z9 : Cx × (Str) × (Tok)) : Prop := (fun (w : World) (mean : ExcName → Option Value) (mg : Str → Option Value) (mb : Str → Option Value) (dp : Nat) (un : Nat) (gd : Option (List Code)) (cn : Str) (cs : Scope) (a : Addr) (ccd : Value) (cl : List (Str × Addr)) (outer : List Env) (A₀ : Around) (base : Heap) (h₀ : Heap) (L : Addr) (m : Str → Option Value) (news : List (Addr × Obj)) (s : Shared) (Q : Value → Shared → Prop) (E : Value → Shared → Prop) (x : Str) (t : Tok) => ∀ (H : Here w mean mg mb 4 dp un cs outer A₀ base h₀ L m news s) (hx : x.length ≤ 100) (h0 : 0 < x.length) (hA : ∀ c ∈ x.cps.toList, AtomC c) (ret : ∀ t h' tk', Fr h₀ L h' m → News h₀ L h' news → Q (.str x t) { s with heap := h', toks := tk' }), wpAny (model PG w) (ktrTop dp un gd cn cs L a ccd cl outer) (call (.ref 379) [.str x t]) Q E s) (z9.1.w) (z9.1.mean) (z9.1.mg) (z9.1.mb) (z9.1.dp) (z9.1.un) (z9.1.gd) (z9.1.cn) (z9.1.cs) (z9.1.a) (z9.1.ccd) (z9.1.cl) (z9.1.outer) (z9.1.A₀) (z9.1.base) (z9.1.h₀) (z9.1.L) (z9.1.m) (z9.1.news) (z9.1.s) (z9.1.Q) (z9.1.E) (z9.2.1) (z9.2.2)
theorem show_name_ctc_core : PShow_name_ctc (hkm (⟨(cx0, default, default)⟩ : Nonempty (Cx × (Str) × (Tok))) PShow_name_ctc) := by
  generalize hkm _ _ = z9
  delta PShow_name_ctc
  generalize z9.1.w = w, z9.1.mean = mean, z9.1.mg = mg, z9.1.mb = mb, z9.1.dp = dp, z9.1.un = un, z9.1.gd = gd, z9.1.cn = cn, z9.1.cs = cs, z9.1.a = a, z9.1.ccd = ccd, z9.1.cl = cl, z9.1.outer = outer, z9.1.A₀ = A₀, z9.1.base = base, z9.1.h₀ = h₀, z9.1.L = L, z9.1.m = m, z9.1.news = news, z9.1.s = s, z9.1.Q = Q, z9.1.E = E, z9.2.1 = x, z9.2.2 = t
  clear z9
  intros H hx h0 hA ret
  have qmk24 : Mk 24 := True.intro
  walk_at "my enter"
  k_steps
  refine ⟨x.cps.size, _, _, _, ?_, srcM_str rfl (by assumption) (by assumption), fun g => ?_⟩
  · rw [sizeLine_eq]; show x.length ≤ _; omega
  dsimp only
  refine rest_U (fun i ys nw => nw = news ∧ IntsAre ys (((x.cps.toList.take i).map fun c : Nat => (c : Int)))) ⟨rfl, .nil⟩ ?_ ?_
  · rintro i v ys nw I oI C oC D m₂ h tk E' hi ⟨e, hys⟩ ⟨c, u, hc, rfl⟩ hC hx F9 N9 off ne
    subst e
    k_steps
    refine CompEnd.intro (by assumption) (by assumption) _ (fun _ hp => hp) off True.intro ⟨rfl, ?_⟩
    rw [List.take_add_one, Array.getElem?_toList, hc]
    simpa using ints_snoc hys
  · rintro ys nw ⟨rfl, hys⟩
    rw [show x.cps.toList.take x.cps.size = x.cps.toList from by rw [← Array.length_toList]; exact List.take_length] at hys
    have hyl : ys.length = x.length := by rw [hys.length, List.length_map]; rfl
    rcases List.eq_nil_or_concat ys with rfl | ⟨ys', y, rfl⟩
    · simp at hyl; omega
    rw [List.concat_eq_append] at *
    k_steps
    k_dflt (refine lc_T (by k_asm) (by first | exact rfl | with_unfolding_all rfl) (by decide) (by rfl) (by decide) (by rfl) ?_)
    k_steps
    rename News _ _ _ _ => N8
    refine ⟨(ys' ++ [y]).length, _, _, _, ?_, srcM_list (its := (ys' ++ [y]).toArray) rfl (by assumption) N8 (.inr ⟨lst (ys' ++ [y]), by k_mem, rfl, _, rfl⟩), fun g => ?_⟩
    · rw [sizeLine_eq, hyl]; omega
    dsimp only
    refine rest_T (fun i zs nw => nw = _ ∧ zs = []) ⟨rfl, rfl⟩ ?_ ?_
    · rintro i v zs nw I oI C oC D m₂ h tk E' hi ⟨rfl, rfl⟩ hv hC hx F9 N9 off ne
      have hi' : i < x.cps.toList.length := by simpa [Str.length, hyl] using hi
      obtain ⟨tt, e⟩ := intsAre_get hys hi
      have hgd : (List.map (fun c : Nat => (c : Int)) x.cps.toList).getD i 0 = ((x.cps.toList[i] : Nat) : Int) := by
        rw [List.getD_eq_getElem?_getD, List.getElem?_map, List.getElem?_eq_getElem hi']; rfl
      rw [hgd] at e
      have hat := hA _ (List.getElem_mem hi')
      generalize x.cps.toList[i] = cc at hgd e hat
      have hv' : (ys' ++ [y])[i]? = some v := by simpa using hv
      rw [List.getElem?_eq_getElem hi] at hv'
      obtain rfl := (Option.some.inj hv').symm.trans e
      k_steps
      exact CompEnd.intro (by assumption) (by assumption) _ (fun _ hp => hp) off (.inr ⟨lst (ys' ++ [y]), by k_mem, rfl, _, rfl⟩) ⟨rfl, rfl⟩
    · rintro zs nw ⟨rfl, rfl⟩
      k_steps
      exact ret _ _ _ (by assumption) (by walk_at "my news")
section
variable {w : World} {mean : ExcName → Option Value} {mg mb : Str → Option Value} {dp un : Nat} {gd : Option (List Code)} {cn : Str} {cs : Scope} {a : Addr} {ccd : Value} {cl : List (Str × Addr)} {outer : List Env} {A₀ : Around} {base h₀ : Heap} {L : Addr} {m : Str → Option Value} {news : List (Addr × Obj)} {s : Shared} {Q E : Value → Shared → Prop}
theorem show_name_ctc (H : Here w mean mg mb 4 dp un cs outer A₀ base h₀ L m news s) {x : Str} {t : Tok} (hx : x.length ≤ 100) (h0 : 0 < x.length) (hA : ∀ c ∈ x.cps.toList, AtomC c) (ret : ∀ t h' tk', Fr h₀ L h' m → News h₀ L h' news → Q (.str x t) { s with heap := h', toks := tk' }) :
   wpAny (model PG w) (ktrTop dp un gd cn cs L a ccd cl outer) (call (.ref 379) [.str x t]) Q E s :=
  (hkf _ show_name_ctc_core (⟨w, mean, mg, mb, dp, un, gd, cn, cs, a, ccd, cl, outer, A₀, base, h₀, L, m, news, s, Q, E⟩, x, t) : PShow_name_ctc (⟨w, mean, mg, mb, dp, un, gd, cn, cs, a, ccd, cl, outer, A₀, base, h₀, L, m, news, s, Q, E⟩, x, t)) H hx h0 hA ret
end
end
theorem reg_all44 : True := by
  k_with "call ref" => ((with_reducible show wpAny _ _ (call (Value.ref 379) [_]) _ _ _); k_here; k_dflt (refine' show_name_ctc (by first | (walk_at "my here") | fail) (by first | ((first |assumption|omega)) | fail) (by first | ((first |assumption|omega)) | fail) (by assumption) ?_; k_whole); intro qt9 qh9 qtk9 qF9 qN9; (try k_lt qM9); (try dsimp only); (try k_sweep); (try k_fold))
  trivial
end
section
section
variable {w : World} {mean : ExcName → Option Value} {mg mb : Str → Option Value} {dp un : Nat} {gd : Option (List Code)} {cn : Str} {cs : Scope} {a : Addr} {ccd : Value} {cl : List (Str × Addr)} {outer : List Env} {A₀ : Around} {base h₀ : Heap} {L : Addr} {m : Str → Option Value} {news : List (Addr × Obj)} {s : Shared} {Q E : Value → Shared → Prop}
theorem pathL_nil {p : Nat} : pathL p = [] ↔ p = 0 := by
  rcases p with _ | _ | _ | _ | p <;> simp [pathL]
theorem path_ne {A : Around} {p : Nat} {b : Addr} (F : Fr h₀ L s.heap m) (X : (KH w.params).In h₀) (hp : p < 4) (hb : IsTup s.heap b ([] : List Value).toArray) (hu : A.units < cLine) (h : Q (.bool (decide (p ≠ 0))) s) : wpAny (model PG w) A (compareOp .NotEq (.ref (559 + p)) (.ref b)) Q E s := by
  obtain ⟨vs, h1, h2⟩ := path_tup F X hp
  refine tup_ne h1 hb h2 .nil hu ?_
  rw [show (!decide (pathL p = [])) = decide (p ≠ 0) from by rw [decide_not]; congr 1; exact decide_eq_decide.mpr pathL_nil]
  exact h
structure LSec (nw : List (Addr × Obj)) (na : Addr) (p k : Nat) (names : List Str) (pv : Value) (pp : Option (Nat × Nat)) : Prop where
  hp : p < 4
  hk : if p = 0 then k < 5 else k < 6
  hna : ∃ its n, (na, listOf its n) ∈ nw ∧ StrsAre its.toList names
  hnl : names.length ≤ 2
  hnn : names = [] ↔ ¬(k = 3 ∨ k = 4)
  hnm : ∀ n ∈ names, ∃ j, j < 4 ∧ n = nameT j
  hpv : PartV nw pv pp
  hpp : ∀ i j, pp = some (i, j) → i < 30 ∧ j ≤ 30
theorem sec_ret {S C tup na : Addr} {at' a2 : Int} {sn : Nat} {t t' : Tok} {p k : Nat} {names : List Str} {pv : Value} {pp : Option (Nat × Nat)} {rest X nw : List (Addr × Obj)} {h' : Heap} {tk' : Nat}
   (ret : ∀ tup na p k names pv pp t (j : Nat) t' h' tk' nw, LSec nw na p k names pv pp → j ≤ 10 → Fr h₀ L h' m → News h₀ L h' ((tup, tupO [.ref (559 + p), .str (wordS k) t, .ref na, pv]) :: (S, srcO C (at' + j) t' sn) :: nw) → (∀ q ∈ nw, q.1 ≠ S) → (∀ q ∈ rest, q ∈ nw) → tup ≠ S → Q (.ref tup) { s with heap := h', toks := tk' })
   (F : Fr h₀ L h' m) (N : News h₀ L h' ((tup, tupO [.ref (559 + p), .str (wordS k) t, .ref na, pv]) :: X)) (P : Pull S (srcO C a2 t' sn) X nw) (hj : at' ≤ a2 ∧ a2 ≤ at' + 10) (hs : ∀ q ∈ rest, q ∈ nw) (ht : tup ≠ S) (hl : LSec nw na p k names pv pp) : Q (.ref tup) { s with heap := h', toks := tk' } := by
  obtain ⟨j, hj2, rfl⟩ : ∃ j : Nat, j ≤ 10 ∧ a2 = at' + (j : Nat) := ⟨(a2 - at').toNat, by omega, by omega⟩
  refine ret tup na p k names pv pp t j t' h' tk' nw hl hj2 F (fun q hq => ?_) P.ne hs ht
  rcases List.mem_cons.mp hq with rfl | hq
  · exact N _ (.head _)
  rcases List.mem_cons.mp hq with rfl | hq
  · exact N _ (.tail _ P.mem)
  · exact N _ (.tail _ (P.sub q hq))
theorem sec_none {S C tup na : Addr} {at' a2 : Int} {sn : Nat} {t t' : Tok} {p k : Nat} {names : List Str} {rest X nw : List (Addr × Obj)} {h' : Heap} {tk' : Nat}
   (ret : ∀ tup na p k names pv pp t (j : Nat) t' h' tk' nw, LSec nw na p k names pv pp → j ≤ 10 → Fr h₀ L h' m → News h₀ L h' ((tup, tupO [.ref (559 + p), .str (wordS k) t, .ref na, pv]) :: (S, srcO C (at' + j) t' sn) :: nw) → (∀ q ∈ nw, q.1 ≠ S) → (∀ q ∈ rest, q ∈ nw) → tup ≠ S → Q (.ref tup) { s with heap := h', toks := tk' })
   (F : Fr h₀ L h' m) (N : News h₀ L h' ((tup, tupO [.ref (559 + p), .str (wordS k) t, .ref na, .none]) :: X)) (P : Pull S (srcO C a2 t' sn) X nw) (hj : at' ≤ a2 ∧ a2 ≤ at' + 10) (hs : ∀ q ∈ rest, q ∈ nw) (ht : tup ≠ S)
   (l1 : p < 4) (l2 : if p = 0 then k < 5 else k < 6) (l3 : ∃ its n, (na, listOf its n) ∈ nw ∧ StrsAre its.toList names) (l4 : names.length ≤ 2) (l5 : names = [] ↔ ¬(k = 3 ∨ k = 4)) (l6 : ∀ n ∈ names, ∃ j, j < 4 ∧ n = nameT j) : Q (.ref tup) { s with heap := h', toks := tk' } :=
  sec_ret ret F N P hj hs ht ⟨l1, l2, l3, l4, l5, l6, (show PartV _ _ none from rfl), fun i j e => nomatch e⟩
theorem sec_some {S C tup na pa : Addr} {at' a2 : Int} {sn i r n : Nat} {t t' ti tr : Tok} {p k : Nat} {names : List Str} {rest X nw : List (Addr × Obj)} {h' : Heap} {tk' : Nat}
   (ret : ∀ tup na p k names pv pp t (j : Nat) t' h' tk' nw, LSec nw na p k names pv pp → j ≤ 10 → Fr h₀ L h' m → News h₀ L h' ((tup, tupO [.ref (559 + p), .str (wordS k) t, .ref na, pv]) :: (S, srcO C (at' + j) t' sn) :: nw) → (∀ q ∈ nw, q.1 ≠ S) → (∀ q ∈ rest, q ∈ nw) → tup ≠ S → Q (.ref tup) { s with heap := h', toks := tk' })
   (F : Fr h₀ L h' m) (N : News h₀ L h' ((tup, tupO [.ref (559 + p), .str (wordS k) t, .ref na, .ref pa]) :: X)) (P : Pull S (srcO C a2 t' sn) X nw) (hj : at' ≤ a2 ∧ a2 ≤ at' + 10) (hs : ∀ q ∈ rest, q ∈ nw) (ht : tup ≠ S)
   (l0 : (pa, ({ cls := .type "tuple", data := .seq #[.int (i : Int) ti, .int (1 + (r : Int)) tr] n } : Obj)) ∈ nw) (lb : (i : Int) < 30 ∧ (r : Int) < 30)
   (l1 : p < 4) (l2 : if p = 0 then k < 5 else k < 6) (l3 : ∃ its n, (na, listOf its n) ∈ nw ∧ StrsAre its.toList names) (l4 : names.length ≤ 2) (l5 : names = [] ↔ ¬(k = 3 ∨ k = 4)) (l6 : ∀ n ∈ names, ∃ j, j < 4 ∧ n = nameT j) : Q (.ref tup) { s with heap := h', toks := tk' } := by
  have e : (1 + (r : Int)) = ((1 + r : Nat) : Int) := by omega
  rw [e] at l0
  exact sec_ret (pp := some (i, 1 + r)) ret F N P hj hs ht ⟨l1, l2, l3, l4, l5, l6, ⟨pa, ti, tr, n, rfl, l0⟩, fun i j e => by cases e; omega⟩
theorem range_src {prog : Program} {A : Around} {env : Env} {elt : Expr} {x : Str} {scope : Scope} {Fin : Shared → List Value → List (Addr × Obj) → Prop} {r : Addr} {e : Int} {t u v : Tok} (hh : A.handled = none) (F : Fr h₀ L s.heap m) (N : News h₀ L s.heap news) (R : IsRange s.heap r 0 e 1 t u v) (he : 0 ≤ e ∧ e ≤ 100)
   (k : ∀ n : Nat, e = (n : Int) → ∀ g, CompRest prog w A h₀ L m env elt x scope cl { s with heap := g } (fun _ => True) (fun i v => ∃ t, v = .int (0 + (i : Int)) t) (Fin { s with heap := g }) n 0 [] news) : LcU prog w A h₀ L m env elt x scope cl Fin (.ref r) s := by
  obtain ⟨n, rfl⟩ : ∃ n : Nat, e = (n : Int) := ⟨e.toNat, by omega⟩
  exact ⟨n, _, _, _, by rw [sizeLine_eq]; omega, srcM_range hh F N R (small_one (by decide) (by decide) (by omega) (by omega)) (rangeSize_nat 0 n), fun g => k n rfl g⟩
theorem cell_mem {h : Heap} {Y : List (Addr × Obj)} {o : Obj} (_F : Fr h₀ L h m) (x : (L + 1, o) ∈ Y) : (L + 1, o) ∈ Y := x
theorem split_news {R : Prop} {d : Addr} {o : Obj} {Y : List (Addr × Obj)} {h : Heap} (N : News h₀ L h ((d, o) :: Y)) (k : ∀ Y', Y' = Y → News h₀ L h ((d, o) :: Y') → R) : R := k Y rfl N
end
section
theorem reg_all45 : True := by
  k_with "compareOp NotEq ref ref" => (((fail_if_success (fail_if_success (have qz9 : Mk 26 := by with_reducible assumption))); (k_here; (with_reducible show wpAny _ _ (compareOp CmpOp.NotEq (Value.ref (_ + _)) (Value.ref _)) _ _ _); k_dflt (refine' path_ne (by k_asm) (by k_asm) (by omega) (by first | (exact News.isTup (by k_asm) (by first | (k_mem) | fail)) | fail) (by first | (ktr_units) | fail) ?_; k_whole))))
  trivial
def PLaw_section_ctc (z9 : Cx × (Addr) × (Addr) × (Int) × (Tok) × (List (Addr × Obj)) × (List Value) × (List Int) × (Nat) × (Nat)) : Prop := (fun (w : World) (mean : ExcName → Option Value) (mg : Str → Option Value) (mb : Str → Option Value) (dp : Nat) (un : Nat) (gd : Option (List Code)) (cn : Str) (cs : Scope) (a : Addr) (ccd : Value) (cl : List (Str × Addr)) (outer : List Env) (A₀ : Around) (base : Heap) (h₀ : Heap) (L : Addr) (m : Str → Option Value) (news : List (Addr × Obj)) (s : Shared) (Q : Value → Shared → Prop) (E : Value → Shared → Prop) (S : Addr) (C : Addr) (at' : Int) (ta : Tok) (rest : List (Addr × Obj)) (vs : List Value) (ns : List Int) (nn : Nat) (sn : Nat) => ∀ (H : Here w mean mg mb 4 dp un cs outer A₀ base h₀ L m news s) (P : Pull S (srcO C at' ta sn) news rest) (hC : (C, listOf vs.toArray nn) ∈ rest) (hv : IntsAre vs ns) (hn : 0 < ns.length ∧ ns.length ≤ 63) (h0 : 0 ≤ at' ∧ at' ≤ 10000) (ret : ∀ tup na p k names pv pp t (j : Nat) t' h' tk' nw, LSec nw na p k names pv pp → j ≤ 10 → Fr h₀ L h' m → News h₀ L h' ((tup, tupO [.ref (559 + p), .str (wordS k) t, .ref na, pv]) :: (S, srcO C (at' + (j : Nat)) t' sn) :: nw) → (∀ q ∈ nw, q.1 ≠ S) → (∀ q ∈ rest, q ∈ nw) → tup ≠ S → Q (.ref tup) { s with heap := h', toks := tk' }), wpAny (model PG w) (ktrTop dp un gd cn cs L a ccd cl outer) (call (.ref 589) [.ref S]) Q E s) (z9.1.w) (z9.1.mean) (z9.1.mg) (z9.1.mb) (z9.1.dp) (z9.1.un) (z9.1.gd) (z9.1.cn) (z9.1.cs) (z9.1.a) (z9.1.ccd) (z9.1.cl) (z9.1.outer) (z9.1.A₀) (z9.1.base) (z9.1.h₀) (z9.1.L) (z9.1.m) (z9.1.news) (z9.1.s) (z9.1.Q) (z9.1.E) (z9.2.1) (z9.2.2.1) (z9.2.2.2.1) (z9.2.2.2.2.1) (z9.2.2.2.2.2.1) (z9.2.2.2.2.2.2.1) (z9.2.2.2.2.2.2.2.1) (z9.2.2.2.2.2.2.2.2.1) (z9.2.2.2.2.2.2.2.2.2)
set_option maxHeartbeats 8000000 in
theorem law_section_ctc_core : PLaw_section_ctc (hkm (⟨(cx0, default, default, default, default, default, default, default, default, default)⟩ : Nonempty (Cx × (Addr) × (Addr) × (Int) × (Tok) × (List (Addr × Obj)) × (List Value) × (List Int) × (Nat) × (Nat))) PLaw_section_ctc) := by
  generalize hkm _ _ = z9
  delta PLaw_section_ctc
  generalize z9.1.w = w, z9.1.mean = mean, z9.1.mg = mg, z9.1.mb = mb, z9.1.dp = dp, z9.1.un = un, z9.1.gd = gd, z9.1.cn = cn, z9.1.cs = cs, z9.1.a = a, z9.1.ccd = ccd, z9.1.cl = cl, z9.1.outer = outer, z9.1.A₀ = A₀, z9.1.base = base, z9.1.h₀ = h₀, z9.1.L = L, z9.1.m = m, z9.1.news = news, z9.1.s = s, z9.1.Q = Q, z9.1.E = E, z9.2.1 = S, z9.2.2.1 = C, z9.2.2.2.1 = at', z9.2.2.2.2.1 = ta, z9.2.2.2.2.2.1 = rest, z9.2.2.2.2.2.2.1 = vs, z9.2.2.2.2.2.2.2.1 = ns, z9.2.2.2.2.2.2.2.2.1 = nn, z9.2.2.2.2.2.2.2.2.2 = sn
  clear z9
  intros H P hC hv hn h0 ret
  have qmk26 : Mk 26 := True.intro
  have H1 : Here w mean mg mb 4 dp un cs outer A₀ base h₀ L m ((S, srcO C at' ta sn) :: rest) s := ⟨H.B, H.F, H.X, pull_news P H.N, H.T, H.hk, H.hd, H.hu⟩
  have hne := P.ne
  clear P H
  walk_at "my enter"
  k_steps
  · rename IsRange _ _ _ _ _ _ _ _ => R1
    rename News _ _ _ _ => N1
    rename Fr _ _ _ _ => F1
    rename Obj => oo
    refine split_news N1 fun Y hY N2 => ?_
    refine range_src rfl F1 N2 R1 (by omega) fun n hn1 g => ?_
    dsimp only
    have hYne : ∀ p ∈ Y, p.1 ≠ S := by rw [hY]; k_all
    have hCY : (C, listOf vs.toArray nn) ∈ Y := by rw [hY]; k_mem
    have hLY := cell_mem F1 (Y := Y) (o := oo) (by rw [hY]; k_mem)
    have hRY : ∀ p ∈ rest, p ∈ Y := by rw [hY]; walk_at "my sub"
    refine rest_U (fun i ys nw => ∃ tq aq, ∃ xs : List Str, aq = at' + 3 + i ∧ nw = (S, srcO C aq tq sn) :: Y ∧ StrsAre ys xs ∧ xs.length = i ∧ ∀ x ∈ xs, ∃ j, j < 4 ∧ x = nameT j) ⟨_, _, [], by omega, rfl, .nil, rfl, fun x hx => nomatch hx⟩ ?_ ?_
    · rintro i v ys nw I oI cC oC D m₂ h tk E' hi ⟨tq, aq, xs, haq, e, hys, hxl, hxn⟩ hv hC hx F9 N9 off ne
      subst e
      have off2 := off
      simp only [Off3] at off2
      k_steps
      rename ((_ : Nat) : Int) < 4 => hr4
      refine' CompEnd.intro ?Fy1 ?Ny1 ((S, srcO C (aq + 1) ?ty1 sn) :: Y) ?suby1 off True.intro ?Jy1
      case Fy1 => assumption
      case Ny1 => assumption
      case suby1 => walk_at "my sub"
      case Jy1 =>
        refine ⟨_, aq + 1, xs ++ [_], by omega, rfl, strs_snoc hys, by simp [hxl], ?_⟩
        intro x hx
        rcases List.mem_append.mp hx with hx | hx
        · exact hxn x hx
        · rw [List.mem_singleton.mp hx]; exact ⟨_, by omega, rfl⟩
    · rintro ys nw ⟨tq, aq, xs, haq, e, hys, hxl, hxn⟩
      subst e
      clear hCY hLY hRY
      subst hY
      k_steps
      · refine' sec_some (names := xs) ret ?Fz2 ?Nz2 ?Pz2 ?jz2 ?sz2 ?tz2 ?oz2 ?bz2 ?laz2 ?lbz2 ?lcz2 ?ldz2 ?lez2 ?lfz2
        case Fz2 => assumption
        case Nz2 => assumption
        case Pz2 => walk_at "my pull"
        case jz2 => omega
        case sz2 => walk_at "my sub"
        case tz2 => k_ne
        case oz2 => k_mem
        case bz2 => omega
        case laz2 => omega
        case lbz2 => split <;> omega
        case lcz2 => exact ⟨_, _, by k_mem, by simpa using hys⟩
        case ldz2 => omega
        case lez2 => exact ⟨fun e => by rw [e] at hxl; simp at hxl; omega, fun e => absurd (by assumption) e⟩
        case lfz2 => exact hxn
      · refine' sec_none (names := xs) ret ?Fz3 ?Nz3 ?Pz3 ?jz3 ?sz3 ?tz3 ?laz3 ?lbz3 ?lcz3 ?ldz3 ?lez3 ?lfz3
        case Fz3 => assumption
        case Nz3 => assumption
        case Pz3 => walk_at "my pull"
        case jz3 => omega
        case sz3 => walk_at "my sub"
        case tz3 => k_ne
        case laz3 => omega
        case lbz3 => split <;> omega
        case lcz3 => exact ⟨_, _, by k_mem, by simpa using hys⟩
        case ldz3 => omega
        case lez3 => exact ⟨fun e => by rw [e] at hxl; simp at hxl; omega, fun e => absurd (by assumption) e⟩
        case lfz3 => exact hxn
  · refine' sec_some (names := []) ret ?Fz4 ?Nz4 ?Pz4 ?jz4 ?sz4 ?tz4 ?oz4 ?bz4 ?laz4 ?lbz4 ?lcz4 ?ldz4 ?lez4 ?lfz4
    case Fz4 => assumption
    case Nz4 => assumption
    case Pz4 => walk_at "my pull"
    case jz4 => omega
    case sz4 => walk_at "my sub"
    case tz4 => k_ne
    case oz4 => k_mem
    case bz4 => omega
    case laz4 => omega
    case lbz4 => split <;> omega
    case lcz4 => exact ⟨_, _, by k_mem, StrsAre.nil⟩
    case ldz4 => simp
    case lez4 => exact ⟨fun _ => by assumption, fun _ => rfl⟩
    case lfz4 => exact fun n hn => (nomatch hn)
  · refine' sec_none (names := []) ret ?Fz5 ?Nz5 ?Pz5 ?jz5 ?sz5 ?tz5 ?laz5 ?lbz5 ?lcz5 ?ldz5 ?lez5 ?lfz5
    case Fz5 => assumption
    case Nz5 => assumption
    case Pz5 => walk_at "my pull"
    case jz5 => omega
    case sz5 => walk_at "my sub"
    case tz5 => k_ne
    case laz5 => omega
    case lbz5 => split <;> omega
    case lcz5 => exact ⟨_, _, by k_mem, StrsAre.nil⟩
    case ldz5 => simp
    case lez5 => exact ⟨fun _ => by assumption, fun _ => rfl⟩
    case lfz5 => exact fun n hn => (nomatch hn)
  · rename IsRange _ _ _ _ _ _ _ _ => R1
    rename News _ _ _ _ => N1
    rename Fr _ _ _ _ => F1
    rename Obj => oo
    refine split_news N1 fun Y hY N2 => ?_
    refine range_src rfl F1 N2 R1 (by omega) fun n hn1 g => ?_
    dsimp only
    have hYne : ∀ p ∈ Y, p.1 ≠ S := by rw [hY]; k_all
    have hCY : (C, listOf vs.toArray nn) ∈ Y := by rw [hY]; k_mem
    have hLY := cell_mem F1 (Y := Y) (o := oo) (by rw [hY]; k_mem)
    have hRY : ∀ p ∈ rest, p ∈ Y := by rw [hY]; walk_at "my sub"
    refine rest_U (fun i ys nw => ∃ tq aq, ∃ xs : List Str, aq = at' + 3 + i ∧ nw = (S, srcO C aq tq sn) :: Y ∧ StrsAre ys xs ∧ xs.length = i ∧ ∀ x ∈ xs, ∃ j, j < 4 ∧ x = nameT j) ⟨_, _, [], by omega, rfl, .nil, rfl, fun x hx => nomatch hx⟩ ?_ ?_
    · rintro i v ys nw I oI cC oC D m₂ h tk E' hi ⟨tq, aq, xs, haq, e, hys, hxl, hxn⟩ hv hC hx F9 N9 off ne
      subst e
      have off2 := off
      simp only [Off3] at off2
      k_steps
      rename ((_ : Nat) : Int) < 4 => hr4
      refine' CompEnd.intro ?Fy6 ?Ny6 ((S, srcO C (aq + 1) ?ty6 sn) :: Y) ?suby6 off True.intro ?Jy6
      case Fy6 => assumption
      case Ny6 => assumption
      case suby6 => walk_at "my sub"
      case Jy6 =>
        refine ⟨_, aq + 1, xs ++ [_], by omega, rfl, strs_snoc hys, by simp [hxl], ?_⟩
        intro x hx
        rcases List.mem_append.mp hx with hx | hx
        · exact hxn x hx
        · rw [List.mem_singleton.mp hx]; exact ⟨_, by omega, rfl⟩
    · rintro ys nw ⟨tq, aq, xs, haq, e, hys, hxl, hxn⟩
      subst e
      clear hCY hLY hRY
      subst hY
      k_steps
      · refine' sec_some (names := xs) ret ?Fz7 ?Nz7 ?Pz7 ?jz7 ?sz7 ?tz7 ?oz7 ?bz7 ?laz7 ?lbz7 ?lcz7 ?ldz7 ?lez7 ?lfz7
        case Fz7 => assumption
        case Nz7 => assumption
        case Pz7 => walk_at "my pull"
        case jz7 => omega
        case sz7 => walk_at "my sub"
        case tz7 => k_ne
        case oz7 => k_mem
        case bz7 => omega
        case laz7 => omega
        case lbz7 => split <;> omega
        case lcz7 => exact ⟨_, _, by k_mem, by simpa using hys⟩
        case ldz7 => omega
        case lez7 => exact ⟨fun e => by rw [e] at hxl; simp at hxl; omega, fun e => absurd (by assumption) e⟩
        case lfz7 => exact hxn
      · refine' sec_none (names := xs) ret ?Fz8 ?Nz8 ?Pz8 ?jz8 ?sz8 ?tz8 ?laz8 ?lbz8 ?lcz8 ?ldz8 ?lez8 ?lfz8
        case Fz8 => assumption
        case Nz8 => assumption
        case Pz8 => walk_at "my pull"
        case jz8 => omega
        case sz8 => walk_at "my sub"
        case tz8 => k_ne
        case laz8 => omega
        case lbz8 => split <;> omega
        case lcz8 => exact ⟨_, _, by k_mem, by simpa using hys⟩
        case ldz8 => omega
        case lez8 => exact ⟨fun e => by rw [e] at hxl; simp at hxl; omega, fun e => absurd (by assumption) e⟩
        case lfz8 => exact hxn
  · refine' sec_some (names := []) ret ?Fz9 ?Nz9 ?Pz9 ?jz9 ?sz9 ?tz9 ?oz9 ?bz9 ?laz9 ?lbz9 ?lcz9 ?ldz9 ?lez9 ?lfz9
    case Fz9 => assumption
    case Nz9 => assumption
    case Pz9 => walk_at "my pull"
    case jz9 => omega
    case sz9 => walk_at "my sub"
    case tz9 => k_ne
    case oz9 => k_mem
    case bz9 => omega
    case laz9 => omega
    case lbz9 => split <;> omega
    case lcz9 => exact ⟨_, _, by k_mem, StrsAre.nil⟩
    case ldz9 => simp
    case lez9 => exact ⟨fun _ => by assumption, fun _ => rfl⟩
    case lfz9 => exact fun n hn => (nomatch hn)
  · refine' sec_none (names := []) ret ?Fz10 ?Nz10 ?Pz10 ?jz10 ?sz10 ?tz10 ?laz10 ?lbz10 ?lcz10 ?ldz10 ?lez10 ?lfz10
    case Fz10 => assumption
    case Nz10 => assumption
    case Pz10 => walk_at "my pull"
    case jz10 => omega
    case sz10 => walk_at "my sub"
    case tz10 => k_ne
    case laz10 => omega
    case lbz10 => split <;> omega
    case lcz10 => exact ⟨_, _, by k_mem, StrsAre.nil⟩
    case ldz10 => simp
    case lez10 => exact ⟨fun _ => by assumption, fun _ => rfl⟩
    case lfz10 => exact fun n hn => (nomatch hn)
section
variable {w : World} {mean : ExcName → Option Value} {mg mb : Str → Option Value} {dp un : Nat} {gd : Option (List Code)} {cn : Str} {cs : Scope} {a : Addr} {ccd : Value} {cl : List (Str × Addr)} {outer : List Env} {A₀ : Around} {base h₀ : Heap} {L : Addr} {m : Str → Option Value} {news : List (Addr × Obj)} {s : Shared} {Q E : Value → Shared → Prop}
theorem law_section_ctc (H : Here w mean mg mb 4 dp un cs outer A₀ base h₀ L m news s) {S C : Addr} {at' : Int} {ta : Tok} {rest : List (Addr × Obj)} {vs : List Value} {ns : List Int} {nn sn : Nat} (P : Pull S (srcO C at' ta sn) news rest) (hC : (C, listOf vs.toArray nn) ∈ rest) (hv : IntsAre vs ns) (hn : 0 < ns.length ∧ ns.length ≤ 63) (h0 : 0 ≤ at' ∧ at' ≤ 10000) (ret : ∀ tup na p k names pv pp t (j : Nat) t' h' tk' nw, LSec nw na p k names pv pp → j ≤ 10 → Fr h₀ L h' m → News h₀ L h' ((tup, tupO [.ref (559 + p), .str (wordS k) t, .ref na, pv]) :: (S, srcO C (at' + (j : Nat)) t' sn) :: nw) → (∀ q ∈ nw, q.1 ≠ S) → (∀ q ∈ rest, q ∈ nw) → tup ≠ S → Q (.ref tup) { s with heap := h', toks := tk' }) :
   wpAny (model PG w) (ktrTop dp un gd cn cs L a ccd cl outer) (call (.ref 589) [.ref S]) Q E s :=
  (hkf _ law_section_ctc_core (⟨w, mean, mg, mb, dp, un, gd, cn, cs, a, ccd, cl, outer, A₀, base, h₀, L, m, news, s, Q, E⟩, S, C, at', ta, rest, vs, ns, nn, sn) : PLaw_section_ctc (⟨w, mean, mg, mb, dp, un, gd, cn, cs, a, ccd, cl, outer, A₀, base, h₀, L, m, news, s, Q, E⟩, S, C, at', ta, rest, vs, ns, nn, sn)) H P hC hv hn h0 ret
end
end
theorem reg_all46 : True := by
  k_with "call ref" => ((with_reducible show wpAny _ _ (call (Value.ref 589) [_]) _ _ _); k_here; k_dflt (refine' law_section_ctc (by walk_at "my here") (by walk_at "my pull") (by k_mem) (by assumption) (by omega) (by omega) ?_; k_whole); intro qtup9 qna9 qp9 qk9 qns9 qpv9 qpp9 qt9 qj9 qu9 qh9 qtk9 qnw9 ql9 qjl9 qF9 qN9 qne9 qsub9 qtne9; (try k_lt qM9); (try dsimp only); (try k_sweep); (try k_fold))
  trivial
end
section
section
variable {w : World} {mean : ExcName → Option Value} {mg mb : Str → Option Value} {dp un : Nat} {gd : Option (List Code)} {cn : Str} {cs : Scope} {a : Addr} {ccd : Value} {cl : List (Str × Addr)} {outer : List Env} {A₀ : Around} {base h₀ : Heap} {L : Addr} {m : Str → Option Value} {news : List (Addr × Obj)} {s : Shared} {Q E : Value → Shared → Prop}
def numS (n : Int) : Str := Str.ofString (toString n)
def textL (p k : Nat) : List Str := (pathL p).map numS ++ (if k = 0 then [] else [wordS k])
def tailS (x : Str) (k : Nat) (names : List Str) : Str := if k = 3 ∨ k = 4 then x ++ Str.ofString " (" ++ Txt.join (Str.ofString " ") names ++ Str.ofString ")" else x
def showS (p k : Nat) (names : List Str) (pp : Option (Nat × Nat)) : Str := Str.ofString "[" ++ tailS (Txt.join (Str.ofString ".") (textL p k)) k names ++ Str.ofString "]" ++ partS pp
theorem path_tup0 {p : Nat} {h : Heap} (X : (KH w.params).In h) (hp : p < 4) : ∃ vs : List Value, IsTup h (559 + p) vs.toArray ∧ IntsAre vs (pathL p) := by
  rcases p with _ | _ | _ | _ | p
  · exact ⟨[], ⟨_, X _ _ (by k_is), rfl, _, rfl⟩, .nil⟩
  · exact ⟨[_], ⟨_, X _ _ (by k_is), rfl, _, rfl⟩, .cons _ _ .nil⟩
  · exact ⟨[_], ⟨_, X _ _ (by k_is), rfl, _, rfl⟩, .cons _ _ .nil⟩
  · exact ⟨[_, _], ⟨_, X _ _ (by k_is), rfl, _, rfl⟩, .cons _ _ (.cons _ _ .nil)⟩
  · omega
theorem path_src {p : Nat} {pa : Addr} {nw : List (Addr × Obj)} {h : Heap} (X : (KH w.params).In h) (hp : PathAt nw pa p) : ∃ vs : List Value, TupAt h pa vs.toArray nw ∧ IntsAre vs (pathL p) := by
  rcases hp with ⟨rfl, h4⟩ | ⟨rfl, n, hm⟩
  · obtain ⟨vs, h1, h2⟩ := path_tup0 X h4
    exact ⟨vs, .inl h1, h2⟩
  · exact ⟨[], .inr ⟨_, hm, rfl, _, rfl⟩, .nil⟩
theorem pathL_le {p : Nat} : ∀ n ∈ pathL p, 0 ≤ n ∧ n ≤ 2 := by
  intro n hn
  rcases p with _ | _ | _ | p <;> simp [pathL] at hn <;> omega
theorem pathL_len (p : Nat) : (pathL p).length ≤ 2 := by rcases p with _ | _ | _ | p <;> simp [pathL]
def textB (p k : Nat) (b : Bool) : List Str := (pathL p).map numS ++ (if b then [wordS k] else [])
theorem text_bound {p k : Nat} (hp : p < 4) (hk : k < 6) (b : Bool) : ((textB p k b).map (·.length)).sum + (textB p k b).length * (Str.ofString ".").length ≤ 100 ∧ (Txt.join (Str.ofString ".") (textB p k b)).length ≤ 100 := by
  have h : ∀ (p : Fin 4) (k : Fin 6) (b : Bool), ((textB p k b).map (·.length)).sum + (textB p k b).length * (Str.ofString ".").length ≤ 100 ∧ (Txt.join (Str.ofString ".") (textB p k b)).length ≤ 100 := by decide +kernel
  exact h ⟨p, hp⟩ ⟨k, hk⟩ b
theorem join_text {A : Around} {D : Addr} {ys zs : List Value} {n p k : Nat} {b : Bool} {t : Tok} (N : News h₀ L s.heap news) (hm : (D, ({ cls := .type "list", data := .seq (ys ++ zs).toArray n } : Obj)) ∈ news) (hp : p < 4) (hk : k < 6) (hy : StrsAre ys ((pathL p).map numS)) (hz : StrsAre zs (if b then [wordS k] else []))
   (h : ∀ t' k', (Txt.join (Str.ofString ".") (textB p k b)).length ≤ 100 → Q (.str (Txt.join (Str.ofString ".") (textB p k b)) t') { s with toks := k' }) : wpAny (model PG w) A (call (.builtin "str.join") [.str (Str.ofString ".") t, .ref D]) Q E s :=
  join_list (News.isList N hm) (hy.append' hz) (Nat.le_trans (text_bound hp hk b).1 (by decide)) fun t' k' => h t' k' (text_bound hp hk b).2
theorem names_bound {names : List Str} (hnl : names.length ≤ 4) (hA : ∀ n ∈ names, n.length ≤ 100) : (names.map (·.length)).sum + names.length * (Str.ofString " ").length ≤ 16777216 ∧ (Txt.join (Str.ofString " ") names).length ≤ 2000 := by
  have h1 : ∀ l : List Str, (∀ n ∈ l, n.length ≤ 100) → (l.map (·.length)).sum ≤ 100 * l.length := by
    intro l
    induction l with
    | nil => intro _; exact Nat.le_refl _
    | cons a r ih =>
      intro h
      have := ih fun n hn => h n (.tail _ hn)
      have := h a (.head _)
      rw [List.map_cons, List.sum_cons, List.length_cons]; omega
  have h2 := h1 names hA
  have e3 : (Str.ofString " ").length = 1 := by decide +kernel
  refine ⟨by rw [e3]; omega, ?_⟩
  have hw : Weighs names 404 := by show (names.map (·.length)).sum + names.length ≤ 405; omega
  have := len_join_le (sep := Str.ofString " ") hw (by rw [e3]; decide)
  omega
theorem text_eq {p k : Nat} {b : Bool} (h : b = decide (k ≠ 0)) : textB p k b = textL p k := by
  subst h
  unfold textB textL
  by_cases h : k = 0 <;> simp [h]
theorem show_pos {p k : Nat} {b : Bool} {names : List Str} {pp : Option (Nat × Nat)} (h : b = decide (k ≠ 0)) (h3 : k = 3 ∨ k = 4) : Str.ofString "[" ++ (Txt.join (Str.ofString ".") (textB p k b) ++ Str.ofString " (" ++ Txt.join (Str.ofString " ") names ++ Str.ofString ")") ++ Str.ofString "]" ++ partS pp = showS p k names pp := by
  unfold showS tailS
  rw [if_pos h3, text_eq h]
theorem show_neg {p k : Nat} {b : Bool} {names : List Str} {pp : Option (Nat × Nat)} (h : b = decide (k ≠ 0)) (h3 : ¬(k = 3 ∨ k = 4)) : Str.ofString "[" ++ Txt.join (Str.ofString ".") (textB p k b) ++ Str.ofString "]" ++ partS pp = showS p k names pp := by
  unfold showS tailS
  rw [if_neg h3, text_eq h]
end
section
variable {A : Around} {k : Nat} {t u : Tok}
section
variable {w : World} {mean : ExcName → Option Value} {mg mb : Str → Option Value} {dp un : Nat} {gd : Option (List Code)} {cn : Str} {cs : Scope} {a : Addr} {ccd : Value} {cl : List (Str × Addr)} {outer : List Env} {A₀ : Around} {base h₀ : Heap} {L : Addr} {m : Str → Option Value} {news : List (Addr × Obj)} {s : Shared} {Q E : Value → Shared → Prop}
theorem word_ne0 (hk : k < 6) (h : Q (.bool (decide (k ≠ 0))) s) : wpAny (model PG w) A (compareOp .NotEq (.str (wordS k) t) (.str (Str.ofString "") u)) Q E s := by
  refine SeqAt.RcNeAt.str_str _ _ _ _ _ _ _ _ ?_
  have e : ∀ k : Fin 6, (!(wordS k == Str.ofString "")) = decide ((k : Nat) ≠ 0) := by decide +kernel
  rw [show (!(wordS k == Str.ofString "")) = decide (k ≠ 0) from e ⟨k, hk⟩]
  exact h
theorem word_in {T : Addr} {a b : Tok} (ht : IsTup s.heap T #[.str (Str.ofString "HEADER.FIELDS") a, .str (Str.ofString "HEADER.FIELDS.NOT") b]) (hk : k < 6) (h : Q (.bool (decide (k = 3 ∨ k = 4))) s) : wpAny (model PG w) A (compareOp .In (.str (wordS k) t) (.ref T)) Q E s := by
  refine in_tuple_strs ht (.cons _ _ (.cons _ _ .nil)) ?_
  have e : ∀ k : Fin 6, ([Str.ofString "HEADER.FIELDS", Str.ofString "HEADER.FIELDS.NOT"].any (· == wordS k)) = decide ((k : Nat) = 3 ∨ (k : Nat) = 4) := by decide +kernel
  rw [show ([Str.ofString "HEADER.FIELDS", Str.ofString "HEADER.FIELDS.NOT"].any (· == wordS k)) = decide (k = 3 ∨ k = 4) from e ⟨k, hk⟩]
  exact h
end
end
section
local macro_rules | `(tactic| k_handed) => `(tactic| with_reducible assumption)
theorem reg_all47 : True := by
  k_with "compareOp NotEq str str" => (((fail_if_success (fail_if_success (have qz9 : Mk 29 := by with_reducible assumption))); (k_here; (with_reducible show wpAny _ _ (compareOp CmpOp.NotEq (Value.str (wordS _) _) (Value.str _ _)) _ _ _); k_dflt (refine' word_ne0 (by omega) ?_; k_whole))))
  k_with "compareOp In str ref" => (((fail_if_success (fail_if_success (have qz9 : Mk 29 := by with_reducible assumption))); (k_here; (with_reducible show wpAny _ _ (compareOp CmpOp.In (Value.str (wordS _) _) (Value.ref 339)) _ _ _); k_dflt (refine' word_in (by first | (exact kun_topT (by k_asm) (by k_asm) (by k_is)) | fail) (by omega) ?_; k_whole))))
  k_with "call builtin:str.join" => (((fail_if_success (fail_if_success (have qz9 : Mk 29 := by with_reducible assumption))); (k_here; (with_reducible show wpAny _ _ (call (Value.builtin "str.join") [Value.str (Str.ofString ".") _, Value.ref _]) _ _ _); k_dflt (first   | (refine' join_text (b := true) (by k_asm) (by first | (k_mem) | fail) (by assumption) (by assumption) (by assumption) (by first | (exact .cons _ _ .nil) | fail) ?_; k_whole)   | (refine' join_text (k := 0) (b := false) (by k_asm) (by first | (k_mem) | fail) (by assumption) (by decide) (by assumption) (by first | (exact .nil) | fail) ?_; k_whole)); intro qt9 qk9 ql9; (try dsimp only))))
  trivial
def PShow_section_ctc (z9 : Cx × (Addr) × (Nat) × (Nat) × (List Str) × (Option (Nat × Nat))) : Prop := (fun (w : World) (mean : ExcName → Option Value) (mg : Str → Option Value) (mb : Str → Option Value) (dp : Nat) (un : Nat) (gd : Option (List Code)) (cn : Str) (cs : Scope) (a : Addr) (ccd : Value) (cl : List (Str × Addr)) (outer : List Env) (A₀ : Around) (base : Heap) (h₀ : Heap) (L : Addr) (m : Str → Option Value) (news : List (Addr × Obj)) (s : Shared) (Q : Value → Shared → Prop) (E : Value → Shared → Prop) (sx : Addr) (path : Nat) (k : Nat) (names : List Str) (p : Option (Nat × Nat)) => ∀ (H : Here w mean mg mb 8 dp un cs outer A₀ base h₀ L m news s) (hS : SecIn news sx path k names p) (hk : k < 6) (hnl : names.length ≤ 4) (hA : ∀ n ∈ names, n.length ≤ 100 ∧ 0 < n.length ∧ ∀ c ∈ n.cps.toList, AtomC c) (hz : ∀ i k, p = some (i, k) → i < 100) (ret : ∀ t h' tk', Fr h₀ L h' m → News h₀ L h' news → Q (.str (showS path k names p) t) { s with heap := h', toks := tk' }), wpAny (model PG w) (ktrTop dp un gd cn cs L a ccd cl outer) (call (.ref 392) [.ref sx, .bool true]) Q E s) (z9.1.w) (z9.1.mean) (z9.1.mg) (z9.1.mb) (z9.1.dp) (z9.1.un) (z9.1.gd) (z9.1.cn) (z9.1.cs) (z9.1.a) (z9.1.ccd) (z9.1.cl) (z9.1.outer) (z9.1.A₀) (z9.1.base) (z9.1.h₀) (z9.1.L) (z9.1.m) (z9.1.news) (z9.1.s) (z9.1.Q) (z9.1.E) (z9.2.1) (z9.2.2.1) (z9.2.2.2.1) (z9.2.2.2.2.1) (z9.2.2.2.2.2)
theorem show_section_ctc_core : PShow_section_ctc (hkm (⟨(cx0, default, default, default, default, default)⟩ : Nonempty (Cx × (Addr) × (Nat) × (Nat) × (List Str) × (Option (Nat × Nat)))) PShow_section_ctc) := by
  generalize hkm _ _ = z9
  delta PShow_section_ctc
  generalize z9.1.w = w, z9.1.mean = mean, z9.1.mg = mg, z9.1.mb = mb, z9.1.dp = dp, z9.1.un = un, z9.1.gd = gd, z9.1.cn = cn, z9.1.cs = cs, z9.1.a = a, z9.1.ccd = ccd, z9.1.cl = cl, z9.1.outer = outer, z9.1.A₀ = A₀, z9.1.base = base, z9.1.h₀ = h₀, z9.1.L = L, z9.1.m = m, z9.1.news = news, z9.1.s = s, z9.1.Q = Q, z9.1.E = E, z9.2.1 = sx, z9.2.2.1 = path, z9.2.2.2.1 = k, z9.2.2.2.2.1 = names, z9.2.2.2.2.2 = p
  clear z9
  intros H hS hk hnl hA hz ret
  have qmk29 : Mk 29 := True.intro
  have hS2 := hS
  obtain ⟨sdx, sh1, sh2, sh3, sh4, sk1, sk2, sk3, sk4, pa, st, na, pv, sn, its, nn, sm1, sm2, sp, sm3, hna, spv⟩ := hS2
  walk_at "my enter"
  k_steps
  have hp4 : path < 4 := by
    rcases sp with ⟨_, h4⟩ | ⟨h4, _⟩
    · exact h4
    · omega
  rename Frag.In _ _ => X1
  rename News _ _ _ _ => N1
  obtain ⟨pvs, hsrc, hpi⟩ := path_src X1 sp
  have hpl := pathL_len path
  have hpvl := hpi.length
  refine ⟨pvs.length, _, _, _, ?_, srcM_tup (its := pvs.toArray) rfl (by assumption) N1 hsrc, fun g => ?_⟩
  · rw [sizeLine_eq]; omega
  dsimp only
  refine rest_U (fun i ys nw => nw = _ ∧ StrsAre ys (((pathL path).take i).map numS)) ⟨rfl, .nil⟩ ?_ ?_
  · rintro i v ys nw I oI C oC D m₂ h tk E' hi ⟨rfl, hys⟩ hv hC hx F9 N9 off ne
    obtain ⟨tt, e⟩ := intsAre_get hpi (i := i) hi
    have hv' : pvs[i]? = some v := by simpa using hv
    rw [List.getElem?_eq_getElem hi] at hv'
    have hi' : i < (pathL path).length := by omega
    have hgd : (pathL path).getD i 0 = (pathL path)[i] := by simp [List.getD_eq_getElem?_getD, hi']
    rw [hgd] at e
    have hb := pathL_le _ (List.getElem_mem hi')
    have htk : (pathL path).take (i + 1) = (pathL path).take i ++ [(pathL path)[i]] := by rw [List.take_add_one, List.getElem?_eq_getElem hi']; rfl
    generalize (pathL path)[i] = pn at *
    obtain rfl := (Option.some.inj hv').symm.trans e
    k_steps
    refine CompEnd.intro (by assumption) (by assumption) _ (fun _ hp => hp) off hsrc ⟨rfl, ?_⟩
    rw [htk, List.map_append]
    exact strs_snoc hys
  · rintro ys nw ⟨rfl, hys⟩
    rw [hpvl, List.take_length] at hys
    have hysl := strsAre_len hys
    rw [List.length_map] at hysl
    have hpvh : handedIn pv = true := by
      rcases p with _ | ⟨i, j⟩
      · obtain rfl : pv = .none := spv
        rfl
      · obtain ⟨a, t, u, n, rfl, hm⟩ := spv
        rfl
    have hql := partS_len hz
    obtain ⟨jo, jl⟩ := names_bound hnl fun n hn => (hA n hn).1
    k_steps
    · rename News _ _ _ _ => N1
      refine ⟨its.length, _, _, _, ?_, srcM_tup (its := its.toArray) rfl (by assumption) N1 (.inr ⟨_, (by k_mem : (na, _) ∈ _), rfl, _, rfl⟩), fun g => ?_⟩
      · rw [sizeLine_eq, strsAre_len hna]; omega
      dsimp only
      refine rest_U (fun i ys nw => nw = _ ∧ StrsAre ys (names.take i)) ⟨rfl, .nil⟩ ?_ ?_
      · rintro i v ys nw I oI C oC D m₂ h tk E' hi ⟨rfl, hys⟩ hv hC hx F9 N9 off ne
        obtain ⟨y, ty, hy, rfl⟩ := strsAre_get hna (by simpa using hv)
        obtain ⟨hy1, hy2, hy3⟩ := hA y (List.mem_of_getElem? hy)
        k_steps
        refine CompEnd.intro (by assumption) (by assumption) _ (fun _ hp => hp) off (.inr ⟨_, (by k_mem : (na, _) ∈ _), rfl, _, rfl⟩) ⟨rfl, ?_⟩
        rw [List.take_add_one, hy]
        simpa using strs_snoc hys
      · rintro ys nw ⟨rfl, hys⟩
        rw [strsAre_len hna, List.take_length] at hys
        k_steps
        refine cb_retS ret ?_ (by assumption) (by walk_at "my news")
        exact show_pos (b := true) (by simp; omega) (by assumption)
    · refine cb_retS ret ?_ (by assumption) (by walk_at "my news")
      exact show_neg (b := true) (by simp; omega) (by assumption)
    · obtain rfl : k = 0 := by omega
      refine cb_retS ret ?_ (by assumption) (by walk_at "my news")
      exact show_neg (b := false) (by simp) (by omega)
section
variable {w : World} {mean : ExcName → Option Value} {mg mb : Str → Option Value} {dp un : Nat} {gd : Option (List Code)} {cn : Str} {cs : Scope} {a : Addr} {ccd : Value} {cl : List (Str × Addr)} {outer : List Env} {A₀ : Around} {base h₀ : Heap} {L : Addr} {m : Str → Option Value} {news : List (Addr × Obj)} {s : Shared} {Q E : Value → Shared → Prop}
theorem show_section_ctc (H : Here w mean mg mb 8 dp un cs outer A₀ base h₀ L m news s) {sx : Addr} {path k : Nat} {names : List Str} {p : Option (Nat × Nat)} (hS : SecIn news sx path k names p) (hk : k < 6) (hnl : names.length ≤ 4) (hA : ∀ n ∈ names, n.length ≤ 100 ∧ 0 < n.length ∧ ∀ c ∈ n.cps.toList, AtomC c) (hz : ∀ i k, p = some (i, k) → i < 100) (ret : ∀ t h' tk', Fr h₀ L h' m → News h₀ L h' news → Q (.str (showS path k names p) t) { s with heap := h', toks := tk' }) :
   wpAny (model PG w) (ktrTop dp un gd cn cs L a ccd cl outer) (call (.ref 392) [.ref sx, .bool true]) Q E s :=
  (hkf _ show_section_ctc_core (⟨w, mean, mg, mb, dp, un, gd, cn, cs, a, ccd, cl, outer, A₀, base, h₀, L, m, news, s, Q, E⟩, sx, path, k, names, p) : PShow_section_ctc (⟨w, mean, mg, mb, dp, un, gd, cn, cs, a, ccd, cl, outer, A₀, base, h₀, L, m, news, s, Q, E⟩, sx, path, k, names, p)) H hS hk hnl hA hz ret
end
end
theorem reg_all48 : True := by
  k_with "call ref" => ((with_reducible show wpAny _ _ (call (Value.ref 392) [_, Value.bool true]) _ _ _); k_here; k_dflt (refine' show_section_ctc (by first | (walk_at "my here") | fail) (by first | ((first |assumption|exact SecIn.mono (by assumption) (by first | (walk_at "my sub") | fail))) | fail) (by first | ((first |assumption|omega)) | fail) (by assumption) (by assumption) (by assumption) ?_; k_whole); intro qt9 qh9 qtk9 qF9 qN9; (try k_lt qM9); (try dsimp only); (try k_sweep); (try k_fold))
  trivial
end
theorem reg_all49 : True := by
  k_with "compareOp NotEq str str" => ((k_here; (with_reducible show wpAny _ _ (compareOp CmpOp.NotEq (Value.str (wordS _) _) (Value.str _ _)) _ _ _); k_dflt (refine' word_ne0 (by omega) ?_; k_whole)))
  k_with "call builtin:str.join" => ((k_here; (with_reducible show wpAny _ _ (call (Value.builtin "str.join") [Value.str (Str.ofString ".") _, Value.ref _]) _ _ _); k_dflt (first   | (refine' join_text (b := true) (by k_asm) (by first | (k_mem) | fail) (by assumption) (by assumption) (by assumption) (by first | (exact .cons _ _ .nil) | fail) ?_; k_whole)   | (refine' join_text (k := 0) (b := false) (by k_asm) (by first | (k_mem) | fail) (by assumption) (by decide) (by assumption) (by first | (exact .nil) | fail) ?_; k_whole)); intro qt9 qk9 ql9; (try dsimp only)))
  trivial
section
section
variable {w : World} {mean : ExcName → Option Value} {mg mb : Str → Option Value} {dp un : Nat} {gd : Option (List Code)} {cn : Str} {cs : Scope} {a : Addr} {ccd : Value} {cl : List (Str × Addr)} {outer : List Env} {A₀ : Around} {base h₀ : Heap} {L : Addr} {m : Str → Option Value} {news : List (Addr × Obj)} {s : Shared} {Q E : Value → Shared → Prop}
def LetIn (nw : List (Addr × Obj)) (x : Addr) (uid : Int) (d : Array UInt8) (fs : List Str) (inst mod : Int) : Prop := ∃ dx h1 h2 h3 h4 h5 k1 k2 k3 k4 k5 t1 t2 t4 t5 fa its n fn, (x, instObj 503 dx) ∈ nw ∧
  (dx, dictOf [⟨h1, .str (Str.ofString "uid") k1, .int uid t1⟩, ⟨h2, .str (Str.ofString "octets") k2, .bytes d t2⟩, ⟨h3, .str (Str.ofString "flags") k3, .ref fa⟩, ⟨h4, .str (Str.ofString "instant") k4, .int inst t4⟩, ⟨h5, .str (Str.ofString "modseq") k5, .int mod t5⟩] n) ∈ nw ∧
  (fa, ({ cls := .type "tuple", data := .seq its fn } : Obj)) ∈ nw ∧ StrsAre its.toList fs
theorem LetIn.mono {nw nw' : List (Addr × Obj)} {x : Addr} {uid : Int} {d : Array UInt8} {fs : List Str} {inst mod : Int} (h : LetIn nw x uid d fs inst mod) (hs : ∀ p ∈ nw, p ∈ nw') : LetIn nw' x uid d fs inst mod := by
  obtain ⟨dx, h1, h2, h3, h4, h5, k1, k2, k3, k4, k5, t1, t2, t4, t5, fa, its, n, fn, m1, m2, m3, hf⟩ := h
  exact ⟨dx, h1, h2, h3, h4, h5, k1, k2, k3, k4, k5, t1, t2, t4, t5, fa, its, n, fn, hs _ m1, hs _ m2, hs _ m3, hf⟩
end
def PWhole_sec_ctc (z9 : Cx × (Nat) × (Tok)) : Prop := (fun (w : World) (mean : ExcName → Option Value) (mg : Str → Option Value) (mb : Str → Option Value) (dp : Nat) (un : Nat) (gd : Option (List Code)) (cn : Str) (cs : Scope) (a : Addr) (ccd : Value) (cl : List (Str × Addr)) (outer : List Env) (A₀ : Around) (base : Heap) (h₀ : Heap) (L : Addr) (m : Str → Option Value) (news : List (Addr × Obj)) (s : Shared) (Q : Value → Shared → Prop) (E : Value → Shared → Prop) (k : Nat) (t : Tok) => ∀ (H : Here w mean mg mb 3 dp un cs outer A₀ base h₀ L m news s) (ret : ∀ sx nw h' tk', Fr h₀ L h' m → News h₀ L h' nw → (∀ p ∈ news, p ∈ nw) → SecIn nw sx 0 k [] none → Q (.ref sx) { s with heap := h', toks := tk' }), wpAny (model PG w) (ktrTop dp un gd cn cs L a ccd cl outer) (call (.ref 460) [.str (wordS k) t]) Q E s) (z9.1.w) (z9.1.mean) (z9.1.mg) (z9.1.mb) (z9.1.dp) (z9.1.un) (z9.1.gd) (z9.1.cn) (z9.1.cs) (z9.1.a) (z9.1.ccd) (z9.1.cl) (z9.1.outer) (z9.1.A₀) (z9.1.base) (z9.1.h₀) (z9.1.L) (z9.1.m) (z9.1.news) (z9.1.s) (z9.1.Q) (z9.1.E) (z9.2.1) (z9.2.2)
theorem whole_sec_ctc_core : PWhole_sec_ctc (hkm (⟨(cx0, default, default)⟩ : Nonempty (Cx × (Nat) × (Tok))) PWhole_sec_ctc) := by
  generalize hkm _ _ = z9
  delta PWhole_sec_ctc
  generalize z9.1.w = w, z9.1.mean = mean, z9.1.mg = mg, z9.1.mb = mb, z9.1.dp = dp, z9.1.un = un, z9.1.gd = gd, z9.1.cn = cn, z9.1.cs = cs, z9.1.a = a, z9.1.ccd = ccd, z9.1.cl = cl, z9.1.outer = outer, z9.1.A₀ = A₀, z9.1.base = base, z9.1.h₀ = h₀, z9.1.L = L, z9.1.m = m, z9.1.news = news, z9.1.s = s, z9.1.Q = Q, z9.1.E = E, z9.2.1 = k, z9.2.2 = t
  clear z9
  intros H ret
  walk_at "my enter"
  k_steps
  exact ret _ _ _ _ (by assumption) (by assumption) (by walk_at "my sub") ⟨_, _, _, _, _, _, _, _, _, _, _, _, _, _, _, _, by k_mem, by k_mem, .inr ⟨rfl, _, by k_mem⟩, by k_mem, .nil, rfl⟩
section
variable {w : World} {mean : ExcName → Option Value} {mg mb : Str → Option Value} {dp un : Nat} {gd : Option (List Code)} {cn : Str} {cs : Scope} {a : Addr} {ccd : Value} {cl : List (Str × Addr)} {outer : List Env} {A₀ : Around} {base h₀ : Heap} {L : Addr} {m : Str → Option Value} {news : List (Addr × Obj)} {s : Shared} {Q E : Value → Shared → Prop}
theorem whole_sec_ctc (H : Here w mean mg mb 3 dp un cs outer A₀ base h₀ L m news s) {k : Nat} {t : Tok} (ret : ∀ sx nw h' tk', Fr h₀ L h' m → News h₀ L h' nw → (∀ p ∈ news, p ∈ nw) → SecIn nw sx 0 k [] none → Q (.ref sx) { s with heap := h', toks := tk' }) :
   wpAny (model PG w) (ktrTop dp un gd cn cs L a ccd cl outer) (call (.ref 460) [.str (wordS k) t]) Q E s :=
  (hkf _ whole_sec_ctc_core (⟨w, mean, mg, mb, dp, un, gd, cn, cs, a, ccd, cl, outer, A₀, base, h₀, L, m, news, s, Q, E⟩, k, t) : PWhole_sec_ctc (⟨w, mean, mg, mb, dp, un, gd, cn, cs, a, ccd, cl, outer, A₀, base, h₀, L, m, news, s, Q, E⟩, k, t)) H ret
end
theorem reg_all50 : True := by
  k_with "call ref" => ((with_reducible show wpAny _ _ (call (Value.ref 460) [_]) _ _ _); k_here; k_dflt (refine' whole_sec_ctc (by first | (walk_at "my here") | fail) ?_; k_whole); intro qsx9 qnw9 qh9 qtk9 qF9 qN9 qs9 qS9; (try k_lt qM9); (try dsimp only); (try k_sweep); (try k_fold))
  trivial
section
variable {w : World} {mean : ExcName → Option Value} {mg mb : Str → Option Value} {dp un : Nat} {gd : Option (List Code)} {cn : Str} {cs : Scope} {a : Addr} {ccd : Value} {cl : List (Str × Addr)} {outer : List Env} {A₀ : Around} {base h₀ : Heap} {L : Addr} {m : Str → Option Value} {news : List (Addr × Obj)} {s : Shared} {Q E : Value → Shared → Prop}
def nameR (k : Nat) : Str := Str.ofString "RFC822" ++ (if k = 0 then Str.ofString "" else Str.ofString "." ++ wordS k)
def PairIn (nw : List (Addr × Obj)) (tp : Addr) (name : Str) (o : Option (Array UInt8)) : Prop := ∃ t v, (tp, tupO [.str name t, v]) ∈ nw ∧ OctV o v
theorem lt_of_all {d : Addr} : ∀ {l : List (Addr × Obj)}, AllLt d l → ∀ p ∈ l, p.1 < d
  | [], _, _, hp => nomatch hp
  | q :: r, h, p, hp => by
    rcases List.mem_cons.mp hp with rfl | hp
    · exact h.1
    · exact lt_of_all h.2 p hp
theorem nameR_pos {k : Nat} (h : k ≠ 0) : nameR k = Str.ofString "RFC822" ++ (Str.ofString "." ++ wordS k) := by unfold nameR; rw [if_neg h]
theorem nameR_zero {k : Nat} (h : ¬ k ≠ 0) : nameR k = Str.ofString "RFC822" ++ Str.ofString "" := by
  obtain rfl : k = 0 := by omega
  rfl
end
section
theorem reg_all51 : True := by
  k_with "compareOp NotEq str str" => (((fail_if_success (fail_if_success (have qz9 : Mk 31 := by with_reducible assumption))); (k_here; (with_reducible show wpAny _ _ (compareOp CmpOp.NotEq (Value.str (wordS _) _) (Value.str _ _)) _ _ _); k_dflt (refine' word_ne0 (by omega) ?_; k_whole))))
  trivial
local macro_rules | `(tactic| k_handed) => `(tactic| with_reducible assumption)
def PPair_rfc_ctc (z9 : Cx × (List Nat) × (Array UInt8) × (Array UInt8) × (Int) × (Int) × (Addr) × (Addr) × (Addr) × (Nat) × (Str) × (Int) × (Int) × (Int) × (List Str) × (Tok) × (Tok) × (Nat)) : Prop := (fun (w : World) (mean : ExcName → Option Value) (mg : Str → Option Value) (mb : Str → Option Value) (dp : Nat) (un : Nat) (gd : Option (List Code)) (cn : Str) (cs : Scope) (a : Addr) (ccd : Value) (cl : List (Str × Addr)) (outer : List Env) (A₀ : Around) (base : Heap) (h₀ : Heap) (L : Addr) (m : Str → Option Value) (news : List (Addr × Obj)) (s : Shared) (Q : Value → Shared → Prop) (E : Value → Shared → Prop) (rows : List Nat) (body : Array UInt8) (d : Array UInt8) (b : Int) (e : Int) (x : Addr) (lx : Addr) (ia : Addr) (k : Nat) (word : Str) (uid : Int) (inst : Int) (mod : Int) (fs : List Str) (t1 : Tok) (t2 : Tok) (n : Nat) => ∀ (H : Here w mean mg mb 30 dp un cs outer A₀ base h₀ L m news s) (M : Made rows body d b e) (hP : PartIn news x b e) (hL : LetIn news lx uid d fs inst mod) (hI : (ia, ({ cls := .type "tuple", data := .seq #[.str (Str.ofString "rfc822") t1, .str word t2] n } : Obj)) ∈ news) (hk : k < 3) (hw : word = wordS k) (ret : ∀ tp t v h' tk', Fr h₀ L h' m → News h₀ L h' ((tp, tupO [.str (nameR k) t, v]) :: news) → OctV (octB rows body [] 0 k) v → (∀ p ∈ news, p.1 < tp) → Q (.ref tp) { s with heap := h', toks := tk' }), wpAny (model PG w) (ktrTop dp un gd cn cs L a ccd cl outer) (call (.ref 472) [.ref lx, .ref x, .ref ia]) Q E s) (z9.1.w) (z9.1.mean) (z9.1.mg) (z9.1.mb) (z9.1.dp) (z9.1.un) (z9.1.gd) (z9.1.cn) (z9.1.cs) (z9.1.a) (z9.1.ccd) (z9.1.cl) (z9.1.outer) (z9.1.A₀) (z9.1.base) (z9.1.h₀) (z9.1.L) (z9.1.m) (z9.1.news) (z9.1.s) (z9.1.Q) (z9.1.E) (z9.2.1) (z9.2.2.1) (z9.2.2.2.1) (z9.2.2.2.2.1) (z9.2.2.2.2.2.1) (z9.2.2.2.2.2.2.1) (z9.2.2.2.2.2.2.2.1) (z9.2.2.2.2.2.2.2.2.1) (z9.2.2.2.2.2.2.2.2.2.1) (z9.2.2.2.2.2.2.2.2.2.2.1) (z9.2.2.2.2.2.2.2.2.2.2.2.1) (z9.2.2.2.2.2.2.2.2.2.2.2.2.1) (z9.2.2.2.2.2.2.2.2.2.2.2.2.2.1) (z9.2.2.2.2.2.2.2.2.2.2.2.2.2.2.1) (z9.2.2.2.2.2.2.2.2.2.2.2.2.2.2.2.1) (z9.2.2.2.2.2.2.2.2.2.2.2.2.2.2.2.2.1) (z9.2.2.2.2.2.2.2.2.2.2.2.2.2.2.2.2.2)
theorem pair_rfc_ctc_core : PPair_rfc_ctc (hkm (⟨(cx0, default, default, default, default, default, default, default, default, default, default, default, default, default, default, default, default, default)⟩ : Nonempty (Cx × (List Nat) × (Array UInt8) × (Array UInt8) × (Int) × (Int) × (Addr) × (Addr) × (Addr) × (Nat) × (Str) × (Int) × (Int) × (Int) × (List Str) × (Tok) × (Tok) × (Nat))) PPair_rfc_ctc) := by
  generalize hkm _ _ = z9
  delta PPair_rfc_ctc
  generalize z9.1.w = w, z9.1.mean = mean, z9.1.mg = mg, z9.1.mb = mb, z9.1.dp = dp, z9.1.un = un, z9.1.gd = gd, z9.1.cn = cn, z9.1.cs = cs, z9.1.a = a, z9.1.ccd = ccd, z9.1.cl = cl, z9.1.outer = outer, z9.1.A₀ = A₀, z9.1.base = base, z9.1.h₀ = h₀, z9.1.L = L, z9.1.m = m, z9.1.news = news, z9.1.s = s, z9.1.Q = Q, z9.1.E = E, z9.2.1 = rows, z9.2.2.1 = body, z9.2.2.2.1 = d, z9.2.2.2.2.1 = b, z9.2.2.2.2.2.1 = e, z9.2.2.2.2.2.2.1 = x, z9.2.2.2.2.2.2.2.1 = lx, z9.2.2.2.2.2.2.2.2.1 = ia, z9.2.2.2.2.2.2.2.2.2.1 = k, z9.2.2.2.2.2.2.2.2.2.2.1 = word, z9.2.2.2.2.2.2.2.2.2.2.2.1 = uid, z9.2.2.2.2.2.2.2.2.2.2.2.2.1 = inst, z9.2.2.2.2.2.2.2.2.2.2.2.2.2.1 = mod, z9.2.2.2.2.2.2.2.2.2.2.2.2.2.2.1 = fs, z9.2.2.2.2.2.2.2.2.2.2.2.2.2.2.2.1 = t1, z9.2.2.2.2.2.2.2.2.2.2.2.2.2.2.2.2.1 = t2, z9.2.2.2.2.2.2.2.2.2.2.2.2.2.2.2.2.2 = n
  clear z9
  intros H M hP hL hI hk hw ret
  have qmk31 : Mk 31 := True.intro
  subst hw
  have hL2 := hL
  obtain ⟨dx, h1, h2, h3, h4, h5, k1, k2, k3, k4, k5, t1, t2, t4, t5, fa, its, n, fn, m1, m2, m3, hf⟩ := hL2
  have hwl := word_len k
  have q1 : 0 < 4 := by decide
  have q2 : if 0 = 0 then k < 5 else k < 6 := by rw [if_pos rfl]; omega
  have q3 : ([] : List Str).length ≤ 4 := by decide
  have q4 : ∀ n ∈ ([] : List Str), n.cps.size < 1000 ∧ Asc n := fun n hn => nomatch hn
  walk_at "my enter"
  k_steps
  · rename (∀ p ∈ news, p ∈ _) => s9
    rw [nameR_pos (by assumption)] at ret
    exact ret _ _ _ _ _ (by assumption) (by walk_at "my news") (by assumption) (fun p hp => (by assumption : ∀ p ∈ _, p.1 < _) p (s9 p hp))
  · rename (∀ p ∈ news, p ∈ _) => s9
    rw [nameR_zero (by assumption)] at ret
    exact ret _ _ _ _ _ (by assumption) (by walk_at "my news") (by assumption) (fun p hp => (by assumption : ∀ p ∈ _, p.1 < _) p (s9 p hp))
section
variable {w : World} {mean : ExcName → Option Value} {mg mb : Str → Option Value} {dp un : Nat} {gd : Option (List Code)} {cn : Str} {cs : Scope} {a : Addr} {ccd : Value} {cl : List (Str × Addr)} {outer : List Env} {A₀ : Around} {base h₀ : Heap} {L : Addr} {m : Str → Option Value} {news : List (Addr × Obj)} {s : Shared} {Q E : Value → Shared → Prop}
theorem pair_rfc_ctc (H : Here w mean mg mb 30 dp un cs outer A₀ base h₀ L m news s) {rows : List Nat} {body d : Array UInt8} {b e : Int} {x lx ia : Addr} {k : Nat} {word : Str} {uid inst mod : Int} {fs : List Str} {t1 t2 : Tok} {n : Nat} (M : Made rows body d b e) (hP : PartIn news x b e) (hL : LetIn news lx uid d fs inst mod) (hI : (ia, ({ cls := .type "tuple", data := .seq #[.str (Str.ofString "rfc822") t1, .str word t2] n } : Obj)) ∈ news) (hk : k < 3) (hw : word = wordS k) (ret : ∀ tp t v h' tk', Fr h₀ L h' m → News h₀ L h' ((tp, tupO [.str (nameR k) t, v]) :: news) → OctV (octB rows body [] 0 k) v → (∀ p ∈ news, p.1 < tp) → Q (.ref tp) { s with heap := h', toks := tk' }) :
   wpAny (model PG w) (ktrTop dp un gd cn cs L a ccd cl outer) (call (.ref 472) [.ref lx, .ref x, .ref ia]) Q E s :=
  (hkf _ pair_rfc_ctc_core (⟨w, mean, mg, mb, dp, un, gd, cn, cs, a, ccd, cl, outer, A₀, base, h₀, L, m, news, s, Q, E⟩, rows, body, d, b, e, x, lx, ia, k, word, uid, inst, mod, fs, t1, t2, n) : PPair_rfc_ctc (⟨w, mean, mg, mb, dp, un, gd, cn, cs, a, ccd, cl, outer, A₀, base, h₀, L, m, news, s, Q, E⟩, rows, body, d, b, e, x, lx, ia, k, word, uid, inst, mod, fs, t1, t2, n)) H M hP hL hI hk hw ret
end
def PPair_sec_ctc (z9 : Cx × (List Nat) × (Array UInt8) × (Array UInt8) × (Int) × (Int) × (Addr) × (Addr) × (Addr) × (Addr) × (Nat) × (Nat) × (List Str) × (Option (Nat × Nat)) × (Int) × (Int) × (Int) × (List Str) × (Tok) × (Value) × (Nat)) : Prop := (fun (w : World) (mean : ExcName → Option Value) (mg : Str → Option Value) (mb : Str → Option Value) (dp : Nat) (un : Nat) (gd : Option (List Code)) (cn : Str) (cs : Scope) (a : Addr) (ccd : Value) (cl : List (Str × Addr)) (outer : List Env) (A₀ : Around) (base : Heap) (h₀ : Heap) (L : Addr) (m : Str → Option Value) (news : List (Addr × Obj)) (s : Shared) (Q : Value → Shared → Prop) (E : Value → Shared → Prop) (rows : List Nat) (body : Array UInt8) (d : Array UInt8) (b : Int) (e : Int) (x : Addr) (lx : Addr) (ia : Addr) (sx : Addr) (path : Nat) (k : Nat) (names : List Str) (p : Option (Nat × Nat)) (uid : Int) (inst : Int) (mod : Int) (fs : List Str) (t1 : Tok) (v3 : Value) (n : Nat) => ∀ (H : Here w mean mg mb 30 dp un cs outer A₀ base h₀ L m news s) (M : Made rows body d b e) (hP : PartIn news x b e) (hL : LetIn news lx uid d fs inst mod) (hS : SecIn news sx path k names p) (hI : (ia, ({ cls := .type "tuple", data := .seq #[.str (Str.ofString "section") t1, .ref sx, v3] n } : Obj)) ∈ news) (hp : path < 4) (hk : if path = 0 then k < 5 else k < 6) (hnl : names.length ≤ 4) (hA : ∀ n ∈ names, n.cps.size < 1000 ∧ Asc n) (hB : ∀ n ∈ names, n.length ≤ 100 ∧ 0 < n.length ∧ ∀ c ∈ n.cps.toList, AtomC c) (hz : ∀ i k, p = some (i, k) → i < 100) (hsl : (showS path k names p).length ≤ 10000) (ret : ∀ tp t v h' tk', Fr h₀ L h' m → News h₀ L h' ((tp, tupO [.str (Str.ofString "BODY" ++ showS path k names p) t, v]) :: news) → OctV (cutB (octB rows body names path k) p) v → (∀ p ∈ news, p.1 < tp) → Q (.ref tp) { s with heap := h', toks := tk' }), wpAny (model PG w) (ktrTop dp un gd cn cs L a ccd cl outer) (call (.ref 472) [.ref lx, .ref x, .ref ia]) Q E s) (z9.1.w) (z9.1.mean) (z9.1.mg) (z9.1.mb) (z9.1.dp) (z9.1.un) (z9.1.gd) (z9.1.cn) (z9.1.cs) (z9.1.a) (z9.1.ccd) (z9.1.cl) (z9.1.outer) (z9.1.A₀) (z9.1.base) (z9.1.h₀) (z9.1.L) (z9.1.m) (z9.1.news) (z9.1.s) (z9.1.Q) (z9.1.E) (z9.2.1) (z9.2.2.1) (z9.2.2.2.1) (z9.2.2.2.2.1) (z9.2.2.2.2.2.1) (z9.2.2.2.2.2.2.1) (z9.2.2.2.2.2.2.2.1) (z9.2.2.2.2.2.2.2.2.1) (z9.2.2.2.2.2.2.2.2.2.1) (z9.2.2.2.2.2.2.2.2.2.2.1) (z9.2.2.2.2.2.2.2.2.2.2.2.1) (z9.2.2.2.2.2.2.2.2.2.2.2.2.1) (z9.2.2.2.2.2.2.2.2.2.2.2.2.2.1) (z9.2.2.2.2.2.2.2.2.2.2.2.2.2.2.1) (z9.2.2.2.2.2.2.2.2.2.2.2.2.2.2.2.1) (z9.2.2.2.2.2.2.2.2.2.2.2.2.2.2.2.2.1) (z9.2.2.2.2.2.2.2.2.2.2.2.2.2.2.2.2.2.1) (z9.2.2.2.2.2.2.2.2.2.2.2.2.2.2.2.2.2.2.1) (z9.2.2.2.2.2.2.2.2.2.2.2.2.2.2.2.2.2.2.2.1) (z9.2.2.2.2.2.2.2.2.2.2.2.2.2.2.2.2.2.2.2.2)
theorem pair_sec_ctc_core : PPair_sec_ctc (hkm (⟨(cx0, default, default, default, default, default, default, default, default, default, default, default, default, default, default, default, default, default, default, default, default)⟩ : Nonempty (Cx × (List Nat) × (Array UInt8) × (Array UInt8) × (Int) × (Int) × (Addr) × (Addr) × (Addr) × (Addr) × (Nat) × (Nat) × (List Str) × (Option (Nat × Nat)) × (Int) × (Int) × (Int) × (List Str) × (Tok) × (Value) × (Nat))) PPair_sec_ctc) := by
  generalize hkm _ _ = z9
  delta PPair_sec_ctc
  generalize z9.1.w = w, z9.1.mean = mean, z9.1.mg = mg, z9.1.mb = mb, z9.1.dp = dp, z9.1.un = un, z9.1.gd = gd, z9.1.cn = cn, z9.1.cs = cs, z9.1.a = a, z9.1.ccd = ccd, z9.1.cl = cl, z9.1.outer = outer, z9.1.A₀ = A₀, z9.1.base = base, z9.1.h₀ = h₀, z9.1.L = L, z9.1.m = m, z9.1.news = news, z9.1.s = s, z9.1.Q = Q, z9.1.E = E, z9.2.1 = rows, z9.2.2.1 = body, z9.2.2.2.1 = d, z9.2.2.2.2.1 = b, z9.2.2.2.2.2.1 = e, z9.2.2.2.2.2.2.1 = x, z9.2.2.2.2.2.2.2.1 = lx, z9.2.2.2.2.2.2.2.2.1 = ia, z9.2.2.2.2.2.2.2.2.2.1 = sx, z9.2.2.2.2.2.2.2.2.2.2.1 = path, z9.2.2.2.2.2.2.2.2.2.2.2.1 = k, z9.2.2.2.2.2.2.2.2.2.2.2.2.1 = names, z9.2.2.2.2.2.2.2.2.2.2.2.2.2.1 = p, z9.2.2.2.2.2.2.2.2.2.2.2.2.2.2.1 = uid, z9.2.2.2.2.2.2.2.2.2.2.2.2.2.2.2.1 = inst, z9.2.2.2.2.2.2.2.2.2.2.2.2.2.2.2.2.1 = mod, z9.2.2.2.2.2.2.2.2.2.2.2.2.2.2.2.2.2.1 = fs, z9.2.2.2.2.2.2.2.2.2.2.2.2.2.2.2.2.2.2.1 = t1, z9.2.2.2.2.2.2.2.2.2.2.2.2.2.2.2.2.2.2.2.1 = v3, z9.2.2.2.2.2.2.2.2.2.2.2.2.2.2.2.2.2.2.2.2 = n
  clear z9
  intros H M hP hL hS hI hp hk hnl hA hB hz hsl ret
  have qmk31 : Mk 31 := True.intro
  have hL2 := hL
  obtain ⟨dx, h1, h2, h3, h4, h5, k1, k2, k3, k4, k5, t1, t2, t4, t5, fa, its, n, fn, m1, m2, m3, hf⟩ := hL2
  have hk6 : k < 6 := by split at hk <;> omega
  walk_at "my enter"
  k_steps
  exact ret _ _ _ _ _ (by assumption) (by walk_at "my news") (by assumption) (by assumption)
section
variable {w : World} {mean : ExcName → Option Value} {mg mb : Str → Option Value} {dp un : Nat} {gd : Option (List Code)} {cn : Str} {cs : Scope} {a : Addr} {ccd : Value} {cl : List (Str × Addr)} {outer : List Env} {A₀ : Around} {base h₀ : Heap} {L : Addr} {m : Str → Option Value} {news : List (Addr × Obj)} {s : Shared} {Q E : Value → Shared → Prop}
theorem pair_sec_ctc (H : Here w mean mg mb 30 dp un cs outer A₀ base h₀ L m news s) {rows : List Nat} {body d : Array UInt8} {b e : Int} {x lx ia sx : Addr} {path k : Nat} {names : List Str} {p : Option (Nat × Nat)} {uid inst mod : Int} {fs : List Str} {t1 : Tok} {v3 : Value} {n : Nat} (M : Made rows body d b e) (hP : PartIn news x b e) (hL : LetIn news lx uid d fs inst mod) (hS : SecIn news sx path k names p) (hI : (ia, ({ cls := .type "tuple", data := .seq #[.str (Str.ofString "section") t1, .ref sx, v3] n } : Obj)) ∈ news) (hp : path < 4) (hk : if path = 0 then k < 5 else k < 6) (hnl : names.length ≤ 4) (hA : ∀ n ∈ names, n.cps.size < 1000 ∧ Asc n) (hB : ∀ n ∈ names, n.length ≤ 100 ∧ 0 < n.length ∧ ∀ c ∈ n.cps.toList, AtomC c) (hz : ∀ i k, p = some (i, k) → i < 100) (hsl : (showS path k names p).length ≤ 10000) (ret : ∀ tp t v h' tk', Fr h₀ L h' m → News h₀ L h' ((tp, tupO [.str (Str.ofString "BODY" ++ showS path k names p) t, v]) :: news) → OctV (cutB (octB rows body names path k) p) v → (∀ p ∈ news, p.1 < tp) → Q (.ref tp) { s with heap := h', toks := tk' }) :
   wpAny (model PG w) (ktrTop dp un gd cn cs L a ccd cl outer) (call (.ref 472) [.ref lx, .ref x, .ref ia]) Q E s :=
  (hkf _ pair_sec_ctc_core (⟨w, mean, mg, mb, dp, un, gd, cn, cs, a, ccd, cl, outer, A₀, base, h₀, L, m, news, s, Q, E⟩, rows, body, d, b, e, x, lx, ia, sx, path, k, names, p, uid, inst, mod, fs, t1, v3, n) : PPair_sec_ctc (⟨w, mean, mg, mb, dp, un, gd, cn, cs, a, ccd, cl, outer, A₀, base, h₀, L, m, news, s, Q, E⟩, rows, body, d, b, e, x, lx, ia, sx, path, k, names, p, uid, inst, mod, fs, t1, v3, n)) H M hP hL hS hI hp hk hnl hA hB hz hsl ret
end
end
theorem reg_all52 : True := by
  k_with "call ref" => ((with_reducible show wpAny _ _ (call (Value.ref 472) [_, _, _]) _ _ _); k_here; k_dflt (refine' pair_rfc_ctc (by first | (walk_at "my here") | fail) (by assumption) (by first | ((first |assumption|exact PartIn.mono (by assumption) (by first | (walk_at "my sub") | fail))) | fail) (by first | ((first |assumption|exact LetIn.mono (by assumption) (by first | (walk_at "my sub") | fail))) | fail) (by first | (k_mem) | fail) (by omega) (by first | ((first |exact words_eq.1|exact words_eq.2.1|exact words_eq.2.2.1)) | fail) ?_; k_whole); intro qtp9 qt9 qv9 qh9 qtk9 qF9 qN9 qO9 ql9; (try k_lt qM9); (try dsimp only); (try k_sweep); (try k_fold))
  trivial
theorem reg_all53 : True := by
  k_with "call ref" => ((with_reducible show wpAny _ _ (call (Value.ref 472) [_, _, _]) _ _ _); k_here; k_dflt (refine' pair_sec_ctc (by first | (walk_at "my here") | fail) (by assumption) (by first | ((first |assumption|exact PartIn.mono (by assumption) (by first | (walk_at "my sub") | fail))) | fail) (by first | ((first |assumption|exact LetIn.mono (by assumption) (by first | (walk_at "my sub") | fail))) | fail) (by first | ((first |assumption|exact SecIn.mono (by assumption) (by first | (walk_at "my sub") | fail))) | fail) (by first | (k_mem) | fail) (by assumption) (by assumption) (by first | ((first |assumption|omega)) | fail) (by assumption) (by assumption) (by assumption) (by assumption) ?_; k_whole); intro qtp9 qt9 qv9 qh9 qtk9 qF9 qN9 qO9 ql9; (try k_lt qM9); (try dsimp only); (try k_sweep); (try k_fold))
  trivial
end
section
section
variable {w : World} {mean : ExcName → Option Value} {mg mb : Str → Option Value} {dp un : Nat} {gd : Option (List Code)} {cn : Str} {cs : Scope} {a : Addr} {ccd : Value} {cl : List (Str × Addr)} {outer : List Env} {A₀ : Around} {base h₀ : Heap} {L : Addr} {m : Str → Option Value} {news : List (Addr × Obj)} {s : Shared} {Q E : Value → Shared → Prop}
theorem day_same {n : Int} {r1 r2 : Str} (h1 : (n, r1) ∈ dayStrs) (h2 : (n, r2) ∈ dayStrs) : r1 = r2 := by
  simp only [dayStrs, List.mem_cons, Prod.mk.injEq, List.not_mem_nil, or_false] at h1 h2
  rcases h1 with ⟨rfl, rfl⟩ | ⟨rfl, rfl⟩ | ⟨rfl, rfl⟩ | ⟨rfl, rfl⟩ | ⟨rfl, rfl⟩ <;> exact Eq.symm (by simpa using h2)
theorem day_has {n : Int} {r : Str} (h : (n, r) ∈ dayStrs) : ∃ y mo d, (n, y, mo, d) ∈ dayTab := by
  simp only [dayStrs, List.mem_cons, Prod.mk.injEq, List.not_mem_nil, or_false] at h
  rcases h with ⟨rfl, rfl⟩ | ⟨rfl, rfl⟩ | ⟨rfl, rfl⟩ | ⟨rfl, rfl⟩ | ⟨rfl, rfl⟩
  · exact ⟨_, _, _, .head _⟩
  · exact ⟨_, _, _, .tail _ (.head _)⟩
  · exact ⟨_, _, _, .tail _ (.tail _ (.head _))⟩
  · exact ⟨_, _, _, .tail _ (.tail _ (.tail _ (.head _)))⟩
  · exact ⟨_, _, _, .tail _ (.tail _ (.tail _ (.tail _ (.head _))))⟩
def dateS (r : Str) (sec : Int) : Str := r ++ ⟨#[32]⟩ ++ clockS (sec / 3600).toNat (sec / 60 % 60).toNat (sec % 60).toNat
theorem dateS_ok {n : Int} {r : Str} {sec : Int} (h : (n, r) ∈ dayStrs) (h0 : 0 ≤ sec ∧ sec < 86400) : (dateS r sec).length = 26 ∧ Asc (dateS r sec) := by
  have hr : r.cps.size = 11 ∧ ∀ c ∈ r.cps.toList, c < 128 := by
    simp only [dayStrs, List.mem_cons, Prod.mk.injEq, List.not_mem_nil, or_false] at h
    rcases h with ⟨rfl, rfl⟩ | ⟨rfl, rfl⟩ | ⟨rfl, rfl⟩ | ⟨rfl, rfl⟩ | ⟨rfl, rfl⟩ <;> decide
  refine ⟨?_, ?_⟩
  · show (dateS r sec).cps.size = 26
    unfold dateS clockS
    simp only [Str.cps_append, Array.size_append, hr.1]
    rfl
  · intro c hc
    unfold dateS clockS at hc
    simp only [Str.cps_append, Array.toList_append, List.mem_append] at hc
    rcases hc with (hc | hc) | hc
    · exact hr.2 c hc
    · simp at hc; omega
    · simp only [List.mem_cons, List.not_mem_nil, or_false] at hc
      omega
def AtomsIn (nw : List (Addr × Obj)) (ys : List Value) (fs : List Str) : Prop := ys.length = fs.length ∧ ∀ (i : Nat) v, ys[i]? = some v → ∃ a da h k t n f, v = .ref a ∧ fs[i]? = some f ∧ (a, instObj 449 da) ∈ nw ∧ (da, dictOf [⟨h, .str (Str.ofString "text") k, .str f t⟩] n) ∈ nw
theorem AtomsIn.mono {nw nw' : List (Addr × Obj)} {ys : List Value} {fs : List Str} (x : AtomsIn nw ys fs) (hs : ∀ p ∈ nw, p ∈ nw') : AtomsIn nw' ys fs := by
  refine ⟨x.1, fun i v hv => ?_⟩
  obtain ⟨a, da, h, k, t, n, f, e1, e2, m1, m2⟩ := x.2 i v hv
  exact ⟨a, da, h, k, t, n, f, e1, e2, hs _ m1, hs _ m2⟩
theorem AtomsIn.snoc {nw : List (Addr × Obj)} {ys : List Value} {fs : List Str} {f : Str} {a da : Addr} {h : Int} {k t : Tok} {n : Nat} (x : AtomsIn nw ys fs) (m1 : (a, instObj 449 da) ∈ nw) (m2 : (da, dictOf [⟨h, .str (Str.ofString "text") k, .str f t⟩] n) ∈ nw) : AtomsIn nw (ys ++ [.ref a]) (fs ++ [f]) := by
  refine ⟨by simp [x.1], fun i v hv => ?_⟩
  rcases Nat.lt_trichotomy i ys.length with hi | hi | hi
  · rw [List.getElem?_append_left hi] at hv
    obtain ⟨a, da, h, k, t, n, f, e1, e2, m1, m2⟩ := x.2 i v hv
    exact ⟨a, da, h, k, t, n, f, e1, by rw [List.getElem?_append_left (by rw [← x.1]; exact hi)]; exact e2, m1, m2⟩
  · subst hi
    rw [List.getElem?_append_right (Nat.le_refl _), Nat.sub_self] at hv
    cases hv
    exact ⟨a, da, h, k, t, n, f, rfl, by rw [x.1, List.getElem?_append_right (Nat.le_refl _), Nat.sub_self]; rfl, m1, m2⟩
  · rw [List.getElem?_eq_none (by simp; omega)] at hv; cases hv
end
section
section
variable {w : World} {mean : ExcName → Option Value} {mg mb : Str → Option Value} {dp un : Nat} {gd : Option (List Code)} {cn : Str} {cs : Scope} {a : Addr} {ccd : Value} {cl : List (Str × Addr)} {outer : List Env} {A₀ : Around} {base h₀ : Heap} {L : Addr} {m : Str → Option Value} {news : List (Addr × Obj)} {s : Shared} {Q E : Value → Shared → Prop}
theorem sp_uid (H : Here w mean mg mb 30 dp un cs outer A₀ base h₀ L m news s) {lx ia : Addr} {uid inst mod : Int} {d : Array UInt8} {fs : List Str} {t1 : Tok} {n : Nat} (hL : LetIn news lx uid d fs inst mod) (hI : (ia, ({ cls := .type "tuple", data := .seq #[.str (Str.ofString "uid") t1] n } : Obj)) ∈ news)
   (ret : ∀ tp t t' h' tk', Fr h₀ L h' m → News h₀ L h' ((tp, tupO [.str (Str.ofString "UID") t, .int uid t']) :: news) → Q (.ref tp) { s with heap := h', toks := tk' }) :
   wpAny (model PG w) (ktrTop dp un gd cn cs L a ccd cl outer) (call (.ref 465) [.ref lx, .ref ia]) Q E s := by
  have hL2 := hL
  obtain ⟨dx, h1, h2, h3, h4, h5, k1, k2, k3, k4, k5, t1, t2, t4, t5, fa, its, n, fn, m1, m2, m3, hf⟩ := hL2
  walk_at "my enter"
  k_steps
  exact ret _ _ _ _ _ (by assumption) (by walk_at "my news")
theorem sp_size (H : Here w mean mg mb 30 dp un cs outer A₀ base h₀ L m news s) {lx ia : Addr} {uid inst mod : Int} {d : Array UInt8} {fs : List Str} {t1 : Tok} {n : Nat} (hL : LetIn news lx uid d fs inst mod) (hz : d.size ≤ 1000) (hI : (ia, ({ cls := .type "tuple", data := .seq #[.str (Str.ofString "rfc822.size") t1] n } : Obj)) ∈ news)
   (ret : ∀ tp t t' h' tk', Fr h₀ L h' m → News h₀ L h' ((tp, tupO [.str (Str.ofString "RFC822.SIZE") t, .int (d.size : Nat) t']) :: news) → Q (.ref tp) { s with heap := h', toks := tk' }) :
   wpAny (model PG w) (ktrTop dp un gd cn cs L a ccd cl outer) (call (.ref 465) [.ref lx, .ref ia]) Q E s := by
  have hL2 := hL
  obtain ⟨dx, h1, h2, h3, h4, h5, k1, k2, k3, k4, k5, t1, t2, t4, t5, fa, its, n, fn, m1, m2, m3, hf⟩ := hL2
  walk_at "my enter"
  k_steps
  exact ret _ _ _ _ _ (by assumption) (by walk_at "my news")
theorem sp_mod (H : Here w mean mg mb 30 dp un cs outer A₀ base h₀ L m news s) {lx ia : Addr} {uid inst mod : Int} {d : Array UInt8} {fs : List Str} {t1 : Tok} {n : Nat} (hL : LetIn news lx uid d fs inst mod) (hI : (ia, ({ cls := .type "tuple", data := .seq #[.str (Str.ofString "modseq") t1] n } : Obj)) ∈ news)
   (ret : ∀ tp l t t' ln h' tk', Fr h₀ L h' m → News h₀ L h' ((tp, tupO [.str (Str.ofString "MODSEQ") t, .ref l]) :: (l, listOf #[.int mod t'] ln) :: news) → (∀ p ∈ news, p.1 < l) → @LT.lt Nat _ l tp → Q (.ref tp) { s with heap := h', toks := tk' }) :
   wpAny (model PG w) (ktrTop dp un gd cn cs L a ccd cl outer) (call (.ref 465) [.ref lx, .ref ia]) Q E s := by
  have hL2 := hL
  obtain ⟨dx, h1, h2, h3, h4, h5, k1, k2, k3, k4, k5, t1, t2, t4, t5, fa, its, n, fn, m1, m2, m3, hf⟩ := hL2
  walk_at "my enter"
  k_steps
  exact ret _ _ _ _ _ _ _ (by assumption) (by assumption) (by assumption) (And.left (by assumption))
theorem octets_date (H : Here w mean mg mb 3 dp un cs outer A₀ base h₀ L m news s) {days sec : Int} {r : Str} {t : Tok} (hr : (days, r) ∈ dayStrs) (h0 : 0 ≤ sec ∧ sec < 86400)
   (ret : ∀ t h' tk', Fr h₀ L h' m → News h₀ L h' news → Q (.bytes (octs (dateS r sec)) t) { s with heap := h', toks := tk' }) :
   wpAny (model PG w) (ktrTop dp un gd cn cs L a ccd cl outer) (call (.ref 209) [.str (r ++ ⟨#[32]⟩ ++ clockS (sec / 3600).toNat (sec / 60 % 60).toNat (sec % 60).toNat) t]) Q E s :=
  octets_ctc (x := dateS r sec) H (by have := (dateS_ok hr h0).1; omega) (dateS_ok hr h0).2 ret
end
theorem reg_all54 : True := by
  k_with "call ref" => ((with_reducible show wpAny _ _ (call (Value.ref 209) [Value.str (_ ++ _ ++ clockS _ _ _) _]) _ _ _); k_here; k_dflt (refine' octets_date (by first | (walk_at "my here") | fail) (by assumption) (by assumption) ?_; k_whole); intro qt9 qh9 qtk9 qF9 qN9; (try k_lt qM9); (try dsimp only); (try k_sweep); (try k_fold))
  trivial
section
variable {w : World} {mean : ExcName → Option Value} {mg mb : Str → Option Value} {dp un : Nat} {gd : Option (List Code)} {cn : Str} {cs : Scope} {a : Addr} {ccd : Value} {cl : List (Str × Addr)} {outer : List Env} {A₀ : Around} {base h₀ : Heap} {L : Addr} {m : Str → Option Value} {news : List (Addr × Obj)} {s : Shared} {Q E : Value → Shared → Prop}
theorem sp_date (H : Here w mean mg mb 30 dp un cs outer A₀ base h₀ L m news s) {lx ia : Addr} {uid inst mod : Int} {d : Array UInt8} {fs : List Str} {t1 : Tok} {n : Nat} (hL : LetIn news lx uid d fs inst mod) {days sec : Int} {r : Str} (hr : (days, r) ∈ dayStrs) (h0 : 0 ≤ sec ∧ sec < 86400) (hi : inst = days * 86400 + sec) (hI : (ia, ({ cls := .type "tuple", data := .seq #[.str (Str.ofString "internaldate") t1] n } : Obj)) ∈ news)
   (ret : ∀ tp t t' h' tk', Fr h₀ L h' m → News h₀ L h' ((tp, tupO [.str (Str.ofString "INTERNALDATE") t, .bytes (octs (dateS r sec)) t']) :: news) → Q (.ref tp) { s with heap := h', toks := tk' }) :
   wpAny (model PG w) (ktrTop dp un gd cn cs L a ccd cl outer) (call (.ref 465) [.ref lx, .ref ia]) Q E s := by
  have hL2 := hL
  obtain ⟨dx, h1, h2, h3, h4, h5, k1, k2, k3, k4, k5, t1, t2, t4, t5, fa, its, n, fn, m1, m2, m3, hf⟩ := hL2
  obtain ⟨y, mo, dd, hy⟩ := day_has hr
  obtain ⟨h00, h01⟩ := id h0
  subst hi
  walk_at "my enter"
  k_steps
  rename (_ ∈ dayStrs) => hr9
  obtain rfl := day_same hr9 hr
  exact ret _ _ _ _ _ (by assumption) (by walk_at "my news")
theorem compEnd2 {s₁ : Shared} {I C D : Addr} {oI oC oD : Obj} {S : List (Addr × Obj) → Prop} {rest : Value → List (Addr × Obj) → Prop} {y : Value} {h' : Heap} {tk : Nat} {p q : Addr × Obj} {nw : List (Addr × Obj)}
    (F : Fr h₀ L h' m) (N : News h₀ L h' (p :: q :: (I, oI) :: (C, oC) :: (D, oD) :: nw)) (off : Off3 I C D (p :: q :: nw)) (hS : S (p :: q :: nw)) (r : rest y (p :: q :: nw)) :
    CompEnd h₀ L m s₁ I oI C oC D oD S rest y { s₁ with heap := h', toks := tk } :=
  CompEnd.intro F N (p :: q :: nw) (by walk_at "my sub") off hS r
theorem sp_flags (H : Here w mean mg mb 30 dp un cs outer A₀ base h₀ L m news s) {lx ia : Addr} {uid inst mod : Int} {d : Array UInt8} {fs : List Str} {t1 : Tok} {n : Nat} (hL : LetIn news lx uid d fs inst mod) (hfl : fs.length ≤ 3) (hI : (ia, ({ cls := .type "tuple", data := .seq #[.str (Str.ofString "flags") t1] n } : Obj)) ∈ news)
   (ret : ∀ tp l ys t h' tk' nw, Fr h₀ L h' m → News h₀ L h' nw → (∀ p ∈ news, p ∈ nw) → (tp, tupO [.str (Str.ofString "FLAGS") t, .ref l]) ∈ nw → (l, lst ys) ∈ nw → AtomsIn nw ys fs → Q (.ref tp) { s with heap := h', toks := tk' }) :
   wpAny (model PG w) (ktrTop dp un gd cn cs L a ccd cl outer) (call (.ref 465) [.ref lx, .ref ia]) Q E s := by
  have hL2 := hL
  obtain ⟨dx, h1, h2, h3, h4, h5, k1, k2, k3, k4, k5, t1, t2, t4, t5, fa, its, n, fn, m1, m2, m3, hf⟩ := hL2
  walk_at "my enter"
  k_steps
  rename News _ _ _ _ => N1
  rename Fr _ _ _ _ => F1
  have hfl2 := strsAre_len hf
  refine ⟨its.size, _, _, _, ?_, srcM_tup (its := its) rfl F1 N1 (.inr ⟨_, m3, rfl, _, rfl⟩), fun g => ?_⟩
  · rw [sizeLine_eq]; simp at hfl2; omega
  dsimp only
  refine rest_U (fun i ys nw => (∀ p ∈ news, p ∈ nw) ∧ AtomsIn nw ys (fs.take i)) ⟨fun p hp => hp, rfl, fun i v h => nomatch h⟩ ?_ ?_
  · rintro i v ys nw I oI C oC D m₂ h tk E' hi ⟨hs, hat⟩ hv hC hx F9 N9 off ne
    obtain ⟨y, ty, hy, rfl⟩ := strsAre_get hf (by simpa using hv)
    k_steps
    refine compEnd2 (by assumption) (by assumption) ⟨⟨by k_ne, by k_ne, by k_ne⟩, ⟨by k_ne, by k_ne, by k_ne⟩, off⟩ (.inr ⟨_, .tail _ (.tail _ (hs _ m3)), rfl, _, rfl⟩) ⟨fun p hp => .tail _ (.tail _ (hs p hp)), ?_⟩
    rw [List.take_add_one, hy]
    exact (hat.mono fun p hp => .tail _ (.tail _ hp)).snoc (.head _) (.tail _ (.head _))
  · rintro ys nw ⟨hs, hat⟩
    rw [show fs.take its.size = fs from List.take_of_length_le (by simp at hfl2; omega)] at hat
    k_steps
    exact ret _ _ _ _ _ _ _ (by assumption) (by assumption) (fun p hp => .tail _ (.tail _ (hs p hp))) (.head _) (.tail _ (.head _)) (hat.mono fun p hp => .tail _ (.tail _ hp))
end
end
theorem reg_all55 : True := by
  k_with "call ref" => ((with_reducible show wpAny _ _ (call (Value.ref 465) [_, _]) _ _ _); k_here; k_dflt (refine' sp_uid (by first | (walk_at "my here") | fail) (by first | ((first |assumption|exact LetIn.mono (by assumption) (by first | (walk_at "my sub") | fail))) | fail) (by first | (k_mem) | fail) ?_; k_whole); intro qtp9 qt9 qu9 qh9 qtk9 qF9 qN9; (try k_lt qM9); (try dsimp only); (try k_sweep); (try k_fold))
  trivial
theorem reg_all56 : True := by
  k_with "call ref" => ((with_reducible show wpAny _ _ (call (Value.ref 465) [_, _]) _ _ _); k_here; k_dflt (refine' sp_size (by first | (walk_at "my here") | fail) (by first | ((first |assumption|exact LetIn.mono (by assumption) (by first | (walk_at "my sub") | fail))) | fail) (by assumption) (by first | (k_mem) | fail) ?_; k_whole); intro qtp9 qt9 qu9 qh9 qtk9 qF9 qN9; (try k_lt qM9); (try dsimp only); (try k_sweep); (try k_fold))
  trivial
theorem reg_all57 : True := by
  k_with "call ref" => ((with_reducible show wpAny _ _ (call (Value.ref 465) [_, _]) _ _ _); k_here; k_dflt (refine' sp_mod (by first | (walk_at "my here") | fail) (by first | ((first |assumption|exact LetIn.mono (by assumption) (by first | (walk_at "my sub") | fail))) | fail) (by first | (k_mem) | fail) ?_; k_whole); intro qtp9 ql9 qt9 qu9 qn9 qh9 qtk9 qF9 qN9 qq9 qp9; (try k_lt qM9); (try dsimp only); (try k_sweep); (try k_fold))
  trivial
theorem reg_all58 : True := by
  k_with "call ref" => ((with_reducible show wpAny _ _ (call (Value.ref 465) [_, _]) _ _ _); k_here; k_dflt (refine' sp_date (by first | (walk_at "my here") | fail) (by first | ((first |assumption|exact LetIn.mono (by assumption) (by first | (walk_at "my sub") | fail))) | fail) (by assumption) (by assumption) (by first | ((first |assumption|rfl)) | fail) (by first | (k_mem) | fail) ?_; k_whole); intro qtp9 qt9 qu9 qh9 qtk9 qF9 qN9; (try k_lt qM9); (try dsimp only); (try k_sweep); (try k_fold))
  trivial
end
theorem reg_all59 : True := by
  k_with "call ref" => ((k_here; (with_reducible show wpAny _ _ (call (Value.ref 465) [_, _]) _ _ _); k_dflt (refine' sp_flags (by first | (walk_at "my here") | fail) (by first | (first | assumption | exact LetIn.mono (by assumption) (by first | (walk_at "my sub") | fail)) | fail) (by assumption) (by first | (k_mem) | fail) ?_; k_whole); intro qtp9 ql9 qys9 qt9 qh9 qtk9 qnw9 qF9 qN9 qs9 qm9 qo9 qa9; (have qN8 := news_both qN9 qs9); clear qN9; (simp only [List.cons_append] at qN8); (try dsimp only); (try k_sweep); (try k_fold)))
  trivial
section
section
variable {w : World} {mean : ExcName → Option Value} {mg mb : Str → Option Value} {dp un : Nat} {gd : Option (List Code)} {cn : Str} {cs : Scope} {a : Addr} {ccd : Value} {cl : List (Str × Addr)} {outer : List Env} {A₀ : Around} {base h₀ : Heap} {L : Addr} {m : Str → Option Value} {news : List (Addr × Obj)} {s : Shared} {Q E : Value → Shared → Prop}
theorem date_eq {r : Str} {sec : Int} (e3 : sec.fdiv 3600 = sec / 3600) (e4 : (sec.fdiv 60).fmod 60 = sec / 60 % 60) (e5 : sec.fmod 60 = sec % 60) :
    r ++ Str.ofString " " ++ (twoS (sec.fdiv 3600).toNat ++ Str.ofString ":" ++ twoS ((sec.fdiv 60).fmod 60).toNat ++ Str.ofString ":" ++ twoS (sec.fmod 60).toNat) ++ Str.ofString " +0000" = dateS r sec := by
  rw [e3, e4, e5, show Str.ofString " " = ⟨#[32]⟩ from by decide +kernel, show Str.ofString ":" = ⟨#[58]⟩ from by decide +kernel, show Str.ofString " +0000" = ⟨#[32, 43, 48, 48, 48, 48]⟩ from by decide +kernel]
  unfold dateS
  rw [Str.append_assoc]
  rfl
theorem TurnEnd.mk {I : Addr} {oI : Obj} {s₁ : Shared} {Q : Flow → Shared → Prop} {J : (Str → Option Value) → List (Addr × Obj) → Prop} {m₂ : Str → Option Value} {h' : Heap} {tk : Nat} {all nw : List (Addr × Obj)} (F : Fr h₀ L h' m₂) (N : News h₀ L h' all) (off : ∀ p ∈ nw, p.1 ≠ I) (hs : ∀ p ∈ (I, oI) :: nw, p ∈ all) (hJ : J m₂ nw) :
    TurnEnd h₀ L I oI J s₁ Q .next { s₁ with heap := h', toks := tk } := ⟨h', tk, m₂, nw, rfl, F, fun p hp => N p (hs p hp), off, hJ⟩
theorem list_src {prog : Program} {A : Around} {env : Env} {elt : Expr} {x : Str} {scope : Scope} {cl : List (Str × Addr)} {Fin : Shared → List Value → List (Addr × Obj) → Prop} {ax : Addr} {vs : List Value} (hh : A.handled = none) (F : Fr h₀ L s.heap m) (N : News h₀ L s.heap news) (hm : (ax, lst vs) ∈ news) (hz : vs.length ≤ 100)
   (k : ∀ g, CompRest prog w A h₀ L m env elt x scope cl { s with heap := g } (SrcAt h₀ ax vs.toArray) (fun i v => vs.toArray[i]? = some v) (Fin { s with heap := g }) vs.toArray.size 0 [] news) : LcU prog w A h₀ L m env elt x scope cl Fin (.ref ax) s :=
  ⟨vs.toArray.size, _, _, _, by rw [sizeLine_eq, List.size_toArray]; omega, srcM_list hh F N (.inr ⟨_, hm, rfl, _, rfl⟩), k⟩
theorem strs_ne_same {A : Around} {x y : Addr} {vs us : List Value} {fs : List Str} (ha : s.heap.IsList x vs.toArray) (hb : s.heap.IsList y us.toArray) (hv : StrsAre vs fs) (hu : StrsAre us fs) (hA : A.units < cLine) (h : Q (.bool false) s) : wpAny (model PG w) A (compareOp .NotEq (.ref x) (.ref y)) Q E s := by
  refine PySem.SeqAt.RcNeAt.lists (e := fun _ => true) ha hb (by simp [strsAre_len hv, strsAre_len hu]) hA (fun j h1 h2 => ?_) PG w E Q (by rw [show (List.range vs.toArray.size).all (fun _ => true) = true from List.all_eq_true.mpr fun _ _ => rfl]; exact h)
  obtain ⟨a1, t1, e1, q1⟩ := strsAre_get hv (i := j) (List.getElem?_eq_getElem (by simpa using h1))
  obtain ⟨a2, t2, e2, q2⟩ := strsAre_get hu (i := j) (List.getElem?_eq_getElem (by simpa using h2))
  rw [e1] at e2
  cases e2
  simp only [List.getElem_toArray, q1, q2]
  have := (eqGives_str a1 a1 t1 t2).at A.in1 s
  simpa using this
theorem dayStrs_len {days : Int} {r : Str} (hr : (days, r) ∈ dayStrs) : r.length = 11 := by
  simp only [dayStrs, List.mem_cons, Prod.mk.injEq, List.not_mem_nil, or_false] at hr
  rcases hr with ⟨_, rfl⟩ | ⟨_, rfl⟩ | ⟨_, rfl⟩ | ⟨_, rfl⟩ | ⟨_, rfl⟩ <;> rfl
def forB : Stmt → List Stmt | .For _ _ b .. => b | _ => []
def forT : Stmt → Expr | .For t _ _ .. => t | _ => .Name (Str.ofString "") default
noncomputable def at609 (k : Nat) : Stmt := (b609[k]?).getD default
@[reducible] noncomputable def lB609 : List Stmt := lit (b := forB (at609 4)) (_ :: _) (fun _ x => x)
@[reducible] noncomputable def lT609 : Expr := lit (b := forT (at609 4)) (.Tuple _ _ _) (fun _ x => x)
def SimpleIn (news : List (Addr × Obj)) (v : Value) (uid : Int) (z : Nat) (X : Str) (mod : Int) : Prop :=
  (∃ D t1 t2, v = .ref D ∧ (D, ({ cls := .type "tuple", data := .seq #[.str (Str.ofString "flags") t1, .str (Str.ofString "FLAGS") t2, .none] } : Obj)) ∈ news) ∨
  (∃ D t1 t2 t3, v = .ref D ∧ (D, ({ cls := .type "tuple", data := .seq #[.str (Str.ofString "uid") t1, .str (Str.ofString "UID") t2, .int uid t3] } : Obj)) ∈ news) ∨
  (∃ D t1 t2 t3, v = .ref D ∧ (D, ({ cls := .type "tuple", data := .seq #[.str (Str.ofString "internaldate") t1, .str (Str.ofString "INTERNALDATE") t2, .bytes (octs X) t3] } : Obj)) ∈ news) ∨
  (∃ D t1 t2 t3, v = .ref D ∧ (D, ({ cls := .type "tuple", data := .seq #[.str (Str.ofString "rfc822.size") t1, .str (Str.ofString "RFC822.SIZE") t2, .int (z : Int) t3] } : Obj)) ∈ news) ∨
  (∃ D t1 t2 l t3, v = .ref D ∧ (D, ({ cls := .type "tuple", data := .seq #[.str (Str.ofString "modseq") t1, .str (Str.ofString "MODSEQ") t2, .ref l] } : Obj)) ∈ news ∧ (l, listOf #[.int mod t3] 0) ∈ news)
end
section
theorem reg_all60 : True := by
  k_with "call type:list" => (((fail_if_success (fail_if_success (have qz9 : Mk 35 := by with_reducible assumption))); (k_here; (with_reducible show wpAny _ _ (call (Value.type _) [Value.ref _]) _ _ _); k_dflt (refine' kup_listOfT (by k_asm) (by k_asm) (by first | (k_mem) | fail) rfl ?_ (by first | (rw [sizeLine_eq]; omega) | fail)); intro qD' qc' qh' qF' qN' ql1; (try k_lt ql1); (try k_sweep))))
  k_with "compareOp NotEq ref ref" => (((fail_if_success (fail_if_success (have qz9 : Mk 35 := by with_reducible assumption))); (k_here; (with_reducible show wpAny _ _ (compareOp CmpOp.NotEq (Value.ref _) (Value.ref _)) _ _ _); k_dflt (refine' strs_ne_same (by first | (exact News.isList (by k_asm) (by first | (k_mem) | fail)) | fail) (by first | (exact News.isList (by k_asm) (by first | (k_mem) | fail)) | fail) (by assumption) (by assumption) (by first | (ktr_units) | fail) ?_; k_whole))))
  k_with "exec For Tuple Name cons nil" => (((fail_if_success (fail_if_success (have qz9 : Mk 35 := by with_reducible assumption))); (k_here; (rename Fr _ _ _ _ => qlF'); (with_unfolding_all refine' For_turns qlF' ?_); k_whole)))
  k_with "pyIter ref" => (((fail_if_success (fail_if_success (have qz9 : Mk 35 := by with_reducible assumption))); (refine Stop.out ?_)))
  trivial
def PSimple_turn (z9 : Cx × (Flow → Shared → Prop) × (Addr) × (Addr) × (Obj) × (Value) × (Int) × (Int) × (Int) × (Int) × (Int) × (Array UInt8) × (List Str) × (Str) × (Str)) : Prop := (fun (w : World) (mean : ExcName → Option Value) (mg : Str → Option Value) (mb : Str → Option Value) (dp : Nat) (un : Nat) (gd : Option (List Code)) (a : Addr) (ccd : Value) (cl : List (Str × Addr)) (outer : List Env) (A₀ : Around) (base : Heap) (h₀ : Heap) (L : Addr) (m : Str → Option Value) (news : List (Addr × Obj)) (s : Shared) (E : Value → Shared → Prop) (R : Flow → Shared → Prop) (I : Addr) (lx : Addr) (oI : Obj) (v : Value) (uid : Int) (inst : Int) (mod : Int) (days : Int) (sec : Int) (d : Array UInt8) (fs : List Str) (r : Str) (X9 : Str) => ∀ (H : Here w mean mg mb 39 dp un s609 outer A₀ base h₀ L (fun y => if y = Str.ofString "letter" then some (.ref lx) else m y) ((I, oI) :: news) s) (hLo : LetIn news lx uid d fs inst mod) (hfl : fs.length ≤ 3) (hz : d.size ≤ 1000) (hr : (days, r) ∈ dayStrs) (h0 : 0 ≤ sec ∧ sec < 86400) (hi : inst = days * 86400 + sec) (hdx : dateS r sec = X9) (hS : SimpleIn news v uid d.size X9 mod) (off : ∀ p ∈ news, p.1 ≠ I), wpAny (model PG w) (ktrTop dp un gd (Str.ofString "_law_simple") s609 L a ccd cl outer) (assign lT609 (envX (Str.ofString "_law_simple") s609 L a ccd cl) v) (fun _ s₃ => wpAny (model PG w) (ktrTop dp un gd (Str.ofString "_law_simple") s609 L a ccd cl outer) (execs lB609 (envX (Str.ofString "_law_simple") s609 L a ccd cl)) (TurnEnd h₀ L I oI (fun m₂ nw => nw = news ∧ m₂ (Str.ofString "letter") = some (.ref lx)) s R) E s₃) E s) (z9.1.w) (z9.1.mean) (z9.1.mg) (z9.1.mb) (z9.1.dp) (z9.1.un) (z9.1.gd) (z9.1.a) (z9.1.ccd) (z9.1.cl) (z9.1.outer) (z9.1.A₀) (z9.1.base) (z9.1.h₀) (z9.1.L) (z9.1.m) (z9.1.news) (z9.1.s) (z9.1.E) (z9.2.1) (z9.2.2.1) (z9.2.2.2.1) (z9.2.2.2.2.1) (z9.2.2.2.2.2.1) (z9.2.2.2.2.2.2.1) (z9.2.2.2.2.2.2.2.1) (z9.2.2.2.2.2.2.2.2.1) (z9.2.2.2.2.2.2.2.2.2.1) (z9.2.2.2.2.2.2.2.2.2.2.1) (z9.2.2.2.2.2.2.2.2.2.2.2.1) (z9.2.2.2.2.2.2.2.2.2.2.2.2.1) (z9.2.2.2.2.2.2.2.2.2.2.2.2.2.1) (z9.2.2.2.2.2.2.2.2.2.2.2.2.2.2)
set_option maxHeartbeats 4000000 in
theorem simple_turn_core : PSimple_turn (hkm (⟨(cx0, default, default, default, default, default, default, default, default, default, default, default, default, default, default)⟩ : Nonempty (Cx × (Flow → Shared → Prop) × (Addr) × (Addr) × (Obj) × (Value) × (Int) × (Int) × (Int) × (Int) × (Int) × (Array UInt8) × (List Str) × (Str) × (Str))) PSimple_turn) := by
  generalize hkm _ _ = z9
  delta PSimple_turn
  generalize z9.1.w = w, z9.1.mean = mean, z9.1.mg = mg, z9.1.mb = mb, z9.1.dp = dp, z9.1.un = un, z9.1.gd = gd, z9.1.a = a, z9.1.ccd = ccd, z9.1.cl = cl, z9.1.outer = outer, z9.1.A₀ = A₀, z9.1.base = base, z9.1.h₀ = h₀, z9.1.L = L, z9.1.m = m, z9.1.news = news, z9.1.s = s, z9.1.E = E, z9.2.1 = R, z9.2.2.1 = I, z9.2.2.2.1 = lx, z9.2.2.2.2.1 = oI, z9.2.2.2.2.2.1 = v, z9.2.2.2.2.2.2.1 = uid, z9.2.2.2.2.2.2.2.1 = inst, z9.2.2.2.2.2.2.2.2.1 = mod, z9.2.2.2.2.2.2.2.2.2.1 = days, z9.2.2.2.2.2.2.2.2.2.2.1 = sec, z9.2.2.2.2.2.2.2.2.2.2.2.1 = d, z9.2.2.2.2.2.2.2.2.2.2.2.2.1 = fs, z9.2.2.2.2.2.2.2.2.2.2.2.2.2.1 = r, z9.2.2.2.2.2.2.2.2.2.2.2.2.2.2 = X9
  clear z9
  intros H hLo hfl hz hr h0 hi hdx hS off
  have qmk35 : Mk 35 := True.intro
  have hL9 : LetIn ((I, oI) :: news) lx uid d fs inst mod := hLo.mono fun p hp => .tail _ hp
  obtain ⟨B, F, X, N, T, hk, hd, hu⟩ := H
  rcases hS with ⟨D, ta, tb, rfl, hm⟩ | ⟨D, ta, tb, tc, rfl, hm⟩ | ⟨D, ta, tb, tc, rfl, hm⟩ | ⟨D, ta, tb, tc, rfl, hm⟩ | ⟨D, ta, tb, l, tc, rfl, hm, hm2⟩
  · obtain ⟨dx, h1, h2, h3, h4, h5, k1, k2, k3, k4, k5, t1, t2, t4, t5, fa, its, n, fn, m1, m2, m3, hf⟩ := hLo
    have hitl := strsAre_len hf
    k_steps
    rename AtomsIn _ _ _ => ha
    rename News _ _ _ _ => N5
    rename Fr _ _ _ _ => F5
    have hyl := ha.1
    refine' list_src rfl F5 N5 ?m9 ?z9 fun g => ?_
    case m9 => k_mem
    case z9 => omega
    dsimp only
    refine rest_U (fun i zs nw' => nw' = _ ∧ StrsAre zs (fs.take i)) ⟨rfl, .nil⟩ ?_ ?_
    · rintro i v zs nw' I2 oI2 C2 oC2 D2 m₂ h2 tk2 E2 hi2 ⟨rfl, hzs⟩ hv2 hC2 hx2 F6 N6 off2 ne2
      obtain ⟨aa, da, hh9, hk9, ht9, hn9, ff, rfl, hfi, ma, mda⟩ := ha.2 i v (by simpa using hv2)
      k_steps
      refine CompEnd.intro (by assumption) (by assumption) _ (fun _ hp => hp) off2 (.inr ⟨_, (by k_mem : (_, lst _) ∈ _), rfl, _, rfl⟩) ⟨rfl, ?_⟩
      rw [List.take_add_one, hfi]
      exact strs_snoc hzs
    · rintro zs nw' ⟨rfl, hzs⟩
      rw [List.size_toArray, hyl, List.take_length] at hzs
      k_steps
      exact TurnEnd.mk (by assumption) (by assumption) off (by walk_at "my sub") ⟨rfl, rfl⟩
  · clear hLo
    k_steps
    all_goals first | exact TurnEnd.mk (by assumption) (by assumption) off (by walk_at "my sub") ⟨rfl, rfl⟩ | exact absurd rfl (by assumption)
  · clear hLo
    k_steps
    all_goals first | exact TurnEnd.mk (by assumption) (by assumption) off (by walk_at "my sub") ⟨rfl, rfl⟩ | (exfalso; rename ((_ != _) = true) => hb9; rw [hdx] at hb9; simp at hb9; done)
  · clear hLo
    k_steps
    all_goals first | exact TurnEnd.mk (by assumption) (by assumption) off (by walk_at "my sub") ⟨rfl, rfl⟩ | exact absurd rfl (by assumption)
  · clear hLo
    k_steps
    exact TurnEnd.mk (by assumption) (by assumption) off (by walk_at "my sub") ⟨rfl, rfl⟩
section
variable {w : World} {mean : ExcName → Option Value} {mg mb : Str → Option Value} {dp un : Nat} {gd : Option (List Code)} {cn : Str} {cs : Scope} {a : Addr} {ccd : Value} {cl : List (Str × Addr)} {outer : List Env} {A₀ : Around} {base h₀ : Heap} {L : Addr} {m : Str → Option Value} {news : List (Addr × Obj)} {s : Shared} {Q E : Value → Shared → Prop}
theorem simple_turn {R : Flow → Shared → Prop} {I lx : Addr} {oI : Obj} {v : Value} {uid inst mod days sec : Int} {d : Array UInt8} {fs : List Str} {r X9 : Str} (H : Here w mean mg mb 39 dp un s609 outer A₀ base h₀ L (fun y => if y = Str.ofString "letter" then some (.ref lx) else m y) ((I, oI) :: news) s) (hLo : LetIn news lx uid d fs inst mod) (hfl : fs.length ≤ 3) (hz : d.size ≤ 1000) (hr : (days, r) ∈ dayStrs) (h0 : 0 ≤ sec ∧ sec < 86400) (hi : inst = days * 86400 + sec) (hdx : dateS r sec = X9) (hS : SimpleIn news v uid d.size X9 mod) (off : ∀ p ∈ news, p.1 ≠ I) :
   wpAny (model PG w) (ktrTop dp un gd (Str.ofString "_law_simple") s609 L a ccd cl outer) (assign lT609 (envX (Str.ofString "_law_simple") s609 L a ccd cl) v) (fun _ s₃ => wpAny (model PG w) (ktrTop dp un gd (Str.ofString "_law_simple") s609 L a ccd cl outer) (execs lB609 (envX (Str.ofString "_law_simple") s609 L a ccd cl)) (TurnEnd h₀ L I oI (fun m₂ nw => nw = news ∧ m₂ (Str.ofString "letter") = some (.ref lx)) s R) E s₃) E s :=
  (hkf _ simple_turn_core (⟨w, mean, mg, mb, dp, un, gd, cx0.cn, cx0.cs, a, ccd, cl, outer, A₀, base, h₀, L, m, news, s, cx0.Q, E⟩, R, I, lx, oI, v, uid, inst, mod, days, sec, d, fs, r, X9) : PSimple_turn (⟨w, mean, mg, mb, dp, un, gd, cx0.cn, cx0.cs, a, ccd, cl, outer, A₀, base, h₀, L, m, news, s, cx0.Q, E⟩, R, I, lx, oI, v, uid, inst, mod, days, sec, d, fs, r, X9)) H hLo hfl hz hr h0 hi hdx hS off
end
def PLaw_simple_ctc (z9 : Cx × (Addr) × (Int) × (Int) × (Int) × (Int) × (Int) × (Array UInt8) × (List Str) × (Str) × (Tok) × (Tok)) : Prop := (fun (w : World) (mean : ExcName → Option Value) (mg : Str → Option Value) (mb : Str → Option Value) (dp : Nat) (un : Nat) (gd : Option (List Code)) (cn : Str) (cs : Scope) (a : Addr) (ccd : Value) (cl : List (Str × Addr)) (outer : List Env) (A₀ : Around) (base : Heap) (h₀ : Heap) (L : Addr) (m : Str → Option Value) (news : List (Addr × Obj)) (s : Shared) (Q : Value → Shared → Prop) (E : Value → Shared → Prop) (lx : Addr) (uid : Int) (inst : Int) (mod : Int) (days : Int) (sec : Int) (d : Array UInt8) (fs : List Str) (r : Str) (t1 : Tok) (t2 : Tok) => ∀ (H : Here w mean mg mb 40 dp un cs outer A₀ base h₀ L m news s) (hL : LetIn news lx uid d fs inst mod) (hfl : fs.length ≤ 3) (hz : d.size ≤ 1000) (hr : (days, r) ∈ dayStrs) (h0 : 0 ≤ sec ∧ sec < 86400) (hi : inst = days * 86400 + sec) (ret : ∀ h' tk', Fr h₀ L h' m → News h₀ L h' news → Q (.bool true) { s with heap := h', toks := tk' }), wpAny (model PG w) (ktrTop dp un gd cn cs L a ccd cl outer) (call (.ref 609) [.ref lx, .str r t1, .int sec t2]) Q E s) (z9.1.w) (z9.1.mean) (z9.1.mg) (z9.1.mb) (z9.1.dp) (z9.1.un) (z9.1.gd) (z9.1.cn) (z9.1.cs) (z9.1.a) (z9.1.ccd) (z9.1.cl) (z9.1.outer) (z9.1.A₀) (z9.1.base) (z9.1.h₀) (z9.1.L) (z9.1.m) (z9.1.news) (z9.1.s) (z9.1.Q) (z9.1.E) (z9.2.1) (z9.2.2.1) (z9.2.2.2.1) (z9.2.2.2.2.1) (z9.2.2.2.2.2.1) (z9.2.2.2.2.2.2.1) (z9.2.2.2.2.2.2.2.1) (z9.2.2.2.2.2.2.2.2.1) (z9.2.2.2.2.2.2.2.2.2.1) (z9.2.2.2.2.2.2.2.2.2.2.1) (z9.2.2.2.2.2.2.2.2.2.2.2)
set_option maxHeartbeats 4000000 in
theorem law_simple_ctc_core : PLaw_simple_ctc (hkm (⟨(cx0, default, default, default, default, default, default, default, default, default, default, default)⟩ : Nonempty (Cx × (Addr) × (Int) × (Int) × (Int) × (Int) × (Int) × (Array UInt8) × (List Str) × (Str) × (Tok) × (Tok))) PLaw_simple_ctc) := by
  generalize hkm _ _ = z9
  delta PLaw_simple_ctc
  generalize z9.1.w = w, z9.1.mean = mean, z9.1.mg = mg, z9.1.mb = mb, z9.1.dp = dp, z9.1.un = un, z9.1.gd = gd, z9.1.cn = cn, z9.1.cs = cs, z9.1.a = a, z9.1.ccd = ccd, z9.1.cl = cl, z9.1.outer = outer, z9.1.A₀ = A₀, z9.1.base = base, z9.1.h₀ = h₀, z9.1.L = L, z9.1.m = m, z9.1.news = news, z9.1.s = s, z9.1.Q = Q, z9.1.E = E, z9.2.1 = lx, z9.2.2.1 = uid, z9.2.2.2.1 = inst, z9.2.2.2.2.1 = mod, z9.2.2.2.2.2.1 = days, z9.2.2.2.2.2.2.1 = sec, z9.2.2.2.2.2.2.2.1 = d, z9.2.2.2.2.2.2.2.2.1 = fs, z9.2.2.2.2.2.2.2.2.2.1 = r, z9.2.2.2.2.2.2.2.2.2.2.1 = t1, z9.2.2.2.2.2.2.2.2.2.2.2 = t2
  clear z9
  intros H hL hfl hz hr h0 hi ret
  have qmk35 : Mk 35 := True.intro
  have e3 : sec.fdiv 3600 = sec / 3600 := Int.fdiv_eq_ediv_of_nonneg _ (by decide)
  have e4 : (sec.fdiv 60).fmod 60 = sec / 60 % 60 := by rw [Int.fdiv_eq_ediv_of_nonneg _ (by decide), Int.fmod_eq_emod_of_nonneg _ (by decide)]
  have e5 : sec.fmod 60 = sec % 60 := Int.fmod_eq_emod_of_nonneg _ (by decide)
  have f1 : 0 ≤ sec.fdiv 3600 ∧ sec.fdiv 3600 < 100 := by rw [e3]; omega
  have f2 : 0 ≤ (sec.fdiv 60).fmod 60 ∧ (sec.fdiv 60).fmod 60 < 100 := by rw [e4]; omega
  have f3 : 0 ≤ sec.fmod 60 ∧ sec.fmod 60 < 100 := by rw [e5]; omega
  have hL2 := hL
  obtain ⟨dx, h1, h2, h3, h4, h5, k1, k2, k3, k4, k5, t1, t2, t4, t5, fa, its, n, fn, m1, m2, m3, hf⟩ := hL2
  have hrl : r.length = 11 := dayStrs_len hr
  have hitl := strsAre_len hf
  have tl : ∀ n, (twoS n).length = 2 := fun n => rfl
  have g1 := tl (sec.fdiv 3600).toNat
  have g2 := tl ((sec.fdiv 60).fmod 60).toNat
  have g3 := tl (sec.fmod 60).toNat
  walk_at "my enter"
  k_steps
  rw [date_eq e3 e4 e5]
  obtain ⟨hdl, hda⟩ := dateS_ok hr h0
  generalize hdx : dateS r sec = X at *
  rename News _ _ _ _ => N1
  rename Fr _ _ _ _ => F1
  refine ⟨X.cps.size, _, _, _, ?_, srcM_str rfl F1 N1, fun g => ?_⟩
  · rw [sizeLine_eq]; show X.length ≤ _; omega
  dsimp only
  refine rest_U (fun i ys nw => nw = _ ∧ IntsAre ys (((X.cps.toList.take i).map fun c : Nat => (c : Int)))) ⟨rfl, .nil⟩ ?_ ?_
  · rintro i v ys nw I oI C oC D m₂ h tk E' hi ⟨rfl, hys⟩ ⟨c, u, hc, rfl⟩ hC hx F9 N9 off ne
    k_steps
    refine CompEnd.intro (by assumption) (by assumption) _ (fun _ hp => hp) off True.intro ⟨rfl, ?_⟩
    rw [List.take_add_one, Array.getElem?_toList, hc]
    simpa using ints_snoc hys
  · rintro ys nw ⟨rfl, hys⟩
    rw [show X.cps.toList.take X.cps.size = X.cps.toList from by rw [← Array.length_toList]; exact List.take_length] at hys
    k_steps
    refine bytes_K (by assumption) (by assumption) (News.isList (by assumption) (by k_mem)) hys ?_ ?_ rfl ?_
    · intro n hn
      obtain ⟨c, hc, rfl⟩ := List.mem_map.mp hn
      have := hda c hc
      omega
    · rw [hys.length, List.length_map, sizeLine_eq]; show X.length ≤ _; omega
    · intro h9 t9 k9 F9 N9 _
      rw [octs_eq]
      k_steps
      rename News _ _ _ _ => N3
      rename Fr _ _ _ _ => F3
      refine split_news N3 fun Y hY N4 => ?_
      rename (LetIn _ _ _ _ _ _ _) => hL9
      refine loop_list_t rfl F3 N4 (.head _) (fun i m₁ nw => nw = (_, _) :: Y ∧ m₁ (Str.ofString "letter") = some (.ref lx)) ⟨rfl, rfl⟩ (fun i m nw h => h.1 ▸ .head _) ?_ ?_
      · rintro i v m₁ nw I oI h tk hv ⟨rfl, hm1⟩ off F9 N9
        rw [map_one hm1] at F9
        refine' simple_turn (X9 := X) ?H9 (hL9.mono ?s9) hfl hz hr h0 hi hdx ?S9 off
        case H9 => walk_at "my here"
        case s9 => rw [hY]; walk_at "my sub"
        case S9 =>
          rw [hY]
          rcases i with _ | _ | _ | _ | _ | i
          · cases hv; exact .inl ⟨_, _, _, rfl, by k_mem⟩
          · cases hv; exact .inr (.inl ⟨_, _, _, _, rfl, by k_mem⟩)
          · cases hv; exact .inr (.inr (.inl ⟨_, _, _, _, rfl, by k_mem⟩))
          · cases hv; exact .inr (.inr (.inr (.inl ⟨_, _, _, _, rfl, by k_mem⟩)))
          · cases hv; exact .inr (.inr (.inr (.inr ⟨_, _, _, _, _, rfl, by k_mem, by k_mem⟩)))
          · cases hv
      · rintro h tk m₁ nw F9 N9 ⟨rfl, hm1⟩
        k_steps
        exact ret _ _ (by assumption) (by rw [hY] at *; walk_at "my news")
section
variable {w : World} {mean : ExcName → Option Value} {mg mb : Str → Option Value} {dp un : Nat} {gd : Option (List Code)} {cn : Str} {cs : Scope} {a : Addr} {ccd : Value} {cl : List (Str × Addr)} {outer : List Env} {A₀ : Around} {base h₀ : Heap} {L : Addr} {m : Str → Option Value} {news : List (Addr × Obj)} {s : Shared} {Q E : Value → Shared → Prop}
theorem law_simple_ctc (H : Here w mean mg mb 40 dp un cs outer A₀ base h₀ L m news s) {lx : Addr} {uid inst mod days sec : Int} {d : Array UInt8} {fs : List Str} {r : Str} {t1 t2 : Tok} (hL : LetIn news lx uid d fs inst mod) (hfl : fs.length ≤ 3) (hz : d.size ≤ 1000) (hr : (days, r) ∈ dayStrs) (h0 : 0 ≤ sec ∧ sec < 86400) (hi : inst = days * 86400 + sec) (ret : ∀ h' tk', Fr h₀ L h' m → News h₀ L h' news → Q (.bool true) { s with heap := h', toks := tk' }) :
   wpAny (model PG w) (ktrTop dp un gd cn cs L a ccd cl outer) (call (.ref 609) [.ref lx, .str r t1, .int sec t2]) Q E s :=
  (hkf _ law_simple_ctc_core (⟨w, mean, mg, mb, dp, un, gd, cn, cs, a, ccd, cl, outer, A₀, base, h₀, L, m, news, s, Q, E⟩, lx, uid, inst, mod, days, sec, d, fs, r, t1, t2) : PLaw_simple_ctc (⟨w, mean, mg, mb, dp, un, gd, cn, cs, a, ccd, cl, outer, A₀, base, h₀, L, m, news, s, Q, E⟩, lx, uid, inst, mod, days, sec, d, fs, r, t1, t2)) H hL hfl hz hr h0 hi ret
end
end
theorem reg_all61 : True := by
  k_with "call ref" => ((with_reducible show wpAny _ _ (call (Value.ref 609) [_, _, _]) _ _ _); k_here; k_dflt (refine' law_simple_ctc (by first | (walk_at "my here") | fail) (by first | ((first |assumption|exact LetIn.mono (by assumption) (by first | (walk_at "my sub") | fail))) | fail) (by assumption) (by assumption) (by assumption) (by first | ((first |assumption|omega)) | fail) (by first | ((first |assumption|rfl)) | fail) ?_; k_whole); intro qh9 qtk9 qF9 qN9; (try k_lt qM9); (try dsimp only); (try k_sweep); (try k_fold))
  trivial
end
section
section
variable {w : World} {mean : ExcName → Option Value} {mg mb : Str → Option Value} {dp un : Nat} {gd : Option (List Code)} {cn : Str} {cs : Scope} {a : Addr} {ccd : Value} {cl : List (Str × Addr)} {outer : List Env} {A₀ : Around} {base h₀ : Heap} {L : Addr} {m : Str → Option Value} {news : List (Addr × Obj)} {s : Shared} {Q E : Value → Shared → Prop}
def lawShow (p k : Nat) (names : List Str) (pp : Option (Nat × Nat)) : Str := Str.ofString "BODY" ++ showS p k names pp
theorem list_ne_nil {A : Around} {x y : Addr} {its : List Value} (ha : s.heap.IsList x its.toArray) (hb : s.heap.IsList y ([] : List Value).toArray) (hA : A.units < cLine) (h : Q (.bool (decide (its ≠ []))) s) : wpAny (model PG w) A (compareOp .NotEq (.ref x) (.ref y)) Q E s := by
  rcases List.eq_nil_or_concat its with rfl | ⟨l, v, rfl⟩
  · exact ne_nil_nil ha hb hA (by simpa using h)
  · rw [List.concat_eq_append] at *
    exact ne_nil_snoc ha hb hA (by simpa using h)
theorem names_ne {A : Around} {x y : Addr} {its : List Value} {names : List Str} {k : Nat} (ha : s.heap.IsList x its.toArray) (hb : s.heap.IsList y ([] : List Value).toArray) (hna : StrsAre its names) (hnn : names = [] ↔ ¬(k = 3 ∨ k = 4)) (hA : A.units < cLine) (h : Q (.bool (decide (k = 3 ∨ k = 4))) s) : wpAny (model PG w) A (compareOp .NotEq (.ref x) (.ref y)) Q E s := by
  refine list_ne_nil ha hb hA ?_
  have e : its = [] ↔ names = [] := by
    have := strsAre_len hna
    rw [← List.length_eq_zero_iff, ← List.length_eq_zero_iff, this]
  rw [show decide (its ≠ []) = decide (k = 3 ∨ k = 4) from decide_eq_decide.mpr (by rw [Ne, e, hnn]; exact Decidable.not_not)]
  exact h
theorem body_eq : Str.ofString "BODY[" = Str.ofString "BODY" ++ Str.ofString "[" := by decide +kernel
theorem shown_pos {p k : Nat} {b : Bool} {names : List Str} {pp : Option (Nat × Nat)} {Y : Str} (h : b = decide (k ≠ 0)) (h3 : k = 3 ∨ k = 4) (hY : Y = partS pp) : Str.ofString "BODY[" ++ (Txt.join (Str.ofString ".") (textB p k b) ++ (Str.ofString " (" ++ Txt.join (Str.ofString " ") names ++ Str.ofString ")")) ++ Str.ofString "]" ++ Y = lawShow p k names pp := by
  subst hY
  unfold lawShow
  rw [← show_pos h h3, body_eq]
  simp only [Str.append_assoc]
theorem shown_neg {p k : Nat} {b : Bool} {names : List Str} {pp : Option (Nat × Nat)} {Y : Str} (h : b = decide (k ≠ 0)) (h3 : ¬(k = 3 ∨ k = 4)) (hY : Y = partS pp) : Str.ofString "BODY[" ++ (Txt.join (Str.ofString ".") (textB p k b) ++ Str.ofString "") ++ Str.ofString "]" ++ Y = lawShow p k names pp := by
  subst hY
  unfold lawShow
  rw [app_empty, ← show_neg h h3, body_eq]
  simp only [Str.append_assoc]
end
section
theorem reg_all62 : True := by
  k_with "pyIter ref" => (((fail_if_success (fail_if_success (have qz9 : Mk 37 := by with_reducible assumption))); (refine Stop.out ?_)))
  k_with "compareOp NotEq ref ref" => (((fail_if_success (fail_if_success (have qz9 : Mk 37 := by with_reducible assumption))); (k_here; (with_reducible show wpAny _ _ (compareOp CmpOp.NotEq (Value.ref _) (Value.ref _)) _ _ _); k_dflt (refine' names_ne (by first | (exact News.isList (by k_asm) (by first | (k_mem) | fail)) | fail) (by first | (exact News.isList (by k_asm) (by first | (k_mem) | fail)) | fail) (by assumption) (by assumption) (by first | (ktr_units) | fail) ?_; k_whole))))
  trivial
def PLaw_shown_ctc (z9 : Cx × (Nat) × (Nat) × (Tok) × (Addr) × (List Value) × (Nat) × (List Str) × (Value) × (Option (Nat × Nat))) : Prop := (fun (w : World) (mean : ExcName → Option Value) (mg : Str → Option Value) (mb : Str → Option Value) (dp : Nat) (un : Nat) (gd : Option (List Code)) (cn : Str) (cs : Scope) (a : Addr) (ccd : Value) (cl : List (Str × Addr)) (outer : List Env) (A₀ : Around) (base : Heap) (h₀ : Heap) (L : Addr) (m : Str → Option Value) (news : List (Addr × Obj)) (s : Shared) (Q : Value → Shared → Prop) (E : Value → Shared → Prop) (p : Nat) (k : Nat) (t : Tok) (na : Addr) (its : List Value) (nn : Nat) (names : List Str) (pv : Value) (pp : Option (Nat × Nat)) => ∀ (H : Here w mean mg mb 4 dp un cs outer A₀ base h₀ L m news s) (hp : p < 4) (hk : k < 6) (hm : (na, listOf its.toArray nn) ∈ news) (hna : StrsAre its names) (hnl : names.length ≤ 4) (hA : ∀ n ∈ names, n.length ≤ 100) (hnn : names = [] ↔ ¬(k = 3 ∨ k = 4)) (hpv : PartV news pv pp) (hpp : ∀ i k, pp = some (i, k) → i < 100) (ret : ∀ t h' tk', Fr h₀ L h' m → News h₀ L h' news → Q (.str (lawShow p k names pp) t) { s with heap := h', toks := tk' }), wpAny (model PG w) (ktrTop dp un gd cn cs L a ccd cl outer) (call (.ref 594) [.ref (559 + p), .str (wordS k) t, .ref na, pv]) Q E s) (z9.1.w) (z9.1.mean) (z9.1.mg) (z9.1.mb) (z9.1.dp) (z9.1.un) (z9.1.gd) (z9.1.cn) (z9.1.cs) (z9.1.a) (z9.1.ccd) (z9.1.cl) (z9.1.outer) (z9.1.A₀) (z9.1.base) (z9.1.h₀) (z9.1.L) (z9.1.m) (z9.1.news) (z9.1.s) (z9.1.Q) (z9.1.E) (z9.2.1) (z9.2.2.1) (z9.2.2.2.1) (z9.2.2.2.2.1) (z9.2.2.2.2.2.1) (z9.2.2.2.2.2.2.1) (z9.2.2.2.2.2.2.2.1) (z9.2.2.2.2.2.2.2.2.1) (z9.2.2.2.2.2.2.2.2.2)
theorem law_shown_ctc_core : PLaw_shown_ctc (hkm (⟨(cx0, default, default, default, default, default, default, default, default, default)⟩ : Nonempty (Cx × (Nat) × (Nat) × (Tok) × (Addr) × (List Value) × (Nat) × (List Str) × (Value) × (Option (Nat × Nat)))) PLaw_shown_ctc) := by
  generalize hkm _ _ = z9
  delta PLaw_shown_ctc
  generalize z9.1.w = w, z9.1.mean = mean, z9.1.mg = mg, z9.1.mb = mb, z9.1.dp = dp, z9.1.un = un, z9.1.gd = gd, z9.1.cn = cn, z9.1.cs = cs, z9.1.a = a, z9.1.ccd = ccd, z9.1.cl = cl, z9.1.outer = outer, z9.1.A₀ = A₀, z9.1.base = base, z9.1.h₀ = h₀, z9.1.L = L, z9.1.m = m, z9.1.news = news, z9.1.s = s, z9.1.Q = Q, z9.1.E = E, z9.2.1 = p, z9.2.2.1 = k, z9.2.2.2.1 = t, z9.2.2.2.2.1 = na, z9.2.2.2.2.2.1 = its, z9.2.2.2.2.2.2.1 = nn, z9.2.2.2.2.2.2.2.1 = names, z9.2.2.2.2.2.2.2.2.1 = pv, z9.2.2.2.2.2.2.2.2.2 = pp
  clear z9
  intros H hp hk hm hna hnl hA hnn hpv hpp ret
  have qmk37 : Mk 37 := True.intro
  have hpl := pathL_len p
  have hql := partS_len hpp
  obtain ⟨jo, jl⟩ := names_bound hnl hA
  walk_at "my enter"
  k_steps
  rename Frag.In _ _ => X1
  rename News _ _ _ _ => N1
  rename Fr _ _ _ _ => F1
  obtain ⟨pvs, hsrc, hpi⟩ := path_src (nw := news) X1 (.inl ⟨rfl, hp⟩)
  have hpvl := hpi.length
  refine ⟨pvs.length, _, _, _, ?_, srcM_tup (its := pvs.toArray) rfl F1 N1 hsrc, fun g => ?_⟩
  · rw [sizeLine_eq]; omega
  dsimp only
  refine rest_U (fun i ys nw => nw = _ ∧ StrsAre ys (((pathL p).take i).map numS)) ⟨rfl, .nil⟩ ?_ ?_
  · rintro i v ys nw I oI C oC D m₂ h tk E' hi ⟨rfl, hys⟩ hv hC hx F9 N9 off ne
    obtain ⟨tt, e⟩ := intsAre_get hpi (i := i) hi
    have hv' : pvs[i]? = some v := by simpa using hv
    rw [List.getElem?_eq_getElem hi] at hv'
    have hi' : i < (pathL p).length := by omega
    have hgd : (pathL p).getD i 0 = (pathL p)[i] := by simp [List.getD_eq_getElem?_getD, hi']
    rw [hgd] at e
    have hb := pathL_le _ (List.getElem_mem hi')
    have htk : (pathL p).take (i + 1) = (pathL p).take i ++ [(pathL p)[i]] := by rw [List.take_add_one, List.getElem?_eq_getElem hi']; rfl
    generalize (pathL p)[i] = pn at *
    obtain rfl := (Option.some.inj hv').symm.trans e
    k_steps
    refine CompEnd.intro (by assumption) (by assumption) _ (fun _ hp => hp) off hsrc ⟨rfl, ?_⟩
    rw [htk, List.map_append]
    exact strs_snoc hys
  · rintro ys nw ⟨rfl, hys⟩
    rw [hpvl, List.take_length] at hys
    have hysl := strsAre_len hys
    rw [List.length_map] at hysl
    k_steps
    · rcases pp with _ | ⟨pi, pj⟩
      · obtain rfl : pv = .none := hpv
        k_steps
        refine cb_retS ret ?_ (by assumption) (by walk_at "my news")
        exact shown_pos (b := true) (by simp; omega) (by assumption) rfl
      · obtain ⟨pa, pt, pu, pn, rfl, pm⟩ := hpv
        have hi9 := hpp pi pj rfl
        k_steps
        refine cb_retS ret ?_ (by assumption) (by walk_at "my news")
        exact shown_pos (b := true) (by simp; omega) (by assumption) rfl
    · rcases pp with _ | ⟨pi, pj⟩
      · obtain rfl : pv = .none := hpv
        k_steps
        refine cb_retS ret ?_ (by assumption) (by walk_at "my news")
        exact shown_neg (b := true) (by simp; omega) (by assumption) rfl
      · obtain ⟨pa, pt, pu, pn, rfl, pm⟩ := hpv
        have hi9 := hpp pi pj rfl
        k_steps
        refine cb_retS ret ?_ (by assumption) (by walk_at "my news")
        exact shown_neg (b := true) (by simp; omega) (by assumption) rfl
    · obtain rfl : k = 0 := by omega
      rcases pp with _ | ⟨pi, pj⟩
      · obtain rfl : pv = .none := hpv
        k_steps
        refine cb_retS ret ?_ (by assumption) (by walk_at "my news")
        exact shown_neg (b := false) (by simp) (by omega) rfl
      · obtain ⟨pa, pt, pu, pn, rfl, pm⟩ := hpv
        have hi9 := hpp pi pj rfl
        k_steps
        refine cb_retS ret ?_ (by assumption) (by walk_at "my news")
        exact shown_neg (b := false) (by simp) (by omega) rfl
section
variable {w : World} {mean : ExcName → Option Value} {mg mb : Str → Option Value} {dp un : Nat} {gd : Option (List Code)} {cn : Str} {cs : Scope} {a : Addr} {ccd : Value} {cl : List (Str × Addr)} {outer : List Env} {A₀ : Around} {base h₀ : Heap} {L : Addr} {m : Str → Option Value} {news : List (Addr × Obj)} {s : Shared} {Q E : Value → Shared → Prop}
theorem law_shown_ctc (H : Here w mean mg mb 4 dp un cs outer A₀ base h₀ L m news s) {p k : Nat} {t : Tok} {na : Addr} {its : List Value} {nn : Nat} {names : List Str} {pv : Value} {pp : Option (Nat × Nat)} (hp : p < 4) (hk : k < 6) (hm : (na, listOf its.toArray nn) ∈ news) (hna : StrsAre its names) (hnl : names.length ≤ 4) (hA : ∀ n ∈ names, n.length ≤ 100) (hnn : names = [] ↔ ¬(k = 3 ∨ k = 4)) (hpv : PartV news pv pp) (hpp : ∀ i k, pp = some (i, k) → i < 100) (ret : ∀ t h' tk', Fr h₀ L h' m → News h₀ L h' news → Q (.str (lawShow p k names pp) t) { s with heap := h', toks := tk' }) :
   wpAny (model PG w) (ktrTop dp un gd cn cs L a ccd cl outer) (call (.ref 594) [.ref (559 + p), .str (wordS k) t, .ref na, pv]) Q E s :=
  (hkf _ law_shown_ctc_core (⟨w, mean, mg, mb, dp, un, gd, cn, cs, a, ccd, cl, outer, A₀, base, h₀, L, m, news, s, Q, E⟩, p, k, t, na, its, nn, names, pv, pp) : PLaw_shown_ctc (⟨w, mean, mg, mb, dp, un, gd, cn, cs, a, ccd, cl, outer, A₀, base, h₀, L, m, news, s, Q, E⟩, p, k, t, na, its, nn, names, pv, pp)) H hp hk hm hna hnl hA hnn hpv hpp ret
end
end
theorem reg_all63 : True := by
  k_with "call ref" => ((with_reducible show wpAny _ _ (call (Value.ref 594) [Value.ref (559 + _), _, _, _]) _ _ _); k_here; k_dflt (refine' law_shown_ctc (by first | (walk_at "my here") | fail) (by first | ((first |assumption|omega)) | fail) (by first | ((first |assumption|omega)) | fail) (by first | (k_mem) | fail) (by assumption) (by assumption) (by assumption) (by assumption) (by first | ((first |assumption|exact PartV.mono (by assumption) (by first | (walk_at "my sub") | fail))) | fail) (by assumption) ?_; k_whole); intro qt9 qh9 qtk9 qF9 qN9; (try k_lt qM9); (try dsimp only); (try k_sweep); (try k_fold))
  trivial
end
section
section
variable {w : World} {mean : ExcName → Option Value} {mg mb : Str → Option Value} {dp un : Nat} {gd : Option (List Code)} {cn : Str} {cs : Scope} {a : Addr} {ccd : Value} {cl : List (Str × Addr)} {outer : List Env} {A₀ : Around} {base h₀ : Heap} {L : Addr} {m : Str → Option Value} {news : List (Addr × Obj)} {s : Shared} {Q E : Value → Shared → Prop}
theorem ints_rows {vs : List Value} {rows : List Nat} (h : IntsAre vs (rows.map fun r : Nat => (r : Int))) {i : Nat} {v : Value} (hv : vs[i]? = some v) : ∃ r t, rows[i]? = some r ∧ v = .int ((r : Nat) : Int) t := by
  have hl := h.length
  rw [List.length_map] at hl
  obtain ⟨hi, rfl⟩ := List.getElem?_eq_some_iff.mp hv
  obtain ⟨t, e⟩ := intsAre_get h hi
  have hi' : i < rows.length := by omega
  refine ⟨rows[i], t, List.getElem?_eq_getElem hi', ?_⟩
  rw [e, List.getD_eq_getElem?_getD, List.getElem?_map, List.getElem?_eq_getElem hi']; rfl
theorem low_eq {x : Str} (hA : Asc x) : Txt.lower x = lowS x := by
  rw [lower_ascii hA]
  unfold lowS
  rfl
theorem low_call {A : Around} {x : Str} {t : Tok} (hx : x.length ≤ 100) (hA : Asc x) (h : ∀ t k, Q (.str (lowS x) t) { s with toks := k }) : wpAny (model PG w) A (call (.builtin "str.lower") [.str x t]) Q E s :=
  SCL.lower (by omega) fun _ => low_eq hA ▸ h _ _
theorem nameT_ok : ∀ j, j < 4 → (nameT j).length ≤ 100 ∧ 0 < (nameT j).length ∧ (∀ c ∈ (nameT j).cps.toList, c < 128) ∧ ∀ c ∈ (nameT j).cps.toList, 32 < c ∧ c < 127 ∧ barB.contains ((c : Int).toNat.toUInt8) = false := by decide +kernel
end
section
theorem reg_all64 : True := by
  k_with "call builtin:str.lower" => (((fail_if_success (fail_if_success (have qz9 : Mk 39 := by with_reducible assumption))); (k_here; (with_reducible show wpAny _ _ (call (Value.builtin "str.lower") [Value.str _ _]) _ _ _); k_dflt (refine' low_call (by assumption) (by assumption) ?_); intro qt9 qk9)))
  trivial
def PLaw_picked_ctc (z9 : Cx × (Addr) × (Addr) × (List Value) × (List Value) × (Nat) × (Nat) × (List Nat) × (List Str) × (Bool)) : Prop := (fun (w : World) (mean : ExcName → Option Value) (mg : Str → Option Value) (mb : Str → Option Value) (dp : Nat) (un : Nat) (gd : Option (List Code)) (cn : Str) (cs : Scope) (a : Addr) (ccd : Value) (cl : List (Str × Addr)) (outer : List Env) (A₀ : Around) (base : Heap) (h₀ : Heap) (L : Addr) (m : Str → Option Value) (news : List (Addr × Obj)) (s : Shared) (Q : Value → Shared → Prop) (E : Value → Shared → Prop) (ra : Addr) (na : Addr) (rvs : List Value) (its : List Value) (rn : Nat) (nn : Nat) (rows : List Nat) (names : List Str) (isNot : Bool) => ∀ (H : Here w mean mg mb 4 dp un cs outer A₀ base h₀ L m news s) (hr : ∀ r ∈ rows, r < 5) (hl4 : rows.length ≤ 4) (hm : (ra, listOf rvs.toArray rn) ∈ news) (hrv : IntsAre rvs (rows.map fun r : Nat => (r : Int))) (hm2 : (na, listOf its.toArray nn) ∈ news) (hna : StrsAre its names) (hnl : names.length ≤ 4) (hA : ∀ n ∈ names, ∃ j, j < 4 ∧ n = nameT j) (ret : ∀ t h' tk', Fr h₀ L h' m → News h₀ L h' news → Q (.bytes (catB (pickL rows names isNot) ++ #[13, 10]) t) { s with heap := h', toks := tk' }), wpAny (model PG w) (ktrTop dp un gd cn cs L a ccd cl outer) (call (.ref 599) [.ref ra, .ref na, .bool isNot]) Q E s) (z9.1.w) (z9.1.mean) (z9.1.mg) (z9.1.mb) (z9.1.dp) (z9.1.un) (z9.1.gd) (z9.1.cn) (z9.1.cs) (z9.1.a) (z9.1.ccd) (z9.1.cl) (z9.1.outer) (z9.1.A₀) (z9.1.base) (z9.1.h₀) (z9.1.L) (z9.1.m) (z9.1.news) (z9.1.s) (z9.1.Q) (z9.1.E) (z9.2.1) (z9.2.2.1) (z9.2.2.2.1) (z9.2.2.2.2.1) (z9.2.2.2.2.2.1) (z9.2.2.2.2.2.2.1) (z9.2.2.2.2.2.2.2.1) (z9.2.2.2.2.2.2.2.2.1) (z9.2.2.2.2.2.2.2.2.2)
theorem law_picked_ctc_core : PLaw_picked_ctc (hkm (⟨(cx0, default, default, default, default, default, default, default, default, default)⟩ : Nonempty (Cx × (Addr) × (Addr) × (List Value) × (List Value) × (Nat) × (Nat) × (List Nat) × (List Str) × (Bool))) PLaw_picked_ctc) := by
  generalize hkm _ _ = z9
  delta PLaw_picked_ctc
  generalize z9.1.w = w, z9.1.mean = mean, z9.1.mg = mg, z9.1.mb = mb, z9.1.dp = dp, z9.1.un = un, z9.1.gd = gd, z9.1.cn = cn, z9.1.cs = cs, z9.1.a = a, z9.1.ccd = ccd, z9.1.cl = cl, z9.1.outer = outer, z9.1.A₀ = A₀, z9.1.base = base, z9.1.h₀ = h₀, z9.1.L = L, z9.1.m = m, z9.1.news = news, z9.1.s = s, z9.1.Q = Q, z9.1.E = E, z9.2.1 = ra, z9.2.2.1 = na, z9.2.2.2.1 = rvs, z9.2.2.2.2.1 = its, z9.2.2.2.2.2.1 = rn, z9.2.2.2.2.2.2.1 = nn, z9.2.2.2.2.2.2.2.1 = rows, z9.2.2.2.2.2.2.2.2.1 = names, z9.2.2.2.2.2.2.2.2.2 = isNot
  clear z9
  intros H hr hl4 hm hrv hm2 hna hnl hA ret
  have qmk39 : Mk 39 := True.intro
  have hal := strsAre_len hna
  walk_at "my enter"
  k_steps
  rename News _ _ _ _ => N1
  rename Fr _ _ _ _ => F1
  refine ⟨its.length, _, _, _, ?_, srcM_list (its := its.toArray) rfl F1 N1 (.inr ⟨_, (by k_mem : (na, listOf its.toArray nn) ∈ _), rfl, _, rfl⟩), fun g => ?_⟩
  · rw [sizeLine_eq]; omega
  dsimp only
  refine rest_U (fun i ys nw => nw = _ ∧ StrsAre ys ((names.take i).map lowS)) ⟨rfl, .nil⟩ ?_ ?_
  · rintro i v ys nw I oI C oC D m₂ h tk E' hi ⟨rfl, hys⟩ hv hC hx F9 N9 off ne
    obtain ⟨y, ty, hy, rfl⟩ := strsAre_get hna (by simpa using hv)
    obtain ⟨j, hj, e⟩ := hA y (List.mem_of_getElem? hy)
    have q1 : y.length ≤ 100 := e ▸ (nameT_ok j hj).1
    have q2 : Asc y := e ▸ (nameT_ok j hj).2.2.1
    k_steps
    refine CompEnd.intro (by assumption) (by assumption) _ (fun _ hp => hp) off (.inr ⟨_, (by k_mem : (na, listOf its.toArray nn) ∈ _), rfl, _, rfl⟩) ⟨rfl, ?_⟩
    rw [List.take_add_one, hy]
    simpa using strs_snoc hys
  · rintro ys nw ⟨rfl, hys⟩
    rw [hal, List.take_length] at hys
    k_steps
    rename News _ _ _ _ => N3
    rename Fr _ _ _ _ => F3
    have hrl := hrv.length
    rw [List.length_map] at hrl
    refine ⟨rvs.length, _, _, _, ?_, srcM_list (its := rvs.toArray) rfl F3 N3 (.inr ⟨_, (by k_mem : (ra, listOf rvs.toArray rn) ∈ _), rfl, _, rfl⟩), fun g => ?_⟩
    · rw [sizeLine_eq]; omega
    dsimp only
    refine rest_T (fun i zs nw => nw = _ ∧ BytesAre zs (pickL (rows.take i) names isNot)) ⟨rfl, .nil⟩ ?_ ?_
    · rintro i v zs nw I oI C oC D m₂ h tk E' hi ⟨rfl, hb⟩ hv hC hx F9 N9 off ne
      obtain ⟨r, tr, hri, rfl⟩ := ints_rows hrv (by simpa using hv)
      have hr5 := hr r (List.mem_of_getElem? hri)
      have htk : pickL (rows.take (i + 1)) names isNot = pickL (rows.take i) names isNot ++ (if (wantB names r != isNot) = true then [(rowB r).toArray] else []) := by
        unfold pickL
        rw [List.take_add_one, hri, List.filter_append, List.map_append]
        congr 1
        show List.map _ (List.filter _ [r]) = _
        rw [List.filter_cons, List.filter_nil]
        split <;> rfl
      cases hq : (wantB names r != isNot)
      · have hq2 : ((names.map lowS).any (fun x => x == titleS r) != isNot) = false := hq
        k_steps
        refine CompEnd.intro (by assumption) (by assumption) _ (fun _ hp => hp) off (.inr ⟨_, (by k_mem : (ra, listOf rvs.toArray rn) ∈ _), rfl, _, rfl⟩) ⟨rfl, ?_⟩
        rw [htk, hq, if_neg Bool.false_ne_true, List.append_nil]
        exact hb
      · have hq2 : ((names.map lowS).any (fun x => x == titleS r) != isNot) = true := hq
        k_steps
        refine CompEnd.intro (by assumption) (by assumption) _ (fun _ hp => hp) off (.inr ⟨_, (by k_mem : (ra, listOf rvs.toArray rn) ∈ _), rfl, _, rfl⟩) ⟨rfl, ?_⟩
        rw [htk, hq, if_pos rfl]
        exact hb.snoc
    · rintro zs nw ⟨rfl, hb⟩
      rw [hrl, List.take_length] at hb
      have hjo : (catB (pickL rows names isNot)).size ≤ 16777216 := by have := pick_size names isNot rows; omega
      have hjo2 : (catB (pickL rows names isNot)).size ≤ 100 := by have := pick_size names isNot rows; omega
      k_steps
      exact ret _ _ _ (by assumption) (by walk_at "my news")
section
variable {w : World} {mean : ExcName → Option Value} {mg mb : Str → Option Value} {dp un : Nat} {gd : Option (List Code)} {cn : Str} {cs : Scope} {a : Addr} {ccd : Value} {cl : List (Str × Addr)} {outer : List Env} {A₀ : Around} {base h₀ : Heap} {L : Addr} {m : Str → Option Value} {news : List (Addr × Obj)} {s : Shared} {Q E : Value → Shared → Prop}
theorem law_picked_ctc (H : Here w mean mg mb 4 dp un cs outer A₀ base h₀ L m news s) {ra na : Addr} {rvs its : List Value} {rn nn : Nat} {rows : List Nat} {names : List Str} {isNot : Bool} (hr : ∀ r ∈ rows, r < 5) (hl4 : rows.length ≤ 4) (hm : (ra, listOf rvs.toArray rn) ∈ news) (hrv : IntsAre rvs (rows.map fun r : Nat => (r : Int))) (hm2 : (na, listOf its.toArray nn) ∈ news) (hna : StrsAre its names) (hnl : names.length ≤ 4) (hA : ∀ n ∈ names, ∃ j, j < 4 ∧ n = nameT j) (ret : ∀ t h' tk', Fr h₀ L h' m → News h₀ L h' news → Q (.bytes (catB (pickL rows names isNot) ++ #[13, 10]) t) { s with heap := h', toks := tk' }) :
   wpAny (model PG w) (ktrTop dp un gd cn cs L a ccd cl outer) (call (.ref 599) [.ref ra, .ref na, .bool isNot]) Q E s :=
  (hkf _ law_picked_ctc_core (⟨w, mean, mg, mb, dp, un, gd, cn, cs, a, ccd, cl, outer, A₀, base, h₀, L, m, news, s, Q, E⟩, ra, na, rvs, its, rn, nn, rows, names, isNot) : PLaw_picked_ctc (⟨w, mean, mg, mb, dp, un, gd, cn, cs, a, ccd, cl, outer, A₀, base, h₀, L, m, news, s, Q, E⟩, ra, na, rvs, its, rn, nn, rows, names, isNot)) H hr hl4 hm hrv hm2 hna hnl hA ret
end
end
theorem reg_all65 : True := by
  k_with "call ref" => ((with_reducible show wpAny _ _ (call (Value.ref 599) [_, _, _]) _ _ _); k_here; k_dflt (refine' law_picked_ctc (by first | (walk_at "my here") | fail) (by assumption) (by assumption) (by first | (k_mem) | fail) (by assumption) (by first | (k_mem) | fail) (by assumption) (by assumption) (by assumption) ?_; k_whole); intro qt9 qh9 qtk9 qF9 qN9; (try k_lt qM9); (try dsimp only); (try k_sweep); (try k_fold))
  trivial
end
section
section
variable {w : World} {mean : ExcName → Option Value} {mg mb : Str → Option Value} {dp un : Nat} {gd : Option (List Code)} {cn : Str} {cs : Scope} {a : Addr} {ccd : Value} {cl : List (Str × Addr)} {outer : List Env} {A₀ : Around} {base h₀ : Heap} {L : Addr} {m : Str → Option Value} {news : List (Addr × Obj)} {s : Shared} {Q E : Value → Shared → Prop}
theorem rows_size : ∀ rows : List Nat, (catB (rows.map fun r => (rowB r).toArray)).size ≤ 14 * rows.length := by
  intro rows
  induction rows with
  | nil => exact Nat.le_refl _
  | cons r rest ih =>
    have := row_len r
    rw [List.map_cons, catB_cons, Array.size_append, List.length_cons]
    show lenB r + _ ≤ _
    omega
end
section
def PLaw_octets_ctc (z9 : Cx × (Addr) × (Addr) × (List Value) × (List Value) × (Nat) × (Nat) × (Nat) × (Nat) × (List Nat) × (List Str) × (Array UInt8) × (Str) × (Tok) × (Tok)) : Prop := (fun (w : World) (mean : ExcName → Option Value) (mg : Str → Option Value) (mb : Str → Option Value) (dp : Nat) (un : Nat) (gd : Option (List Code)) (cn : Str) (cs : Scope) (a : Addr) (ccd : Value) (cl : List (Str × Addr)) (outer : List Env) (A₀ : Around) (base : Heap) (h₀ : Heap) (L : Addr) (m : Str → Option Value) (news : List (Addr × Obj)) (s : Shared) (Q : Value → Shared → Prop) (E : Value → Shared → Prop) (ra : Addr) (na : Addr) (rvs : List Value) (its : List Value) (rn : Nat) (nn : Nat) (p : Nat) (k : Nat) (rows : List Nat) (names : List Str) (body : Array UInt8) (x : Str) (tb : Tok) (tx : Tok) => ∀ (H : Here w mean mg mb 10 dp un cs outer A₀ base h₀ L m news s) (hr : ∀ r ∈ rows, r < 5) (hl4 : rows.length ≤ 4) (hb : body.size ≤ 100) (hp : p < 4) (hk : if p = 0 then k < 5 else k < 6) (hx : x = wordS k) (hm : (ra, listOf rvs.toArray rn) ∈ news) (hrv : IntsAre rvs (rows.map fun r : Nat => (r : Int))) (hm2 : (na, listOf its.toArray nn) ∈ news) (hna : StrsAre its names) (hnl : names.length ≤ 4) (hA : ∀ n ∈ names, ∃ j, j < 4 ∧ n = nameT j) (ret : ∀ v h' tk', Fr h₀ L h' m → News h₀ L h' news → OctV (octB rows body names p k) v → Q v { s with heap := h', toks := tk' }), wpAny (model PG w) (ktrTop dp un gd cn cs L a ccd cl outer) (call (.ref 604) [.ref ra, .bytes body tb, .ref (559 + p), .str x tx, .ref na]) Q E s) (z9.1.w) (z9.1.mean) (z9.1.mg) (z9.1.mb) (z9.1.dp) (z9.1.un) (z9.1.gd) (z9.1.cn) (z9.1.cs) (z9.1.a) (z9.1.ccd) (z9.1.cl) (z9.1.outer) (z9.1.A₀) (z9.1.base) (z9.1.h₀) (z9.1.L) (z9.1.m) (z9.1.news) (z9.1.s) (z9.1.Q) (z9.1.E) (z9.2.1) (z9.2.2.1) (z9.2.2.2.1) (z9.2.2.2.2.1) (z9.2.2.2.2.2.1) (z9.2.2.2.2.2.2.1) (z9.2.2.2.2.2.2.2.1) (z9.2.2.2.2.2.2.2.2.1) (z9.2.2.2.2.2.2.2.2.2.1) (z9.2.2.2.2.2.2.2.2.2.2.1) (z9.2.2.2.2.2.2.2.2.2.2.2.1) (z9.2.2.2.2.2.2.2.2.2.2.2.2.1) (z9.2.2.2.2.2.2.2.2.2.2.2.2.2.1) (z9.2.2.2.2.2.2.2.2.2.2.2.2.2.2)
set_option maxHeartbeats 4000000 in
theorem law_octets_ctc_core : PLaw_octets_ctc (hkm (⟨(cx0, default, default, default, default, default, default, default, default, default, default, default, default, default, default)⟩ : Nonempty (Cx × (Addr) × (Addr) × (List Value) × (List Value) × (Nat) × (Nat) × (Nat) × (Nat) × (List Nat) × (List Str) × (Array UInt8) × (Str) × (Tok) × (Tok))) PLaw_octets_ctc) := by
  generalize hkm _ _ = z9
  delta PLaw_octets_ctc
  generalize z9.1.w = w, z9.1.mean = mean, z9.1.mg = mg, z9.1.mb = mb, z9.1.dp = dp, z9.1.un = un, z9.1.gd = gd, z9.1.cn = cn, z9.1.cs = cs, z9.1.a = a, z9.1.ccd = ccd, z9.1.cl = cl, z9.1.outer = outer, z9.1.A₀ = A₀, z9.1.base = base, z9.1.h₀ = h₀, z9.1.L = L, z9.1.m = m, z9.1.news = news, z9.1.s = s, z9.1.Q = Q, z9.1.E = E, z9.2.1 = ra, z9.2.2.1 = na, z9.2.2.2.1 = rvs, z9.2.2.2.2.1 = its, z9.2.2.2.2.2.1 = rn, z9.2.2.2.2.2.2.1 = nn, z9.2.2.2.2.2.2.2.1 = p, z9.2.2.2.2.2.2.2.2.1 = k, z9.2.2.2.2.2.2.2.2.2.1 = rows, z9.2.2.2.2.2.2.2.2.2.2.1 = names, z9.2.2.2.2.2.2.2.2.2.2.2.1 = body, z9.2.2.2.2.2.2.2.2.2.2.2.2.1 = x, z9.2.2.2.2.2.2.2.2.2.2.2.2.2.1 = tb, z9.2.2.2.2.2.2.2.2.2.2.2.2.2.2 = tx
  clear z9
  intros H hr hl4 hb hp hk hx hm hrv hm2 hna hnl hA ret
  have hrl := hrv.length
  rw [List.length_map] at hrl
  have hjo2 := rows_size rows
  have hjo : (catB (rows.map fun r => (rowB r).toArray)).size ≤ 16777216 := by omega
  have hsz9 : (catB (rows.map fun r => (rowB r).toArray) ++ #[13, 10]).size ≤ 100 := by rw [Array.size_append]; show _ + 2 ≤ _; omega
  walk_at "my enter"
  k_steps
  rename News _ _ _ _ => N3
  rename Fr _ _ _ _ => F3
  refine ⟨rvs.length, _, _, _, ?_, srcM_list (its := rvs.toArray) rfl F3 N3 (.inr ⟨_, (by k_mem : (ra, listOf rvs.toArray rn) ∈ _), rfl, _, rfl⟩), fun g => ?_⟩
  · rw [sizeLine_eq]; omega
  dsimp only
  refine rest_U (fun i zs nw => nw = _ ∧ BytesAre zs ((rows.take i).map fun r => (rowB r).toArray)) ⟨rfl, .nil⟩ ?_ ?_
  · rintro i v zs nw I oI C oC D m₂ h tk E' hi ⟨rfl, hb⟩ hv hC hx F9 N9 off ne
    obtain ⟨r, tr, hri, rfl⟩ := ints_rows hrv (by simpa using hv)
    have hr5 := hr r (List.mem_of_getElem? hri)
    k_steps
    refine CompEnd.intro (by assumption) (by assumption) _ (fun _ hp => hp) off (.inr ⟨_, (by k_mem : (ra, listOf rvs.toArray rn) ∈ _), rfl, _, rfl⟩) ⟨rfl, ?_⟩
    rw [List.take_add_one, hri, List.map_append]
    exact hb.snoc
  · rintro zs nw ⟨rfl, hb⟩
    rw [hrl, List.take_length] at hb
    rcases p with _ | _ | _ | _ | p
    · rw [show (559 + 0 : Addr) = (559 : Nat) from rfl] at *
      rw [if_pos rfl] at hk
      rcases k with _ | _ | _ | _ | _ | k
      · obtain rfl : x = Str.ofString "" := hx.trans words_eq.1.symm
        k_steps
        exact ret _ _ _ (by assumption) (by walk_at "my news") ⟨_, rfl⟩
      · obtain rfl : x = Str.ofString "HEADER" := hx.trans words_eq.2.1.symm
        k_steps
        exact ret _ _ _ (by assumption) (by walk_at "my news") ⟨_, rfl⟩
      · obtain rfl : x = Str.ofString "TEXT" := hx.trans words_eq.2.2.1.symm
        k_steps
        exact ret _ _ _ (by assumption) (by walk_at "my news") ⟨_, rfl⟩
      · obtain rfl : x = Str.ofString "HEADER.FIELDS" := hx.trans words_eq.2.2.2.1.symm
        k_steps
        exact ret _ _ _ (by assumption) (by walk_at "my news") ⟨_, rfl⟩
      · obtain rfl : x = Str.ofString "HEADER.FIELDS.NOT" := hx.trans words_eq.2.2.2.2.1.symm
        k_steps
        exact ret _ _ _ (by assumption) (by walk_at "my news") ⟨_, rfl⟩
      · omega
    · rw [show (559 + (0 + 1) : Addr) = (560 : Nat) from rfl] at *
      rw [if_neg (by omega)] at hk
      rcases k with _ | _ | _ | _ | _ | _ | k
      · obtain rfl : x = Str.ofString "" := hx.trans words_eq.1.symm
        k_steps
        exact ret _ _ _ (by assumption) (by walk_at "my news") ⟨_, rfl⟩
      · obtain rfl : x = Str.ofString "HEADER" := hx.trans words_eq.2.1.symm
        k_steps
        exact ret _ _ _ (by assumption) (by walk_at "my news") rfl
      · obtain rfl : x = Str.ofString "TEXT" := hx.trans words_eq.2.2.1.symm
        k_steps
        exact ret _ _ _ (by assumption) (by walk_at "my news") rfl
      · obtain rfl : x = Str.ofString "HEADER.FIELDS" := hx.trans words_eq.2.2.2.1.symm
        k_steps
        exact ret _ _ _ (by assumption) (by walk_at "my news") rfl
      · obtain rfl : x = Str.ofString "HEADER.FIELDS.NOT" := hx.trans words_eq.2.2.2.2.1.symm
        k_steps
        exact ret _ _ _ (by assumption) (by walk_at "my news") rfl
      · obtain rfl : x = Str.ofString "MIME" := hx.trans words_eq.2.2.2.2.2.symm
        k_steps
        exact ret _ _ _ (by assumption) (by walk_at "my news") ⟨_, rfl⟩
      · omega
    · rw [show (559 + (0 + 1 + 1) : Addr) = (561 : Nat) from rfl] at *
      k_steps
      exact ret _ _ _ (by assumption) (by walk_at "my news") rfl
    · rw [show (559 + (0 + 1 + 1 + 1) : Addr) = (562 : Nat) from rfl] at *
      k_steps
      exact ret _ _ _ (by assumption) (by walk_at "my news") rfl
    · omega
section
variable {w : World} {mean : ExcName → Option Value} {mg mb : Str → Option Value} {dp un : Nat} {gd : Option (List Code)} {cn : Str} {cs : Scope} {a : Addr} {ccd : Value} {cl : List (Str × Addr)} {outer : List Env} {A₀ : Around} {base h₀ : Heap} {L : Addr} {m : Str → Option Value} {news : List (Addr × Obj)} {s : Shared} {Q E : Value → Shared → Prop}
theorem law_octets_ctc (H : Here w mean mg mb 10 dp un cs outer A₀ base h₀ L m news s) {ra na : Addr} {rvs its : List Value} {rn nn p k : Nat} {rows : List Nat} {names : List Str} {body : Array UInt8} {x : Str} {tb tx : Tok} (hr : ∀ r ∈ rows, r < 5) (hl4 : rows.length ≤ 4) (hb : body.size ≤ 100) (hp : p < 4) (hk : if p = 0 then k < 5 else k < 6) (hx : x = wordS k) (hm : (ra, listOf rvs.toArray rn) ∈ news) (hrv : IntsAre rvs (rows.map fun r : Nat => (r : Int))) (hm2 : (na, listOf its.toArray nn) ∈ news) (hna : StrsAre its names) (hnl : names.length ≤ 4) (hA : ∀ n ∈ names, ∃ j, j < 4 ∧ n = nameT j) (ret : ∀ v h' tk', Fr h₀ L h' m → News h₀ L h' news → OctV (octB rows body names p k) v → Q v { s with heap := h', toks := tk' }) :
   wpAny (model PG w) (ktrTop dp un gd cn cs L a ccd cl outer) (call (.ref 604) [.ref ra, .bytes body tb, .ref (559 + p), .str x tx, .ref na]) Q E s :=
  (hkf _ law_octets_ctc_core (⟨w, mean, mg, mb, dp, un, gd, cn, cs, a, ccd, cl, outer, A₀, base, h₀, L, m, news, s, Q, E⟩, ra, na, rvs, its, rn, nn, p, k, rows, names, body, x, tb, tx) : PLaw_octets_ctc (⟨w, mean, mg, mb, dp, un, gd, cn, cs, a, ccd, cl, outer, A₀, base, h₀, L, m, news, s, Q, E⟩, ra, na, rvs, its, rn, nn, p, k, rows, names, body, x, tb, tx)) H hr hl4 hb hp hk hx hm hrv hm2 hna hnl hA ret
end
end
theorem reg_all66 : True := by
  k_with "call ref" => ((with_reducible show wpAny _ _ (call (Value.ref 604) [_, _, Value.ref (559 + _), _, _]) _ _ _); k_here; k_dflt (refine' law_octets_ctc (by first | (walk_at "my here") | fail) (by assumption) (by assumption) (by assumption) (by first | ((first |assumption|omega)) | fail) (by assumption) (by rfl) (by first | (k_mem) | fail) (by assumption) (by first | (k_mem) | fail) (by assumption) (by assumption) (by assumption) ?_; k_whole); intro qv9 qh9 qtk9 qF9 qN9 qO9; (try k_lt qM9); (try dsimp only); (try k_sweep); (try k_fold))
  trivial
end
section
section
variable {w : World} {mean : ExcName → Option Value} {mg mb : Str → Option Value} {dp un : Nat} {gd : Option (List Code)} {cn : Str} {cs : Scope} {a : Addr} {ccd : Value} {cl : List (Str × Addr)} {outer : List Env} {A₀ : Around} {base h₀ : Heap} {L : Addr} {m : Str → Option Value} {news : List (Addr × Obj)} {s : Shared} {Q E : Value → Shared → Prop}
@[irreducible] def Hold (P : Prop) : Prop := P
theorem Hold.out {P : Prop} (h : Hold P) : P := by unfold Hold at h; exact h
theorem Hold.mk {P : Prop} (h : P) : Hold P := by unfold Hold; exact h
theorem have_mem {R : Prop} {Y : List (Addr × Obj)} {x : Addr} {o : Obj} (hm : (x, o) ∈ Y) (k : ∀ x', x' = x → (x', o) ∈ Y → R) : R := k x rfl hm
theorem have_part {R : Prop} {Y : List (Addr × Obj)} {x : Addr} {b e : Int} (hm : PartIn Y x b e) (k : ∀ x', x' = x → PartIn Y x' b e → R) : R := k x rfl hm
theorem have_let {R : Prop} {Y : List (Addr × Obj)} {lx : Addr} {uid inst mod : Int} {d : Array UInt8} {fs : List Str} (hL : LetIn Y lx uid d fs inst mod) (k : ∀ lx', lx' = lx → LetIn Y lx' uid d fs inst mod → R) : R := k lx rfl hL
theorem pull_cut {R : Prop} {S : Addr} {o : Obj} {l l' : List (Addr × Obj)} {h : Heap} (N : News h₀ L h l) (P : Pull S o l l') (k : ∀ Y, Y = l' → News h₀ L h ((S, o) :: Y) → (∀ p ∈ Y, p.1 ≠ S) → R) : R := k l' rfl (pull_news P N) P.ne
theorem map_but3 {a b c : Str} {m m₁ : Str → Option Value} (h : ∀ y, y ∉ [a, b, c] → m₁ y = m y) : m₁ = fun y => if y = a then m₁ a else if y = b then m₁ b else if y = c then m₁ c else m y := by
  funext y
  by_cases h1 : y = a
  · subst h1; simp
  by_cases h2 : y = b
  · subst h2; simp [h1]
  by_cases h3 : y = c
  · subst h3; simp [h1, h2]
  simp [h1, h2, h3]
  exact h y (by simp [h1, h2, h3])
theorem loop_tup_b {prog : Program} {A : Around} {env : Env} {target : Expr} {body : List Stmt} {Q : Flow → Shared → Prop} {ax : Addr} {its : List Value} {ln : Nat} (names : List Str) (hh : A.handled = none) (F : Fr h₀ env.locals s.heap m) (N : News h₀ env.locals s.heap news) (hm : (ax, ({ cls := .type "tuple", data := .seq its.toArray ln } : Obj)) ∈ news)
    (turn : ∀ (i : Nat) v m₁ I oI h tk, its[i]? = some v → (∀ y, y ∉ names → m₁ y = m y) → (∀ p ∈ news, p.1 ≠ I) → Fr h₀ env.locals h m₁ → News h₀ env.locals h ((I, oI) :: news) →
      wpAny (model prog w) A (assign target env v) (fun _ s₃ => wpAny (model prog w) A (execs body env) (TurnEnd h₀ env.locals I oI (fun m₂ nw => nw = news ∧ ∀ y, y ∉ names → m₂ y = m y) { s with heap := h, toks := tk } Q) E s₃) E { s with heap := h, toks := tk })
    (done : ∀ h tk m₁, Fr h₀ env.locals h m₁ → News h₀ env.locals h news → (∀ y, y ∉ names → m₁ y = m y) → Q .next { s with heap := h, toks := tk }) :
    wpAny (model prog w) A (pyIter (.ref ax)) (fun it s₂ => TurnsAt prog w A h₀ env target body Q E it s₂) E s := by
  refine loop_tup_t hh F N hm (fun _ m₁ nw => nw = news ∧ ∀ y, y ∉ names → m₁ y = m y) ⟨rfl, fun _ _ => rfl⟩ (fun i m nw h => h.1 ▸ hm) ?_ ?_
  · rintro i v m₁ nw I oI h tk hv ⟨rfl, hm1⟩ off F9 N9
    exact turn i v m₁ I oI h tk hv hm1 off F9 N9
  · rintro h tk m₁ nw F9 N9 ⟨rfl, hm1⟩
    exact done h tk m₁ F9 N9 hm1
theorem loop_list_b {prog : Program} {A : Around} {env : Env} {target : Expr} {body : List Stmt} {Q : Flow → Shared → Prop} {ax : Addr} {its : List Value} {ln : Nat} (names : List Str) (hh : A.handled = none) (F : Fr h₀ env.locals s.heap m) (N : News h₀ env.locals s.heap news) (hm : (ax, ({ cls := .type "list", data := .seq its.toArray ln } : Obj)) ∈ news)
    (turn : ∀ (i : Nat) v m₁ I oI h tk, its[i]? = some v → (∀ y, y ∉ names → m₁ y = m y) → (∀ p ∈ news, p.1 ≠ I) → Fr h₀ env.locals h m₁ → News h₀ env.locals h ((I, oI) :: news) →
      wpAny (model prog w) A (assign target env v) (fun _ s₃ => wpAny (model prog w) A (execs body env) (TurnEnd h₀ env.locals I oI (fun m₂ nw => nw = news ∧ ∀ y, y ∉ names → m₂ y = m y) { s with heap := h, toks := tk } Q) E s₃) E { s with heap := h, toks := tk })
    (done : ∀ h tk m₁, Fr h₀ env.locals h m₁ → News h₀ env.locals h news → (∀ y, y ∉ names → m₁ y = m y) → Q .next { s with heap := h, toks := tk }) :
    wpAny (model prog w) A (pyIter (.ref ax)) (fun it s₂ => TurnsAt prog w A h₀ env target body Q E it s₂) E s := by
  refine loop_list_t hh F N hm (fun _ m₁ nw => nw = news ∧ ∀ y, y ∉ names → m₁ y = m y) ⟨rfl, fun _ _ => rfl⟩ (fun i m nw h => h.1 ▸ hm) ?_ ?_
  · rintro i v m₁ nw I oI h tk hv ⟨rfl, hm1⟩ off F9 N9
    exact turn i v m₁ I oI h tk hv hm1 off F9 N9
  · rintro h tk m₁ nw F9 N9 ⟨rfl, hm1⟩
    exact done h tk m₁ F9 N9 hm1
theorem pair_ne_same {A : Around} {x y : Addr} {n1 n2 : Str} {t1 t2 : Tok} {v1 v2 : Value} {o : Option (Array UInt8)} (ha : IsTup s.heap x ([.str n1 t1, v1] : List Value).toArray) (hb : IsTup s.heap y ([.str n2 t2, v2] : List Value).toArray) (e : n1 = n2) (h1 : OctV o v1) (h2 : OctV o v2) (hA : A.units < cLine) (h : Q (.bool false) s) : wpAny (model PG w) A (compareOp .NotEq (.ref x) (.ref y)) Q E s := by
  subst e
  refine PySem.SeqAt.RcNeAt.tuples (e := fun _ => true) ha hb hA (fun j g1 g2 => ?_) PG w E Q ?_
  · have hs : MeetsSeq.EqGives (.str n1 t1) (.str n1 t2) true := by have := eqGives_str n1 n1 t1 t2; simpa using this
    match j, g1, g2 with
    | 0, _, _ => exact hs.at A.in1 s
    | 1, _, _ =>
      cases o with
      | none => obtain rfl : v1 = .none := h1; obtain rfl : v2 = .none := h2; exact SeqAt.EqAt.same .none
      | some b => obtain ⟨a1, rfl⟩ := h1; obtain ⟨a2, rfl⟩ := h2; exact fun prog w E Q hq => eqBool_bytes (by simpa using hq)
  · exact h
end
section
theorem reg_all67 : True := by
  k_with "exec For Name Name cons nil" => (((fail_if_success (fail_if_success (have qz9 : Mk 43 := by with_reducible assumption))); (k_here; (rename Fr _ _ _ _ => qlF'); (with_unfolding_all refine' For_turns qlF' ?_); k_whole)))
  k_with "pyIter ref" => (((fail_if_success (fail_if_success (have qz9 : Mk 43 := by with_reducible assumption))); (refine Hold.out ?_)))
  trivial
def PEncoding_ctc (z9 : Cx × (Addr) × (Nat)) : Prop := (fun (w : World) (mean : ExcName → Option Value) (mg : Str → Option Value) (mb : Str → Option Value) (dp : Nat) (un : Nat) (gd : Option (List Code)) (cn : Str) (cs : Scope) (a : Addr) (ccd : Value) (cl : List (Str × Addr)) (outer : List Env) (A₀ : Around) (base : Heap) (h₀ : Heap) (L : Addr) (m : Str → Option Value) (news : List (Addr × Obj)) (s : Shared) (Q : Value → Shared → Prop) (E : Value → Shared → Prop) (fl : Addr) (n : Nat) => ∀ (H : Here w mean mg mb 10 dp un cs outer A₀ base h₀ L m news s) (hm : (fl, ({ cls := .type "list", data := .seq #[] n } : Obj)) ∈ news) (ret : ∀ t h' tk', Fr h₀ L h' m → News h₀ L h' news → Q (.str (Str.ofString "7bit") t) { s with heap := h', toks := tk' }), wpAny (model PG w) (ktrTop dp un gd cn cs L a ccd cl outer) (call (.ref 324) [.ref fl]) Q E s) (z9.1.w) (z9.1.mean) (z9.1.mg) (z9.1.mb) (z9.1.dp) (z9.1.un) (z9.1.gd) (z9.1.cn) (z9.1.cs) (z9.1.a) (z9.1.ccd) (z9.1.cl) (z9.1.outer) (z9.1.A₀) (z9.1.base) (z9.1.h₀) (z9.1.L) (z9.1.m) (z9.1.news) (z9.1.s) (z9.1.Q) (z9.1.E) (z9.2.1) (z9.2.2)
theorem encoding_ctc_core : PEncoding_ctc (hkm (⟨(cx0, default, default)⟩ : Nonempty (Cx × (Addr) × (Nat))) PEncoding_ctc) := by
  generalize hkm _ _ = z9
  delta PEncoding_ctc
  generalize z9.1.w = w, z9.1.mean = mean, z9.1.mg = mg, z9.1.mb = mb, z9.1.dp = dp, z9.1.un = un, z9.1.gd = gd, z9.1.cn = cn, z9.1.cs = cs, z9.1.a = a, z9.1.ccd = ccd, z9.1.cl = cl, z9.1.outer = outer, z9.1.A₀ = A₀, z9.1.base = base, z9.1.h₀ = h₀, z9.1.L = L, z9.1.m = m, z9.1.news = news, z9.1.s = s, z9.1.Q = Q, z9.1.E = E, z9.2.1 = fl, z9.2.2 = n
  clear z9
  intros H hm ret
  have qmk43 : Mk 43 := True.intro
  walk_at "my enter"
  k_steps
  rename News _ _ _ _ => N1
  rename Fr _ _ _ _ => F1
  refine Hold.mk ?_
  refine loop_list_b (its := []) [] rfl F1 N1 hm (fun i v m₁ I oI h tk hv => nomatch hv) ?_
  intro h tk m₁ F2 N2 hm1
  rw [show m₁ = _ from funext fun y => hm1 y (by simp)] at F2
  k_steps
  exact ret _ _ _ (by assumption) (by walk_at "my news")
section
variable {w : World} {mean : ExcName → Option Value} {mg mb : Str → Option Value} {dp un : Nat} {gd : Option (List Code)} {cn : Str} {cs : Scope} {a : Addr} {ccd : Value} {cl : List (Str × Addr)} {outer : List Env} {A₀ : Around} {base h₀ : Heap} {L : Addr} {m : Str → Option Value} {news : List (Addr × Obj)} {s : Shared} {Q E : Value → Shared → Prop}
theorem encoding_ctc (H : Here w mean mg mb 10 dp un cs outer A₀ base h₀ L m news s) {fl : Addr} {n : Nat} (hm : (fl, ({ cls := .type "list", data := .seq #[] n } : Obj)) ∈ news) (ret : ∀ t h' tk', Fr h₀ L h' m → News h₀ L h' news → Q (.str (Str.ofString "7bit") t) { s with heap := h', toks := tk' }) :
   wpAny (model PG w) (ktrTop dp un gd cn cs L a ccd cl outer) (call (.ref 324) [.ref fl]) Q E s :=
  (hkf _ encoding_ctc_core (⟨w, mean, mg, mb, dp, un, gd, cn, cs, a, ccd, cl, outer, A₀, base, h₀, L, m, news, s, Q, E⟩, fl, n) : PEncoding_ctc (⟨w, mean, mg, mb, dp, un, gd, cn, cs, a, ccd, cl, outer, A₀, base, h₀, L, m, news, s, Q, E⟩, fl, n)) H hm ret
end
end
theorem reg_all68 : True := by
  k_with "call ref" => ((with_reducible show wpAny _ _ (call (Value.ref 324) [_]) _ _ _); k_here; k_dflt (refine' encoding_ctc (by first | (walk_at "my here") | fail) (by first | (k_mem) | fail) ?_; k_whole); intro qt9 qh9 qtk9 qF9 qN9; (try k_lt qM9); (try dsimp only); (try k_sweep); (try k_fold))
  trivial
end
section
section
variable {w : World} {mean : ExcName → Option Value} {mg mb : Str → Option Value} {dp un : Nat} {gd : Option (List Code)} {cn : Str} {cs : Scope} {a : Addr} {ccd : Value} {cl : List (Str × Addr)} {outer : List Env} {A₀ : Around} {base h₀ : Heap} {L : Addr} {m : Str → Option Value} {news : List (Addr × Obj)} {s : Shared} {Q E : Value → Shared → Prop}
theorem news_cls {h : Heap} {l : List (Addr × Obj)} {x y : Addr} {o1 o2 : Obj} {c1 c2 : String} (N : News h₀ L h l) (h1 : (x, o1) ∈ l) (h2 : (y, o2) ∈ l) (e1 : o1.cls = .type c1) (e2 : o2.cls = .type c2) (hc : c1 ≠ c2) : x ≠ y := by
  rintro rfl
  have a := (N _ h1).1
  have b := (N _ h2).1
  rw [a] at b
  have e : o1 = o2 := Option.some.inj b
  subst e
  rw [e1] at e2
  injection e2 with e2
  exact hc e2
theorem news_clsP {h : Heap} {l : List (Addr × Obj)} {p : Addr × Obj} {y : Addr} {o2 : Obj} {c1 c2 : String} (N : News h₀ L h l) (h1 : p ∈ l) (h2 : (y, o2) ∈ l) (e1 : p.2.cls = .type c1) (e2 : o2.cls = .type c2) (hc : c1 ≠ c2) : p.1 ≠ y := news_cls N (show (p.1, p.2) ∈ l from h1) h2 e1 e2 hc
theorem map_but7 {a1 a2 a3 a4 a5 a6 a7 : Str} {m m₁ : Str → Option Value} (h : ∀ y, y ∉ [a1, a2, a3, a4, a5, a6, a7] → m₁ y = m y) : m₁ = fun y => if y = a1 then m₁ a1 else if y = a2 then m₁ a2 else if y = a3 then m₁ a3 else if y = a4 then m₁ a4 else if y = a5 then m₁ a5 else if y = a6 then m₁ a6 else if y = a7 then m₁ a7 else m y := by
  funext y
  split
  · subst_vars; rfl
  split
  · subst_vars; rfl
  split
  · subst_vars; rfl
  split
  · subst_vars; rfl
  split
  · subst_vars; rfl
  split
  · subst_vars; rfl
  split
  · subst_vars; rfl
  exact h y (by simp_all)
theorem loop_rng_s {prog : Program} {A : Around} {env : Env} {x : Str} {body : List Stmt} {Q : Flow → Shared → Prop} {r : Addr} {e : Int} {t u v : Tok} (names : List Str) {S C : Addr} {a0 : Int} {t0 : Tok} {Z : List (Addr × Obj)} (hh : A.handled = none) (R : IsRange s.heap r 0 e 1 t u v) (he : 0 ≤ e ∧ e ≤ 100) (F : Fr h₀ env.locals s.heap m) (N : News h₀ env.locals s.heap ((S, srcO C a0 t0 0) :: Z)) (ha : 0 ≤ a0 ∧ a0 ≤ 200)
    (turn : ∀ (i : Nat) v (m₁ : Str → Option Value) aq tq I oI h tk, (∀ y, y ∉ names → m₁ y = m y) → (0 ≤ aq ∧ aq ≤ 5000) → (∀ p ∈ (S, srcO C aq tq 0) :: Z, p.1 ≠ I) → Fr h₀ env.locals h (fun y => if y = x then some v else m₁ y) → News h₀ env.locals h ((I, oI) :: (S, srcO C aq tq 0) :: Z) →
      wpAny (model prog w) A (execs body env) (TurnEnd h₀ env.locals I oI (fun m₂ nw => ∃ aq' tq', 0 ≤ aq' ∧ aq' ≤ aq + 20 ∧ nw = (S, srcO C aq' tq' 0) :: Z ∧ ∀ y, y ∉ names → m₂ y = m y) { s with heap := h, toks := tk } Q) E { s with heap := h, toks := tk })
    (done : ∀ h tk (m₁ : Str → Option Value) aq tq, Fr h₀ env.locals h m₁ → News h₀ env.locals h ((S, srcO C aq tq 0) :: Z) → (∀ y, y ∉ names → m₁ y = m y) → Q .next { s with heap := h, toks := tk }) :
    wpAny (model prog w) A (pyIter (.ref r)) (fun it s₂ => LoopAtV prog w A h₀ env x body Q E it s₂) E s := by
  obtain ⟨n, rfl⟩ : ∃ n : Nat, e = (n : Int) := ⟨e.toNat, by omega⟩
  have hn : Builtin.Range.rangeSize 0 (n : Int) 1 = ((n : Nat) : Int) := rangeSize_nat 0 n
  refine wpAny_pyIter_range R (small_one (by decide) (by decide) (by omega) (by omega)) ?_
  have off : ∀ p ∈ (S, srcO C a0 t0 0) :: Z, p.1 ≠ s.heap.objs.size := fun p hp => Nat.ne_of_lt (Heap.lt_size (N p hp).1)
  refine loop_one (range_walks hh 0 n) (fun i h st => ⟨_, st⟩) (by show IsRangeIter _ _ _ _ _; rw [hn]; simpa using Heap.get?_push_size _ rfl) (F.keeps fun _ _ e => Heap.get?_push_of_some _ e) (N.grown fun _ _ e => Heap.get?_push_of_some _ e) (Nat.ne_of_lt F.ns.lt) (next_is_new F) off
    (fun i m₁ nw => ∃ aq tq, 0 ≤ aq ∧ aq ≤ a0 + 20 * (i : Int) ∧ nw = (S, srcO C aq tq 0) :: Z ∧ ∀ y, y ∉ names → m₁ y = m y) ⟨a0, t0, by omega, by omega, rfl, fun _ _ => rfl⟩ ?_ ?_
  · rintro i v m₁ nw oI h tk hi ⟨t, rfl⟩ ⟨aq, tq, q0, q1, rfl, hm1⟩ off1 F₁ N₁
    refine wpAny_mono (turn i _ m₁ aq tq _ oI h tk hm1 (by omega) off1 F₁ N₁) (fun f s₂ q => ?_) fun _ _ e => e
    cases f with
    | ret v => exact q
    | brk => exact q
    | next => obtain ⟨h', tk', m₂, nw', rfl, F₂, N₂, off₂, aq', tq', p0, p1, e, hm2⟩ := q; exact ⟨h', tk', m₂, nw', rfl, F₂, N₂, off₂, aq', tq', p0, by omega, e, hm2⟩
    | cont => obtain ⟨h', tk', m₂, nw', rfl, F₂, N₂, off₂, aq', tq', p0, p1, e, hm2⟩ := q; exact ⟨h', tk', m₂, nw', rfl, F₂, N₂, off₂, aq', tq', p0, by omega, e, hm2⟩
  · rintro h tk m₁ nw F₁ N₁ ⟨aq, tq, q0, q1, rfl, hm1⟩
    exact done h tk m₁ aq tq F₁ N₁ hm1
def DueOr (h₀ : Heap) (L : Addr) (m0 : Str → Option Value) (news : List (Addr × Obj)) (s : Shared) (o : Option (Array UInt8)) (f : Flow) (s' : Shared) : Prop := f = .next ∧ ∃ v h' tk', s' = { s with heap := h', toks := tk' } ∧ Fr h₀ L h' (fun y => if y = Str.ofString "due" then some v else m0 y) ∧ News h₀ L h' news ∧ OctV o v
theorem DueOr.mk {m0 mm : Str → Option Value} {o : Option (Array UInt8)} {v : Value} {h' : Heap} {tk' : Nat} (F : Fr h₀ L h' mm) (N : News h₀ L h' news) (hm : mm = fun y => if y = Str.ofString "due" then some v else m0 y) (hO : OctV o v) : DueOr h₀ L m0 news s o .next { s with heap := h', toks := tk' } :=
  ⟨rfl, v, h', tk', rfl, hm ▸ F, N, hO⟩
theorem cut_due {M : Model} {A : Around} {tree : Sem Flow} {Q : Flow → Shared → Prop} {m0 : Str → Option Value} {o : Option (Array UInt8)} {v : Value} (_F : Fr h₀ L s.heap (fun y => if y = Str.ofString "due" then some v else m0 y)) (_N : News h₀ L s.heap news) (h1 : wpAny M A tree (DueOr h₀ L m0 news s o) E s)
   (h2 : ∀ v' h' tk', Fr h₀ L h' (fun y => if y = Str.ofString "due" then some v' else m0 y) → News h₀ L h' news → OctV o v' → Q .next { s with heap := h', toks := tk' }) : wpAny M A tree Q E s :=
  wpAny_mono h1 (fun f s' h => by obtain ⟨rfl, v, h', tk', rfl, a, b, c⟩ := h; exact h2 v h' tk' a b c) fun _ _ e => e
theorem path_tuple {A : Around} {p : Nat} (F : Fr h₀ L s.heap m) (X : (KH w.params).In h₀) (hp : p < 4) (h : Q (.ref (559 + p)) s) : wpAny (model PG w) A (call (.type "tuple") [.ref (559 + p)]) Q E s := by
  obtain ⟨vs, h1, _⟩ := path_tup F X hp
  exact call_tuple_tup h1 h
theorem show_len {p k : Nat} {names : List Str} {pp : Option (Nat × Nat)} (hp : p < 4) (hk : k < 6) (hnl : names.length ≤ 4) (hA : ∀ n ∈ names, n.length ≤ 100) (hz : ∀ i k, pp = some (i, k) → i < 100) : (showS p k names pp).length ≤ 10000 := by
  have h1 := (text_bound hp hk (decide (k ≠ 0))).2
  rw [text_eq rfl] at h1
  have h2 := (names_bound hnl hA).2
  have h3 := partS_len hz
  have e1 : (Str.ofString "[").length = 1 := by decide +kernel
  have e2 : (Str.ofString "]").length = 1 := by decide +kernel
  have e3 : (Str.ofString " (").length = 2 := by decide +kernel
  have e4 : (Str.ofString ")").length = 1 := by decide +kernel
  unfold showS tailS
  split
  · simp only [Str.length_append, e1, e2, e3, e4]; omega
  · simp only [Str.length_append, e1, e2]; omega
theorem name_facts {names : List Str} (h : ∀ n ∈ names, ∃ j, j < 4 ∧ n = nameT j) : (∀ n ∈ names, n.cps.size < 1000 ∧ Asc n) ∧ (∀ n ∈ names, n.length ≤ 100 ∧ 0 < n.length ∧ ∀ c ∈ n.cps.toList, AtomC c) ∧ ∀ n ∈ names, n.length ≤ 100 := by
  have g : ∀ n ∈ names, n.length ≤ 100 ∧ 0 < n.length ∧ (∀ c ∈ n.cps.toList, c < 128) ∧ ∀ c ∈ n.cps.toList, 32 < c ∧ c < 127 ∧ barB.contains ((c : Int).toNat.toUInt8) = false := by
    intro n hn
    obtain ⟨j, hj, rfl⟩ := h n hn
    exact nameT_ok j hj
  exact ⟨fun n hn => ⟨Nat.lt_of_le_of_lt (g n hn).1 (by decide), (g n hn).2.2.1⟩, fun n hn => ⟨(g n hn).1, (g n hn).2.1, (g n hn).2.2.2⟩, fun n hn => (g n hn).1⟩
end
end
section
section
variable {w : World} {mean : ExcName → Option Value} {mg mb : Str → Option Value} {dp un : Nat} {gd : Option (List Code)} {cn : Str} {cs : Scope} {a : Addr} {ccd : Value} {cl : List (Str × Addr)} {outer : List Env} {A₀ : Around} {base h₀ : Heap} {L : Addr} {m : Str → Option Value} {news : List (Addr × Obj)} {s : Shared} {Q E : Value → Shared → Prop}
noncomputable def lawAt (k : Nat) : Stmt := (b614[k]?).getD default
@[reducible] noncomputable def lB12 : List Stmt := lit (b := forB (lawAt 12)) (_ :: _) (fun _ x => x)
@[reducible] noncomputable def lB11 : List Stmt := lit (b := forB (lawAt 11)) (_ :: _) (fun _ x => x)
@[reducible] noncomputable def lT11 : Expr := lit (b := forT (lawAt 11)) (.Tuple _ _ _) (fun _ x => x)
@[reducible] noncomputable def lD11 : List Stmt := lit (b := b614.drop 11) (_ :: _) (fun _ x => x)
@[reducible] noncomputable def lD9 : List Stmt := lit (b := b614.drop 9) (_ :: _) (fun _ x => x)
def LSec0 : Prop := True
def DueMark : Prop := True
theorem due_mk2 {m0 : Str → Option Value} {o : Option (Array UInt8)} {u : Option Value} {v : Value} {h' : Heap} {tk' : Nat} (F : Fr h₀ L h' (fun y => if y = Str.ofString "due" then some v else if y = Str.ofString "due" then u else m0 y)) (N : News h₀ L h' news) (hO : OctV o v) : DueOr h₀ L m0 news s o .next { s with heap := h', toks := tk' } :=
  DueOr.mk F N (by funext y; split <;> rfl) hO
end
section
theorem reg_all69 : True := by
  k_with "call ref" => (((fail_if_success (fail_if_success (have qz9 : Mk 46 := by with_reducible assumption))); (k_here; (with_reducible show wpAny _ _ (call (Value.ref 472) [_, _, _]) _ _ _); (with_reducible rename LSec0 => qhls); k_dflt (refine' pair_sec_ctc (by first | (walk_at "my here") | fail) (by assumption) (by first | (first | assumption | exact PartIn.mono (by assumption) (by first | (walk_at "my sub") | fail)) | fail) (by first | (first | assumption | exact LetIn.mono (by assumption) (by first | (walk_at "my sub") | fail)) | fail) (by first | (exact ⟨_, _, _, _, _, _, _, _, _, _, _, _, _, _, _, _, by k_mem, by k_mem, .inl ⟨rfl, by assumption⟩, by k_mem, by assumption, PartV.mono (by assumption) (by first | (walk_at "my sub") | fail)⟩) | fail) (by first | (k_mem) | fail) (by assumption) (by assumption) (by assumption) (by assumption) (by assumption) (by assumption) (by assumption) ?_; k_whole); intro qtp9 qt9 qv9 qh9 qtk9 qF9 qN9 qO9 ql9; (try dsimp only); (try k_sweep); (try k_fold))))
  k_with "compareOp NotEq ref ref" => (((fail_if_success (fail_if_success (have qz9 : Mk 46 := by with_reducible assumption))); (k_here; (with_reducible show wpAny _ _ (compareOp CmpOp.NotEq (Value.ref _) (Value.ref _)) _ _ _); k_dflt (refine' pair_ne_same (by first | (exact News.isTup (by k_asm) (by first | (k_mem) | fail)) | fail) (by first | (exact News.isTup (by k_asm) (by first | (k_mem) | fail)) | fail) (by first | (first | rfl | decide +kernel) | fail) (by assumption) (by first | (first | exact ⟨_, rfl⟩ | assumption) | fail) (by first | (ktr_units) | fail) ?_; k_whole))))
  k_with "call ref" => (((fail_if_success (fail_if_success (have qz9 : Mk 46 := by with_reducible assumption))); (k_here; (with_reducible show wpAny _ _ (call (Value.ref 589) [_]) _ _ _); (refine Hold.out ?_))))
  k_with "exec If" => (((fail_if_success (fail_if_success (have qz9 : Mk 46 := by with_reducible assumption))); (k_here; (with_reducible show wpAny _ _ (exec (Stmt.If (Expr.BoolOp _ _ _) _ _ _) _) _ _ _); (fail_if_success (with_reducible rename DueMark => qhdm)); (refine Hold.out ?_))))
  k_with "call type:tuple" => (((fail_if_success (fail_if_success (have qz9 : Mk 46 := by with_reducible assumption))); (k_here; (with_reducible show wpAny _ _ (call (Value.type _) [Value.ref (559 + _)]) _ _ _); k_dflt (refine' path_tuple (by k_asm) (by k_asm) (by assumption) ?_; k_whole))))
  k_with "call type:tuple" => (((fail_if_success (fail_if_success (have qz9 : Mk 46 := by with_reducible assumption))); (k_here; (with_reducible show wpAny _ _ (call (Value.type _) [Value.ref _]) _ _ _); k_dflt (refine' kde_tupleOf (by k_asm) (by k_asm) (by first | (exact News.isList (by k_asm) (by first | (k_mem) | fail)) | fail) (by first | (first | (rw [List.size_toArray]; omega) | omega) | fail) rfl ?_); intro qD' qh' qF' qN' ql1; (try k_lt ql1); (try k_sweep))))
  trivial
def PTurn2 (z9 : Cx × (Flow → Shared → Prop) × (Value) × (Addr) × (Addr) × (Addr) × (Addr) × (Addr) × (Addr) × (Obj) × (Obj) × (Int) × (Tok) × (Tok) × (List (Addr × Obj)) × (List Value) × (List Value) × (List Int) × (Nat) × (List Nat) × (List Str) × (Array UInt8) × (Array UInt8) × (Int) × (Int) × (Int) × (Int) × (Int)) : Prop := (fun (w : World) (mean : ExcName → Option Value) (mg : Str → Option Value) (mb : Str → Option Value) (dp : Nat) (un : Nat) (gd : Option (List Code)) (a : Addr) (ccd : Value) (outer : List Env) (A₀ : Around) (base : Heap) (h₀ : Heap) (L : Addr) (m : Str → Option Value) (s : Shared) (E : Value → Shared → Prop) (R : Flow → Shared → Prop) (v : Value) (I : Addr) (S : Addr) (C : Addr) (ra : Addr) (lx : Addr) (px : Addr) (oI : Obj) (oS : Obj) (aq : Int) (tq : Tok) (bt : Tok) (Z : List (Addr × Obj)) (vs : List Value) (ys : List Value) (ns : List Int) (nn : Nat) (rs : List Nat) (fs : List Str) (body : Array UInt8) (d : Array UInt8) (uid : Int) (inst : Int) (mod : Int) (b : Int) (e : Int) => ∀ (H : Here w mean mg mb 60 dp un s614 outer A₀ base h₀ L (fun y => if y = Str.ofString "turn" then some v else if y = Str.ofString "rows" then some (.ref ra) else if y = Str.ofString "body" then some (.bytes body bt) else if y = Str.ofString "letter" then some (.ref lx) else if y = Str.ofString "part" then some (.ref px) else m y) ((I, oI) :: (S, srcO C aq tq 0) :: Z) s) (hcI : IntsAre vs ns) (hcl : 0 < ns.length ∧ ns.length ≤ 63) (hCz : (C, listOf vs.toArray nn) ∈ Z) (hSz : (L + 1, oS) ∈ Z) (hoS : oS.data = .cell (some (.ref S))) (hRz : (ra, lst ys) ∈ Z) (hys : IntsAre ys (rs.map fun r : Nat => (r : Int))) (hLz : LetIn Z lx uid d fs inst mod) (hP : PartIn Z px b e) (M : Made rs body d b e) (hr5 : ∀ r ∈ rs, r < 5) (hrs4 : rs.length ≤ 4) (hbd : body.size ≤ 100) (hoff : ∀ p ∈ (S, srcO C aq tq 0) :: Z, p.1 ≠ I) (hZne : ∀ p ∈ Z, p.1 ≠ S) (haq : 0 ≤ aq ∧ aq ≤ 5000), wpAny (model PG w) (ktrTop dp un gd (Str.ofString "law") s614 L a ccd [(Str.ofString "source", L + 1)] outer) (execs lB12 (envX (Str.ofString "law") s614 L a ccd [(Str.ofString "source", L + 1)])) (TurnEnd h₀ L I oI (fun m₂ nw => ∃ aq' tq', 0 ≤ aq' ∧ aq' ≤ aq + 20 ∧ nw = (S, srcO C aq' tq' 0) :: Z ∧ ∀ y, y ∉ [Str.ofString "turn", Str.ofString "path", Str.ofString "word", Str.ofString "names", Str.ofString "partial", Str.ofString "due", Str.ofString "item"] → m₂ y = (fun y => if y = Str.ofString "turn" then some v else if y = Str.ofString "rows" then some (.ref ra) else if y = Str.ofString "body" then some (.bytes body bt) else if y = Str.ofString "letter" then some (.ref lx) else if y = Str.ofString "part" then some (.ref px) else m y) y) s R) E s) (z9.1.w) (z9.1.mean) (z9.1.mg) (z9.1.mb) (z9.1.dp) (z9.1.un) (z9.1.gd) (z9.1.a) (z9.1.ccd) (z9.1.outer) (z9.1.A₀) (z9.1.base) (z9.1.h₀) (z9.1.L) (z9.1.m) (z9.1.s) (z9.1.E) (z9.2.1) (z9.2.2.1) (z9.2.2.2.1) (z9.2.2.2.2.1) (z9.2.2.2.2.2.1) (z9.2.2.2.2.2.2.1) (z9.2.2.2.2.2.2.2.1) (z9.2.2.2.2.2.2.2.2.1) (z9.2.2.2.2.2.2.2.2.2.1) (z9.2.2.2.2.2.2.2.2.2.2.1) (z9.2.2.2.2.2.2.2.2.2.2.2.1) (z9.2.2.2.2.2.2.2.2.2.2.2.2.1) (z9.2.2.2.2.2.2.2.2.2.2.2.2.2.1) (z9.2.2.2.2.2.2.2.2.2.2.2.2.2.2.1) (z9.2.2.2.2.2.2.2.2.2.2.2.2.2.2.2.1) (z9.2.2.2.2.2.2.2.2.2.2.2.2.2.2.2.2.1) (z9.2.2.2.2.2.2.2.2.2.2.2.2.2.2.2.2.2.1) (z9.2.2.2.2.2.2.2.2.2.2.2.2.2.2.2.2.2.2.1) (z9.2.2.2.2.2.2.2.2.2.2.2.2.2.2.2.2.2.2.2.1) (z9.2.2.2.2.2.2.2.2.2.2.2.2.2.2.2.2.2.2.2.2.1) (z9.2.2.2.2.2.2.2.2.2.2.2.2.2.2.2.2.2.2.2.2.2.1) (z9.2.2.2.2.2.2.2.2.2.2.2.2.2.2.2.2.2.2.2.2.2.2.1) (z9.2.2.2.2.2.2.2.2.2.2.2.2.2.2.2.2.2.2.2.2.2.2.2.1) (z9.2.2.2.2.2.2.2.2.2.2.2.2.2.2.2.2.2.2.2.2.2.2.2.2.1) (z9.2.2.2.2.2.2.2.2.2.2.2.2.2.2.2.2.2.2.2.2.2.2.2.2.2.1) (z9.2.2.2.2.2.2.2.2.2.2.2.2.2.2.2.2.2.2.2.2.2.2.2.2.2.2.1) (z9.2.2.2.2.2.2.2.2.2.2.2.2.2.2.2.2.2.2.2.2.2.2.2.2.2.2.2)
set_option maxHeartbeats 2000000 in
theorem turn2_core : PTurn2 (hkm (⟨(cx0, default, default, default, default, default, default, default, default, default, default, default, default, default, default, default, default, default, default, default, default, default, default, default, default, default, default, default)⟩ : Nonempty (Cx × (Flow → Shared → Prop) × (Value) × (Addr) × (Addr) × (Addr) × (Addr) × (Addr) × (Addr) × (Obj) × (Obj) × (Int) × (Tok) × (Tok) × (List (Addr × Obj)) × (List Value) × (List Value) × (List Int) × (Nat) × (List Nat) × (List Str) × (Array UInt8) × (Array UInt8) × (Int) × (Int) × (Int) × (Int) × (Int))) PTurn2) := by
  generalize hkm _ _ = z9
  delta PTurn2
  generalize z9.1.w = w, z9.1.mean = mean, z9.1.mg = mg, z9.1.mb = mb, z9.1.dp = dp, z9.1.un = un, z9.1.gd = gd, z9.1.a = a, z9.1.ccd = ccd, z9.1.outer = outer, z9.1.A₀ = A₀, z9.1.base = base, z9.1.h₀ = h₀, z9.1.L = L, z9.1.m = m, z9.1.s = s, z9.1.E = E, z9.2.1 = R, z9.2.2.1 = v, z9.2.2.2.1 = I, z9.2.2.2.2.1 = S, z9.2.2.2.2.2.1 = C, z9.2.2.2.2.2.2.1 = ra, z9.2.2.2.2.2.2.2.1 = lx, z9.2.2.2.2.2.2.2.2.1 = px, z9.2.2.2.2.2.2.2.2.2.1 = oI, z9.2.2.2.2.2.2.2.2.2.2.1 = oS, z9.2.2.2.2.2.2.2.2.2.2.2.1 = aq, z9.2.2.2.2.2.2.2.2.2.2.2.2.1 = tq, z9.2.2.2.2.2.2.2.2.2.2.2.2.2.1 = bt, z9.2.2.2.2.2.2.2.2.2.2.2.2.2.2.1 = Z, z9.2.2.2.2.2.2.2.2.2.2.2.2.2.2.2.1 = vs, z9.2.2.2.2.2.2.2.2.2.2.2.2.2.2.2.2.1 = ys, z9.2.2.2.2.2.2.2.2.2.2.2.2.2.2.2.2.2.1 = ns, z9.2.2.2.2.2.2.2.2.2.2.2.2.2.2.2.2.2.2.1 = nn, z9.2.2.2.2.2.2.2.2.2.2.2.2.2.2.2.2.2.2.2.1 = rs, z9.2.2.2.2.2.2.2.2.2.2.2.2.2.2.2.2.2.2.2.2.1 = fs, z9.2.2.2.2.2.2.2.2.2.2.2.2.2.2.2.2.2.2.2.2.2.1 = body, z9.2.2.2.2.2.2.2.2.2.2.2.2.2.2.2.2.2.2.2.2.2.2.1 = d, z9.2.2.2.2.2.2.2.2.2.2.2.2.2.2.2.2.2.2.2.2.2.2.2.1 = uid, z9.2.2.2.2.2.2.2.2.2.2.2.2.2.2.2.2.2.2.2.2.2.2.2.2.1 = inst, z9.2.2.2.2.2.2.2.2.2.2.2.2.2.2.2.2.2.2.2.2.2.2.2.2.2.1 = mod, z9.2.2.2.2.2.2.2.2.2.2.2.2.2.2.2.2.2.2.2.2.2.2.2.2.2.2.1 = b, z9.2.2.2.2.2.2.2.2.2.2.2.2.2.2.2.2.2.2.2.2.2.2.2.2.2.2.2 = e
  clear z9
  intros H hcI hcl hCz hSz hoS hRz hys hLz hP M hr5 hrs4 hbd hoff hZne haq
  have qmk46 : Mk 46 := True.intro
  obtain ⟨B, F, X, N, T, hk, hd, hu⟩ := H
  k_steps
  rename News _ _ _ _ => NS
  rename Fr _ _ _ _ => FS
  refine Hold.mk ?_
  have hSI : @Ne Nat S I := hoff _ (.head _)
  have hoffS : ∀ o : Obj, ∀ p ∈ (S, o) :: Z, p.1 ≠ I := fun o p hp => by
    rcases List.mem_cons.mp hp with rfl | hp
    · exact hSI
    · exact hoff p (.tail _ hp)
  refine' law_section_ctc (S := S) (C := C) (rest := (I, oI) :: Z) ?H7 ?P7 ?C7 hcI ?n7 ?z7 ?_
  case H7 => walk_at "my here"
  case P7 => walk_at "my pull"
  case C7 => exact .tail _ hCz
  case n7 => omega
  case z7 => omega
  intro tup na p k names pv pp tt j u h9 tk9 nw l jl F10 N10 ne9 sub9 tne9
  obtain ⟨hp4, hk9, ⟨ia, inn, hma, hst0⟩, hnl, hnn, hnm, hpv, hpp⟩ := l
  obtain ⟨its, rfl⟩ : ∃ its : List Value, ia = its.toArray := ⟨ia.toList, by simp⟩
  have hst : StrsAre its names := by simpa using hst0
  clear hst0
  have hsl2 := strsAre_len hst
  have hIn : (I, oI) ∈ nw := sub9 _ (.head _)
  have sZ : ∀ q ∈ Z, q ∈ nw := fun q hq => sub9 q (.tail _ hq)
  have hCn := sZ _ hCz
  have hSn := sZ _ hSz
  have hRn := sZ _ hRz
  have hLx := hLz.mono sZ
  have hPx := hP.mono sZ
  have hnl4 : names.length ≤ 4 := by omega
  have hk6 : k < 6 := by split at hk9 <;> omega
  obtain ⟨hA1, hA2, hA3⟩ := name_facts hnm
  have hpz : ∀ i k, pp = some (i, k) → i < 100 := fun i k e => by have := hpp i k e; omega
  have hshl := show_len (names := names) hp4 hk6 hnl4 hA3 hpz
  have hpvh : handedIn pv = true := by
    rcases pp with _ | ⟨i, j⟩
    · obtain rfl : pv = .none := hpv
      rfl
    · obtain ⟨a, t, u, n, rfl, hm⟩ := hpv
      rfl
  clear NS FS hCz hSz hRz hLz hP
  have hls : LSec0 := True.intro
  (try dsimp only)
  k_steps
  rename News _ _ _ _ => NT
  rename Fr _ _ _ _ => FT
  rename (OctV _ _) => hO
  refine Hold.mk ?_
  have hobz := octB_size M (names := names) (path := p) (k := k)
  refine cut_due (o := cutB (octB rs body names p k) pp) FT NT ?_ ?_
  · have hdm : DueMark := True.intro
    generalize octB rs body names p k = ob at hO hobz ⊢
    rcases ob with _ | ob
    · have hO2 := hO
      obtain rfl := hO
      k_steps
      refine DueOr.mk (by assumption) (by assumption) rfl ?_
      rcases pp with _ | ⟨i, j⟩ <;> rfl
    · obtain ⟨ot, rfl⟩ := hO
      have hob := hobz ob rfl
      rcases pp with _ | ⟨pi, pj⟩
      · obtain rfl : pv = .none := hpv
        k_steps
        exact DueOr.mk (by assumption) (by assumption) rfl ⟨_, rfl⟩
      · obtain ⟨pa, pt, pu, pn, rfl, pm⟩ := hpv
        k_steps
        exact due_mk2 (by assumption) (by assumption) ⟨_, rfl⟩
  · intro v' h11 tk11 F11 N11 hO11
    clear hO FT NT
    k_steps
    refine' TurnEnd.mk (nw := (S, srcO C (aq + (j : Nat) + 1) ?ta 0) :: Z) ?Fa ?Na (hoffS _) ?sa ⟨_, _, ?_, ?_, rfl, ?_⟩
    case Fa => assumption
    case Na => assumption
    case sa => walk_at "my sub"
    · omega
    · omega
    · intro y hy
      simp only [List.mem_cons, List.not_mem_nil, or_false, not_or] at hy
      simp [hy]
section
variable {w : World} {mean : ExcName → Option Value} {mg mb : Str → Option Value} {dp un : Nat} {gd : Option (List Code)} {cn : Str} {cs : Scope} {a : Addr} {ccd : Value} {cl : List (Str × Addr)} {outer : List Env} {A₀ : Around} {base h₀ : Heap} {L : Addr} {m : Str → Option Value} {news : List (Addr × Obj)} {s : Shared} {Q E : Value → Shared → Prop}
theorem turn2 {R : Flow → Shared → Prop} {v : Value} {I S C ra lx px : Addr} {oI oS : Obj} {aq : Int} {tq bt : Tok} {Z : List (Addr × Obj)} {vs ys : List Value} {ns : List Int} {nn : Nat} {rs : List Nat} {fs : List Str} {body d : Array UInt8} {uid inst mod b e : Int} (H : Here w mean mg mb 60 dp un s614 outer A₀ base h₀ L (fun y => if y = Str.ofString "turn" then some v else if y = Str.ofString "rows" then some (.ref ra) else if y = Str.ofString "body" then some (.bytes body bt) else if y = Str.ofString "letter" then some (.ref lx) else if y = Str.ofString "part" then some (.ref px) else m y) ((I, oI) :: (S, srcO C aq tq 0) :: Z) s) (hcI : IntsAre vs ns) (hcl : 0 < ns.length ∧ ns.length ≤ 63) (hCz : (C, listOf vs.toArray nn) ∈ Z) (hSz : (L + 1, oS) ∈ Z) (hoS : oS.data = .cell (some (.ref S))) (hRz : (ra, lst ys) ∈ Z) (hys : IntsAre ys (rs.map fun r : Nat => (r : Int))) (hLz : LetIn Z lx uid d fs inst mod) (hP : PartIn Z px b e) (M : Made rs body d b e) (hr5 : ∀ r ∈ rs, r < 5) (hrs4 : rs.length ≤ 4) (hbd : body.size ≤ 100) (hoff : ∀ p ∈ (S, srcO C aq tq 0) :: Z, p.1 ≠ I) (hZne : ∀ p ∈ Z, p.1 ≠ S) (haq : 0 ≤ aq ∧ aq ≤ 5000) :
   wpAny (model PG w) (ktrTop dp un gd (Str.ofString "law") s614 L a ccd [(Str.ofString "source", L + 1)] outer) (execs lB12 (envX (Str.ofString "law") s614 L a ccd [(Str.ofString "source", L + 1)])) (TurnEnd h₀ L I oI (fun m₂ nw => ∃ aq' tq', 0 ≤ aq' ∧ aq' ≤ aq + 20 ∧ nw = (S, srcO C aq' tq' 0) :: Z ∧ ∀ y, y ∉ [Str.ofString "turn", Str.ofString "path", Str.ofString "word", Str.ofString "names", Str.ofString "partial", Str.ofString "due", Str.ofString "item"] → m₂ y = (fun y => if y = Str.ofString "turn" then some v else if y = Str.ofString "rows" then some (.ref ra) else if y = Str.ofString "body" then some (.bytes body bt) else if y = Str.ofString "letter" then some (.ref lx) else if y = Str.ofString "part" then some (.ref px) else m y) y) s R) E s :=
  (hkf _ turn2_core (⟨w, mean, mg, mb, dp, un, gd, cx0.cn, cx0.cs, a, ccd, cx0.cl, outer, A₀, base, h₀, L, m, cx0.news, s, cx0.Q, E⟩, R, v, I, S, C, ra, lx, px, oI, oS, aq, tq, bt, Z, vs, ys, ns, nn, rs, fs, body, d, uid, inst, mod, b, e) : PTurn2 (⟨w, mean, mg, mb, dp, un, gd, cx0.cn, cx0.cs, a, ccd, cx0.cl, outer, A₀, base, h₀, L, m, cx0.news, s, cx0.Q, E⟩, R, v, I, S, C, ra, lx, px, oI, oS, aq, tq, bt, Z, vs, ys, ns, nn, rs, fs, body, d, uid, inst, mod, b, e)) H hcI hcl hCz hSz hoS hRz hys hLz hP M hr5 hrs4 hbd hoff hZne haq
end
end
end
section
section
variable {w : World} {mean : ExcName → Option Value} {mg mb : Str → Option Value} {dp un : Nat} {gd : Option (List Code)} {cn : Str} {cs : Scope} {a : Addr} {ccd : Value} {cl : List (Str × Addr)} {outer : List Env} {A₀ : Around} {base h₀ : Heap} {L : Addr} {m : Str → Option Value} {news : List (Addr × Obj)} {s : Shared} {Q E : Value → Shared → Prop}
theorem fr6 {h : Heap} {mm : Str → Option Value} {x1 x2 x3 x4 x5 x6 : Str} {v1 v2 v3 v4 v5 v6 : Option Value} (F : Fr h₀ L h mm) (e1 : mm x1 = v1) (e2 : mm x2 = v2) (e3 : mm x3 = v3) (e4 : mm x4 = v4) (e5 : mm x5 = v5) (e6 : mm x6 = v6) :
    Fr h₀ L h (fun y => if y = x1 then v1 else if y = x2 then v2 else if y = x3 then v3 else if y = x4 then v4 else if y = x5 then v5 else if y = x6 then v6 else mm y) := by
  have e : mm = fun y => if y = x1 then v1 else if y = x2 then v2 else if y = x3 then v3 else if y = x4 then v4 else if y = x5 then v5 else if y = x6 then v6 else mm y := by
    funext y
    split
    · subst_vars; rfl
    split
    · subst_vars; rfl
    split
    · subst_vars; rfl
    split
    · subst_vars; rfl
    split
    · subst_vars; rfl
    split
    · subst_vars; rfl
    rfl
  exact e ▸ F
theorem map5 {mm : Str → Option Value} {x1 x2 x3 x4 x5 : Str} {v1 v2 v3 v4 v5 : Option Value} (e1 : mm x1 = v1) (e2 : mm x2 = v2) (e3 : mm x3 = v3) (e4 : mm x4 = v4) (e5 : mm x5 = v5) :
    mm = fun y => if y = x1 then v1 else if y = x2 then v2 else if y = x3 then v3 else if y = x4 then v4 else if y = x5 then v5 else mm y := by
  funext y
  split
  · subst_vars; rfl
  split
  · subst_vars; rfl
  split
  · subst_vars; rfl
  split
  · subst_vars; rfl
  split
  · subst_vars; rfl
  rfl
theorem turnEnd_mono {I : Addr} {oI : Obj} {J J' : (Str → Option Value) → List (Addr × Obj) → Prop} {s₁ s₂ : Shared} {R : Flow → Shared → Prop} {f : Flow} (hJ : ∀ m nw, J m nw → J' m nw) (h : TurnEnd h₀ L I oI J s₁ R f s₂) : TurnEnd h₀ L I oI J' s₁ R f s₂ := by
  cases f with
  | ret v => exact h
  | brk => exact h
  | next => obtain ⟨h', tk', m₂, nw', rfl, F₂, N₂, off₂, q⟩ := h; exact ⟨h', tk', m₂, nw', rfl, F₂, N₂, off₂, hJ _ _ q⟩
  | cont => obtain ⟨h', tk', m₂, nw', rfl, F₂, N₂, off₂, q⟩ := h; exact ⟨h', tk', m₂, nw', rfl, F₂, N₂, off₂, hJ _ _ q⟩
end
section
theorem reg_all70 : True := by
  k_with "call ref" => (((fail_if_success (fail_if_success (have qz9 : Mk 48 := by with_reducible assumption))); (k_here; (with_reducible show wpAny _ _ (call (Value.ref 472) [_, _, _]) _ _ _); k_dflt (refine' pair_rfc_ctc (by first | (walk_at "my here") | fail) (by assumption) (by first | (first | assumption | exact PartIn.mono (by assumption) (by first | (walk_at "my sub") | fail)) | fail) (by first | (first | assumption | exact LetIn.mono (by assumption) (by first | (walk_at "my sub") | fail)) | fail) (by first | (k_mem) | fail) (by omega) (by rfl) ?_; k_whole); intro qtp9 qt9 qv9 qh9 qtk9 qF9 qN9 qO9 ql9; (try dsimp only); (try k_sweep); (try k_fold))))
  k_with "compareOp NotEq ref ref" => (((fail_if_success (fail_if_success (have qz9 : Mk 48 := by with_reducible assumption))); (k_here; (with_reducible show wpAny _ _ (compareOp CmpOp.NotEq (Value.ref _) (Value.ref _)) _ _ _); k_dflt (refine' pair_ne_same (by first | (exact News.isTup (by k_asm) (by first | (k_mem) | fail)) | fail) (by first | (exact News.isTup (by k_asm) (by first | (k_mem) | fail)) | fail) (by first | (first | exact nameR_pos (by assumption) | exact nameR_zero (by assumption)) | fail) (by assumption) (by assumption) (by first | (ktr_units) | fail) ?_; k_whole))))
  k_with "compareOp NotEq str str" => (((fail_if_success (fail_if_success (have qz9 : Mk 48 := by with_reducible assumption))); (k_here; (with_reducible show wpAny _ _ (compareOp CmpOp.NotEq (Value.str (wordS _) _) (Value.str _ _)) _ _ _); k_dflt (refine' word_ne0 (by omega) ?_; k_whole))))
  trivial
def PTurn1 (z9 : Cx × (Flow → Shared → Prop) × (Addr) × (Addr) × (Addr) × (Addr) × (Obj) × (Nat) × (Str) × (Array UInt8) × (List Nat) × (Array UInt8) × (Array UInt8) × (Int) × (Int) × (Int) × (Int) × (Int) × (List Str) × (Tok) × (Tok) × (Nat)) : Prop := (fun (w : World) (mean : ExcName → Option Value) (mg : Str → Option Value) (mb : Str → Option Value) (dp : Nat) (un : Nat) (gd : Option (List Code)) (a : Addr) (ccd : Value) (outer : List Env) (A₀ : Around) (base : Heap) (h₀ : Heap) (L : Addr) (m : Str → Option Value) (news : List (Addr × Obj)) (s : Shared) (E : Value → Shared → Prop) (R : Flow → Shared → Prop) (I : Addr) (lx : Addr) (px : Addr) (tp : Addr) (oI : Obj) (k : Nat) (word : Str) (due : Array UInt8) (rs : List Nat) (body : Array UInt8) (d : Array UInt8) (b : Int) (e : Int) (uid : Int) (inst : Int) (mod : Int) (fs : List Str) (t1 : Tok) (t2 : Tok) (n : Nat) => ∀ (H : Here w mean mg mb 60 dp un s614 outer A₀ base h₀ L (fun y => if y = Str.ofString "part" then some (.ref px) else if y = Str.ofString "letter" then some (.ref lx) else m y) ((I, oI) :: news) s) (hw : word = wordS k) (hk3 : k < 3) (hdue : octB rs body [] 0 k = some due) (hT : (tp, ({ cls := .type "tuple", data := .seq #[.str word t1, .bytes due t2] n } : Obj)) ∈ news) (M : Made rs body d b e) (hP : PartIn news px b e) (hL : LetIn news lx uid d fs inst mod) (off : ∀ p ∈ news, p.1 ≠ I), wpAny (model PG w) (ktrTop dp un gd (Str.ofString "law") s614 L a ccd [(Str.ofString "source", L + 1)] outer) (assign lT11 (envX (Str.ofString "law") s614 L a ccd [(Str.ofString "source", L + 1)]) (.ref tp)) (fun _ s₃ => wpAny (model PG w) (ktrTop dp un gd (Str.ofString "law") s614 L a ccd [(Str.ofString "source", L + 1)] outer) (execs lB11 (envX (Str.ofString "law") s614 L a ccd [(Str.ofString "source", L + 1)])) (TurnEnd h₀ L I oI (fun m₂ nw => nw = news ∧ ∀ y, y ∉ [Str.ofString "word", Str.ofString "due", Str.ofString "title"] → m₂ y = (fun y => if y = Str.ofString "part" then some (.ref px) else if y = Str.ofString "letter" then some (.ref lx) else m y) y) s R) E s₃) E s) (z9.1.w) (z9.1.mean) (z9.1.mg) (z9.1.mb) (z9.1.dp) (z9.1.un) (z9.1.gd) (z9.1.a) (z9.1.ccd) (z9.1.outer) (z9.1.A₀) (z9.1.base) (z9.1.h₀) (z9.1.L) (z9.1.m) (z9.1.news) (z9.1.s) (z9.1.E) (z9.2.1) (z9.2.2.1) (z9.2.2.2.1) (z9.2.2.2.2.1) (z9.2.2.2.2.2.1) (z9.2.2.2.2.2.2.1) (z9.2.2.2.2.2.2.2.1) (z9.2.2.2.2.2.2.2.2.1) (z9.2.2.2.2.2.2.2.2.2.1) (z9.2.2.2.2.2.2.2.2.2.2.1) (z9.2.2.2.2.2.2.2.2.2.2.2.1) (z9.2.2.2.2.2.2.2.2.2.2.2.2.1) (z9.2.2.2.2.2.2.2.2.2.2.2.2.2.1) (z9.2.2.2.2.2.2.2.2.2.2.2.2.2.2.1) (z9.2.2.2.2.2.2.2.2.2.2.2.2.2.2.2.1) (z9.2.2.2.2.2.2.2.2.2.2.2.2.2.2.2.2.1) (z9.2.2.2.2.2.2.2.2.2.2.2.2.2.2.2.2.2.1) (z9.2.2.2.2.2.2.2.2.2.2.2.2.2.2.2.2.2.2.1) (z9.2.2.2.2.2.2.2.2.2.2.2.2.2.2.2.2.2.2.2.1) (z9.2.2.2.2.2.2.2.2.2.2.2.2.2.2.2.2.2.2.2.2.1) (z9.2.2.2.2.2.2.2.2.2.2.2.2.2.2.2.2.2.2.2.2.2)
set_option maxHeartbeats 2000000 in
theorem turn1_core : PTurn1 (hkm (⟨(cx0, default, default, default, default, default, default, default, default, default, default, default, default, default, default, default, default, default, default, default, default, default)⟩ : Nonempty (Cx × (Flow → Shared → Prop) × (Addr) × (Addr) × (Addr) × (Addr) × (Obj) × (Nat) × (Str) × (Array UInt8) × (List Nat) × (Array UInt8) × (Array UInt8) × (Int) × (Int) × (Int) × (Int) × (Int) × (List Str) × (Tok) × (Tok) × (Nat))) PTurn1) := by
  generalize hkm _ _ = z9
  delta PTurn1
  generalize z9.1.w = w, z9.1.mean = mean, z9.1.mg = mg, z9.1.mb = mb, z9.1.dp = dp, z9.1.un = un, z9.1.gd = gd, z9.1.a = a, z9.1.ccd = ccd, z9.1.outer = outer, z9.1.A₀ = A₀, z9.1.base = base, z9.1.h₀ = h₀, z9.1.L = L, z9.1.m = m, z9.1.news = news, z9.1.s = s, z9.1.E = E, z9.2.1 = R, z9.2.2.1 = I, z9.2.2.2.1 = lx, z9.2.2.2.2.1 = px, z9.2.2.2.2.2.1 = tp, z9.2.2.2.2.2.2.1 = oI, z9.2.2.2.2.2.2.2.1 = k, z9.2.2.2.2.2.2.2.2.1 = word, z9.2.2.2.2.2.2.2.2.2.1 = due, z9.2.2.2.2.2.2.2.2.2.2.1 = rs, z9.2.2.2.2.2.2.2.2.2.2.2.1 = body, z9.2.2.2.2.2.2.2.2.2.2.2.2.1 = d, z9.2.2.2.2.2.2.2.2.2.2.2.2.2.1 = b, z9.2.2.2.2.2.2.2.2.2.2.2.2.2.2.1 = e, z9.2.2.2.2.2.2.2.2.2.2.2.2.2.2.2.1 = uid, z9.2.2.2.2.2.2.2.2.2.2.2.2.2.2.2.2.1 = inst, z9.2.2.2.2.2.2.2.2.2.2.2.2.2.2.2.2.2.1 = mod, z9.2.2.2.2.2.2.2.2.2.2.2.2.2.2.2.2.2.2.1 = fs, z9.2.2.2.2.2.2.2.2.2.2.2.2.2.2.2.2.2.2.2.1 = t1, z9.2.2.2.2.2.2.2.2.2.2.2.2.2.2.2.2.2.2.2.2.1 = t2, z9.2.2.2.2.2.2.2.2.2.2.2.2.2.2.2.2.2.2.2.2.2 = n
  clear z9
  intros H hw hk3 hdue hT M hP hL off
  have qmk48 : Mk 48 := True.intro
  subst hw
  have hPx : PartIn ((I, oI) :: news) px b e := hP.mono fun p hp => .tail _ hp
  have hLx : LetIn ((I, oI) :: news) lx uid d fs inst mod := hL.mono fun p hp => .tail _ hp
  have hwl := word_len k
  have hv : OctV (octB rs body [] 0 k) (.bytes due t2) := by rw [hdue]; exact ⟨_, rfl⟩
  clear hP hL
  obtain ⟨B, F, X, N, T, hk, hd, hu⟩ := H
  k_steps
  all_goals exact TurnEnd.mk (by assumption) (by assumption) off (by walk_at "my sub") ⟨rfl, fun y hy => by simp only [List.mem_cons, List.not_mem_nil, or_false, not_or] at hy; simp [hy]⟩
section
variable {w : World} {mean : ExcName → Option Value} {mg mb : Str → Option Value} {dp un : Nat} {gd : Option (List Code)} {cn : Str} {cs : Scope} {a : Addr} {ccd : Value} {cl : List (Str × Addr)} {outer : List Env} {A₀ : Around} {base h₀ : Heap} {L : Addr} {m : Str → Option Value} {news : List (Addr × Obj)} {s : Shared} {Q E : Value → Shared → Prop}
theorem turn1 {R : Flow → Shared → Prop} {I lx px tp : Addr} {oI : Obj} {k : Nat} {word : Str} {due : Array UInt8} {rs : List Nat} {body d : Array UInt8} {b e uid inst mod : Int} {fs : List Str} {t1 t2 : Tok} {n : Nat} (H : Here w mean mg mb 60 dp un s614 outer A₀ base h₀ L (fun y => if y = Str.ofString "part" then some (.ref px) else if y = Str.ofString "letter" then some (.ref lx) else m y) ((I, oI) :: news) s) (hw : word = wordS k) (hk3 : k < 3) (hdue : octB rs body [] 0 k = some due) (hT : (tp, ({ cls := .type "tuple", data := .seq #[.str word t1, .bytes due t2] n } : Obj)) ∈ news) (M : Made rs body d b e) (hP : PartIn news px b e) (hL : LetIn news lx uid d fs inst mod) (off : ∀ p ∈ news, p.1 ≠ I) :
   wpAny (model PG w) (ktrTop dp un gd (Str.ofString "law") s614 L a ccd [(Str.ofString "source", L + 1)] outer) (assign lT11 (envX (Str.ofString "law") s614 L a ccd [(Str.ofString "source", L + 1)]) (.ref tp)) (fun _ s₃ => wpAny (model PG w) (ktrTop dp un gd (Str.ofString "law") s614 L a ccd [(Str.ofString "source", L + 1)] outer) (execs lB11 (envX (Str.ofString "law") s614 L a ccd [(Str.ofString "source", L + 1)])) (TurnEnd h₀ L I oI (fun m₂ nw => nw = news ∧ ∀ y, y ∉ [Str.ofString "word", Str.ofString "due", Str.ofString "title"] → m₂ y = (fun y => if y = Str.ofString "part" then some (.ref px) else if y = Str.ofString "letter" then some (.ref lx) else m y) y) s R) E s₃) E s :=
  (hkf _ turn1_core (⟨w, mean, mg, mb, dp, un, gd, cx0.cn, cx0.cs, a, ccd, cx0.cl, outer, A₀, base, h₀, L, m, news, s, cx0.Q, E⟩, R, I, lx, px, tp, oI, k, word, due, rs, body, d, b, e, uid, inst, mod, fs, t1, t2, n) : PTurn1 (⟨w, mean, mg, mb, dp, un, gd, cx0.cn, cx0.cs, a, ccd, cx0.cl, outer, A₀, base, h₀, L, m, news, s, cx0.Q, E⟩, R, I, lx, px, tp, oI, k, word, due, rs, body, d, b, e, uid, inst, mod, fs, t1, t2, n)) H hw hk3 hdue hT M hP hL off
end
end
end
section
section
variable {w : World} {mean : ExcName → Option Value} {mg mb : Str → Option Value} {dp un : Nat} {gd : Option (List Code)} {cn : Str} {cs : Scope} {a : Addr} {ccd : Value} {cl : List (Str × Addr)} {outer : List Env} {A₀ : Around} {base h₀ : Heap} {L : Addr} {m : Str → Option Value} {news : List (Addr × Obj)} {s : Shared} {Q E : Value → Shared → Prop}
theorem headA_body0 {rs : List Nat} {body : Array UInt8} : octB rs body [] 0 0 = some (headA rs ++ body) := rfl
theorem headA_body1 {rs : List Nat} {body : Array UInt8} : octB rs body [] 0 1 = some (headA rs) := rfl
theorem headA_body2 {rs : List Nat} {body : Array UInt8} : octB rs body [] 0 2 = some body := rfl
end
section
theorem reg_all71 : True := by
  k_with "pyIter ref" => (((fail_if_success (fail_if_success (have qz9 : Mk 50 := by with_reducible assumption))); (refine Hold.out ?_)))
  k_with "exec For Tuple Tuple cons nil" => (((fail_if_success (fail_if_success (have qz9 : Mk 50 := by with_reducible assumption))); (refine Hold.out ?_)))
  trivial
def PTail11 (z9 : Cx × (Flow → Shared → Prop) × (Addr) × (Addr) × (Addr) × (Addr) × (Addr) × (Obj) × (Int) × (Tok) × (Tok) × (Tok) × (List (Addr × Obj)) × (List Value) × (List Value) × (List Int) × (Nat) × (List Nat) × (List Str) × (Array UInt8) × (Array UInt8) × (Int) × (Int) × (Int) × (Int) × (Int)) : Prop := (fun (w : World) (mean : ExcName → Option Value) (mg : Str → Option Value) (mb : Str → Option Value) (dp : Nat) (un : Nat) (gd : Option (List Code)) (a : Addr) (ccd : Value) (outer : List Env) (A₀ : Around) (base : Heap) (h₀ : Heap) (L : Addr) (m : Str → Option Value) (s : Shared) (E : Value → Shared → Prop) (R : Flow → Shared → Prop) (S : Addr) (C : Addr) (ra : Addr) (lx : Addr) (px : Addr) (oS : Obj) (aq : Int) (tq : Tok) (tb : Tok) (th : Tok) (Z : List (Addr × Obj)) (vs : List Value) (ys : List Value) (ns : List Int) (nn : Nat) (rs : List Nat) (fs : List Str) (body : Array UInt8) (d : Array UInt8) (b : Int) (e : Int) (uid : Int) (inst : Int) (mod : Int) => ∀ (hPO : PassesOwn (model PG w) (ktrTop dp un gd (Str.ofString "law") s614 L a ccd [(Str.ofString "source", L + 1)] outer) (envX (Str.ofString "law") s614 L a ccd [(Str.ofString "source", L + 1)]) E) (H : Here w mean mg mb 65 dp un s614 outer A₀ base h₀ L (fun y => if y = Str.ofString "part" then some (.ref px) else if y = Str.ofString "letter" then some (.ref lx) else if y = Str.ofString "rows" then some (.ref ra) else if y = Str.ofString "head" then some (.bytes (headA rs) th) else if y = Str.ofString "body" then some (.bytes body tb) else m y) ((S, srcO C aq tq 0) :: Z) s) (hcI : IntsAre vs ns) (hcl : 0 < ns.length ∧ ns.length ≤ 63) (hCz : (C, listOf vs.toArray nn) ∈ Z) (hSz : (L + 1, oS) ∈ Z) (hoS : oS.data = .cell (some (.ref S))) (hRz : (ra, lst ys) ∈ Z) (hys : IntsAre ys (rs.map fun r : Nat => (r : Int))) (hLz : LetIn Z lx uid d fs inst mod) (hP : PartIn Z px b e) (M : Made rs body d b e) (hsz9 : (headA rs).size ≤ 100) (hZne : ∀ p ∈ Z, p.1 ≠ S) (haq : 0 ≤ aq ∧ aq ≤ 160) (ret : ∀ h' tk' mm, Fr h₀ L h' mm → R (.ret (.bool true)) { s with heap := h', toks := tk' }), wpAny (model PG w) (ktrTop dp un gd (Str.ofString "law") s614 L a ccd [(Str.ofString "source", L + 1)] outer) (execs lD11 (envX (Str.ofString "law") s614 L a ccd [(Str.ofString "source", L + 1)])) R E s) (z9.1.w) (z9.1.mean) (z9.1.mg) (z9.1.mb) (z9.1.dp) (z9.1.un) (z9.1.gd) (z9.1.a) (z9.1.ccd) (z9.1.outer) (z9.1.A₀) (z9.1.base) (z9.1.h₀) (z9.1.L) (z9.1.m) (z9.1.s) (z9.1.E) (z9.2.1) (z9.2.2.1) (z9.2.2.2.1) (z9.2.2.2.2.1) (z9.2.2.2.2.2.1) (z9.2.2.2.2.2.2.1) (z9.2.2.2.2.2.2.2.1) (z9.2.2.2.2.2.2.2.2.1) (z9.2.2.2.2.2.2.2.2.2.1) (z9.2.2.2.2.2.2.2.2.2.2.1) (z9.2.2.2.2.2.2.2.2.2.2.2.1) (z9.2.2.2.2.2.2.2.2.2.2.2.2.1) (z9.2.2.2.2.2.2.2.2.2.2.2.2.2.1) (z9.2.2.2.2.2.2.2.2.2.2.2.2.2.2.1) (z9.2.2.2.2.2.2.2.2.2.2.2.2.2.2.2.1) (z9.2.2.2.2.2.2.2.2.2.2.2.2.2.2.2.2.1) (z9.2.2.2.2.2.2.2.2.2.2.2.2.2.2.2.2.2.1) (z9.2.2.2.2.2.2.2.2.2.2.2.2.2.2.2.2.2.2.1) (z9.2.2.2.2.2.2.2.2.2.2.2.2.2.2.2.2.2.2.2.1) (z9.2.2.2.2.2.2.2.2.2.2.2.2.2.2.2.2.2.2.2.2.1) (z9.2.2.2.2.2.2.2.2.2.2.2.2.2.2.2.2.2.2.2.2.2.1) (z9.2.2.2.2.2.2.2.2.2.2.2.2.2.2.2.2.2.2.2.2.2.2.1) (z9.2.2.2.2.2.2.2.2.2.2.2.2.2.2.2.2.2.2.2.2.2.2.2.1) (z9.2.2.2.2.2.2.2.2.2.2.2.2.2.2.2.2.2.2.2.2.2.2.2.2.1) (z9.2.2.2.2.2.2.2.2.2.2.2.2.2.2.2.2.2.2.2.2.2.2.2.2.2)
set_option maxHeartbeats 2000000 in
theorem tail11_core : PTail11 (hkm (⟨(cx0, default, default, default, default, default, default, default, default, default, default, default, default, default, default, default, default, default, default, default, default, default, default, default, default, default)⟩ : Nonempty (Cx × (Flow → Shared → Prop) × (Addr) × (Addr) × (Addr) × (Addr) × (Addr) × (Obj) × (Int) × (Tok) × (Tok) × (Tok) × (List (Addr × Obj)) × (List Value) × (List Value) × (List Int) × (Nat) × (List Nat) × (List Str) × (Array UInt8) × (Array UInt8) × (Int) × (Int) × (Int) × (Int) × (Int))) PTail11) := by
  generalize hkm _ _ = z9
  delta PTail11
  generalize z9.1.w = w, z9.1.mean = mean, z9.1.mg = mg, z9.1.mb = mb, z9.1.dp = dp, z9.1.un = un, z9.1.gd = gd, z9.1.a = a, z9.1.ccd = ccd, z9.1.outer = outer, z9.1.A₀ = A₀, z9.1.base = base, z9.1.h₀ = h₀, z9.1.L = L, z9.1.m = m, z9.1.s = s, z9.1.E = E, z9.2.1 = R, z9.2.2.1 = S, z9.2.2.2.1 = C, z9.2.2.2.2.1 = ra, z9.2.2.2.2.2.1 = lx, z9.2.2.2.2.2.2.1 = px, z9.2.2.2.2.2.2.2.1 = oS, z9.2.2.2.2.2.2.2.2.1 = aq, z9.2.2.2.2.2.2.2.2.2.1 = tq, z9.2.2.2.2.2.2.2.2.2.2.1 = tb, z9.2.2.2.2.2.2.2.2.2.2.2.1 = th, z9.2.2.2.2.2.2.2.2.2.2.2.2.1 = Z, z9.2.2.2.2.2.2.2.2.2.2.2.2.2.1 = vs, z9.2.2.2.2.2.2.2.2.2.2.2.2.2.2.1 = ys, z9.2.2.2.2.2.2.2.2.2.2.2.2.2.2.2.1 = ns, z9.2.2.2.2.2.2.2.2.2.2.2.2.2.2.2.2.1 = nn, z9.2.2.2.2.2.2.2.2.2.2.2.2.2.2.2.2.2.1 = rs, z9.2.2.2.2.2.2.2.2.2.2.2.2.2.2.2.2.2.2.1 = fs, z9.2.2.2.2.2.2.2.2.2.2.2.2.2.2.2.2.2.2.2.1 = body, z9.2.2.2.2.2.2.2.2.2.2.2.2.2.2.2.2.2.2.2.2.1 = d, z9.2.2.2.2.2.2.2.2.2.2.2.2.2.2.2.2.2.2.2.2.2.1 = b, z9.2.2.2.2.2.2.2.2.2.2.2.2.2.2.2.2.2.2.2.2.2.2.1 = e, z9.2.2.2.2.2.2.2.2.2.2.2.2.2.2.2.2.2.2.2.2.2.2.2.1 = uid, z9.2.2.2.2.2.2.2.2.2.2.2.2.2.2.2.2.2.2.2.2.2.2.2.2.1 = inst, z9.2.2.2.2.2.2.2.2.2.2.2.2.2.2.2.2.2.2.2.2.2.2.2.2.2 = mod
  clear z9
  intros hPO H hcI hcl hCz hSz hoS hRz hys hLz hP M hsz9 hZne haq ret
  have qmk50 : Mk 50 := True.intro
  obtain ⟨B, F, X, N, T, hk, hd, hu⟩ := H
  have hr5 := M.hr
  have hrs4 := M.hl
  have hbd := M.hb
  k_steps
  refine Hold.mk ?_
  (with_unfolding_all refine' For_turns F ?_)
  k_steps
  rename News _ _ _ _ => NE
  rename Fr _ _ _ _ => FE
  refine Hold.mk ?_
  have sZ : ∀ p ∈ Z, p ∈ (S, srcO C aq tq 0) :: Z := fun p hp => .tail _ hp
  refine loop_tup_b [Str.ofString "word", Str.ofString "due", Str.ofString "title"] rfl FE NE (.head _) ?_ ?_
  · intro i v m₁ I oI h tk hv hm1 off F9 N9
    have e2 := map2 (mm := m₁) (x1 := Str.ofString "part") (x2 := Str.ofString "letter") (v1 := some (.ref px)) (v2 := some (.ref lx)) ((hm1 _ (by decide)).trans rfl) ((hm1 _ (by decide)).trans rfl)
    rw [e2] at F9
    rcases i with _ | _ | _ | i
    · cases hv
      exact wpAny_mono (turn1 ⟨B, F9, X, N9, T, hk, by omega, by omega⟩ words_eq.1 (by decide) headA_body0 (by k_mem) M (hP.mono (by walk_at "my sub")) (hLz.mono (by walk_at "my sub")) off) (fun _ s₃ h₃ => wpAny_mono h₃ (fun f s₂ q => turnEnd_mono (fun mm nw h => ⟨h.1, fun y hy => (h.2 y hy).trans ((congrFun e2.symm y).trans (hm1 y hy))⟩) q) fun _ _ e => e) fun _ _ e => e
    · cases hv
      exact wpAny_mono (turn1 ⟨B, F9, X, N9, T, hk, by omega, by omega⟩ words_eq.2.1 (by decide) headA_body1 (by k_mem) M (hP.mono (by walk_at "my sub")) (hLz.mono (by walk_at "my sub")) off) (fun _ s₃ h₃ => wpAny_mono h₃ (fun f s₂ q => turnEnd_mono (fun mm nw h => ⟨h.1, fun y hy => (h.2 y hy).trans ((congrFun e2.symm y).trans (hm1 y hy))⟩) q) fun _ _ e => e) fun _ _ e => e
    · cases hv
      exact wpAny_mono (turn1 ⟨B, F9, X, N9, T, hk, by omega, by omega⟩ words_eq.2.2.1 (by decide) headA_body2 (by k_mem) M (hP.mono (by walk_at "my sub")) (hLz.mono (by walk_at "my sub")) off) (fun _ s₃ h₃ => wpAny_mono h₃ (fun f s₂ q => turnEnd_mono (fun mm nw h => ⟨h.1, fun y hy => (h.2 y hy).trans ((congrFun e2.symm y).trans (hm1 y hy))⟩) q) fun _ _ e => e) fun _ _ e => e
    · cases hv
  · intro h tk m₁ F9 N9 hm1
    rw [map_but3 hm1] at F9
    k_steps
    rename News _ _ _ _ => NG
    rename Fr _ _ _ _ => FG
    rename IsRange _ _ _ _ _ _ _ _ => RG
    refine Hold.mk ?_
    replace NG := cb_drop (news := (S, srcO C _ _ 0) :: Z) NG (by walk_at "my sub")
    refine loop_rng_s [Str.ofString "turn", Str.ofString "path", Str.ofString "word", Str.ofString "names", Str.ofString "partial", Str.ofString "due", Str.ofString "item"] rfl RG (by omega) FG NG (by omega) ?_ ?_
    · intro i v m₁ aq tq I oI h tk hm2 haq off F9 N9
      have e5 := map5 (mm := fun y => if y = Str.ofString "turn" then some v else m₁ y) (x1 := Str.ofString "turn") (x2 := Str.ofString "rows") (x3 := Str.ofString "body") (x4 := Str.ofString "letter") (x5 := Str.ofString "part") (v1 := some v) (v2 := some (.ref ra)) (v3 := some (.bytes body tb)) (v4 := some (.ref lx)) (v5 := some (.ref px)) rfl ((if_neg (by decide)).trans ((hm2 _ (by decide)).trans ((if_neg (by decide)).trans ((if_neg (by decide)).trans ((if_neg (by decide)).trans rfl))))) ((if_neg (by decide)).trans ((hm2 _ (by decide)).trans rfl)) ((if_neg (by decide)).trans ((hm2 _ (by decide)).trans rfl)) ((if_neg (by decide)).trans ((hm2 _ (by decide)).trans rfl))
      rw [e5] at F9
      refine wpAny_mono (turn2 ⟨B, F9, X, N9, T, hk, by omega, by omega⟩ hcI hcl hCz hSz hoS hRz hys hLz hP M hr5 hrs4 hbd off hZne haq) (fun f s₂ q => turnEnd_mono (fun mm nw h => ?_) q) fun _ _ e => e
      obtain ⟨aq', tq', q0, q1, e, hm⟩ := h
      exact ⟨aq', tq', q0, q1, e, fun y hy => (hm y hy).trans ((congrFun e5.symm y).trans ((if_neg fun h => hy (by rw [h]; exact List.mem_cons_self)).trans (hm2 y hy)))⟩
    · intro h tk m₁ aq tq F9 N9 hm2
      k_steps
      exact ret _ _ _ (by assumption)
section
variable {w : World} {mean : ExcName → Option Value} {mg mb : Str → Option Value} {dp un : Nat} {gd : Option (List Code)} {cn : Str} {cs : Scope} {a : Addr} {ccd : Value} {cl : List (Str × Addr)} {outer : List Env} {A₀ : Around} {base h₀ : Heap} {L : Addr} {m : Str → Option Value} {news : List (Addr × Obj)} {s : Shared} {Q E : Value → Shared → Prop}
theorem tail11 {R : Flow → Shared → Prop} {S C ra lx px : Addr} {oS : Obj} {aq : Int} {tq tb th : Tok} {Z : List (Addr × Obj)} {vs ys : List Value} {ns : List Int} {nn : Nat} {rs : List Nat} {fs : List Str} {body d : Array UInt8} {b e uid inst mod : Int} (hPO : PassesOwn (model PG w) (ktrTop dp un gd (Str.ofString "law") s614 L a ccd [(Str.ofString "source", L + 1)] outer) (envX (Str.ofString "law") s614 L a ccd [(Str.ofString "source", L + 1)]) E) (H : Here w mean mg mb 65 dp un s614 outer A₀ base h₀ L (fun y => if y = Str.ofString "part" then some (.ref px) else if y = Str.ofString "letter" then some (.ref lx) else if y = Str.ofString "rows" then some (.ref ra) else if y = Str.ofString "head" then some (.bytes (headA rs) th) else if y = Str.ofString "body" then some (.bytes body tb) else m y) ((S, srcO C aq tq 0) :: Z) s) (hcI : IntsAre vs ns) (hcl : 0 < ns.length ∧ ns.length ≤ 63) (hCz : (C, listOf vs.toArray nn) ∈ Z) (hSz : (L + 1, oS) ∈ Z) (hoS : oS.data = .cell (some (.ref S))) (hRz : (ra, lst ys) ∈ Z) (hys : IntsAre ys (rs.map fun r : Nat => (r : Int))) (hLz : LetIn Z lx uid d fs inst mod) (hP : PartIn Z px b e) (M : Made rs body d b e) (hsz9 : (headA rs).size ≤ 100) (hZne : ∀ p ∈ Z, p.1 ≠ S) (haq : 0 ≤ aq ∧ aq ≤ 160) (ret : ∀ h' tk' mm, Fr h₀ L h' mm → R (.ret (.bool true)) { s with heap := h', toks := tk' }) :
   wpAny (model PG w) (ktrTop dp un gd (Str.ofString "law") s614 L a ccd [(Str.ofString "source", L + 1)] outer) (execs lD11 (envX (Str.ofString "law") s614 L a ccd [(Str.ofString "source", L + 1)])) R E s :=
  (hkf _ tail11_core (⟨w, mean, mg, mb, dp, un, gd, cx0.cn, cx0.cs, a, ccd, cx0.cl, outer, A₀, base, h₀, L, m, cx0.news, s, cx0.Q, E⟩, R, S, C, ra, lx, px, oS, aq, tq, tb, th, Z, vs, ys, ns, nn, rs, fs, body, d, b, e, uid, inst, mod) : PTail11 (⟨w, mean, mg, mb, dp, un, gd, cx0.cn, cx0.cs, a, ccd, cx0.cl, outer, A₀, base, h₀, L, m, cx0.news, s, cx0.Q, E⟩, R, S, C, ra, lx, px, oS, aq, tq, tb, th, Z, vs, ys, ns, nn, rs, fs, body, d, b, e, uid, inst, mod)) hPO H hcI hcl hCz hSz hoS hRz hys hLz hP M hsz9 hZne haq ret
end
end
end
section
section
variable {w : World} {mean : ExcName → Option Value} {mg mb : Str → Option Value} {dp un : Nat} {gd : Option (List Code)} {cn : Str} {cs : Scope} {a : Addr} {ccd : Value} {cl : List (Str × Addr)} {outer : List Env} {A₀ : Around} {base h₀ : Heap} {L : Addr} {m : Str → Option Value} {news : List (Addr × Obj)} {s : Shared} {Q E : Value → Shared → Prop}
theorem fr_map {h : Heap} {m1 m2 : Str → Option Value} (F : Fr h₀ L h m1) (e : m1 = m2) : Fr h₀ L h m2 := e ▸ F
theorem day_bound {n : Int} {r : Str} (h : (n, r) ∈ dayStrs) : -1 ≤ n ∧ n ≤ 20000 := by
  simp only [dayStrs, List.mem_cons, Prod.mk.injEq, List.not_mem_nil, or_false] at h
  rcases h with ⟨rfl, _⟩ | ⟨rfl, _⟩ | ⟨rfl, _⟩ | ⟨rfl, _⟩ | ⟨rfl, _⟩ <;> decide
end
section
theorem reg_all72 : True := by
  k_with "execs cons" => (((fail_if_success (fail_if_success (have qz9 : Mk 52 := by with_reducible assumption))); (k_here; (with_reducible show wpAny _ _ (execs (List.cons (Stmt.For (Expr.Tuple _ _ _) (Expr.Tuple _ _ _) _ _ _) _) _) _ _ _); (refine Hold.out ?_))))
  trivial
def PTail9 (z9 : Cx × (Flow → Shared → Prop) × (Addr) × (Addr) × (Addr) × (Addr) × (Obj) × (Int) × (Tok) × (Tok) × (Tok) × (Tok) × (Tok) × (List (Addr × Obj)) × (List Value) × (List Value) × (List Int) × (Nat) × (List Nat) × (List Str) × (Array UInt8) × (Str) × (Int) × (Int) × (Int) × (Int)) : Prop := (fun (w : World) (mean : ExcName → Option Value) (mg : Str → Option Value) (mb : Str → Option Value) (dp : Nat) (un : Nat) (gd : Option (List Code)) (a : Addr) (ccd : Value) (outer : List Env) (A₀ : Around) (base : Heap) (h₀ : Heap) (L : Addr) (m : Str → Option Value) (s : Shared) (E : Value → Shared → Prop) (R : Flow → Shared → Prop) (S : Addr) (C : Addr) (ra : Addr) (lx : Addr) (oS : Obj) (aq : Int) (tq : Tok) (tb : Tok) (td : Tok) (ts : Tok) (th : Tok) (Y : List (Addr × Obj)) (vs : List Value) (ys : List Value) (ns : List Int) (nn : Nat) (rs : List Nat) (fs : List Str) (body : Array UInt8) (day : Str) (days : Int) (sec : Int) (uid : Int) (mod : Int) => ∀ (hPO : PassesOwn (model PG w) (ktrTop dp un gd (Str.ofString "law") s614 L a ccd [(Str.ofString "source", L + 1)] outer) (envX (Str.ofString "law") s614 L a ccd [(Str.ofString "source", L + 1)]) E) (H : Here w mean mg mb 70 dp un s614 outer A₀ base h₀ L (fun y => if y = Str.ofString "letter" then some (.ref lx) else if y = Str.ofString "day" then some (.str day td) else if y = Str.ofString "second" then some (.int sec ts) else if y = Str.ofString "rows" then some (.ref ra) else if y = Str.ofString "head" then some (.bytes (headA rs) th) else if y = Str.ofString "body" then some (.bytes body tb) else m y) ((S, srcO C aq tq 0) :: Y) s) (hcI : IntsAre vs ns) (hcl : 0 < ns.length ∧ ns.length ≤ 63) (hCY : (C, listOf vs.toArray nn) ∈ Y) (hLY : (L + 1, oS) ∈ Y) (hoS : oS.data = .cell (some (.ref S))) (hRa : (ra, lst ys) ∈ Y) (hys : IntsAre ys (rs.map fun r : Nat => (r : Int))) (hL : LetIn Y lx uid (headA rs ++ body) fs (days * 86400 + sec) mod) (hfl : fs.length ≤ 3) (hdy : (days, day) ∈ dayStrs) (hsec : 0 ≤ sec ∧ sec < 86400) (hr5 : ∀ r ∈ rs, r < 5) (hrs4 : rs.length ≤ 4) (hbd : body.size ≤ 100) (hYne : ∀ p ∈ Y, p.1 ≠ S) (haq : 0 ≤ aq ∧ aq ≤ 150) (ret : ∀ h' tk' mm, Fr h₀ L h' mm → R (.ret (.bool true)) { s with heap := h', toks := tk' }), wpAny (model PG w) (ktrTop dp un gd (Str.ofString "law") s614 L a ccd [(Str.ofString "source", L + 1)] outer) (execs lD9 (envX (Str.ofString "law") s614 L a ccd [(Str.ofString "source", L + 1)])) R E s) (z9.1.w) (z9.1.mean) (z9.1.mg) (z9.1.mb) (z9.1.dp) (z9.1.un) (z9.1.gd) (z9.1.a) (z9.1.ccd) (z9.1.outer) (z9.1.A₀) (z9.1.base) (z9.1.h₀) (z9.1.L) (z9.1.m) (z9.1.s) (z9.1.E) (z9.2.1) (z9.2.2.1) (z9.2.2.2.1) (z9.2.2.2.2.1) (z9.2.2.2.2.2.1) (z9.2.2.2.2.2.2.1) (z9.2.2.2.2.2.2.2.1) (z9.2.2.2.2.2.2.2.2.1) (z9.2.2.2.2.2.2.2.2.2.1) (z9.2.2.2.2.2.2.2.2.2.2.1) (z9.2.2.2.2.2.2.2.2.2.2.2.1) (z9.2.2.2.2.2.2.2.2.2.2.2.2.1) (z9.2.2.2.2.2.2.2.2.2.2.2.2.2.1) (z9.2.2.2.2.2.2.2.2.2.2.2.2.2.2.1) (z9.2.2.2.2.2.2.2.2.2.2.2.2.2.2.2.1) (z9.2.2.2.2.2.2.2.2.2.2.2.2.2.2.2.2.1) (z9.2.2.2.2.2.2.2.2.2.2.2.2.2.2.2.2.2.1) (z9.2.2.2.2.2.2.2.2.2.2.2.2.2.2.2.2.2.2.1) (z9.2.2.2.2.2.2.2.2.2.2.2.2.2.2.2.2.2.2.2.1) (z9.2.2.2.2.2.2.2.2.2.2.2.2.2.2.2.2.2.2.2.2.1) (z9.2.2.2.2.2.2.2.2.2.2.2.2.2.2.2.2.2.2.2.2.2.1) (z9.2.2.2.2.2.2.2.2.2.2.2.2.2.2.2.2.2.2.2.2.2.2.1) (z9.2.2.2.2.2.2.2.2.2.2.2.2.2.2.2.2.2.2.2.2.2.2.2.1) (z9.2.2.2.2.2.2.2.2.2.2.2.2.2.2.2.2.2.2.2.2.2.2.2.2.1) (z9.2.2.2.2.2.2.2.2.2.2.2.2.2.2.2.2.2.2.2.2.2.2.2.2.2)
set_option maxHeartbeats 2000000 in
theorem tail9_core : PTail9 (hkm (⟨(cx0, default, default, default, default, default, default, default, default, default, default, default, default, default, default, default, default, default, default, default, default, default, default, default, default, default)⟩ : Nonempty (Cx × (Flow → Shared → Prop) × (Addr) × (Addr) × (Addr) × (Addr) × (Obj) × (Int) × (Tok) × (Tok) × (Tok) × (Tok) × (Tok) × (List (Addr × Obj)) × (List Value) × (List Value) × (List Int) × (Nat) × (List Nat) × (List Str) × (Array UInt8) × (Str) × (Int) × (Int) × (Int) × (Int))) PTail9) := by
  generalize hkm _ _ = z9
  delta PTail9
  generalize z9.1.w = w, z9.1.mean = mean, z9.1.mg = mg, z9.1.mb = mb, z9.1.dp = dp, z9.1.un = un, z9.1.gd = gd, z9.1.a = a, z9.1.ccd = ccd, z9.1.outer = outer, z9.1.A₀ = A₀, z9.1.base = base, z9.1.h₀ = h₀, z9.1.L = L, z9.1.m = m, z9.1.s = s, z9.1.E = E, z9.2.1 = R, z9.2.2.1 = S, z9.2.2.2.1 = C, z9.2.2.2.2.1 = ra, z9.2.2.2.2.2.1 = lx, z9.2.2.2.2.2.2.1 = oS, z9.2.2.2.2.2.2.2.1 = aq, z9.2.2.2.2.2.2.2.2.1 = tq, z9.2.2.2.2.2.2.2.2.2.1 = tb, z9.2.2.2.2.2.2.2.2.2.2.1 = td, z9.2.2.2.2.2.2.2.2.2.2.2.1 = ts, z9.2.2.2.2.2.2.2.2.2.2.2.2.1 = th, z9.2.2.2.2.2.2.2.2.2.2.2.2.2.1 = Y, z9.2.2.2.2.2.2.2.2.2.2.2.2.2.2.1 = vs, z9.2.2.2.2.2.2.2.2.2.2.2.2.2.2.2.1 = ys, z9.2.2.2.2.2.2.2.2.2.2.2.2.2.2.2.2.1 = ns, z9.2.2.2.2.2.2.2.2.2.2.2.2.2.2.2.2.2.1 = nn, z9.2.2.2.2.2.2.2.2.2.2.2.2.2.2.2.2.2.2.1 = rs, z9.2.2.2.2.2.2.2.2.2.2.2.2.2.2.2.2.2.2.2.1 = fs, z9.2.2.2.2.2.2.2.2.2.2.2.2.2.2.2.2.2.2.2.2.1 = body, z9.2.2.2.2.2.2.2.2.2.2.2.2.2.2.2.2.2.2.2.2.2.1 = day, z9.2.2.2.2.2.2.2.2.2.2.2.2.2.2.2.2.2.2.2.2.2.2.1 = days, z9.2.2.2.2.2.2.2.2.2.2.2.2.2.2.2.2.2.2.2.2.2.2.2.1 = sec, z9.2.2.2.2.2.2.2.2.2.2.2.2.2.2.2.2.2.2.2.2.2.2.2.2.1 = uid, z9.2.2.2.2.2.2.2.2.2.2.2.2.2.2.2.2.2.2.2.2.2.2.2.2.2 = mod
  clear z9
  intros hPO H hcI hcl hCY hLY hoS hRa hys hL hfl hdy hsec hr5 hrs4 hbd hYne haq ret
  have qmk52 : Mk 52 := True.intro
  obtain ⟨B, F, X, N, T, hk, hd, hu⟩ := H
  have hdb := day_bound hdy
  have hjo2 := rows_size rs
  have hsz9 : (headA rs).size ≤ 100 := by unfold headA; rw [Array.size_append]; show _ + 2 ≤ _; omega
  have hsz10 : (headA rs ++ body).size ≤ 200 := by rw [Array.size_append]; omega
  have hsz11 : (headA rs ++ body).size ≤ 1000 := by omega
  k_steps
  rename News _ _ _ _ => NC
  rename Fr _ _ _ _ => FC
  refine' pull_cut (S := S) NC ?PC fun Z hZ ND hZne => ?_
  case PC => walk_at "my pull"
  refine' have_part (Y := Z) ?hP9 fun px hpx hP => ?_
  case hP9 => rw [hZ]; exact ⟨_, _, _, _, _, _, _, _, _, _, _, _, _, _, _, _, _, _, _, _, _, _, _, _, _, _, by k_mem, by k_mem, by k_mem⟩
  subst hpx
  have sYZ : ∀ p ∈ Y, p ∈ Z := by rw [hZ]; walk_at "my sub"
  have M : Made rs body (headA rs ++ body) _ _ := ⟨rfl, hr5, hrs4, hbd, congrArg _ (headA_size rs), rfl⟩
  have FD := fr_map FC (map5 (x1 := Str.ofString "part") (x2 := Str.ofString "letter") (x3 := Str.ofString "rows") (x4 := Str.ofString "head") (x5 := Str.ofString "body") (v1 := some (.ref px)) (v2 := some (.ref lx)) (v3 := some (.ref ra)) (v4 := some (.bytes (headA rs) th)) (v5 := some (.bytes body tb)) rfl rfl rfl rfl rfl)
  refine Hold.mk ?_
  exact tail11 hPO ⟨B, FD, X, ND, T, hk, by omega, by omega⟩ hcI hcl (sYZ _ hCY) (sYZ _ hLY) hoS (sYZ _ hRa) hys (hL.mono sYZ) hP M hsz9 hZne (by omega) ret
section
variable {w : World} {mean : ExcName → Option Value} {mg mb : Str → Option Value} {dp un : Nat} {gd : Option (List Code)} {cn : Str} {cs : Scope} {a : Addr} {ccd : Value} {cl : List (Str × Addr)} {outer : List Env} {A₀ : Around} {base h₀ : Heap} {L : Addr} {m : Str → Option Value} {news : List (Addr × Obj)} {s : Shared} {Q E : Value → Shared → Prop}
theorem tail9 {R : Flow → Shared → Prop} {S C ra lx : Addr} {oS : Obj} {aq : Int} {tq tb td ts th : Tok} {Y : List (Addr × Obj)} {vs ys : List Value} {ns : List Int} {nn : Nat} {rs : List Nat} {fs : List Str} {body : Array UInt8} {day : Str} {days sec uid mod : Int} (hPO : PassesOwn (model PG w) (ktrTop dp un gd (Str.ofString "law") s614 L a ccd [(Str.ofString "source", L + 1)] outer) (envX (Str.ofString "law") s614 L a ccd [(Str.ofString "source", L + 1)]) E) (H : Here w mean mg mb 70 dp un s614 outer A₀ base h₀ L (fun y => if y = Str.ofString "letter" then some (.ref lx) else if y = Str.ofString "day" then some (.str day td) else if y = Str.ofString "second" then some (.int sec ts) else if y = Str.ofString "rows" then some (.ref ra) else if y = Str.ofString "head" then some (.bytes (headA rs) th) else if y = Str.ofString "body" then some (.bytes body tb) else m y) ((S, srcO C aq tq 0) :: Y) s) (hcI : IntsAre vs ns) (hcl : 0 < ns.length ∧ ns.length ≤ 63) (hCY : (C, listOf vs.toArray nn) ∈ Y) (hLY : (L + 1, oS) ∈ Y) (hoS : oS.data = .cell (some (.ref S))) (hRa : (ra, lst ys) ∈ Y) (hys : IntsAre ys (rs.map fun r : Nat => (r : Int))) (hL : LetIn Y lx uid (headA rs ++ body) fs (days * 86400 + sec) mod) (hfl : fs.length ≤ 3) (hdy : (days, day) ∈ dayStrs) (hsec : 0 ≤ sec ∧ sec < 86400) (hr5 : ∀ r ∈ rs, r < 5) (hrs4 : rs.length ≤ 4) (hbd : body.size ≤ 100) (hYne : ∀ p ∈ Y, p.1 ≠ S) (haq : 0 ≤ aq ∧ aq ≤ 150) (ret : ∀ h' tk' mm, Fr h₀ L h' mm → R (.ret (.bool true)) { s with heap := h', toks := tk' }) :
   wpAny (model PG w) (ktrTop dp un gd (Str.ofString "law") s614 L a ccd [(Str.ofString "source", L + 1)] outer) (execs lD9 (envX (Str.ofString "law") s614 L a ccd [(Str.ofString "source", L + 1)])) R E s :=
  (hkf _ tail9_core (⟨w, mean, mg, mb, dp, un, gd, cx0.cn, cx0.cs, a, ccd, cx0.cl, outer, A₀, base, h₀, L, m, cx0.news, s, cx0.Q, E⟩, R, S, C, ra, lx, oS, aq, tq, tb, td, ts, th, Y, vs, ys, ns, nn, rs, fs, body, day, days, sec, uid, mod) : PTail9 (⟨w, mean, mg, mb, dp, un, gd, cx0.cn, cx0.cs, a, ccd, cx0.cl, outer, A₀, base, h₀, L, m, cx0.news, s, cx0.Q, E⟩, R, S, C, ra, lx, oS, aq, tq, tb, td, ts, th, Y, vs, ys, ns, nn, rs, fs, body, day, days, sec, uid, mod)) hPO H hcI hcl hCY hLY hoS hRa hys hL hfl hdy hsec hr5 hrs4 hbd hYne haq ret
end
end
end
section
section
variable {w : World} {mean : ExcName → Option Value} {mg mb : Str → Option Value} {dp un : Nat} {gd : Option (List Code)} {cn : Str} {cs : Scope} {a : Addr} {ccd : Value} {cl : List (Str × Addr)} {outer : List Env} {A₀ : Around} {base h₀ : Heap} {L : Addr} {m : Str → Option Value} {news : List (Addr × Obj)} {s : Shared} {Q E : Value → Shared → Prop}
theorem news_ne {h : Heap} {l : List (Addr × Obj)} {x y : Addr} {o1 o2 : Obj} (N : News h₀ L h l) (h1 : (x, o1) ∈ l) (h2 : (y, o2) ∈ l) (e : o1.data ≠ o2.data) : x ≠ y := by
  rintro rfl
  have a := (N _ h1).1
  rw [(N _ h2).1] at a
  exact e (congrArg Obj.data (Option.some.inj a)).symm
theorem list_src0 {prog : Program} {A : Around} {env : Env} {elt : Expr} {x : Str} {scope : Scope} {cl : List (Str × Addr)} {Fin : Shared → List Value → List (Addr × Obj) → Prop} {ax : Addr} {vs : List Value} {n : Nat} (hh : A.handled = none) (F : Fr h₀ L s.heap m) (N : News h₀ L s.heap news) (hm : (ax, listOf vs.toArray n) ∈ news) (hz : vs.length ≤ 100)
   (k : ∀ g, CompRest prog w A h₀ L m env elt x scope cl { s with heap := g } (SrcAt h₀ ax vs.toArray) (fun i v => vs.toArray[i]? = some v) (Fin { s with heap := g }) vs.toArray.size 0 [] news) : LcU prog w A h₀ L m env elt x scope cl Fin (.ref ax) s :=
  ⟨vs.toArray.size, _, _, _, by rw [sizeLine_eq, List.size_toArray]; omega, srcM_list hh F N (.inr ⟨_, hm, rfl, _, rfl⟩), k⟩
theorem body_item {A : Around} {value slice : PySem.Expr} {T : Addr} {b0 b1 b2 b3 : Array UInt8} {t0 t1 t2 t3 u : Tok} {n k : Nat} (N : News h₀ L s.heap news) (hm : (T, ({ cls := .type "tuple", data := .seq #[.bytes b0 t0, .bytes b1 t1, .bytes b2 t2, .bytes b3 t3] n } : Obj)) ∈ news) (hz : b0.size ≤ 100 ∧ b1.size ≤ 100 ∧ b2.size ≤ 100 ∧ b3.size ≤ 100) (h1 : k < 4) (h : ∀ b t, b.size ≤ 100 → Q (.bytes b t) s)
    (hs : subscripted slice false (.ref T) (.int (k : Int) u) = operate [.ref T, .int (k : Int) u] (getItem (.ref T) (.int (k : Int) u)) := by with_unfolding_all rfl) :
    wpAny (model PG w) A (subscriptTail value slice (.ref T) (.int (k : Int) u)) Q E s := by
  obtain ⟨z0, z1, z2, z3⟩ := hz
  refine top_item (its := [_, _, _, _]) (News.isTup N hm) h1 (by simp) (fun v e => ?_) hs
  rcases k with _ | _ | _ | _ | k
  · cases e; exact h _ _ z0
  · cases e; exact h _ _ z1
  · cases e; exact h _ _ z2
  · cases e; exact h _ _ z3
  · omega
theorem flags_tup {h : Heap} (X : (KH w.params).In h) : ∃ (vs : List Value) (fl : List Str), IsTup h 570 vs.toArray ∧ StrsAre vs fl ∧ vs.length = 3 :=
  ⟨[_, _, _], _, ⟨_, X _ _ (by k_is), rfl, _, rfl⟩, .cons _ _ (.cons _ _ (.cons _ _ .nil)), rfl⟩
theorem name_head {R : Prop} {S : Addr} {o : Obj} {Y : List (Addr × Obj)} {h : Heap} (_N : News h₀ L h ((S, o) :: Y)) (k : ∀ S', S' = S → R) : R := k S rfl
def CellsOr (h₀ : Heap) (L : Addr) (m : Str → Option Value) (NW : List (Addr × Obj)) (s : Shared) (v : Value) (s' : Shared) : Prop := ∃ C vs zs nn h' tk', v = .ref C ∧ s' = { s with heap := h', toks := tk' } ∧ Fr h₀ L h' m ∧ News h₀ L h' ((C, listOf vs.toArray nn) :: NW) ∧ IntsAre vs zs ∧ (0 < zs.length ∧ zs.length ≤ 63)
theorem CellsOr.mk {C : Addr} {vs : List Value} {zs : List Int} {nn : Nat} {h' : Heap} {tk' : Nat} {NW all : List (Addr × Obj)} (F : Fr h₀ L h' m) (N : News h₀ L h' all) (hs : ∀ p ∈ (C, listOf vs.toArray nn) :: NW, p ∈ all) (hz : IntsAre vs zs) (hl : 0 < zs.length ∧ zs.length ≤ 63) : CellsOr h₀ L m NW s (.ref C) { s with heap := h', toks := tk' } :=
  ⟨C, vs, zs, nn, h', tk', rfl, rfl, F, fun p hp => N p (hs p hp), hz, hl⟩
theorem cut_cells {M : Model} {A : Around} {tree : Sem Value} {NW : List (Addr × Obj)} {D : Addr} {o : Obj} (_F : Fr h₀ L s.heap m) (_N : News h₀ L s.heap ((D, o) :: NW)) (h1 : wpAny M A tree (CellsOr h₀ L m NW s) E s)
   (h2 : ∀ C vs zs nn h' tk', Fr h₀ L h' m → News h₀ L h' ((C, listOf vs.toArray nn) :: NW) → IntsAre vs zs → (0 < zs.length ∧ zs.length ≤ 63) → Q (.ref C) { s with heap := h', toks := tk' }) : wpAny M A tree Q E s :=
  wpAny_mono h1 (fun v s' h => by obtain ⟨C, vs, zs, nn, h', tk', rfl, rfl, a, b, c, d⟩ := h; exact h2 C vs zs nn h' tk' a b c d) fun _ _ e => e
theorem truthy_made {prog : Program} {A : Around} {D : Addr} {its : List Value} {n : Nat} {R : Bool → Shared → Prop} (N : News h₀ L s.heap news) (hm : (D, listOf its.toArray n) ∈ news) (hz : its.length ≤ 1000) (h : ∀ k, R (decide (0 < its.length)) { s with toks := k }) : wpAny (model prog w) A (truthy (.ref D)) R E s := by
  refine wpAny_truthy_list (News.isList N hm) (by rw [List.size_toArray]; omega) ?_
  have e : (!its.toArray.isEmpty) = decide (0 < its.length) := by cases its <;> simp
  rw [e]; exact h _
end
section
theorem reg_all73 : True := by
  k_with "pyIter ref" => (((fail_if_success (fail_if_success (have qz9 : Mk 54 := by with_reducible assumption))); (refine Hold.out ?_)))
  k_with "call type:tuple" => (((fail_if_success (fail_if_success (have qz9 : Mk 54 := by with_reducible assumption))); (k_here; (with_reducible show wpAny _ _ (call (Value.type _) [Value.ref _]) _ _ _); k_dflt (refine' kde_tupleOf (by k_asm) (by k_asm) (by first | (exact News.isList (by k_asm) (by first | (k_mem) | fail)) | fail) (by first | (first | (rw [List.size_toArray]; omega) | omega) | fail) rfl ?_); intro qD' qh' qF' qN' ql1; (try k_lt ql1); (try k_sweep))))
  k_with "execs cons" => (((fail_if_success (fail_if_success (have qz9 : Mk 54 := by with_reducible assumption))); (k_here; (with_reducible show wpAny _ _ (execs (List.cons (Stmt.If (Expr.UnaryOp _ (Expr.Call (Expr.Name (Str.ofString "_law_simple") _) _ _ _) _) _ _ _) _) _) _ _ _); (refine Hold.out ?_))))
  k_with "subscriptTail" => (((fail_if_success (fail_if_success (have qz9 : Mk 54 := by with_reducible assumption))); (k_here; (with_reducible show wpAny _ _ (subscriptTail (Expr.Tuple _ _ _) _ (Value.ref _) (Value.int (Nat.cast _) _)) _ _ _); k_dflt (refine' body_item (by k_asm) (by first | (k_mem) | fail) (by decide) (by omega) ?_; k_whole); intro qb9 qt9 qz9)))
  k_with "truthy ref" => (((fail_if_success (fail_if_success (have qz9 : Mk 54 := by with_reducible assumption))); (k_here; k_dflt (refine' truthy_made (by k_asm) (by first | (k_mem) | fail) (by omega) ?_); intro qk9)))
  k_with "eval IfExp" => (((fail_if_success (fail_if_success (have qz9 : Mk 54 := by with_reducible assumption))); (k_here; (with_reducible show wpAny _ _ (eval (Expr.IfExp (Expr.Name (Str.ofString "cells") _) _ _ _) _) _ _ _); (refine Stop.out ?_))))
  trivial
def PLaw0 (z9 : Cx × (Flow → Shared → Prop) × (Addr) × (Obj) × (List Value) × (List Int)) : Prop := (fun (w : World) (mean : ExcName → Option Value) (mg : Str → Option Value) (mb : Str → Option Value) (dp : Nat) (un : Nat) (gd : Option (List Code)) (a : Addr) (ccd : Value) (outer : List Env) (A₀ : Around) (base : Heap) (h₀ : Heap) (L : Addr) (m : Str → Option Value) (s : Shared) (E : Value → Shared → Prop) (R : Flow → Shared → Prop) (ax : Addr) (oC : Obj) (ws : List Value) (zs0 : List Int) => ∀ (hPO : PassesOwn (model PG w) (ktrTop dp un gd (Str.ofString "law") s614 L a ccd [(Str.ofString "source", L + 1)] outer) (envX (Str.ofString "law") s614 L a ccd [(Str.ofString "source", L + 1)]) E) (H : Here w mean mg mb 75 dp un s614 outer A₀ base h₀ L (fun y => if y = Str.ofString "script" then some (.ref ax) else m y) [(L + 1, oC)] s) (hoC : oC.data = .cell none) (hws : h₀.IsList ax ws.toArray) (hwI : IntsAre ws zs0) (hwl : zs0.length ≤ 63) (ret : ∀ h' tk' mm, Fr h₀ L h' mm → R (.ret (.bool true)) { s with heap := h', toks := tk' }), wpAny (model PG w) (ktrTop dp un gd (Str.ofString "law") s614 L a ccd [(Str.ofString "source", L + 1)] outer) (execs b614 (envX (Str.ofString "law") s614 L a ccd [(Str.ofString "source", L + 1)])) R E s) (z9.1.w) (z9.1.mean) (z9.1.mg) (z9.1.mb) (z9.1.dp) (z9.1.un) (z9.1.gd) (z9.1.a) (z9.1.ccd) (z9.1.outer) (z9.1.A₀) (z9.1.base) (z9.1.h₀) (z9.1.L) (z9.1.m) (z9.1.s) (z9.1.E) (z9.2.1) (z9.2.2.1) (z9.2.2.2.1) (z9.2.2.2.2.1) (z9.2.2.2.2.2)
set_option maxHeartbeats 4000000 in
theorem law0_core : PLaw0 (hkm (⟨(cx0, default, default, default, default, default)⟩ : Nonempty (Cx × (Flow → Shared → Prop) × (Addr) × (Obj) × (List Value) × (List Int))) PLaw0) := by
  generalize hkm _ _ = z9
  delta PLaw0
  generalize z9.1.w = w, z9.1.mean = mean, z9.1.mg = mg, z9.1.mb = mb, z9.1.dp = dp, z9.1.un = un, z9.1.gd = gd, z9.1.a = a, z9.1.ccd = ccd, z9.1.outer = outer, z9.1.A₀ = A₀, z9.1.base = base, z9.1.h₀ = h₀, z9.1.L = L, z9.1.m = m, z9.1.s = s, z9.1.E = E, z9.2.1 = R, z9.2.2.1 = ax, z9.2.2.2.1 = oC, z9.2.2.2.2.1 = ws, z9.2.2.2.2.2 = zs0
  clear z9
  intros hPO H hoC hws hwI hwl ret
  have qmk54 : Mk 54 := True.intro
  obtain ⟨B, F, X, N, T, hk, hd, hu⟩ := H
  k_steps
  rename IntsAre _ (List.take 60 _) => hI0
  rename List.length _ = min 60 _ => hC0
  rename News _ _ _ _ => N1
  rename Fr _ _ _ _ => F1
  obtain ⟨ns, hI, hnl⟩ : ∃ ns : List Int, IntsAre _ ns ∧ ns.length ≤ 60 := ⟨_, hI0, by omega⟩
  clear hC0 hI0
  have hI1 := hI.length
  refine' list_src0 rfl F1 N1 ?m1 ?z1 fun g => ?_
  case m1 => k_mem
  case z1 => omega
  dsimp only
  refine rest_U (fun i zs nw' => nw' = _ ∧ IntsAre zs (ns.take i)) ⟨rfl, .nil⟩ ?_ ?_
  · rintro i v zs nw I oI C oC D m₂ h tk E' hi ⟨rfl, hzs⟩ hv hC hx F9 N9 off ne
    obtain ⟨tt, e⟩ := intsAre_get hI (i := i) (by simpa using hi)
    have hv' := (List.getElem?_eq_getElem (by simpa using hi)).symm.trans (by simpa using hv)
    obtain rfl := (Option.some.inj hv').symm.trans e
    k_steps
    refine CompEnd.intro (by assumption) (by assumption) _ (fun _ hp => hp) off (.inr ⟨_, .head _, rfl, _, rfl⟩) ⟨rfl, ?_⟩
    have hi' : i < ns.length := by simpa [hI1] using hi
    rw [List.take_add_one, List.getElem?_eq_getElem hi', List.getD_eq_getElem?_getD, List.getElem?_eq_getElem hi']
    exact ints_snoc hzs
  · rintro zs nw ⟨rfl, hzs⟩
    rw [List.size_toArray, hI1, List.take_length] at hzs
    have hzl := hzs.length
    k_steps
    rename News _ _ _ _ => N2
    rename Fr _ _ _ _ => F2
    refine split_news N2 fun NW hNW N3 => ?_
    refine cut_cells F2 N3 ?_ ?_
    · clear hNW
      with_reducible refine IfExp_ ?_
      k_steps
      · exact CellsOr.mk (by assumption) (by assumption) (fun p hp => hp) hzs (by omega)
      · exact CellsOr.mk (by assumption) (by assumption) (by walk_at "my sub") (IntsAre.cons _ _ .nil) (by decide)
    · intro C vs cs nn h' tk' F4 N4 hcs hcl
      subst hNW
      have hCL : @Ne Nat (L + 1) C := news_ne N4 (by k_mem : (L + 1, oC) ∈ _) (.head _) (by rw [hoC]; exact fun h => nomatch h)
      k_steps
      rename IsRange _ _ _ _ _ _ _ _ => R1
      rename News _ _ _ _ => N5
      rename Fr _ _ _ _ => F5
      rename ((_ : Nat) : Int) < 5 => hn5
      refine name_head N5 fun S hS => ?_
      subst hS
      (try simp only [List.append_eq, List.cons_append, List.nil_append] at N5)
      refine split_news N5 fun Y hY N6 => ?_
      refine range_src rfl F5 N6 R1 (by omega) fun n hn1 g => ?_
      dsimp only
      have hYne : ∀ p ∈ Y, p.1 ≠ S := by rw [hY]; k_all
      have hCY : (C, listOf vs.toArray nn) ∈ Y := by rw [hY]; k_mem
      have hLY := cell_mem F5 (Y := Y) (o := _) (by rw [hY]; k_mem)
      refine rest_U (fun i ys nw => ∃ tq aq, ∃ rs : List Nat, aq = (1 : Int) + i ∧ nw = (S, srcO C aq tq 0) :: Y ∧ IntsAre ys (rs.map fun r : Nat => (r : Int)) ∧ rs.length = i ∧ ∀ r ∈ rs, r < 5) ⟨_, _, [], by omega, rfl, .nil, rfl, fun x hx => nomatch hx⟩ ?_ ?_
      · rintro i v ys nw I oI cC oC D m₂ h tk E' hi ⟨tq, aq, rs, haq, e, hys, hrl, hr5⟩ hv hC hx F9 N9 off ne
        subst e
        have off2 := off
        simp only [Off3] at off2
        k_steps
        rename ((_ : Nat) : Int) < 5 => hr4
        refine' CompEnd.intro ?Fb1 ?Nb1 ((S, srcO C (aq + 1) ?tb1 0) :: Y) ?sb1 off True.intro ?Jb1
        case Fb1 => assumption
        case Nb1 => assumption
        case sb1 => walk_at "my sub"
        case Jb1 =>
          refine ⟨_, aq + 1, rs ++ [_], by omega, rfl, by rw [List.map_append]; exact ints_snoc hys, by simp [hrl], ?_⟩
          intro x hx
          rcases List.mem_append.mp hx with hx | hx
          · exact hr5 x hx
          · rw [List.mem_singleton.mp hx]; omega
      · rintro ys nw ⟨tq, aq, rs, haq, e, hys, hrl, hr5⟩
        subst e
        clear hCY hLY hYne
        subst hY
        have hyl := hys.length
        rw [List.length_map] at hyl
        have hrs4 : rs.length ≤ 4 := by omega
        have hjo2 := rows_size rs
        have hjo : (catB (rs.map fun r => (rowB r).toArray)).size ≤ 16777216 := by omega
        have hsz9 : (catB (rs.map fun r => (rowB r).toArray) ++ #[13, 10]).size ≤ 100 := by rw [Array.size_append]; show _ + 2 ≤ _; omega
        k_steps
        rename News _ _ _ _ => N7
        rename Fr _ _ _ _ => F7
        refine' list_src0 rfl F7 N7 ?m2 ?z2 fun g => ?_
        case m2 => k_mem
        case z2 => omega
        dsimp only
        refine rest_U (fun i zs nw => nw = _ ∧ BytesAre zs ((rs.take i).map fun r => (rowB r).toArray)) ⟨rfl, .nil⟩ ?_ ?_
        · rintro i v zs nw I oI C2 oC D m₂ h tk E' hi ⟨rfl, hb⟩ hv hC hx F9 N9 off ne
          obtain ⟨r, tr, hri, rfl⟩ := ints_rows hys (by simpa using hv)
          have hr6 := hr5 r (List.mem_of_getElem? hri)
          k_steps
          refine CompEnd.intro (by assumption) (by assumption) _ (fun _ hp => hp) off (.inr ⟨_, (by k_mem : (_, listOf ys.toArray _) ∈ _), rfl, _, rfl⟩) ⟨rfl, ?_⟩
          rw [List.take_add_one, hri, List.map_append]
          exact hb.snoc
        · rintro zs nw ⟨rfl, hb⟩
          rw [List.size_toArray, hyl, List.take_length] at hb
          k_steps
          rename News _ _ _ _ => N8
          rename Fr _ _ _ _ => F8
          rename ((_, _) ∈ dayStrs) => hd9
          rename ((_ : Nat) : Int) < 86400 => hsec
          have hdb := day_bound hd9
          obtain ⟨fvs, ffl, hft, hfv, hf3⟩ := flags_tup (by assumption)
          refine split_news N8 fun Y hY N9 => ?_
          have hYne : ∀ p ∈ Y, p.1 ≠ S := by rw [hY]; k_all
          have hCY : (C, listOf vs.toArray nn) ∈ Y := by rw [hY]; k_mem
          have hLY := cell_mem F8 (Y := Y) (o := _) (by rw [hY]; k_mem)
          refine ⟨fvs.length, _, _, _, ?_, srcM_tup (its := fvs.toArray) rfl F8 N9 (.inl hft), fun g => ?_⟩
          · rw [sizeLine_eq]; omega
          dsimp only
          refine rest_T (fun i zs nw => ∃ tq aq, ∃ fs : List Str, 0 ≤ aq ∧ aq ≤ (50 : Int) + i ∧ nw = (S, srcO C aq tq 0) :: Y ∧ StrsAre zs fs ∧ fs.length ≤ i) ⟨_, _, [], by omega, by omega, rfl, .nil, Nat.le_refl _⟩ ?_ ?_
          · rintro i v zs nw I oI C2 oC D m₂ h tk E' hi ⟨tq, aq, fs, ha0, ha1, e, hzs, hfl⟩ hv hC hx F9 N9 off ne
            subst e
            obtain ⟨y, ty, hy, rfl⟩ := strsAre_get hfv (by simpa using hv)
            have off2 := off
            simp only [Off3] at off2
            k_steps
            · refine' CompEnd.intro ?Fc1 ?Nc1 ((S, srcO C (aq + 1) ?tc1 0) :: Y) ?sc1 off (.inl hft) ?Jc1
              case Fc1 => assumption
              case Nc1 => assumption
              case sc1 => walk_at "my sub"
              case Jc1 => exact ⟨_, aq + 1, fs ++ [y], by omega, by omega, rfl, strs_snoc hzs, by simp; omega⟩
            · refine' CompEnd.intro ?Fc2 ?Nc2 ((S, srcO C (aq + 1) ?tc2 0) :: Y) ?sc2 off (.inl hft) ?Jc2
              case Fc2 => assumption
              case Nc2 => assumption
              case sc2 => walk_at "my sub"
              case Jc2 => exact ⟨_, aq + 1, fs, by omega, by omega, rfl, hzs, by omega⟩
          · rintro zs nw ⟨tq, aq, fs, ha0, ha1, e, hzs, hfl⟩
            subst e
            clear hCY hLY hYne
            subst hY
            have hzl3 := strsAre_len hzs
            have hfl3 : fs.length ≤ 3 := by omega
            rename Array UInt8 => body
            have hsz10 : (catB (rs.map fun r => (rowB r).toArray) ++ #[13, 10] ++ body).size ≤ 200 := by rw [Array.size_append]; omega
            have hsz11 : (catB (rs.map fun r => (rowB r).toArray) ++ #[13, 10] ++ body).size ≤ 1000 := by omega
            k_steps
            rename News _ _ _ _ => NA
            rename Fr _ _ _ _ => FA
            refine' pull_cut (S := S) NA ?PA fun Y hY NB hYne => ?_
            case PA => walk_at "my pull"
            refine' have_let (Y := Y) (fs := fs) (d := headA rs ++ body) ?hL9 fun lx hlx hL => ?_
            case hL9 => rw [hY]; exact ⟨_, _, _, _, _, _, _, _, _, _, _, _, _, _, _, _, _, _, _, by k_mem, by k_mem, by k_mem, by simpa using hzs⟩
            subst hlx
            refine' have_mem (Y := Y) (o := lst ys) ?hR9 fun ra hra hRa => ?_
            case hR9 => rw [hY]; k_mem
            subst hra
            have hCY : (C, listOf vs.toArray nn) ∈ Y := by rw [hY]; k_mem
            have hLY := cell_mem FA (Y := Y) (o := _) (by rw [hY]; k_mem)
            clear NA hY
            have FD := fr6 FA (x1 := Str.ofString "letter") (x2 := Str.ofString "day") (x3 := Str.ofString "second") (x4 := Str.ofString "rows") (x5 := Str.ofString "head") (x6 := Str.ofString "body") (v1 := some (.ref lx)) (v2 := some (.str _ _)) (v3 := some (.int _ _)) (v4 := some (.ref ra)) (v5 := some (.bytes (headA rs) _)) (v6 := some (.bytes body _)) rfl rfl rfl rfl rfl rfl
            refine Hold.mk ?_
            refine' tail9 hPO ?H9 hcs hcl hCY hLY ?oS9 hRa hys hL hfl3 hd9 ⟨by omega, hsec⟩ hr5 hrs4 ?bd9 hYne ?aq9 ?ret9
            case H9 => exact ⟨by k_asm, FD, by k_asm, NB, by k_asm, rfl, by ktr_room, by ktr_units⟩
            case oS9 => assumption
            case bd9 => omega
            case aq9 => omega
            case ret9 => exact ret
section
variable {w : World} {mean : ExcName → Option Value} {mg mb : Str → Option Value} {dp un : Nat} {gd : Option (List Code)} {cn : Str} {cs : Scope} {a : Addr} {ccd : Value} {cl : List (Str × Addr)} {outer : List Env} {A₀ : Around} {base h₀ : Heap} {L : Addr} {m : Str → Option Value} {news : List (Addr × Obj)} {s : Shared} {Q E : Value → Shared → Prop}
theorem law0 {R : Flow → Shared → Prop} {ax : Addr} {oC : Obj} {ws : List Value} {zs0 : List Int} (hPO : PassesOwn (model PG w) (ktrTop dp un gd (Str.ofString "law") s614 L a ccd [(Str.ofString "source", L + 1)] outer) (envX (Str.ofString "law") s614 L a ccd [(Str.ofString "source", L + 1)]) E) (H : Here w mean mg mb 75 dp un s614 outer A₀ base h₀ L (fun y => if y = Str.ofString "script" then some (.ref ax) else m y) [(L + 1, oC)] s) (hoC : oC.data = .cell none) (hws : h₀.IsList ax ws.toArray) (hwI : IntsAre ws zs0) (hwl : zs0.length ≤ 63) (ret : ∀ h' tk' mm, Fr h₀ L h' mm → R (.ret (.bool true)) { s with heap := h', toks := tk' }) :
   wpAny (model PG w) (ktrTop dp un gd (Str.ofString "law") s614 L a ccd [(Str.ofString "source", L + 1)] outer) (execs b614 (envX (Str.ofString "law") s614 L a ccd [(Str.ofString "source", L + 1)])) R E s :=
  (hkf _ law0_core (⟨w, mean, mg, mb, dp, un, gd, cx0.cn, cx0.cs, a, ccd, cx0.cl, outer, A₀, base, h₀, L, m, cx0.news, s, cx0.Q, E⟩, R, ax, oC, ws, zs0) : PLaw0 (⟨w, mean, mg, mb, dp, un, gd, cx0.cn, cx0.cs, a, ccd, cx0.cl, outer, A₀, base, h₀, L, m, cx0.news, s, cx0.Q, E⟩, R, ax, oC, ws, zs0)) hPO H hoC hws hwI hwl ret
end
end
end
end Mine
theorem Mine.the_law.tw10016583781247707904 : True := True.intro
theorem Mine.the_law.tw10077348670004504048 : True := True.intro
theorem Mine.the_law.tw10105611665717065226 : True := True.intro
theorem Mine.the_law.tw10170495247123396328 : True := True.intro
theorem Mine.the_law.tw10198393551420919917 : True := True.intro
theorem Mine.the_law.tw10272439871301265708 : True := True.intro
theorem Mine.the_law.tw10351593831880175474 : True := True.intro
theorem Mine.the_law.tw10356266203781258615 : True := True.intro
theorem Mine.the_law.tw10372690081356464575 : True := True.intro
theorem Mine.the_law.tw10395166724671481563 : True := True.intro
theorem Mine.the_law.tw10432251316191842438 : True := True.intro
theorem Mine.the_law.tw10504857469248956878 : True := True.intro
theorem Mine.the_law.tw10526089127904931382 : True := True.intro
theorem Mine.the_law.tw10541230421801331982 : True := True.intro
theorem Mine.the_law.tw10564596057664333761 : True := True.intro
theorem Mine.the_law.tw10570132699333331981 : True := True.intro
theorem Mine.the_law.tw10647980319389551907 : True := True.intro
theorem Mine.the_law.tw10721632631558442949 : True := True.intro
theorem Mine.the_law.tw10722271159552064368 : True := True.intro
theorem Mine.the_law.tw10745030204752276941 : True := True.intro
theorem Mine.the_law.tw10747556455145411994 : True := True.intro
theorem Mine.the_law.tw10786524994054445074 : True := True.intro
theorem Mine.the_law.tw10796310376708091987 : True := True.intro
theorem Mine.the_law.tw10849168837499674820 : True := True.intro
theorem Mine.the_law.tw10943617231672282143 : True := True.intro
theorem Mine.the_law.tw10947071068446018927 : True := True.intro
theorem Mine.the_law.tw10957323901900120582 : True := True.intro
theorem Mine.the_law.tw10970174452996394080 : True := True.intro
theorem Mine.the_law.tw11008527428844190900 : True := True.intro
theorem Mine.the_law.tw11019182667747504610 : True := True.intro
theorem Mine.the_law.tw11047533542322612814 : True := True.intro
theorem Mine.the_law.tw1109000372592625261 : True := True.intro
theorem Mine.the_law.tw11097452624746232908 : True := True.intro
theorem Mine.the_law.tw11103219101976565606 : True := True.intro
theorem Mine.the_law.tw11118738170398705815 : True := True.intro
theorem Mine.the_law.tw11138503281059925461 : True := True.intro
theorem Mine.the_law.tw11175718353489804356 : True := True.intro
theorem Mine.the_law.tw11176341414217719442 : True := True.intro
theorem Mine.the_law.tw11276164815192490654 : True := True.intro
theorem Mine.the_law.tw11305430363418030614 : True := True.intro
theorem Mine.the_law.tw11334487943945546195 : True := True.intro
theorem Mine.the_law.tw11430045386187222060 : True := True.intro
theorem Mine.the_law.tw11437127701279507168 : True := True.intro
theorem Mine.the_law.tw1147188357665955894 : True := True.intro
theorem Mine.the_law.tw11482359472063824946 : True := True.intro
theorem Mine.the_law.tw1155102277922631273 : True := True.intro
theorem Mine.the_law.tw11553824414782709535 : True := True.intro
theorem Mine.the_law.tw11575196113077229259 : True := True.intro
theorem Mine.the_law.tw11601743911517791588 : True := True.intro
theorem Mine.the_law.tw11607302524856502402 : True := True.intro
theorem Mine.the_law.tw11670457913778730491 : True := True.intro
theorem Mine.the_law.tw11702388688064835727 : True := True.intro
theorem Mine.the_law.tw11744869375795423271 : True := True.intro
theorem Mine.the_law.tw11746361471648872993 : True := True.intro
theorem Mine.the_law.tw11760247714993037911 : True := True.intro
theorem Mine.the_law.tw11788887850866515477 : True := True.intro
theorem Mine.the_law.tw11856851594979099062 : True := True.intro
theorem Mine.the_law.tw11875300461745000507 : True := True.intro
theorem Mine.the_law.tw11915198434764374585 : True := True.intro
theorem Mine.the_law.tw12018700466816095020 : True := True.intro
theorem Mine.the_law.tw12036636780560546686 : True := True.intro
theorem Mine.the_law.tw12046869462547970640 : True := True.intro
theorem Mine.the_law.tw12083276534693312169 : True := True.intro
theorem Mine.the_law.tw12121021409992736339 : True := True.intro
theorem Mine.the_law.tw12132320355672243220 : True := True.intro
theorem Mine.the_law.tw12132795939098979432 : True := True.intro
theorem Mine.the_law.tw12144089769644458201 : True := True.intro
theorem Mine.the_law.tw12187420463489802144 : True := True.intro
theorem Mine.the_law.tw12196214555868620447 : True := True.intro
theorem Mine.the_law.tw12208363429287235313 : True := True.intro
theorem Mine.the_law.tw12218604533921103944 : True := True.intro
theorem Mine.the_law.tw12220189558968296764 : True := True.intro
theorem Mine.the_law.tw1224670391589692165 : True := True.intro
theorem Mine.the_law.tw12308105360379687282 : True := True.intro
theorem Mine.the_law.tw12319476703610864075 : True := True.intro
theorem Mine.the_law.tw12348948289128397615 : True := True.intro
theorem Mine.the_law.tw12349082912446496122 : True := True.intro
theorem Mine.the_law.tw12382974305449264538 : True := True.intro
theorem Mine.the_law.tw12391046505477063477 : True := True.intro
theorem Mine.the_law.tw12526301297345704436 : True := True.intro
theorem Mine.the_law.tw12563503830982076728 : True := True.intro
theorem Mine.the_law.tw12574243687084322456 : True := True.intro
theorem Mine.the_law.tw12577805726838946361 : True := True.intro
theorem Mine.the_law.tw12578024001519872290 : True := True.intro
theorem Mine.the_law.tw12581899212080369051 : True := True.intro
theorem Mine.the_law.tw12594284276005654187 : True := True.intro
theorem Mine.the_law.tw12598637412468187315 : True := True.intro
theorem Mine.the_law.tw12602636499158863242 : True := True.intro
theorem Mine.the_law.tw12603851680050619861 : True := True.intro
theorem Mine.the_law.tw1268139164127162578 : True := True.intro
theorem Mine.the_law.tw12697851220698652377 : True := True.intro
theorem Mine.the_law.tw12705932453827615541 : True := True.intro
theorem Mine.the_law.tw12721282463773883152 : True := True.intro
theorem Mine.the_law.tw1275073286943212769 : True := True.intro
theorem Mine.the_law.tw12777037256250151831 : True := True.intro
theorem Mine.the_law.tw12819626771275193538 : True := True.intro
theorem Mine.the_law.tw12827745442753133895 : True := True.intro
theorem Mine.the_law.tw12848185388274248729 : True := True.intro
theorem Mine.the_law.tw12850040375495480988 : True := True.intro
theorem Mine.the_law.tw12865828849105230136 : True := True.intro
theorem Mine.the_law.tw12891163198488634212 : True := True.intro
theorem Mine.the_law.tw12926273848911486514 : True := True.intro
theorem Mine.the_law.tw12932551522315563792 : True := True.intro
theorem Mine.the_law.tw12945678121534553798 : True := True.intro
theorem Mine.the_law.tw1297292671990470748 : True := True.intro
theorem Mine.the_law.tw12977020602529756083 : True := True.intro
theorem Mine.the_law.tw12982322374304628227 : True := True.intro
theorem Mine.the_law.tw13056298939525464931 : True := True.intro
theorem Mine.the_law.tw1306741236247948570 : True := True.intro
theorem Mine.the_law.tw13071446812119265202 : True := True.intro
theorem Mine.the_law.tw13087814998536419391 : True := True.intro
theorem Mine.the_law.tw13099642499205706691 : True := True.intro
theorem Mine.the_law.tw1311586143849497828 : True := True.intro
theorem Mine.the_law.tw13117907778070448431 : True := True.intro
theorem Mine.the_law.tw13138645489592574298 : True := True.intro
theorem Mine.the_law.tw13251745000514476303 : True := True.intro
theorem Mine.the_law.tw13296696424869791911 : True := True.intro
theorem Mine.the_law.tw13315796181583657710 : True := True.intro
theorem Mine.the_law.tw13380341370995584288 : True := True.intro
theorem Mine.the_law.tw13418821622246553526 : True := True.intro
theorem Mine.the_law.tw13461757905653922427 : True := True.intro
theorem Mine.the_law.tw13491922407734903000 : True := True.intro
theorem Mine.the_law.tw13522974349583974671 : True := True.intro
theorem Mine.the_law.tw13530346839722953978 : True := True.intro
theorem Mine.the_law.tw13540410382895547030 : True := True.intro
theorem Mine.the_law.tw1354312183740885144 : True := True.intro
theorem Mine.the_law.tw13544579729492022460 : True := True.intro
theorem Mine.the_law.tw13555417763559080216 : True := True.intro
theorem Mine.the_law.tw13655557005602664186 : True := True.intro
theorem Mine.the_law.tw13716688181678546309 : True := True.intro
theorem Mine.the_law.tw137310255297386367 : True := True.intro
theorem Mine.the_law.tw13754223904602908278 : True := True.intro
theorem Mine.the_law.tw1382681079450824048 : True := True.intro
theorem Mine.the_law.tw13867852985956490676 : True := True.intro
theorem Mine.the_law.tw13871661294731794369 : True := True.intro
theorem Mine.the_law.tw13918579218030626477 : True := True.intro
theorem Mine.the_law.tw13940859234861132900 : True := True.intro
theorem Mine.the_law.tw13986863188925877541 : True := True.intro
theorem Mine.the_law.tw13997283955384789361 : True := True.intro
theorem Mine.the_law.tw14000079023339166347 : True := True.intro
theorem Mine.the_law.tw14029574286412600418 : True := True.intro
theorem Mine.the_law.tw14040072925053367123 : True := True.intro
theorem Mine.the_law.tw14044675768864603928 : True := True.intro
theorem Mine.the_law.tw140898098677038206 : True := True.intro
theorem Mine.the_law.tw14106435006008556208 : True := True.intro
theorem Mine.the_law.tw14114592396632994381 : True := True.intro
theorem Mine.the_law.tw14159115231668673603 : True := True.intro
theorem Mine.the_law.tw14164325320658674290 : True := True.intro
theorem Mine.the_law.tw14193250781429600851 : True := True.intro
theorem Mine.the_law.tw14262571012277367400 : True := True.intro
theorem Mine.the_law.tw14295294696695422467 : True := True.intro
theorem Mine.the_law.tw14316272753551919594 : True := True.intro
theorem Mine.the_law.tw14343996215689910761 : True := True.intro
theorem Mine.the_law.tw14377233551968401461 : True := True.intro
theorem Mine.the_law.tw14378905922981937717 : True := True.intro
theorem Mine.the_law.tw1438894554669940450 : True := True.intro
theorem Mine.the_law.tw14404146911488380861 : True := True.intro
theorem Mine.the_law.tw14428311245317613357 : True := True.intro
theorem Mine.the_law.tw14484072006374099109 : True := True.intro
theorem Mine.the_law.tw14486799962669681046 : True := True.intro
theorem Mine.the_law.tw14508209008589909952 : True := True.intro
theorem Mine.the_law.tw1457612706020279832 : True := True.intro
theorem Mine.the_law.tw14592839810846470784 : True := True.intro
theorem Mine.the_law.tw14593224459956405658 : True := True.intro
theorem Mine.the_law.tw14622782380219825313 : True := True.intro
theorem Mine.the_law.tw14676383744779256430 : True := True.intro
theorem Mine.the_law.tw14696012546578201641 : True := True.intro
theorem Mine.the_law.tw14707882684464806882 : True := True.intro
theorem Mine.the_law.tw14748366165918755826 : True := True.intro
theorem Mine.the_law.tw14755601824311176682 : True := True.intro
theorem Mine.the_law.tw14828286661399689586 : True := True.intro
theorem Mine.the_law.tw14871497306764344587 : True := True.intro
theorem Mine.the_law.tw14883900233161781574 : True := True.intro
theorem Mine.the_law.tw14894586949128551904 : True := True.intro
theorem Mine.the_law.tw14918618552101546430 : True := True.intro
theorem Mine.the_law.tw1497362503833165854 : True := True.intro
theorem Mine.the_law.tw15037166625414153247 : True := True.intro
theorem Mine.the_law.tw1504973017371896856 : True := True.intro
theorem Mine.the_law.tw15105188111973068062 : True := True.intro
theorem Mine.the_law.tw15137044048699003134 : True := True.intro
theorem Mine.the_law.tw15201721522086602191 : True := True.intro
theorem Mine.the_law.tw15287600059996930390 : True := True.intro
theorem Mine.the_law.tw15288458813945624500 : True := True.intro
theorem Mine.the_law.tw15292672679331257210 : True := True.intro
theorem Mine.the_law.tw15322675622892339270 : True := True.intro
theorem Mine.the_law.tw1536500057075174722 : True := True.intro
theorem Mine.the_law.tw15461975314152525483 : True := True.intro
theorem Mine.the_law.tw15471947978657963148 : True := True.intro
theorem Mine.the_law.tw15500133076140316015 : True := True.intro
theorem Mine.the_law.tw15517370644847685070 : True := True.intro
theorem Mine.the_law.tw15543553988912009876 : True := True.intro
theorem Mine.the_law.tw1562361124601489242 : True := True.intro
theorem Mine.the_law.tw1562585494583360903 : True := True.intro
theorem Mine.the_law.tw15642884742045676409 : True := True.intro
theorem Mine.the_law.tw1566925529523569260 : True := True.intro
theorem Mine.the_law.tw15760239105659126795 : True := True.intro
theorem Mine.the_law.tw1578502398378538503 : True := True.intro
theorem Mine.the_law.tw15804182511025683780 : True := True.intro
theorem Mine.the_law.tw15845613661147773940 : True := True.intro
theorem Mine.the_law.tw15850840283989008197 : True := True.intro
theorem Mine.the_law.tw15851345203804713156 : True := True.intro
theorem Mine.the_law.tw15855306366014780763 : True := True.intro
theorem Mine.the_law.tw15860795374268235890 : True := True.intro
theorem Mine.the_law.tw15870904153958046044 : True := True.intro
theorem Mine.the_law.tw15872299574369909196 : True := True.intro
theorem Mine.the_law.tw1587244691531125938 : True := True.intro
theorem Mine.the_law.tw15933063620723190845 : True := True.intro
theorem Mine.the_law.tw15942392696418298009 : True := True.intro
theorem Mine.the_law.tw15969284615626939092 : True := True.intro
theorem Mine.the_law.tw15985116153688885452 : True := True.intro
theorem Mine.the_law.tw1599986414079690169 : True := True.intro
theorem Mine.the_law.tw16068979030682537176 : True := True.intro
theorem Mine.the_law.tw16079744345693597142 : True := True.intro
theorem Mine.the_law.tw16100580369011459645 : True := True.intro
theorem Mine.the_law.tw16171393297095134080 : True := True.intro
theorem Mine.the_law.tw1617432938517750258 : True := True.intro
theorem Mine.the_law.tw16178966093472866963 : True := True.intro
theorem Mine.the_law.tw16242619570382981547 : True := True.intro
theorem Mine.the_law.tw1626451966445899018 : True := True.intro
theorem Mine.the_law.tw16319314056242973375 : True := True.intro
theorem Mine.the_law.tw16329692488661272458 : True := True.intro
theorem Mine.the_law.tw16384290013317554779 : True := True.intro
theorem Mine.the_law.tw16386597411788559164 : True := True.intro
theorem Mine.the_law.tw16403869085813049162 : True := True.intro
theorem Mine.the_law.tw16416946617400786151 : True := True.intro
theorem Mine.the_law.tw16433976589980439510 : True := True.intro
theorem Mine.the_law.tw16461617603256166657 : True := True.intro
theorem Mine.the_law.tw16471118522564877489 : True := True.intro
theorem Mine.the_law.tw16487676410852305797 : True := True.intro
theorem Mine.the_law.tw16504577980830375995 : True := True.intro
theorem Mine.the_law.tw16607711497915492835 : True := True.intro
theorem Mine.the_law.tw16769898845476094079 : True := True.intro
theorem Mine.the_law.tw16770997576553138031 : True := True.intro
theorem Mine.the_law.tw16814453979856517477 : True := True.intro
theorem Mine.the_law.tw16815844258458146239 : True := True.intro
theorem Mine.the_law.tw16832165392695122103 : True := True.intro
theorem Mine.the_law.tw16871154336842055968 : True := True.intro
theorem Mine.the_law.tw16892178956925498720 : True := True.intro
theorem Mine.the_law.tw1690090507317096466 : True := True.intro
theorem Mine.the_law.tw16919524771707588401 : True := True.intro
theorem Mine.the_law.tw16958692713156143825 : True := True.intro
theorem Mine.the_law.tw17036581164564580639 : True := True.intro
theorem Mine.the_law.tw17092932114051241678 : True := True.intro
theorem Mine.the_law.tw17128022894979612447 : True := True.intro
theorem Mine.the_law.tw17145643862490783263 : True := True.intro
theorem Mine.the_law.tw17168885074040395749 : True := True.intro
theorem Mine.the_law.tw17229136472129463356 : True := True.intro
theorem Mine.the_law.tw17257281514312110148 : True := True.intro
theorem Mine.the_law.tw17278806796006597325 : True := True.intro
theorem Mine.the_law.tw1728152126975895757 : True := True.intro
theorem Mine.the_law.tw17281600702594374121 : True := True.intro
theorem Mine.the_law.tw1738601812356445527 : True := True.intro
theorem Mine.the_law.tw17423143462273180991 : True := True.intro
theorem Mine.the_law.tw17443240058080540698 : True := True.intro
theorem Mine.the_law.tw17445035164045007472 : True := True.intro
theorem Mine.the_law.tw17496917627744320638 : True := True.intro
theorem Mine.the_law.tw1749819467305876140 : True := True.intro
theorem Mine.the_law.tw17528139359541516217 : True := True.intro
theorem Mine.the_law.tw17532531631275021316 : True := True.intro
theorem Mine.the_law.tw17554199385865743893 : True := True.intro
theorem Mine.the_law.tw17564583498089134524 : True := True.intro
theorem Mine.the_law.tw1758018336447388866 : True := True.intro
theorem Mine.the_law.tw17585857541597600657 : True := True.intro
theorem Mine.the_law.tw17628484223965833344 : True := True.intro
theorem Mine.the_law.tw17633023463011575171 : True := True.intro
theorem Mine.the_law.tw17642903352629528537 : True := True.intro
theorem Mine.the_law.tw17654801679413497003 : True := True.intro
theorem Mine.the_law.tw17662588750423427652 : True := True.intro
theorem Mine.the_law.tw17683483480831797278 : True := True.intro
theorem Mine.the_law.tw17703780964691147882 : True := True.intro
theorem Mine.the_law.tw17729618916857432611 : True := True.intro
theorem Mine.the_law.tw17742072944903748576 : True := True.intro
theorem Mine.the_law.tw17745955242291158356 : True := True.intro
theorem Mine.the_law.tw1779845115129480783 : True := True.intro
theorem Mine.the_law.tw17937929449897360115 : True := True.intro
theorem Mine.the_law.tw17967149090188222481 : True := True.intro
theorem Mine.the_law.tw18069425322602114768 : True := True.intro
theorem Mine.the_law.tw18071411754844957084 : True := True.intro
theorem Mine.the_law.tw18089473192025668434 : True := True.intro
theorem Mine.the_law.tw18092724698424538291 : True := True.intro
theorem Mine.the_law.tw18162195811285571015 : True := True.intro
theorem Mine.the_law.tw1817617907304672890 : True := True.intro
theorem Mine.the_law.tw18209024029236962908 : True := True.intro
theorem Mine.the_law.tw18273041722104860537 : True := True.intro
theorem Mine.the_law.tw18319111323650896145 : True := True.intro
theorem Mine.the_law.tw18335680582733689760 : True := True.intro
theorem Mine.the_law.tw18364368015568812538 : True := True.intro
theorem Mine.the_law.tw18432471830949998455 : True := True.intro
theorem Mine.the_law.tw18436022026467070645 : True := True.intro
theorem Mine.the_law.tw18437703789754742094 : True := True.intro
theorem Mine.the_law.tw1853638366025147083 : True := True.intro
theorem Mine.the_law.tw1876173545394305669 : True := True.intro
theorem Mine.the_law.tw1887790122075234612 : True := True.intro
theorem Mine.the_law.tw1889377882272159707 : True := True.intro
theorem Mine.the_law.tw1911681169113704597 : True := True.intro
theorem Mine.the_law.tw1923169430592383252 : True := True.intro
theorem Mine.the_law.tw1935272732912884164 : True := True.intro
theorem Mine.the_law.tw2048837709113697744 : True := True.intro
theorem Mine.the_law.tw2049875369161821533 : True := True.intro
theorem Mine.the_law.tw2081515722860727131 : True := True.intro
theorem Mine.the_law.tw2104940410155920898 : True := True.intro
theorem Mine.the_law.tw2141037154769065188 : True := True.intro
theorem Mine.the_law.tw2226282248687341299 : True := True.intro
theorem Mine.the_law.tw2228679306168456222 : True := True.intro
theorem Mine.the_law.tw2245325712593042684 : True := True.intro
theorem Mine.the_law.tw2247694596706089591 : True := True.intro
theorem Mine.the_law.tw2332459190376523935 : True := True.intro
theorem Mine.the_law.tw2351036866090801108 : True := True.intro
theorem Mine.the_law.tw2359279520550430173 : True := True.intro
theorem Mine.the_law.tw2367340955894905125 : True := True.intro
theorem Mine.the_law.tw2401782266278168913 : True := True.intro
theorem Mine.the_law.tw2436466214247778694 : True := True.intro
theorem Mine.the_law.tw2507934431946619240 : True := True.intro
theorem Mine.the_law.tw2538356627454834011 : True := True.intro
theorem Mine.the_law.tw2551803567163112939 : True := True.intro
theorem Mine.the_law.tw256493313577909070 : True := True.intro
theorem Mine.the_law.tw2571913528048264322 : True := True.intro
theorem Mine.the_law.tw2583801996358820569 : True := True.intro
theorem Mine.the_law.tw2634140264990009409 : True := True.intro
theorem Mine.the_law.tw2685546837855932271 : True := True.intro
theorem Mine.the_law.tw2737049499516002932 : True := True.intro
theorem Mine.the_law.tw2792410274613034591 : True := True.intro
theorem Mine.the_law.tw2805332806966101048 : True := True.intro
theorem Mine.the_law.tw2815459543387162039 : True := True.intro
theorem Mine.the_law.tw2884978263908455055 : True := True.intro
theorem Mine.the_law.tw2895471879418152007 : True := True.intro
theorem Mine.the_law.tw2928895128909551557 : True := True.intro
theorem Mine.the_law.tw2939088685859992348 : True := True.intro
theorem Mine.the_law.tw2977184846538919 : True := True.intro
theorem Mine.the_law.tw3150259973335487094 : True := True.intro
theorem Mine.the_law.tw3152374147296722663 : True := True.intro
theorem Mine.the_law.tw3166220447557754042 : True := True.intro
theorem Mine.the_law.tw3191944944298499119 : True := True.intro
theorem Mine.the_law.tw3198015990651925941 : True := True.intro
theorem Mine.the_law.tw3200539236830423501 : True := True.intro
theorem Mine.the_law.tw3214993555686032630 : True := True.intro
theorem Mine.the_law.tw3219084083584313298 : True := True.intro
theorem Mine.the_law.tw3240798395693553958 : True := True.intro
theorem Mine.the_law.tw3244729373917641204 : True := True.intro
theorem Mine.the_law.tw328113822034494706 : True := True.intro
theorem Mine.the_law.tw3290477863805542312 : True := True.intro
theorem Mine.the_law.tw3331107462791136445 : True := True.intro
theorem Mine.the_law.tw3350626004353220655 : True := True.intro
theorem Mine.the_law.tw3391172386551022930 : True := True.intro
theorem Mine.the_law.tw342341986450924843 : True := True.intro
theorem Mine.the_law.tw3450383784416036753 : True := True.intro
theorem Mine.the_law.tw3465086318941874129 : True := True.intro
theorem Mine.the_law.tw348919942844601311 : True := True.intro
theorem Mine.the_law.tw3505897643071687641 : True := True.intro
theorem Mine.the_law.tw3510240998512008109 : True := True.intro
theorem Mine.the_law.tw3530294856260533984 : True := True.intro
theorem Mine.the_law.tw3652170270108365449 : True := True.intro
theorem Mine.the_law.tw3721975303383604650 : True := True.intro
theorem Mine.the_law.tw3753851685263422622 : True := True.intro
theorem Mine.the_law.tw3770428390756368736 : True := True.intro
theorem Mine.the_law.tw3810203677138298938 : True := True.intro
theorem Mine.the_law.tw3836035043137533401 : True := True.intro
theorem Mine.the_law.tw3837173478435337088 : True := True.intro
theorem Mine.the_law.tw3842031948332506220 : True := True.intro
theorem Mine.the_law.tw3849972752463987684 : True := True.intro
theorem Mine.the_law.tw3867650383684163550 : True := True.intro
theorem Mine.the_law.tw3911030999977352060 : True := True.intro
theorem Mine.the_law.tw396127384779545441 : True := True.intro
theorem Mine.the_law.tw3967345193511487294 : True := True.intro
theorem Mine.the_law.tw3967520466193859429 : True := True.intro
theorem Mine.the_law.tw3969672559754056027 : True := True.intro
theorem Mine.the_law.tw3978411362639076317 : True := True.intro
theorem Mine.the_law.tw397902496934931670 : True := True.intro
theorem Mine.the_law.tw4007090975859179357 : True := True.intro
theorem Mine.the_law.tw4023158159974017452 : True := True.intro
theorem Mine.the_law.tw4056656316322536733 : True := True.intro
theorem Mine.the_law.tw405975510254933866 : True := True.intro
theorem Mine.the_law.tw4069472000303756957 : True := True.intro
theorem Mine.the_law.tw40726022280701098 : True := True.intro
theorem Mine.the_law.tw4100508478845588634 : True := True.intro
theorem Mine.the_law.tw4138524281818617253 : True := True.intro
theorem Mine.the_law.tw4219823625507884415 : True := True.intro
theorem Mine.the_law.tw4321154964017037363 : True := True.intro
theorem Mine.the_law.tw435927928288568395 : True := True.intro
theorem Mine.the_law.tw4362990837396797689 : True := True.intro
theorem Mine.the_law.tw4365904092210855336 : True := True.intro
theorem Mine.the_law.tw437013554756117345 : True := True.intro
theorem Mine.the_law.tw4404254122662690226 : True := True.intro
theorem Mine.the_law.tw4515701704840063676 : True := True.intro
theorem Mine.the_law.tw4519410857359077584 : True := True.intro
theorem Mine.the_law.tw4569016147139377864 : True := True.intro
theorem Mine.the_law.tw4584736097684789375 : True := True.intro
theorem Mine.the_law.tw4587509009961926245 : True := True.intro
theorem Mine.the_law.tw4617249712923858022 : True := True.intro
theorem Mine.the_law.tw4627160365496659966 : True := True.intro
theorem Mine.the_law.tw4678627924932929923 : True := True.intro
theorem Mine.the_law.tw4687554773989759161 : True := True.intro
theorem Mine.the_law.tw4789762566263968967 : True := True.intro
theorem Mine.the_law.tw4838030317323442119 : True := True.intro
theorem Mine.the_law.tw485703258625917302 : True := True.intro
theorem Mine.the_law.tw4922107640565951366 : True := True.intro
theorem Mine.the_law.tw493620922942522109 : True := True.intro
theorem Mine.the_law.tw4938104846918868520 : True := True.intro
theorem Mine.the_law.tw4958095664886080419 : True := True.intro
theorem Mine.the_law.tw5010861076388101616 : True := True.intro
theorem Mine.the_law.tw5013367630303251200 : True := True.intro
theorem Mine.the_law.tw5069295630316890469 : True := True.intro
theorem Mine.the_law.tw5085173670889154753 : True := True.intro
theorem Mine.the_law.tw5087292833185448787 : True := True.intro
theorem Mine.the_law.tw5109848305879075423 : True := True.intro
theorem Mine.the_law.tw511320744172429155 : True := True.intro
theorem Mine.the_law.tw5113403025869845540 : True := True.intro
theorem Mine.the_law.tw5147483932301115878 : True := True.intro
theorem Mine.the_law.tw5170330649943859662 : True := True.intro
theorem Mine.the_law.tw5173336352277494983 : True := True.intro
theorem Mine.the_law.tw5177406095525685233 : True := True.intro
theorem Mine.the_law.tw5193641541962881278 : True := True.intro
theorem Mine.the_law.tw5195314854239688653 : True := True.intro
theorem Mine.the_law.tw5219946624749815224 : True := True.intro
theorem Mine.the_law.tw5229415518023533671 : True := True.intro
theorem Mine.the_law.tw5232303326983784780 : True := True.intro
theorem Mine.the_law.tw5266791495845082721 : True := True.intro
theorem Mine.the_law.tw5270108669829435205 : True := True.intro
theorem Mine.the_law.tw5295483006126784211 : True := True.intro
theorem Mine.the_law.tw5338971981839951904 : True := True.intro
theorem Mine.the_law.tw5351138776452808650 : True := True.intro
theorem Mine.the_law.tw5351897218386179120 : True := True.intro
theorem Mine.the_law.tw5372763034084339988 : True := True.intro
theorem Mine.the_law.tw5404591351704328664 : True := True.intro
theorem Mine.the_law.tw5412393465374185784 : True := True.intro
theorem Mine.the_law.tw5416778704095183603 : True := True.intro
theorem Mine.the_law.tw5426511663915135680 : True := True.intro
theorem Mine.the_law.tw5431410467961198533 : True := True.intro
theorem Mine.the_law.tw5488480631281259563 : True := True.intro
theorem Mine.the_law.tw5493733263906499603 : True := True.intro
theorem Mine.the_law.tw5499025877086160063 : True := True.intro
theorem Mine.the_law.tw5540749355107233461 : True := True.intro
theorem Mine.the_law.tw554410411124047578 : True := True.intro
theorem Mine.the_law.tw5579858765912352777 : True := True.intro
theorem Mine.the_law.tw5582780411824514506 : True := True.intro
theorem Mine.the_law.tw5584862725225882232 : True := True.intro
theorem Mine.the_law.tw5607814959136322434 : True := True.intro
theorem Mine.the_law.tw5663971115922253088 : True := True.intro
theorem Mine.the_law.tw5685504433919115053 : True := True.intro
theorem Mine.the_law.tw5730065682760082289 : True := True.intro
theorem Mine.the_law.tw5740844935027086226 : True := True.intro
theorem Mine.the_law.tw5786197828388215336 : True := True.intro
theorem Mine.the_law.tw5815375701771442380 : True := True.intro
theorem Mine.the_law.tw5866108126098583505 : True := True.intro
theorem Mine.the_law.tw5868872868603686006 : True := True.intro
theorem Mine.the_law.tw5885672744845692355 : True := True.intro
theorem Mine.the_law.tw5921283766645322777 : True := True.intro
theorem Mine.the_law.tw5934023578221798389 : True := True.intro
theorem Mine.the_law.tw5955822360617766851 : True := True.intro
theorem Mine.the_law.tw5963569148946905603 : True := True.intro
theorem Mine.the_law.tw6006117511319067186 : True := True.intro
theorem Mine.the_law.tw6026953088412647589 : True := True.intro
theorem Mine.the_law.tw6088707012394244031 : True := True.intro
theorem Mine.the_law.tw6103918555646345819 : True := True.intro
theorem Mine.the_law.tw6125049707706006201 : True := True.intro
theorem Mine.the_law.tw6147471348471320025 : True := True.intro
theorem Mine.the_law.tw6161240398984895931 : True := True.intro
theorem Mine.the_law.tw6230273297704285581 : True := True.intro
theorem Mine.the_law.tw6267297251769526614 : True := True.intro
theorem Mine.the_law.tw626971646790384148 : True := True.intro
theorem Mine.the_law.tw6285183895191556333 : True := True.intro
theorem Mine.the_law.tw6315437399189930005 : True := True.intro
theorem Mine.the_law.tw6389136970642259059 : True := True.intro
theorem Mine.the_law.tw6447661419362567202 : True := True.intro
theorem Mine.the_law.tw6456913938196361440 : True := True.intro
theorem Mine.the_law.tw6501138019437466910 : True := True.intro
theorem Mine.the_law.tw6582325574807603177 : True := True.intro
theorem Mine.the_law.tw6621699290954614484 : True := True.intro
theorem Mine.the_law.tw6666653670115157055 : True := True.intro
theorem Mine.the_law.tw6693998018605825001 : True := True.intro
theorem Mine.the_law.tw6700245443904869745 : True := True.intro
theorem Mine.the_law.tw6736527388886944498 : True := True.intro
theorem Mine.the_law.tw6736722184581558270 : True := True.intro
theorem Mine.the_law.tw6769165481588039847 : True := True.intro
theorem Mine.the_law.tw6776596036415862457 : True := True.intro
theorem Mine.the_law.tw6781788763207595621 : True := True.intro
theorem Mine.the_law.tw6791492520327871803 : True := True.intro
theorem Mine.the_law.tw6800213202215835217 : True := True.intro
theorem Mine.the_law.tw6809329657904716659 : True := True.intro
theorem Mine.the_law.tw6855701365982382313 : True := True.intro
theorem Mine.the_law.tw6933052216797534359 : True := True.intro
theorem Mine.the_law.tw6944884100244327916 : True := True.intro
theorem Mine.the_law.tw6960112611969461897 : True := True.intro
theorem Mine.the_law.tw7090720146225453978 : True := True.intro
theorem Mine.the_law.tw7111807970030212797 : True := True.intro
theorem Mine.the_law.tw7200440461323754383 : True := True.intro
theorem Mine.the_law.tw7210766434124698927 : True := True.intro
theorem Mine.the_law.tw7210915699001321641 : True := True.intro
theorem Mine.the_law.tw7215805425133797786 : True := True.intro
theorem Mine.the_law.tw7225083078132196365 : True := True.intro
theorem Mine.the_law.tw7236284621776196532 : True := True.intro
theorem Mine.the_law.tw7273830795663202893 : True := True.intro
theorem Mine.the_law.tw7284032620627253362 : True := True.intro
theorem Mine.the_law.tw731705488494360904 : True := True.intro
theorem Mine.the_law.tw7321522665408455954 : True := True.intro
theorem Mine.the_law.tw7341301413097869696 : True := True.intro
theorem Mine.the_law.tw7372948276220042152 : True := True.intro
theorem Mine.the_law.tw7402332358505541413 : True := True.intro
theorem Mine.the_law.tw7482827956307485599 : True := True.intro
theorem Mine.the_law.tw7482911960383643207 : True := True.intro
theorem Mine.the_law.tw7487079867716095311 : True := True.intro
theorem Mine.the_law.tw7574906349486184418 : True := True.intro
theorem Mine.the_law.tw7597907028177643640 : True := True.intro
theorem Mine.the_law.tw7610603184231988051 : True := True.intro
theorem Mine.the_law.tw7635563269094132997 : True := True.intro
theorem Mine.the_law.tw7644073673115358861 : True := True.intro
theorem Mine.the_law.tw7656666230945397663 : True := True.intro
theorem Mine.the_law.tw7668895884228067800 : True := True.intro
theorem Mine.the_law.tw7743365415089011609 : True := True.intro
theorem Mine.the_law.tw7743402948551315425 : True := True.intro
theorem Mine.the_law.tw7756209599362609518 : True := True.intro
theorem Mine.the_law.tw7794104360982627206 : True := True.intro
theorem Mine.the_law.tw7842740805374743367 : True := True.intro
theorem Mine.the_law.tw7844322975474967751 : True := True.intro
theorem Mine.the_law.tw7855303204039941178 : True := True.intro
theorem Mine.the_law.tw7870033383120766168 : True := True.intro
theorem Mine.the_law.tw7892253632141755684 : True := True.intro
theorem Mine.the_law.tw7904798113526840349 : True := True.intro
theorem Mine.the_law.tw7971439479031614193 : True := True.intro
theorem Mine.the_law.tw8074666890645088668 : True := True.intro
theorem Mine.the_law.tw8133277066656838403 : True := True.intro
theorem Mine.the_law.tw8137294520469548044 : True := True.intro
theorem Mine.the_law.tw8191393880351322207 : True := True.intro
theorem Mine.the_law.tw8232546124181362241 : True := True.intro
theorem Mine.the_law.tw8239233778359549756 : True := True.intro
theorem Mine.the_law.tw82921918446581218 : True := True.intro
theorem Mine.the_law.tw8320098350690952336 : True := True.intro
theorem Mine.the_law.tw8331984014033913864 : True := True.intro
theorem Mine.the_law.tw8347537207068325341 : True := True.intro
theorem Mine.the_law.tw8473419563947124841 : True := True.intro
theorem Mine.the_law.tw8495659397586899126 : True := True.intro
theorem Mine.the_law.tw8501490567970539495 : True := True.intro
theorem Mine.the_law.tw8502363289014133921 : True := True.intro
theorem Mine.the_law.tw8535255120784026897 : True := True.intro
theorem Mine.the_law.tw8565748772747564931 : True := True.intro
theorem Mine.the_law.tw8570710654195576154 : True := True.intro
theorem Mine.the_law.tw8571938096857657518 : True := True.intro
theorem Mine.the_law.tw8575726182552307271 : True := True.intro
theorem Mine.the_law.tw8612342340422094196 : True := True.intro
theorem Mine.the_law.tw8662493022464117648 : True := True.intro
theorem Mine.the_law.tw8670040838734216683 : True := True.intro
theorem Mine.the_law.tw8714017687309566269 : True := True.intro
theorem Mine.the_law.tw8714883993954106674 : True := True.intro
theorem Mine.the_law.tw8722514269659413765 : True := True.intro
theorem Mine.the_law.tw8737357288813949319 : True := True.intro
theorem Mine.the_law.tw874917189974528042 : True := True.intro
theorem Mine.the_law.tw8752800037485506046 : True := True.intro
theorem Mine.the_law.tw8807082624752972610 : True := True.intro
theorem Mine.the_law.tw8833030282642475699 : True := True.intro
theorem Mine.the_law.tw8918062098218006811 : True := True.intro
theorem Mine.the_law.tw8941704010553098589 : True := True.intro
theorem Mine.the_law.tw8944517017402469549 : True := True.intro
theorem Mine.the_law.tw8946294024081468975 : True := True.intro
theorem Mine.the_law.tw9006735304178271063 : True := True.intro
theorem Mine.the_law.tw9055723550874211537 : True := True.intro
theorem Mine.the_law.tw9156717277385824625 : True := True.intro
theorem Mine.the_law.tw9186166106411686349 : True := True.intro
theorem Mine.the_law.tw9250985243499408423 : True := True.intro
theorem Mine.the_law.tw9347202072502019434 : True := True.intro
theorem Mine.the_law.tw935365908057103737 : True := True.intro
theorem Mine.the_law.tw9401130720270170853 : True := True.intro
theorem Mine.the_law.tw9488201939042509958 : True := True.intro
theorem Mine.the_law.tw9509402559216657307 : True := True.intro
theorem Mine.the_law.tw9510963624558483518 : True := True.intro
theorem Mine.the_law.tw9518725994942411554 : True := True.intro
theorem Mine.the_law.tw9526004895347884477 : True := True.intro
theorem Mine.the_law.tw9538636528222793099 : True := True.intro
theorem Mine.the_law.tw9540351822197304066 : True := True.intro
theorem Mine.the_law.tw9544869008121019786 : True := True.intro
theorem Mine.the_law.tw9603078934635405944 : True := True.intro
theorem Mine.the_law.tw9720762292192177328 : True := True.intro
theorem Mine.the_law.tw9791594460961790547 : True := True.intro
theorem Mine.the_law.tw9844526939693678251 : True := True.intro
theorem Mine.the_law.tw9859307989347215649 : True := True.intro
theorem Mine.the_law.tw9875532184442794979 : True := True.intro
namespace Mine
theorem lookup_filter {f : Nat → Bool} {a : Addr} {o : Obj} : ∀ {K : Frag}, (K.filter fun p => f p.1).lookup a = some o → K.lookup a = some o
  | [], h => h
  | p :: K, h => by
    obtain ⟨b, x⟩ := p
    rw [List.filter_cons] at h
    split at h
    · rw [List.lookup_cons] at h ⊢
      split
      · rename_i e; rw [e] at h; exact h
      · rename_i e; rw [e] at h; exact lookup_filter h
    · rename_i hf
      have h2 := lookup_filter h
      rw [List.lookup_cons]
      split
      · rename_i e
        exfalso
        have e2 : a = b := by simpa using e
        subst e2
        have hn : ∀ {K : Frag}, (K.filter fun p => f p.1).lookup a ≠ some o := by
          intro K
          induction K with
          | nil => simp
          | cons q K ih =>
            rw [List.filter_cons]
            split
            · rename_i hq
              rw [List.lookup_cons]
              split
              · rename_i e3
                have e4 : a = q.1 := by simpa using e3
                rw [e4] at hf; exact absurd hq hf
              · exact ih
            · exact ih
        exact hn h
      · exact h2
theorem in_cut {K1 K2 : Params → Frag} (f : Nat → Bool) (e : (fun P => (K1 P).filter fun p => f p.1) = K2) {P : Params} {h : Heap} (X : (K1 P).In h) : (K2 P).In h := by
  subst e; exact fun a o q => X a o (lookup_filter q)
theorem top_cast {p1 p2 : Program} {l : List Str} (e : p1 = p2) {mean : ExcName → Option Value} {mg mb : Str → Option Value} {h : Heap} (T : Top p1 (looseW p1 l) mean mg mb h) : Top p2 (looseW p2 l) mean mg mb h := e ▸ T
theorem fr_any {g h : Heap} {L : Addr} {m1 : Str → Option Value} {x : Str} {v : Value} (F : Fr g L h m1) (e : m1 x = some v) : Fr g L h (fun y => if y = x then some v else m1 y) := by
  have : m1 = fun y => if y = x then some v else m1 y := by
    funext y
    split
    · subst_vars; exact e
    · rfl
  exact this ▸ F
end Mine
set_option Elab.async true
set_option maxRecDepth 100000
namespace Mine
set_option pp.deepTerms false
set_option pp.deepTerms.threshold 4
set_option pp.maxSteps 1500
set_option maxHeartbeats 8000000 in
theorem the_law : PySem.Challenge.rw_nz0315_01.Holds := by
  (w_on; o_law; k_head; (case hw => w_witness2))
  w_strict k_go0
  rename Frag.In _ _ => X
  rename Top _ _ _ _ _ _ => T
  have X2 : (KH _).In _ := in_cut (K2 := KH) (fun a => Nat.beq (Nat.land (Nat.shiftRight keptM a) 1) 1) (by kernel_rfl) X
  have T2 := top_cast (p2 := VW) (by kernel_rfl) T
  rename Fr _ _ _ _ => F
  rename News _ _ _ _ => N
  rename Below _ _ _ _ => B
  rename IntsAre _ _ => hI
  rename ¬ (_ : Int) < _ => hlen
  have F2 := fr_any (x := Str.ofString "script") (v := .ref _) F rfl
  refine law0 ?PO ⟨B, F2, X2, N, T2, rfl, ?hd, ?hu⟩ (by assumption) (by assumption) hI (by omega) ?ret
  case PO => first | passes_own | (with_unfolding_all exact PySem.PassesOwn.leaving)
  case hd => ktr_room
  case hu => ktr_units
  case ret =>
    intro h' tk' mm FZ
    k_steps
end Mine
set_option maxRecDepth 100000 in
set_option maxHeartbeats 8000000 in
theorem PySem.Challenge.cw_nz0315_01_holds : PySem.Challenge.rw_nz0315_01.Holds :=
  Mine.the_law
