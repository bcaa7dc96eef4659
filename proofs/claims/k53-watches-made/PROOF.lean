import PyProof.Rows.All
import Wide.All
import OpenK.AllK
import Wide.FinOn
import HandS.ForMost
import HandS.ForExc
import HandS.CallSlots
import HandS.IsInst
import HandS.Lambda
import HandS.Deep
import HandS.TupAny
import HandS.SortInts
import HandS.Zip
import KE.DatumIndex
import KE.GoesEnum
import HandS.Style
import HandS.Set
import HandS.SetFor
import HandS.Strs
import HandS.Conv
import KE.SortData
import HandS.Star
import KE.DataFind
import KE.DataMinMax
import HandS.TupSets
import HandS.GenList
import PyProof.Rows.RowBridgeK
import PyProof.Rows.MatchSeqLen
import PyProof.RulesMatchSeq
import HandS.TupMul
import HandS.TupLe
import HandS.SetBool
import HandS.Dict
import HandS.Walk
import HandS.Sort
import HandS.DictTup
import KE.KDictCopyH
import KE.KDictZip
import KE.GoesZip
import HandS.ExcOwn
import PyProof.ExcBaseAll.ValueError
import HandS.HotCalls
import HandS.ExcIs
import HandS.Defaults
import KE.KOpsOwn
import HandS.Property
import HandS.TryMany
import HandS.ExcField
import HandS.ExcInit
import HandS.ClsMeth
import HandS.FStr
import HandS.Text
import HandS.RaiseMore
import PyProof.InstNe
import KE.KStar
import PyProof.EqAt
import PyProof.EqKinds
import HandS.Nested
import KE.KExcSuper
import KE.KSuper
import HandS.MakeKw
import KE.KUnpackStar
import PyProof.ReprBulk
import PySem.Challenge.RW_rootalarms_k53_watches_made
set_option Elab.async false
set_option linter.all false
set_option tactic.hygienic false
set_option maxRecDepth 100000
theorem EV.w_le8 {a : Nat} (h : a ≤ 8) : a ≤ 1000000 := Nat.le_trans h (by decide)
theorem EV.w_le {a b c : Nat} (h : a ≤ b) (k : b ≤ c) : a ≤ c := Nat.le_trans h k
theorem EV.w_lt {a b c : Nat} (h : a < b) (k : b ≤ c) : a < c := Nat.lt_of_lt_of_le h k
theorem EV.w_ile {a b c : Int} (h : a ≤ b) (k : b ≤ c) : a ≤ c := Int.le_trans h k
theorem EV.w_ilt {a b c : Int} (h : a ≤ b) (k : b < c) : a < c := Int.lt_of_le_of_lt h k
theorem EV.w_illt {a b c : Int} (h : a < b) (k : b ≤ c) : a < c := Int.lt_of_lt_of_le h k
theorem EV.w_pos {a : Nat} (h : a ≠ 0) : 0 < a := Nat.pos_of_ne_zero h
theorem EV.w_ne0 {a : Nat} (h : 0 < a) : a ≠ 0 := Nat.ne_of_gt h
theorem EV.w_lt1 {a b : Nat} (h : a < b) : a < b + 1 := Nat.lt_succ_of_lt h
theorem EV.w_add {a b c : Nat} (h : a < b) : a + c < b + c := Nat.add_lt_add_right h c
theorem EV.w_eq {a b : Nat} (h : a ≤ b) (k : ¬ a < b) : a = b := Nat.le_antisymm h (Nat.not_lt.mp k)
theorem EV.w_split {a b : Nat} (h : a < b + 1) (k : ¬ a < b) : a = b := Nat.le_antisymm (Nat.le_of_lt_succ h) (Nat.not_lt.mp k)
theorem EV.w_sub1 {a b : Nat} (h : a = b + 1) : a - 1 = b := by rw [h]; rfl
theorem EV.nnS {α : Type} {y : α} {p : Prop} (h : none = some y) : p := by cases h
theorem EV.nnB {p : Prop} (h : false = true) : p := by cases h
theorem EV.nnL {α : Type} {y : α} {l : List α} {p : Prop} (h : [] = y :: l) : p := by cases h
theorem EV.el0_2  {A0 A1 : Prop} {G : Prop} (h : A0 ∧ A1) (f : A0 → A1 → G) : G := f  h.1 h.2
theorem EV.el0_3  {A0 A1 A2 : Prop} {G : Prop} (h : A0 ∧ A1 ∧ A2) (f : A0 → A1 → A2 → G) : G := f  h.1 h.2.1 h.2.2
theorem EV.el0_4  {A0 A1 A2 A3 : Prop} {G : Prop} (h : A0 ∧ A1 ∧ A2 ∧ A3) (f : A0 → A1 → A2 → A3 → G) : G := f  h.1 h.2.1 h.2.2.1 h.2.2.2
theorem EV.el0_5  {A0 A1 A2 A3 A4 : Prop} {G : Prop} (h : A0 ∧ A1 ∧ A2 ∧ A3 ∧ A4) (f : A0 → A1 → A2 → A3 → A4 → G) : G := f  h.1 h.2.1 h.2.2.1 h.2.2.2.1 h.2.2.2.2
theorem EV.el0_6  {A0 A1 A2 A3 A4 A5 : Prop} {G : Prop} (h : A0 ∧ A1 ∧ A2 ∧ A3 ∧ A4 ∧ A5) (f : A0 → A1 → A2 → A3 → A4 → A5 → G) : G := f  h.1 h.2.1 h.2.2.1 h.2.2.2.1 h.2.2.2.2.1 h.2.2.2.2.2
theorem EV.el0_7  {A0 A1 A2 A3 A4 A5 A6 : Prop} {G : Prop} (h : A0 ∧ A1 ∧ A2 ∧ A3 ∧ A4 ∧ A5 ∧ A6) (f : A0 → A1 → A2 → A3 → A4 → A5 → A6 → G) : G := f  h.1 h.2.1 h.2.2.1 h.2.2.2.1 h.2.2.2.2.1 h.2.2.2.2.2.1 h.2.2.2.2.2.2
theorem EV.el0_8  {A0 A1 A2 A3 A4 A5 A6 A7 : Prop} {G : Prop} (h : A0 ∧ A1 ∧ A2 ∧ A3 ∧ A4 ∧ A5 ∧ A6 ∧ A7) (f : A0 → A1 → A2 → A3 → A4 → A5 → A6 → A7 → G) : G := f  h.1 h.2.1 h.2.2.1 h.2.2.2.1 h.2.2.2.2.1 h.2.2.2.2.2.1 h.2.2.2.2.2.2.1 h.2.2.2.2.2.2.2
theorem EV.el1_1.{u0} {t0 : Sort u0} {A0 : t0 → Prop} {G : Prop} (h : ∃ x0, A0 x0) (f : ∀ x0, A0 x0 → G) : G := h.elim fun x0 h => f x0 h
theorem EV.el1_2.{u0} {t0 : Sort u0} {A0 A1 : t0 → Prop} {G : Prop} (h : ∃ x0, A0 x0 ∧ A1 x0) (f : ∀ x0, A0 x0 → A1 x0 → G) : G := h.elim fun x0 h => f x0 h.1 h.2
theorem EV.el1_3.{u0} {t0 : Sort u0} {A0 A1 A2 : t0 → Prop} {G : Prop} (h : ∃ x0, A0 x0 ∧ A1 x0 ∧ A2 x0) (f : ∀ x0, A0 x0 → A1 x0 → A2 x0 → G) : G := h.elim fun x0 h => f x0 h.1 h.2.1 h.2.2
theorem EV.el1_4.{u0} {t0 : Sort u0} {A0 A1 A2 A3 : t0 → Prop} {G : Prop} (h : ∃ x0, A0 x0 ∧ A1 x0 ∧ A2 x0 ∧ A3 x0) (f : ∀ x0, A0 x0 → A1 x0 → A2 x0 → A3 x0 → G) : G := h.elim fun x0 h => f x0 h.1 h.2.1 h.2.2.1 h.2.2.2
theorem EV.el1_5.{u0} {t0 : Sort u0} {A0 A1 A2 A3 A4 : t0 → Prop} {G : Prop} (h : ∃ x0, A0 x0 ∧ A1 x0 ∧ A2 x0 ∧ A3 x0 ∧ A4 x0) (f : ∀ x0, A0 x0 → A1 x0 → A2 x0 → A3 x0 → A4 x0 → G) : G := h.elim fun x0 h => f x0 h.1 h.2.1 h.2.2.1 h.2.2.2.1 h.2.2.2.2
theorem EV.el1_6.{u0} {t0 : Sort u0} {A0 A1 A2 A3 A4 A5 : t0 → Prop} {G : Prop} (h : ∃ x0, A0 x0 ∧ A1 x0 ∧ A2 x0 ∧ A3 x0 ∧ A4 x0 ∧ A5 x0) (f : ∀ x0, A0 x0 → A1 x0 → A2 x0 → A3 x0 → A4 x0 → A5 x0 → G) : G := h.elim fun x0 h => f x0 h.1 h.2.1 h.2.2.1 h.2.2.2.1 h.2.2.2.2.1 h.2.2.2.2.2
theorem EV.el2_1.{u0,u1} {t0 : Sort u0} {t1 : Sort u1} {A0 : t0 → t1 → Prop} {G : Prop} (h : ∃ x0 x1, A0 x0 x1) (f : ∀ x0 x1, A0 x0 x1 → G) : G := h.elim fun x0 h => h.elim fun x1 h => f x0 x1 h
theorem EV.el2_2.{u0,u1} {t0 : Sort u0} {t1 : Sort u1} {A0 A1 : t0 → t1 → Prop} {G : Prop} (h : ∃ x0 x1, A0 x0 x1 ∧ A1 x0 x1) (f : ∀ x0 x1, A0 x0 x1 → A1 x0 x1 → G) : G := h.elim fun x0 h => h.elim fun x1 h => f x0 x1 h.1 h.2
theorem EV.el2_3.{u0,u1} {t0 : Sort u0} {t1 : Sort u1} {A0 A1 A2 : t0 → t1 → Prop} {G : Prop} (h : ∃ x0 x1, A0 x0 x1 ∧ A1 x0 x1 ∧ A2 x0 x1) (f : ∀ x0 x1, A0 x0 x1 → A1 x0 x1 → A2 x0 x1 → G) : G := h.elim fun x0 h => h.elim fun x1 h => f x0 x1 h.1 h.2.1 h.2.2
theorem EV.el2_4.{u0,u1} {t0 : Sort u0} {t1 : Sort u1} {A0 A1 A2 A3 : t0 → t1 → Prop} {G : Prop} (h : ∃ x0 x1, A0 x0 x1 ∧ A1 x0 x1 ∧ A2 x0 x1 ∧ A3 x0 x1) (f : ∀ x0 x1, A0 x0 x1 → A1 x0 x1 → A2 x0 x1 → A3 x0 x1 → G) : G := h.elim fun x0 h => h.elim fun x1 h => f x0 x1 h.1 h.2.1 h.2.2.1 h.2.2.2
theorem EV.el2_5.{u0,u1} {t0 : Sort u0} {t1 : Sort u1} {A0 A1 A2 A3 A4 : t0 → t1 → Prop} {G : Prop} (h : ∃ x0 x1, A0 x0 x1 ∧ A1 x0 x1 ∧ A2 x0 x1 ∧ A3 x0 x1 ∧ A4 x0 x1) (f : ∀ x0 x1, A0 x0 x1 → A1 x0 x1 → A2 x0 x1 → A3 x0 x1 → A4 x0 x1 → G) : G := h.elim fun x0 h => h.elim fun x1 h => f x0 x1 h.1 h.2.1 h.2.2.1 h.2.2.2.1 h.2.2.2.2
theorem EV.el2_6.{u0,u1} {t0 : Sort u0} {t1 : Sort u1} {A0 A1 A2 A3 A4 A5 : t0 → t1 → Prop} {G : Prop} (h : ∃ x0 x1, A0 x0 x1 ∧ A1 x0 x1 ∧ A2 x0 x1 ∧ A3 x0 x1 ∧ A4 x0 x1 ∧ A5 x0 x1) (f : ∀ x0 x1, A0 x0 x1 → A1 x0 x1 → A2 x0 x1 → A3 x0 x1 → A4 x0 x1 → A5 x0 x1 → G) : G := h.elim fun x0 h => h.elim fun x1 h => f x0 x1 h.1 h.2.1 h.2.2.1 h.2.2.2.1 h.2.2.2.2.1 h.2.2.2.2.2
theorem EV.el3_1.{u0,u1,u2} {t0 : Sort u0} {t1 : Sort u1} {t2 : Sort u2} {A0 : t0 → t1 → t2 → Prop} {G : Prop} (h : ∃ x0 x1 x2, A0 x0 x1 x2) (f : ∀ x0 x1 x2, A0 x0 x1 x2 → G) : G := h.elim fun x0 h => h.elim fun x1 h => h.elim fun x2 h => f x0 x1 x2 h
theorem EV.el3_2.{u0,u1,u2} {t0 : Sort u0} {t1 : Sort u1} {t2 : Sort u2} {A0 A1 : t0 → t1 → t2 → Prop} {G : Prop} (h : ∃ x0 x1 x2, A0 x0 x1 x2 ∧ A1 x0 x1 x2) (f : ∀ x0 x1 x2, A0 x0 x1 x2 → A1 x0 x1 x2 → G) : G := h.elim fun x0 h => h.elim fun x1 h => h.elim fun x2 h => f x0 x1 x2 h.1 h.2
theorem EV.el3_3.{u0,u1,u2} {t0 : Sort u0} {t1 : Sort u1} {t2 : Sort u2} {A0 A1 A2 : t0 → t1 → t2 → Prop} {G : Prop} (h : ∃ x0 x1 x2, A0 x0 x1 x2 ∧ A1 x0 x1 x2 ∧ A2 x0 x1 x2) (f : ∀ x0 x1 x2, A0 x0 x1 x2 → A1 x0 x1 x2 → A2 x0 x1 x2 → G) : G := h.elim fun x0 h => h.elim fun x1 h => h.elim fun x2 h => f x0 x1 x2 h.1 h.2.1 h.2.2
theorem EV.el3_4.{u0,u1,u2} {t0 : Sort u0} {t1 : Sort u1} {t2 : Sort u2} {A0 A1 A2 A3 : t0 → t1 → t2 → Prop} {G : Prop} (h : ∃ x0 x1 x2, A0 x0 x1 x2 ∧ A1 x0 x1 x2 ∧ A2 x0 x1 x2 ∧ A3 x0 x1 x2) (f : ∀ x0 x1 x2, A0 x0 x1 x2 → A1 x0 x1 x2 → A2 x0 x1 x2 → A3 x0 x1 x2 → G) : G := h.elim fun x0 h => h.elim fun x1 h => h.elim fun x2 h => f x0 x1 x2 h.1 h.2.1 h.2.2.1 h.2.2.2
theorem EV.el4_1.{u0,u1,u2,u3} {t0 : Sort u0} {t1 : Sort u1} {t2 : Sort u2} {t3 : Sort u3} {A0 : t0 → t1 → t2 → t3 → Prop} {G : Prop} (h : ∃ x0 x1 x2 x3, A0 x0 x1 x2 x3) (f : ∀ x0 x1 x2 x3, A0 x0 x1 x2 x3 → G) : G := h.elim fun x0 h => h.elim fun x1 h => h.elim fun x2 h => h.elim fun x3 h => f x0 x1 x2 x3 h
theorem EV.el4_2.{u0,u1,u2,u3} {t0 : Sort u0} {t1 : Sort u1} {t2 : Sort u2} {t3 : Sort u3} {A0 A1 : t0 → t1 → t2 → t3 → Prop} {G : Prop} (h : ∃ x0 x1 x2 x3, A0 x0 x1 x2 x3 ∧ A1 x0 x1 x2 x3) (f : ∀ x0 x1 x2 x3, A0 x0 x1 x2 x3 → A1 x0 x1 x2 x3 → G) : G := h.elim fun x0 h => h.elim fun x1 h => h.elim fun x2 h => h.elim fun x3 h => f x0 x1 x2 x3 h.1 h.2
theorem EV.el4_3.{u0,u1,u2,u3} {t0 : Sort u0} {t1 : Sort u1} {t2 : Sort u2} {t3 : Sort u3} {A0 A1 A2 : t0 → t1 → t2 → t3 → Prop} {G : Prop} (h : ∃ x0 x1 x2 x3, A0 x0 x1 x2 x3 ∧ A1 x0 x1 x2 x3 ∧ A2 x0 x1 x2 x3) (f : ∀ x0 x1 x2 x3, A0 x0 x1 x2 x3 → A1 x0 x1 x2 x3 → A2 x0 x1 x2 x3 → G) : G := h.elim fun x0 h => h.elim fun x1 h => h.elim fun x2 h => h.elim fun x3 h => f x0 x1 x2 x3 h.1 h.2.1 h.2.2
theorem EV.el4_4.{u0,u1,u2,u3} {t0 : Sort u0} {t1 : Sort u1} {t2 : Sort u2} {t3 : Sort u3} {A0 A1 A2 A3 : t0 → t1 → t2 → t3 → Prop} {G : Prop} (h : ∃ x0 x1 x2 x3, A0 x0 x1 x2 x3 ∧ A1 x0 x1 x2 x3 ∧ A2 x0 x1 x2 x3 ∧ A3 x0 x1 x2 x3) (f : ∀ x0 x1 x2 x3, A0 x0 x1 x2 x3 → A1 x0 x1 x2 x3 → A2 x0 x1 x2 x3 → A3 x0 x1 x2 x3 → G) : G := h.elim fun x0 h => h.elim fun x1 h => h.elim fun x2 h => h.elim fun x3 h => f x0 x1 x2 x3 h.1 h.2.1 h.2.2.1 h.2.2.2
theorem EV.el5_1.{u0,u1,u2,u3,u4} {t0 : Sort u0} {t1 : Sort u1} {t2 : Sort u2} {t3 : Sort u3} {t4 : Sort u4} {A0 : t0 → t1 → t2 → t3 → t4 → Prop} {G : Prop} (h : ∃ x0 x1 x2 x3 x4, A0 x0 x1 x2 x3 x4) (f : ∀ x0 x1 x2 x3 x4, A0 x0 x1 x2 x3 x4 → G) : G := h.elim fun x0 h => h.elim fun x1 h => h.elim fun x2 h => h.elim fun x3 h => h.elim fun x4 h => f x0 x1 x2 x3 x4 h
theorem EV.el5_2.{u0,u1,u2,u3,u4} {t0 : Sort u0} {t1 : Sort u1} {t2 : Sort u2} {t3 : Sort u3} {t4 : Sort u4} {A0 A1 : t0 → t1 → t2 → t3 → t4 → Prop} {G : Prop} (h : ∃ x0 x1 x2 x3 x4, A0 x0 x1 x2 x3 x4 ∧ A1 x0 x1 x2 x3 x4) (f : ∀ x0 x1 x2 x3 x4, A0 x0 x1 x2 x3 x4 → A1 x0 x1 x2 x3 x4 → G) : G := h.elim fun x0 h => h.elim fun x1 h => h.elim fun x2 h => h.elim fun x3 h => h.elim fun x4 h => f x0 x1 x2 x3 x4 h.1 h.2
theorem EV.el5_3.{u0,u1,u2,u3,u4} {t0 : Sort u0} {t1 : Sort u1} {t2 : Sort u2} {t3 : Sort u3} {t4 : Sort u4} {A0 A1 A2 : t0 → t1 → t2 → t3 → t4 → Prop} {G : Prop} (h : ∃ x0 x1 x2 x3 x4, A0 x0 x1 x2 x3 x4 ∧ A1 x0 x1 x2 x3 x4 ∧ A2 x0 x1 x2 x3 x4) (f : ∀ x0 x1 x2 x3 x4, A0 x0 x1 x2 x3 x4 → A1 x0 x1 x2 x3 x4 → A2 x0 x1 x2 x3 x4 → G) : G := h.elim fun x0 h => h.elim fun x1 h => h.elim fun x2 h => h.elim fun x3 h => h.elim fun x4 h => f x0 x1 x2 x3 x4 h.1 h.2.1 h.2.2
theorem EV.el6_2.{u0,u1,u2,u3,u4,u5} {t0 : Sort u0} {t1 : Sort u1} {t2 : Sort u2} {t3 : Sort u3} {t4 : Sort u4} {t5 : Sort u5} {A0 A1 : t0 → t1 → t2 → t3 → t4 → t5 → Prop} {G : Prop} (h : ∃ x0 x1 x2 x3 x4 x5, A0 x0 x1 x2 x3 x4 x5 ∧ A1 x0 x1 x2 x3 x4 x5) (f : ∀ x0 x1 x2 x3 x4 x5, A0 x0 x1 x2 x3 x4 x5 → A1 x0 x1 x2 x3 x4 x5 → G) : G := h.elim fun x0 h => h.elim fun x1 h => h.elim fun x2 h => h.elim fun x3 h => h.elim fun x4 h => h.elim fun x5 h => f x0 x1 x2 x3 x4 x5 h.1 h.2
theorem EV.in1_1.{u0} {t0 : Sort u0} {A0 : t0 → Prop} (x0 : t0) (h0 : A0 x0) : ∃ x0, A0 x0 := ⟨x0, h0⟩
theorem EV.in1_2.{u0} {t0 : Sort u0} {A0 A1 : t0 → Prop} (x0 : t0) (h0 : A0 x0) (h1 : A1 x0) : ∃ x0, A0 x0 ∧ A1 x0 := ⟨x0, h0, h1⟩
theorem EV.in1_3.{u0} {t0 : Sort u0} {A0 A1 A2 : t0 → Prop} (x0 : t0) (h0 : A0 x0) (h1 : A1 x0) (h2 : A2 x0) : ∃ x0, A0 x0 ∧ A1 x0 ∧ A2 x0 := ⟨x0, h0, h1, h2⟩
theorem EV.in1_4.{u0} {t0 : Sort u0} {A0 A1 A2 A3 : t0 → Prop} (x0 : t0) (h0 : A0 x0) (h1 : A1 x0) (h2 : A2 x0) (h3 : A3 x0) : ∃ x0, A0 x0 ∧ A1 x0 ∧ A2 x0 ∧ A3 x0 := ⟨x0, h0, h1, h2, h3⟩
theorem EV.in2_1.{u0,u1} {t0 : Sort u0} {t1 : Sort u1} {A0 : t0 → t1 → Prop} (x0 : t0) (x1 : t1) (h0 : A0 x0 x1) : ∃ x0 x1, A0 x0 x1 := ⟨x0, x1, h0⟩
theorem EV.in2_2.{u0,u1} {t0 : Sort u0} {t1 : Sort u1} {A0 A1 : t0 → t1 → Prop} (x0 : t0) (x1 : t1) (h0 : A0 x0 x1) (h1 : A1 x0 x1) : ∃ x0 x1, A0 x0 x1 ∧ A1 x0 x1 := ⟨x0, x1, h0, h1⟩
theorem EV.in2_3.{u0,u1} {t0 : Sort u0} {t1 : Sort u1} {A0 A1 A2 : t0 → t1 → Prop} (x0 : t0) (x1 : t1) (h0 : A0 x0 x1) (h1 : A1 x0 x1) (h2 : A2 x0 x1) : ∃ x0 x1, A0 x0 x1 ∧ A1 x0 x1 ∧ A2 x0 x1 := ⟨x0, x1, h0, h1, h2⟩
theorem EV.in2_4.{u0,u1} {t0 : Sort u0} {t1 : Sort u1} {A0 A1 A2 A3 : t0 → t1 → Prop} (x0 : t0) (x1 : t1) (h0 : A0 x0 x1) (h1 : A1 x0 x1) (h2 : A2 x0 x1) (h3 : A3 x0 x1) : ∃ x0 x1, A0 x0 x1 ∧ A1 x0 x1 ∧ A2 x0 x1 ∧ A3 x0 x1 := ⟨x0, x1, h0, h1, h2, h3⟩
theorem EV.in2_5.{u0,u1} {t0 : Sort u0} {t1 : Sort u1} {A0 A1 A2 A3 A4 : t0 → t1 → Prop} (x0 : t0) (x1 : t1) (h0 : A0 x0 x1) (h1 : A1 x0 x1) (h2 : A2 x0 x1) (h3 : A3 x0 x1) (h4 : A4 x0 x1) : ∃ x0 x1, A0 x0 x1 ∧ A1 x0 x1 ∧ A2 x0 x1 ∧ A3 x0 x1 ∧ A4 x0 x1 := ⟨x0, x1, h0, h1, h2, h3, h4⟩
theorem EV.in2_6.{u0,u1} {t0 : Sort u0} {t1 : Sort u1} {A0 A1 A2 A3 A4 A5 : t0 → t1 → Prop} (x0 : t0) (x1 : t1) (h0 : A0 x0 x1) (h1 : A1 x0 x1) (h2 : A2 x0 x1) (h3 : A3 x0 x1) (h4 : A4 x0 x1) (h5 : A5 x0 x1) : ∃ x0 x1, A0 x0 x1 ∧ A1 x0 x1 ∧ A2 x0 x1 ∧ A3 x0 x1 ∧ A4 x0 x1 ∧ A5 x0 x1 := ⟨x0, x1, h0, h1, h2, h3, h4, h5⟩
theorem EV.in2_7.{u0,u1} {t0 : Sort u0} {t1 : Sort u1} {A0 A1 A2 A3 A4 A5 A6 : t0 → t1 → Prop} (x0 : t0) (x1 : t1) (h0 : A0 x0 x1) (h1 : A1 x0 x1) (h2 : A2 x0 x1) (h3 : A3 x0 x1) (h4 : A4 x0 x1) (h5 : A5 x0 x1) (h6 : A6 x0 x1) : ∃ x0 x1, A0 x0 x1 ∧ A1 x0 x1 ∧ A2 x0 x1 ∧ A3 x0 x1 ∧ A4 x0 x1 ∧ A5 x0 x1 ∧ A6 x0 x1 := ⟨x0, x1, h0, h1, h2, h3, h4, h5, h6⟩
theorem EV.in3_1.{u0,u1,u2} {t0 : Sort u0} {t1 : Sort u1} {t2 : Sort u2} {A0 : t0 → t1 → t2 → Prop} (x0 : t0) (x1 : t1) (x2 : t2) (h0 : A0 x0 x1 x2) : ∃ x0 x1 x2, A0 x0 x1 x2 := ⟨x0, x1, x2, h0⟩
theorem EV.in3_3.{u0,u1,u2} {t0 : Sort u0} {t1 : Sort u1} {t2 : Sort u2} {A0 A1 A2 : t0 → t1 → t2 → Prop} (x0 : t0) (x1 : t1) (x2 : t2) (h0 : A0 x0 x1 x2) (h1 : A1 x0 x1 x2) (h2 : A2 x0 x1 x2) : ∃ x0 x1 x2, A0 x0 x1 x2 ∧ A1 x0 x1 x2 ∧ A2 x0 x1 x2 := ⟨x0, x1, x2, h0, h1, h2⟩
theorem EV.in3_4.{u0,u1,u2} {t0 : Sort u0} {t1 : Sort u1} {t2 : Sort u2} {A0 A1 A2 A3 : t0 → t1 → t2 → Prop} (x0 : t0) (x1 : t1) (x2 : t2) (h0 : A0 x0 x1 x2) (h1 : A1 x0 x1 x2) (h2 : A2 x0 x1 x2) (h3 : A3 x0 x1 x2) : ∃ x0 x1 x2, A0 x0 x1 x2 ∧ A1 x0 x1 x2 ∧ A2 x0 x1 x2 ∧ A3 x0 x1 x2 := ⟨x0, x1, x2, h0, h1, h2, h3⟩
theorem EV.in3_5.{u0,u1,u2} {t0 : Sort u0} {t1 : Sort u1} {t2 : Sort u2} {A0 A1 A2 A3 A4 : t0 → t1 → t2 → Prop} (x0 : t0) (x1 : t1) (x2 : t2) (h0 : A0 x0 x1 x2) (h1 : A1 x0 x1 x2) (h2 : A2 x0 x1 x2) (h3 : A3 x0 x1 x2) (h4 : A4 x0 x1 x2) : ∃ x0 x1 x2, A0 x0 x1 x2 ∧ A1 x0 x1 x2 ∧ A2 x0 x1 x2 ∧ A3 x0 x1 x2 ∧ A4 x0 x1 x2 := ⟨x0, x1, x2, h0, h1, h2, h3, h4⟩
theorem EV.in4_1.{u0,u1,u2,u3} {t0 : Sort u0} {t1 : Sort u1} {t2 : Sort u2} {t3 : Sort u3} {A0 : t0 → t1 → t2 → t3 → Prop} (x0 : t0) (x1 : t1) (x2 : t2) (x3 : t3) (h0 : A0 x0 x1 x2 x3) : ∃ x0 x1 x2 x3, A0 x0 x1 x2 x3 := ⟨x0, x1, x2, x3, h0⟩
theorem EV.in4_2.{u0,u1,u2,u3} {t0 : Sort u0} {t1 : Sort u1} {t2 : Sort u2} {t3 : Sort u3} {A0 A1 : t0 → t1 → t2 → t3 → Prop} (x0 : t0) (x1 : t1) (x2 : t2) (x3 : t3) (h0 : A0 x0 x1 x2 x3) (h1 : A1 x0 x1 x2 x3) : ∃ x0 x1 x2 x3, A0 x0 x1 x2 x3 ∧ A1 x0 x1 x2 x3 := ⟨x0, x1, x2, x3, h0, h1⟩
theorem EV.in4_5.{u0,u1,u2,u3} {t0 : Sort u0} {t1 : Sort u1} {t2 : Sort u2} {t3 : Sort u3} {A0 A1 A2 A3 A4 : t0 → t1 → t2 → t3 → Prop} (x0 : t0) (x1 : t1) (x2 : t2) (x3 : t3) (h0 : A0 x0 x1 x2 x3) (h1 : A1 x0 x1 x2 x3) (h2 : A2 x0 x1 x2 x3) (h3 : A3 x0 x1 x2 x3) (h4 : A4 x0 x1 x2 x3) : ∃ x0 x1 x2 x3, A0 x0 x1 x2 x3 ∧ A1 x0 x1 x2 x3 ∧ A2 x0 x1 x2 x3 ∧ A3 x0 x1 x2 x3 ∧ A4 x0 x1 x2 x3 := ⟨x0, x1, x2, x3, h0, h1, h2, h3, h4⟩
theorem EV.in5_1.{u0,u1,u2,u3,u4} {t0 : Sort u0} {t1 : Sort u1} {t2 : Sort u2} {t3 : Sort u3} {t4 : Sort u4} {A0 : t0 → t1 → t2 → t3 → t4 → Prop} (x0 : t0) (x1 : t1) (x2 : t2) (x3 : t3) (x4 : t4) (h0 : A0 x0 x1 x2 x3 x4) : ∃ x0 x1 x2 x3 x4, A0 x0 x1 x2 x3 x4 := ⟨x0, x1, x2, x3, x4, h0⟩
theorem EV.in5_2.{u0,u1,u2,u3,u4} {t0 : Sort u0} {t1 : Sort u1} {t2 : Sort u2} {t3 : Sort u3} {t4 : Sort u4} {A0 A1 : t0 → t1 → t2 → t3 → t4 → Prop} (x0 : t0) (x1 : t1) (x2 : t2) (x3 : t3) (x4 : t4) (h0 : A0 x0 x1 x2 x3 x4) (h1 : A1 x0 x1 x2 x3 x4) : ∃ x0 x1 x2 x3 x4, A0 x0 x1 x2 x3 x4 ∧ A1 x0 x1 x2 x3 x4 := ⟨x0, x1, x2, x3, x4, h0, h1⟩
theorem EV.in6_1.{u0,u1,u2,u3,u4,u5} {t0 : Sort u0} {t1 : Sort u1} {t2 : Sort u2} {t3 : Sort u3} {t4 : Sort u4} {t5 : Sort u5} {A0 : t0 → t1 → t2 → t3 → t4 → t5 → Prop} (x0 : t0) (x1 : t1) (x2 : t2) (x3 : t3) (x4 : t4) (x5 : t5) (h0 : A0 x0 x1 x2 x3 x4 x5) : ∃ x0 x1 x2 x3 x4 x5, A0 x0 x1 x2 x3 x4 x5 := ⟨x0, x1, x2, x3, x4, x5, h0⟩
open Lean.Parser.Tactic in
def EV.tac0 : Lean.Syntax := Lean.Unhygienic.run `(tacticSeq| intro _ z; cases z)
open Lean.Parser.Tactic in
def EV.tac1 : Lean.Syntax := Lean.Unhygienic.run `(tacticSeq| decide)
open Lean.Parser.Tactic in
def EV.tac2 : Lean.Syntax := Lean.Unhygienic.run `(tacticSeq| rfl)
open Lean.Parser.Tactic in
def EV.tac3 : Lean.Syntax := Lean.Unhygienic.run `(tacticSeq| intro _; rfl)
open Lean.Parser.Tactic in
def EV.tac4 : Lean.Syntax := Lean.Unhygienic.run `(tacticSeq| with_unfolding_all rfl)
open Lean.Parser.Tactic in
def EV.tac5 : Lean.Syntax := Lean.Unhygienic.run `(tacticSeq| first | exact Or.inl rfl | exact Or.inr rfl)
open Lean.Parser.Tactic in
def EV.tac6 : Lean.Syntax := Lean.Unhygienic.run `(tacticSeq| first | exact .inl rfl | exact .inr rfl)
open Lean.Parser.Tactic in
def EV.tac7 : Lean.Syntax := Lean.Unhygienic.run `(tacticSeq| first | exact Or.inl rfl | exact Or.inr (Or.inl rfl) | exact Or.inr (Or.inr rfl))
open Lean.Parser.Tactic in
def EV.tac8 : Lean.Syntax := Lean.Unhygienic.run `(tacticSeq| exact fun _ => True.intro)
open Lean.Parser.Tactic in
def EV.tac9 : Lean.Syntax := Lean.Unhygienic.run `(tacticSeq| intro _ _; with_unfolding_all rfl)
open Lean.Parser.Tactic in
def EV.tac10 : Lean.Syntax := Lean.Unhygienic.run `(tacticSeq| first | exact LamX.lamS_by (by decide +kernel) | exact LamX.lamS_by (by rfl))
open Lean.Parser.Tactic in
def EV.tac11 : Lean.Syntax := Lean.Unhygienic.run `(tacticSeq| intro _ _ _ _ _; rfl)
open Lean.Parser.Tactic in
def EV.tac12 : Lean.Syntax := Lean.Unhygienic.run `(tacticSeq| omega)
theorem EV.lv0 {α : Type} {us : List α} (h : us.length = 0) : us = [] := List.length_eq_zero_iff.mp h
theorem EV.lv1 {α : Type} {us : List α} (h : us.length = 1) : ∃ a, us = [a] := List.length_eq_one_iff.mp h
theorem EV.lv2 {α : Type} {us : List α} (h : us.length = 2) : ∃ a0 a1, us = [a0, a1] := by
  (refine EV.el2_1 (List.exists_cons_of_length_eq_add_one h) fun a0 r q1_ => ?_; obtain rfl := q1_)
  (refine EV.el1_1 (EV.lv1 (by simpa using h)) fun a1 q2_ => ?_; obtain rfl := q2_)
  exact EV.in2_1 a0 a1 rfl
theorem EV.lv3 {α : Type} {us : List α} (h : us.length = 3) : ∃ a0 a1 a2, us = [a0, a1, a2] := by
  (refine EV.el2_1 (List.exists_cons_of_length_eq_add_one h) fun a0 r q3_ => ?_; obtain rfl := q3_)
  (refine EV.el2_1 (EV.lv2 (by simpa using h)) fun a1 a2 q4_ => ?_; obtain rfl := q4_)
  exact EV.in3_1 a0 a1 a2 rfl
theorem EV.lv4 {α : Type} {us : List α} (h : us.length = 4) : ∃ a0 a1 a2 a3, us = [a0, a1, a2, a3] := by
  (refine EV.el2_1 (List.exists_cons_of_length_eq_add_one h) fun a0 r q5_ => ?_; obtain rfl := q5_)
  (refine EV.el3_1 (EV.lv3 (by simpa using h)) fun a1 a2 a3 q6_ => ?_; obtain rfl := q6_)
  exact EV.in4_1 a0 a1 a2 a3 rfl
theorem EV.lv5 {α : Type} {us : List α} (h : us.length = 5) : ∃ a0 a1 a2 a3 a4, us = [a0, a1, a2, a3, a4] := by
  (refine EV.el2_1 (List.exists_cons_of_length_eq_add_one h) fun a0 r q7_ => ?_; obtain rfl := q7_)
  (refine EV.el4_1 (EV.lv4 (by simpa using h)) fun a1 a2 a3 a4 q8_ => ?_; obtain rfl := q8_)
  exact EV.in5_1 a0 a1 a2 a3 a4 rfl
theorem EV.lv6 {α : Type} {us : List α} (h : us.length = 6) : ∃ a0 a1 a2 a3 a4 a5, us = [a0, a1, a2, a3, a4, a5] := by
  (refine EV.el2_1 (List.exists_cons_of_length_eq_add_one h) fun a0 r q9_ => ?_; obtain rfl := q9_)
  (refine EV.el5_1 (EV.lv5 (by simpa using h)) fun a1 a2 a3 a4 a5 q10_ => ?_; obtain rfl := q10_)
  exact EV.in6_1 a0 a1 a2 a3 a4 a5 rfl
theorem EV.ex4 {α β γ δ : Type} {A B : α → β → γ → δ → Prop} {p : Prop} (h : ∃ a b c d, A a b c d ∧ B a b c d) (f : ∀ a b c d, A a b c d → B a b c d → p) : p := h.elim fun a h => h.elim fun b h => h.elim fun c h => h.elim fun d h => f a b c d h.1 h.2
namespace EV
/-- the defs of this law that make lambdas -/
def lamNames : List PySem.Str := ["law"]
end EV
namespace EV
open PySem PySem.Spec PyProof.Rows L2
/-- data trees -/
inductive D where
  | non | bl (b : Bool) | int (i : Int) | str (x : Str)
  | tup (xs : List D) | lst (xs : List D)
  | dct (kvs : List (D × D)) | obj (C : Addr) (fs : List (Str × D)) | cls (C : Addr)
structure Ex where
  name : Str
  fs : List (Str × D)
/-- results, with the state of the pen -/
inductive R (α : Type) where
  | ok (a : α) (s : List Int) | exc (e : Ex) | bad
noncomputable def PM (α : Type) : Type := List Int → R α
noncomputable def PM.pure {α : Type} (a : α) : PM α := fun s => .ok a s
noncomputable def PM.bind {α β : Type} (m : PM α) (f : α → PM β) : PM β := fun s => match m s with
  | .ok a s1 => f a s1
  | .exc e => .exc e
  | .bad => .bad
noncomputable instance : Monad PM where
  pure := PM.pure
  bind := PM.bind
theorem PM.bind_def {α β : Type} (m : PM α) (f : α → PM β) (s : List Int) : (m >>= f) s = match m s with
  | .ok a s1 => f a s1
  | .exc e => .exc e
  | .bad => .bad := rfl
noncomputable instance : LawfulMonad PM := LawfulMonad.mk'
  (id_map := fun x => by
    funext s
    show PM.bind x (fun a => PM.pure a) s = x s
    unfold PM.bind PM.pure
    cases x s <;> rfl)
  (pure_bind := fun _ _ => rfl)
  (bind_assoc := fun x f g => by
    funext s
    show PM.bind (PM.bind x f) g s = PM.bind x (fun a => PM.bind (f a) g) s
    unfold PM.bind
    cases x s <;> rfl)
  (bind_pure_comp := fun _ _ => rfl)
noncomputable def bad {α : Type} : PM α := fun _ => .bad
noncomputable def raiseP {α : Type} (e : Ex) : PM α := fun _ => .exc e
/-- a def without the pen -/
noncomputable def run0 {α : Type} (m : PM α) : PM α := fun s => match m [] with
  | .ok a _ => .ok a s
  | .exc e => .exc e
  | .bad => .bad
/-- the object of a tuple without a dict -/
structure TupO where
  ob : Obj
  cls : ob.cls = .type "tuple"
  dict : ob.dict = none
inductive DSh where
  | t (ks : List (List Int)) | k (ks : List Int) | tu (n : Nat) | tn (o : Unit → TupO) (n : Nat) | ins (x C dx : Addr) (ks : List Str)
/-- a dict with keys of this shape: tuples of ints; ints; or a tuple that was made here -/
noncomputable def DSh.ho : DSh → List V → HO
  | .t ks, vs => .dT ((ks.map fun r => r.map Sum.inl).zip vs)
  | .k ks, vs => .dK ((ks.map Sum.inl).zip vs)
  | .tu _, vs => .tup vs
  | .tn o _, vs => .frz (o ()).ob (.tup vs)
  | .ins _ C dx ks, vs => .ins C dx (ks.zip vs)
/-- an instance that is being made: where it is -/
noncomputable def DSh.at : DSh → Addr → Prop
  | .ins x _ _ _, p => p = x
  | _, _ => True
noncomputable def DSh.len : DSh → Nat
  | .t ks => ks.length
  | .k ks => ks.length
  | .tu n => n
  | .tn _ n => n
  | .ins _ _ _ ks => ks.length
theorem DSh.notLst {sh : DSh} {vs xs : List V} (h : sh.ho vs = .lst xs) : False := by
  cases sh <;> cases h
/-- the keys, as trees (of dicts alone) -/
noncomputable def DSh.keysD : DSh → Option (List D)
  | .t ks => some (ks.map fun r => .tup (r.map .int))
  | .k ks => some (ks.map .int)
  | .tu _ => none
  | .tn _ _ => none
  | .ins _ _ _ _ => none
theorem DSh.notTbl {sh : DSh} {vs : List V} {ps : Array Value} (h : sh.ho vs = .tbl ps) : False := by
  cases sh <;> cases h
theorem DSh.notExt {sh : DSh} {vs : List V} {φ : Heap → Prop} (h : sh.ho vs = .ext φ) : False := by
  cases sh <;> cases h
/-- the code object at c is known, its name is n, its table is at P; q is the name of its lambdas -/
noncomputable def TabOf (K : PySem.W.Frag) (P : Addr) (q : Str) : Prop := ∃ (c : Addr) (o : Obj) (vs : Array Value) (n : Str) (t : Tok), K.lookup c = some o ∧ o.data = .fields vs ∧ vs[1]? = some (.str n t) ∧ vs[11]? = some (.ref P) ∧ q = (n ++ ".<locals>.") ++ "<lambda>"
/-- the name of the lambdas of the table at P -/
noncomputable def tauK (K : PySem.W.Frag) (P : Addr) : Str := @dite _ (∃ q, TabOf K P q) (Classical.propDecidable _) (fun h => Classical.choose h) fun _ => ""
theorem tauK_of {K : PySem.W.Frag} {P : Addr} {q : Str} (h : TabOf K P q) (u : ∀ q', TabOf K P q' → q' = q) : tauK K P = q := by
  unfold tauK
  rw [dif_pos ⟨q, h⟩]
  exact u _ (Classical.choose_spec (⟨q, h⟩ : ∃ q, TabOf K P q))
/-- the table at P is that of a def which makes lambdas -/
noncomputable def NeedT (K : PySem.W.Frag) (P : Addr) : Prop := ∃ (c : Addr) (o : Obj) (vs : Array Value) (n : Str) (t : Tok), K.lookup c = some o ∧ o.data = .fields vs ∧ vs[1]? = some (.str n t) ∧ vs[11]? = some (.ref P) ∧ n ∈ lamNames
/-- the tracked tables are right; those of makers of lambdas are tracked -/
structure TabK (K : PySem.W.Frag) (H : Hp) : Prop where
  ok : ∀ P ps, H P = some (.tbl ps) → LamX.TabS H P (tauK K P)
  on : ∀ P, NeedT K P → ∃ ps, H P = some (.tbl ps)
theorem TabK.keep {K : PySem.W.Frag} {H H' : Hp} (h : TabK K H) (ht : ∀ P ps, H' P = some (.tbl ps) → H P = some (.tbl ps)) (he : ∀ c φ, H c = some (.ext φ) → H' c = some (.ext φ)) (hq : ∀ P ps, H P = some (.tbl ps) → H' P = some (.tbl ps)) : TabK K H' := ⟨fun P ps e => by
  refine EV.el1_3 (h.ok P ps (ht P ps e)) fun ps' h1 h2 h3 => ?_
  rw [ht P ps e] at h1
  cases h1
  refine EV.in1_3 ps e h2 (fun pos cv hc => ?_)
  refine EV.el1_2 (h3 pos cv hc) fun c e1 e2 => ?_
  exact ⟨c, e1, he c _ e2⟩, fun P n => by
  refine EV.el1_1 (h.on P n) fun ps e => ?_
  exact ⟨ps, hq P ps e⟩⟩
theorem TabK.upd {K : PySem.W.Frag} {H : Hp} (h : TabK K H) {p : Addr} {o : HO} (ho : ∀ ps, o ≠ .tbl ps) (hp : ∀ φ, H p ≠ some (.ext φ)) (hq : ∀ ps, H p ≠ some (.tbl ps)) : TabK K (L2.upd H p o) := h.keep (fun P ps e => by
  by_cases z : P = p
  · subst z
    rw [upd_same] at e
    exact absurd (Option.some.inj e) (ho ps)
  · rw [upd_ne z] at e
    exact e) (fun c φ e => by
  rw [upd_ne (fun z : c = p => hp φ (by rw [← z]; exact e))]
  exact e) fun c ps e => by
  rw [upd_ne (fun z : c = p => hq ps (by rw [← z]; exact e))]
  exact e
theorem TabK.updL {K : PySem.W.Frag} {H : Hp} (h : TabK K H) {p : Addr} {ws vs : List V} (hp : H p = some (.lst ws)) : TabK K (L2.upd H p (.lst vs)) := h.upd (fun _ z => by cases z) (fun φ z => by
  rw [hp] at z
  cases z) fun ps z => by
  rw [hp] at z
  cases z
/-- no table is public -/
noncomputable def NoT (G : Hp) : Prop := ∀ P ps, G P ≠ some (.tbl ps)
theorem NoT.upd {G : Hp} (h : NoT G) {p : Addr} {o : HO} (ho : ∀ ps, o ≠ .tbl ps) : NoT (L2.upd G p o) := fun P ps e => by
  by_cases z : P = p
  · subst z
    rw [upd_same] at e
    exact ho ps (Option.some.inj e)
  · rw [upd_ne z] at e
    exact h P ps e
theorem nt_lst (xs : List V) : ∀ ps, HO.lst xs ≠ .tbl ps := fun _ z => by cases z
/-- what is asked of an own class -/
structure ObjC (K : PySem.W.Frag) (C : Addr) : Prop where
  cl : Cls K C
  ha : PySem.W.findIn K (.ref C) "__class__" = some (some (.builtin "object.__class__"))
  hn : PySem.W.specialIn K (.builtin "object.__class__") "__get__" = some (some (.builtin "getset_descriptor.__get__"))
  htk : PySem.W.takesIn K (.builtin "object.__class__") = some true
  hm : PySem.W.mroIn K C (.type "object") = some true
  bt : ∀ T ∈ ["int", "bool", "tuple", "str", "list"], PySem.W.kitOne K (.ref C) (.type T) = some false
inductive Rp (K : PySem.W.Frag) (G : Hp) : V → D → Prop
  | non : Rp K G .non .non
  | bl (b : Bool) : Rp K G (.bl b) (.bl b)
  | int (i : Int) : Rp K G (.int i) (.int i)
  | str (x : Str) : Rp K G (.str x) (.str x)
  | lst {a : Addr} {xs : List V} {ds : List D} (h : G a = some (.lst xs)) (n : xs.length = ds.length) (r : ∀ (i : Nat) v d, xs[i]? = some v → ds[i]? = some d → Rp K G v d) : Rp K G (.ref a) (.lst ds)
  | tup {a : Addr} {xs : List V} {ds : List D} (h : SqT K G a xs) (n : xs.length = ds.length) (r : ∀ (i : Nat) v d, xs[i]? = some v → ds[i]? = some d → Rp K G v d) : Rp K G (.ref a) (.tup ds)
  | dct {a : Addr} {sh : DSh} {vs : List V} {kvs : List (D × D)} (h : G a = some (sh.ho vs)) (hk : sh.keysD = some (kvs.map (·.1))) (n : vs.length = kvs.length) (r : ∀ (i : Nat) v d, vs[i]? = some v → kvs[i]? = some d → Rp K G v d.2) : Rp K G (.ref a) (.dct kvs)
  | obj {a C dx : Addr} {fvs : List (Str × V)} {fs : List (Str × D)} (h : G a = some (.ins C dx fvs)) (hc : ObjC K C) (hk : fvs.map (·.1) = fs.map (·.1)) (r : ∀ (i : Nat) (v : Str × V) (d : Str × D), fvs[i]? = some v → fs[i]? = some d → Rp K G v.2 d.2) : Rp K G (.ref a) (.obj C fs)
  | cls (C : Addr) : Rp K G (.ref C) (.cls C)
/-- lists of them -/
noncomputable def RpL (K : PySem.W.Frag) (G : Hp) (vs : List V) (ds : List D) : Prop := vs.length = ds.length ∧ ∀ (i : Nat) v d, vs[i]? = some v → ds[i]? = some d → Rp K G v d
section
variable {K : PySem.W.Frag} {G G' : Hp}
theorem sameT {a : Addr} {xs : List V} (e : Same G G') (h : SqT K G a xs) : SqT K G' a xs := by
  rcases h with (h | ⟨o, h⟩) | h
  · exact .inl (.inl (e _ _ h))
  · exact .inl (.inr ⟨o, e _ _ h⟩)
  · exact .inr h
theorem Rp.mono (e : Same G G') {v : V} {d : D} (h : Rp K G v d) : Rp K G' v d := by
  induction h with
  | non => exact .non
  | bl b => exact .bl b
  | int i => exact .int i
  | str x => exact .str x
  | lst h n _ ih => exact .lst (e _ _ h) n ih
  | tup h n _ ih => exact .tup (sameT e h) n ih
  | dct h hk n _ ih => exact .dct (e _ _ h) hk n ih
  | obj h hc hk _ ih => exact .obj (e _ _ h) hc hk ih
  | cls C => exact .cls C
theorem RpL.mono (e : Same G G') {vs : List V} {ds : List D} (h : RpL K G vs ds) : RpL K G' vs ds := ⟨h.1, fun i v d h1 h2 => (h.2 i v d h1 h2).mono e⟩
theorem RpL.nil : RpL K G [] [] := ⟨rfl, fun i v d h _ => by simp at h⟩
theorem RpL.cons {v : V} {vs : List V} {d : D} {ds : List D} (h : Rp K G v d) (t : RpL K G vs ds) : RpL K G (v :: vs) (d :: ds) := by
  refine ⟨by simp [t.1], fun i w e h1 h2 => ?_⟩
  cases i with
  | zero => simp at h1 h2; subst h1; subst h2; exact h
  | succ i => exact t.2 i w e (by simpa using h1) (by simpa using h2)
theorem RpL.tail {v : V} {vs : List V} {d : D} {ds : List D} (h : RpL K G (v :: vs) (d :: ds)) : Rp K G v d ∧ RpL K G vs ds :=
  ⟨h.2 0 v d rfl rfl, by simpa using h.1, fun i w e h1 h2 => h.2 (i + 1) w e (by simpa using h1) (by simpa using h2)⟩
theorem RpL.app {vs ws : List V} {ds es : List D} (h : RpL K G vs ds) (t : RpL K G ws es) : RpL K G (vs ++ ws) (ds ++ es) := by
  refine ⟨by simp [h.1, t.1], fun i w e h1 h2 => ?_⟩
  by_cases hi : i < vs.length
  · rw [List.getElem?_append_left hi] at h1
    rw [List.getElem?_append_left (by rw [← h.1]; exact hi)] at h2
    exact h.2 i w e h1 h2
  · rw [List.getElem?_append_right (by exact Nat.not_lt.mp (by assumption))] at h1
    rw [List.getElem?_append_right (by rw [← h.1]; exact Nat.not_lt.mp (by assumption))] at h2
    exact t.2 (i - vs.length) w e h1 (by rw [h.1]; exact h2)
theorem RpL.get {vs : List V} {ds : List D} (h : RpL K G vs ds) {i : Nat} {d : D} (e : ds[i]? = some d) : ∃ v, vs[i]? = some v ∧ Rp K G v d := by
  have hi : i < vs.length := by
    rw [h.1]
    exact (List.getElem?_eq_some_iff.mp e).1
  exact EV.in1_2 (vs[i]) (List.getElem?_eq_getElem hi) (h.2 i _ d (List.getElem?_eq_getElem hi) e)
theorem RpL.take {vs : List V} {ds : List D} (h : RpL K G vs ds) (n : Nat) : RpL K G (vs.take n) (ds.take n) := by
  refine ⟨by simp [h.1], fun i v d h1 h2 => ?_⟩
  by_cases hi : i < n
  · rw [List.getElem?_take_of_lt hi] at h1 h2
    exact h.2 i v d h1 h2
  · rw [List.getElem?_take, if_neg hi] at h1
    exact EV.nnS h1
theorem RpL.drop {vs : List V} {ds : List D} (h : RpL K G vs ds) (n : Nat) : RpL K G (vs.drop n) (ds.drop n) := by
  refine ⟨by simp [h.1], fun i v d h1 h2 => ?_⟩
  rw [List.getElem?_drop] at h1 h2
  exact h.2 _ v d h1 h2
theorem RpL.map_of {α : Type} {f : α → V} {g : α → D} : ∀ (xs : List α), (∀ x ∈ xs, Rp K G (f x) (g x)) → RpL K G (xs.map f) (xs.map g)
  | [], _ => .nil
  | x :: xs, h => .cons (h x List.mem_cons_self) (RpL.map_of xs fun y hy => h y (List.mem_cons_of_mem _ hy))
theorem Rp.mkL {a : Addr} {xs : List V} {ds : List D} (h : G a = some (.lst xs)) (r : RpL K G xs ds) : Rp K G (.ref a) (.lst ds) := .lst h r.1 r.2
theorem Rp.mkT {a : Addr} {xs : List V} {ds : List D} (h : SqT K G a xs) (r : RpL K G xs ds) : Rp K G (.ref a) (.tup ds) := .tup h r.1 r.2
end
structure Ext (K : PySem.W.Frag) (pa : Option Addr) (G H G' H' : Hp) : Prop where
  g : Same G G'
  hh : ∀ a o, H a = some o → pa ≠ some a → (∀ ps, o ≠ .tbl ps) → H' a = some o
  t : ∀ a o, H a = some o → ∃ o', H' a = some o'
  n : ∀ a o, H a = some o → G a = none → G' a = none
  sub : Same G' H'
  tk : TabK K H → TabK K H'
  gt : NoT G → NoT G'
theorem Ext.h {K : PySem.W.Frag} {pa : Option Addr} {G H G' H' : Hp} (x : Ext K pa G H G' H') (a : Addr) (o : HO) (e : H a = some o) (n : pa ≠ some a) (t : autoParam (∀ ps, o ≠ .tbl ps) EV.tac0) : H' a = some o := x.hh a o e n t
section
variable {K : PySem.W.Frag} {pa : Option Addr} {G H G1 H1 G2 H2 : Hp}
theorem Ext.refl (h : Same G H) : Ext K pa G H G H := ⟨Same.refl G, fun _ _ e _ _ => e, fun _ o e => ⟨o, e⟩, fun _ _ _ e => e, h, fun h => h, fun h => h⟩
theorem Ext.trans (a : Ext K pa G H G1 H1) (b : Ext K pa G1 H1 G2 H2) : Ext K pa G H G2 H2 :=
  ⟨a.g.trans b.g, fun c o e n t => b.h c o (a.h c o e n t) n t, fun c o e => by
    refine EV.el1_1 (a.t c o e) fun o' e' => ?_
    exact b.t c o' e', fun c o e n => by
    refine EV.el1_1 (a.t c o e) fun o' e' => ?_
    exact b.n c o' e' (a.n c o e n), b.sub, fun h => b.tk (a.tk h), fun h => b.gt (a.gt h)⟩
/-- a new object is laid, and public -/
theorem Ext.new (hs : Same G H) {p : Addr} (hp : H p = none) (o : HO) (ot : autoParam (∀ ps, o ≠ .tbl ps) EV.tac0) : Ext K pa G H (upd G p o) (upd H p o) := by
  have hg : G p = none := hs.free hp
  refine ⟨fun b x e => ?_, fun a x e _ _ => ?_, fun a x e => ⟨x, ?_⟩, fun a x e n => ?_, fun b x e => ?_, fun h => h.upd ot (fun φ z => by rw [hp] at z; exact EV.nnS z) (fun φ z => by rw [hp] at z; exact EV.nnS z), fun h => h.upd ot⟩
  · rw [upd_ne (ne_of_none e hg)]; exact e
  · rw [upd_ne (ne_of_none e hp)]; exact e
  · rw [upd_ne (ne_of_none e hp)]; exact e
  · rw [upd_ne (ne_of_none e hp)]; exact n
  · by_cases hb : b = p
    · subst hb
      rw [upd_same] at e ⊢
      exact e
    · rw [upd_ne hb] at e ⊢
      exact hs _ _ e
/-- a new object is laid, not public -/
theorem Ext.newH (hs : Same G H) {p : Addr} (hp : H p = none) (o : HO) (ot : autoParam (∀ ps, o ≠ .tbl ps) EV.tac0) : Ext K pa G H G (upd H p o) := by
  refine ⟨Same.refl G, fun a x e _ _ => ?_, fun a x e => ⟨x, ?_⟩, fun _ _ _ n => n, fun b x e => ?_, fun h => h.upd ot (fun φ z => by rw [hp] at z; exact EV.nnS z) (fun φ z => by rw [hp] at z; exact EV.nnS z), fun h => h⟩
  · rw [upd_ne (ne_of_none e hp)]; exact e
  · rw [upd_ne (ne_of_none e hp)]; exact e
  · have e' := hs _ _ e
    rw [upd_ne (ne_of_none e' hp)]; exact e'
end
noncomputable def PenOk (pa : Option Addr) (G H : Hp) (s : List Int) : Prop := ∀ p, pa = some p → G p = none ∧ H p = some (.lst (s.map V.int))
theorem PenOk.none {G H : Hp} {s : List Int} : PenOk none G H s := fun p e => by exact EV.nnS e
theorem PenOk.upd {pa : Option Addr} {G H : Hp} {s : List Int} (h : PenOk pa G H s) {p : Addr} (hp : H p = Option.none) (o : HO) : PenOk pa (upd G p o) (upd H p o) s := fun q e => by
  refine EV.el0_2 (h q e) fun h1 h2 => ?_
  have ne : q ≠ p := ne_of_none h2 hp
  rw [upd_ne ne, upd_ne ne]
  exact ⟨h1, h2⟩
theorem PenOk.updH {pa : Option Addr} {G H : Hp} {s : List Int} (h : PenOk pa G H s) {p : Addr} (hp : H p = Option.none) (o : HO) : PenOk pa G (L2.upd H p o) s := fun q e => by
  refine EV.el0_2 (h q e) fun h1 h2 => ?_
  rw [upd_ne (ne_of_none h2 hp)]
  exact ⟨h1, h2⟩
/-- what is known of a slot -/
inductive Sl where
  | junk | val (d : D) | own (xs : List D) | pen | scr (ns : List Int) | dic (sh : DSh) (xs : List D) | ro (sh : DSh) (xs : List D)
noncomputable def plainS : Sl → Bool
  | .dic _ _ => false
  | .ro _ _ => false
  | _ => true
theorem plain_dic {z : Sl} {sh : DSh} {xs : List D} (h : plainS z = true) (e : z = .dic sh xs) : False := by
  rw [e] at h
  exact EV.nnB h
theorem plain_ro {z : Sl} {sh : DSh} {xs : List D} (h : plainS z = true) (e : z = .ro sh xs) : False := by
  rw [e] at h
  exact EV.nnB h
/-- slots that hold dicts: one's own (dic), one that stays as it is (ro) -/
structure NvX (K : PySem.W.Frag) (H0 G H : Hp) (σ : L2.St) (Γ : List Sl) : Prop where
  dic : ∀ (i : Nat) sh xs, Γ[i]? = some (.dic sh xs) → ∃ p vs, σ[i]? = some (some (.ref p)) ∧ H p = some (sh.ho vs) ∧ G p = none ∧ RpL K G vs xs ∧ sh.len = xs.length ∧ H0 p = none ∧ sh.at p
  inj : ∀ (i j : Nat) p sh xs sh' ys, Γ[i]? = some (.dic sh xs) → Γ[j]? = some (.dic sh' ys) → σ[i]? = some (some (.ref p)) → σ[j]? = some (some (.ref p)) → i = j
  ro : ∀ (i : Nat) sh xs, Γ[i]? = some (.ro sh xs) → ∃ p vs, σ[i]? = some (some (.ref p)) ∧ G p = some (sh.ho vs) ∧ RpL K G vs xs ∧ sh.len = xs.length
  t0 : TabK K H0
  nt : NoT G
section
variable {K : PySem.W.Frag} {pa : Option Addr} {H0 G H G' H' : Hp} {σ : L2.St} {Γ : List Sl} {s : List Int}
theorem NvX.none (h : ∀ z ∈ Γ, plainS z = true) (t0 : TabK K H0) (nt : NoT G) : NvX K H0 G H σ Γ := ⟨fun i sh xs e => (plain_dic (h _ (List.mem_of_getElem? e)) rfl).elim, fun i j p sh xs sh' ys e => (plain_dic (h _ (List.mem_of_getElem? e)) rfl).elim, fun i sh xs e => (plain_ro (h _ (List.mem_of_getElem? e)) rfl).elim, t0, nt⟩
theorem NvX.step (E : NvX K H0 G H σ Γ) (x : Ext K pa G H G' H') (ps : PenOk pa G H s) : NvX K H0 G' H' σ Γ := ⟨fun i sh xs e => by
    refine EV.el2_6 (E.dic i sh xs e) fun p vs h1 h2 h3 h4 h5 h6 => ?_
    refine EV.in2_6 p vs h1 (x.h _ _ h2 (fun z => ?_) (fun _ z => DSh.notTbl z)) (x.n _ _ h2 h3) (h4.mono x.g) h5 h6
    have q := (ps p z).2
    rw [h2] at q
    exact DSh.notLst (Option.some.inj q), E.inj, fun i sh xs e => by
    refine EV.el2_4 (E.ro i sh xs e) fun p vs h1 h2 h3 h4 => ?_
    exact ⟨p, vs, h1, x.g _ _ h2, h3.mono x.g, h4⟩, E.t0, x.gt E.nt⟩
theorem set_plain {z w : Sl} {i j : Nat} (hz : plainS z = true) (hw : plainS w = false) (e : (Γ.set i z)[j]? = some w) : i ≠ j ∧ Γ[j]? = some w := by
  by_cases hj : i = j
  · subst hj
    have hi := (List.getElem?_eq_some_iff.mp e).1
    rw [List.getElem?_set_self (by simpa using hi)] at e
    rw [Option.some.inj e] at hz
    rw [hz] at hw
    exact EV.nnB (Eq.symm hw)
  · rw [List.getElem?_set_ne hj] at e
    exact ⟨hj, e⟩
theorem NvX.put (E : NvX K H0 G H σ Γ) (i : Nat) {o : Option V} {z : Sl} (hz : plainS z = true) : NvX K H0 G H (σ.set i o) (Γ.set i z) := ⟨fun j sh xs e => by
    refine EV.el0_2 (set_plain hz rfl e) fun ne e => ?_
    rw [List.getElem?_set_ne ne]
    exact E.dic j sh xs e, fun j l p sh xs sh' ys e1 e2 => by
    refine EV.el0_2 (set_plain hz rfl e1) fun n1 e1 => ?_
    refine EV.el0_2 (set_plain hz rfl e2) fun n2 e2 => ?_
    rw [List.getElem?_set_ne n1, List.getElem?_set_ne n2]
    exact E.inj j l p sh xs sh' ys e1 e2, fun j sh xs e => by
    refine EV.el0_2 (set_plain hz rfl e) fun ne e => ?_
    rw [List.getElem?_set_ne ne]
    exact E.ro j sh xs e, E.t0, E.nt⟩
theorem NvX.putG (E : NvX K H0 G H σ Γ) (i : Nat) {z : Sl} (hz : plainS z = true) : NvX K H0 G H σ (Γ.set i z) := ⟨fun j sh xs e => by
    refine EV.el0_2 (set_plain hz rfl e) fun ne e => ?_
    exact E.dic j sh xs e, fun j l p sh xs sh' ys e1 e2 => by
    refine EV.el0_2 (set_plain hz rfl e1) fun n1 e1 => ?_
    refine EV.el0_2 (set_plain hz rfl e2) fun n2 e2 => ?_
    exact E.inj j l p sh xs sh' ys e1 e2, fun j sh xs e => by
    refine EV.el0_2 (set_plain hz rfl e) fun ne e => ?_
    exact E.ro j sh xs e, E.t0, E.nt⟩
theorem NvX.updL (E : NvX K H0 G H σ Γ) {p : Addr} {ws : List V} {o : HO} (hp : H p = some (.lst ws)) : NvX K H0 G (upd H p o) σ Γ := ⟨fun i sh xs e => by
    refine EV.el2_3 (E.dic i sh xs e) fun q vs h1 h2 h3 => ?_
    have ne : q ≠ p := fun z => by
      rw [z, hp] at h2
      exact DSh.notLst (Option.some.inj h2).symm
    exact ⟨q, vs, h1, by rw [upd_ne ne]; exact h2, h3⟩, E.inj, E.ro, E.t0, E.nt⟩
theorem NvX.pubL (E : NvX K H0 G H σ Γ) {p : Addr} {ws : List V} (hp : H p = some (.lst ws)) (hg : G p = Option.none) : NvX K H0 (upd G p (.lst ws)) H σ Γ := by
  have sg : Same G (upd G p (.lst ws)) := fun a o e => by
    rw [upd_ne (ne_of_none e hg)]
    exact e
  refine ⟨fun i sh xs e => ?_, E.inj, fun i sh xs e => ?_, E.t0, E.nt.upd (nt_lst _)⟩
  · refine EV.el2_5 (E.dic i sh xs e) fun q vs h1 h2 h3 h4 h5 => ?_
    have ne : q ≠ p := fun z => by
      rw [z, hp] at h2
      exact DSh.notLst (Option.some.inj h2).symm
    exact EV.in2_5 q vs h1 h2 (by rw [upd_ne ne]; exact h3) (h4.mono sg) h5
  · refine EV.el2_4 (E.ro i sh xs e) fun q vs h1 h2 h3 h4 => ?_
    exact EV.in2_4 q vs h1 (sg _ _ h2) (h3.mono sg) h4
end
structure Nv (K : PySem.W.Frag) (pa : Option Addr) (G0 H0 G H : Hp) (σ : L2.St) (Γ : List Sl) (s : List Int) : Prop where
  len : Γ.length = σ.length
  val : ∀ (i : Nat) d, Γ[i]? = some (.val d) → ∃ v, σ[i]? = some (some v) ∧ Rp K G v d
  own : ∀ (i : Nat) xs, Γ[i]? = some (.own xs) → ∃ p vs, σ[i]? = some (some (.ref p)) ∧ H p = some (.lst vs) ∧ G p = none ∧ RpL K G vs xs ∧ H0 p = none ∧ pa ≠ some p
  inj : ∀ (i j : Nat) p xs ys, Γ[i]? = some (.own xs) → Γ[j]? = some (.own ys) → σ[i]? = some (some (.ref p)) → σ[j]? = some (some (.ref p)) → i = j
  pen : ∀ (i : Nat), Γ[i]? = some .pen → ∃ p, pa = some p ∧ σ[i]? = some (some (.ref p))
  scr : ∀ (i : Nat) ns, Γ[i]? = some (.scr ns) → ∃ a, σ[i]? = some (some (.ref a)) ∧ SqL K G a (ns.map V.int)
  ps : PenOk pa G H s
  ext : Ext K pa G0 H0 G H
  x : NvX K H0 G H σ Γ
section
variable {K : PySem.W.Frag} {pa : Option Addr} {G0 H0 G H G' H' : Hp} {σ : L2.St} {Γ : List Sl} {s s' : List Int}
theorem Nv.step (E : Nv K pa G0 H0 G H σ Γ s) (x : Ext K pa G H G' H') (p : PenOk pa G' H' s') : Nv K pa G0 H0 G' H' σ Γ s' where
  len := E.len
  val := fun i d e => by
    refine EV.el1_2 (E.val i d e) fun v h1 h2 => ?_
    exact EV.in1_2 v h1 (h2.mono x.g)
  own := fun i xs e => by
    refine EV.el2_6 (E.own i xs e) fun p vs h1 h2 h3 h4 h5 h6 => ?_
    exact EV.in2_6 p vs h1 (x.h _ _ h2 h6) (x.n _ _ h2 h3) (h4.mono x.g) h5 h6
  inj := E.inj
  pen := E.pen
  scr := fun i ns e => by
    refine EV.el1_2 (E.scr i ns e) fun a h1 h2 => ?_
    exact EV.in1_2 a h1 (x.g.seq h2)
  ps := p
  ext := E.ext.trans x
  x := E.x.step x E.ps
theorem Nv.sub (E : Nv K pa G0 H0 G H σ Γ s) : Same G H := E.ext.sub
/-- a slot holds a value -/
theorem Nv.set (E : Nv K pa G0 H0 G H σ Γ s) {v : V} {d : D} (i : Nat) (r : Rp K G v d) : Nv K pa G0 H0 G H (σ.set i (some v)) (Γ.set i (.val d)) s where
  len := by simp [E.len]
  val := fun j d' e => by
    by_cases hj : i = j
    · subst hj
      have hi : i < Γ.length := by
        have := (List.getElem?_eq_some_iff.mp e).1
        simpa using this
      rw [List.getElem?_set_self hi] at e
      cases e
      exact EV.in1_2 v (List.getElem?_set_self (by rw [← E.len]; exact hi)) r
    · rw [List.getElem?_set_ne hj] at e
      rw [List.getElem?_set_ne hj]
      exact E.val j d' e
  own := fun j xs e => by
    by_cases hj : i = j
    · subst hj
      have hi : i < Γ.length := by
        have := (List.getElem?_eq_some_iff.mp e).1
        simpa using this
      rw [List.getElem?_set_self hi] at e
      cases e
    · rw [List.getElem?_set_ne hj] at e
      rw [List.getElem?_set_ne hj]
      exact E.own j xs e
  inj := fun j k p xs ys e1 e2 => by
    by_cases hj : i = j
    · subst hj
      have hi : i < Γ.length := by
        have := (List.getElem?_eq_some_iff.mp e1).1
        simpa using this
      rw [List.getElem?_set_self hi] at e1
      cases e1
    · by_cases hk : i = k
      · subst hk
        have hi : i < Γ.length := by
          have := (List.getElem?_eq_some_iff.mp e2).1
          simpa using this
        rw [List.getElem?_set_self hi] at e2
        cases e2
      · rw [List.getElem?_set_ne hj] at e1
        rw [List.getElem?_set_ne hk] at e2
        rw [List.getElem?_set_ne hj, List.getElem?_set_ne hk]
        exact E.inj j k p xs ys e1 e2
  pen := fun j e => by
    by_cases hj : i = j
    · subst hj
      have hi : i < Γ.length := by
        have := (List.getElem?_eq_some_iff.mp e).1
        simpa using this
      rw [List.getElem?_set_self hi] at e
      cases e
    · rw [List.getElem?_set_ne hj] at e
      rw [List.getElem?_set_ne hj]
      exact E.pen j e
  scr := fun j ns e => by
    by_cases hj : i = j
    · subst hj
      have hi : i < Γ.length := by
        have := (List.getElem?_eq_some_iff.mp e).1
        simpa using this
      rw [List.getElem?_set_self hi] at e
      cases e
    · rw [List.getElem?_set_ne hj] at e
      rw [List.getElem?_set_ne hj]
      exact E.scr j ns e
  ps := E.ps
  ext := E.ext
  x := E.x.put i rfl
/-- a slot holds a list of its own -/
theorem Nv.setOwn (E : Nv K pa G0 H0 G H σ Γ s) {p : Addr} {vs : List V} {xs : List D} (i : Nat) (hp : H p = some (.lst vs)) (hg : G p = none) (r : RpL K G vs xs) (h0 : H0 p = none) (hpa : pa ≠ some p)
    (hn : ∀ (j : Nat) ys, j ≠ i → Γ[j]? = some (.own ys) → σ[j]? ≠ some (some (.ref p))) : Nv K pa G0 H0 G H (σ.set i (some (.ref p))) (Γ.set i (.own xs)) s where
  len := by simp [E.len]
  val := fun j d' e => by
    by_cases hj : i = j
    · subst hj
      have hi : i < Γ.length := by
        have := (List.getElem?_eq_some_iff.mp e).1
        simpa using this
      rw [List.getElem?_set_self hi] at e
      cases e
    · rw [List.getElem?_set_ne hj] at e
      rw [List.getElem?_set_ne hj]
      exact E.val j d' e
  own := fun j xs' e => by
    by_cases hj : i = j
    · subst hj
      have hi : i < Γ.length := by
        have := (List.getElem?_eq_some_iff.mp e).1
        simpa using this
      rw [List.getElem?_set_self hi] at e
      cases e
      exact EV.in2_6 p vs (List.getElem?_set_self (by rw [← E.len]; exact hi)) hp hg r h0 hpa
    · rw [List.getElem?_set_ne hj] at e
      rw [List.getElem?_set_ne hj]
      exact E.own j xs' e
  inj := fun j k q ys zs e1 e2 e3 e4 => by
    by_cases hj : i = j
    · by_cases hk : i = k
      · exact hj.symm.trans hk
      · subst hj
        have hi : i < σ.length := by
          have := (List.getElem?_eq_some_iff.mp e3).1
          simpa using this
        rw [List.getElem?_set_self hi] at e3
        cases e3
        rw [List.getElem?_set_ne hk] at e2 e4
        exact absurd e4 (hn k zs (fun z => hk z.symm) e2)
    · by_cases hk : i = k
      · subst hk
        have hi : i < σ.length := by
          have := (List.getElem?_eq_some_iff.mp e4).1
          simpa using this
        rw [List.getElem?_set_self hi] at e4
        cases e4
        rw [List.getElem?_set_ne hj] at e1 e3
        exact absurd e3 (hn j ys (fun z => hj z.symm) e1)
      · rw [List.getElem?_set_ne hj] at e1 e3
        rw [List.getElem?_set_ne hk] at e2 e4
        exact E.inj j k q ys zs e1 e2 e3 e4
  pen := fun j e => by
    by_cases hj : i = j
    · subst hj
      have hi : i < Γ.length := by
        have := (List.getElem?_eq_some_iff.mp e).1
        simpa using this
      rw [List.getElem?_set_self hi] at e
      cases e
    · rw [List.getElem?_set_ne hj] at e
      rw [List.getElem?_set_ne hj]
      exact E.pen j e
  scr := fun j ns e => by
    by_cases hj : i = j
    · subst hj
      have hi : i < Γ.length := by
        have := (List.getElem?_eq_some_iff.mp e).1
        simpa using this
      rw [List.getElem?_set_self hi] at e
      cases e
    · rw [List.getElem?_set_ne hj] at e
      rw [List.getElem?_set_ne hj]
      exact E.scr j ns e
  ps := E.ps
  ext := E.ext
  x := E.x.put i rfl
/-- less is known -/
noncomputable def Weak : List Sl → List Sl → Prop
  | [], [] => True
  | x :: xs, y :: ys => (y = .junk ∨ x = y) ∧ Weak xs ys
  | _, _ => False
theorem Weak.refl : ∀ (l : List Sl), Weak l l
  | [] => trivial
  | _ :: xs => ⟨.inr rfl, Weak.refl xs⟩
theorem Weak.len {a : List Sl} : ∀ {b : List Sl}, Weak a b → a.length = b.length := by
  induction a with
  | nil =>
    intro b h
    cases b with
    | nil => rfl
    | cons _ _ => exact h.elim
  | cons x xs ih =>
    intro b h
    cases b with
    | nil => exact h.elim
    | cons y ys => exact congrArg (· + 1) (ih h.2)
theorem Weak.get {a : List Sl} : ∀ {b : List Sl}, Weak a b → ∀ {i : Nat} {x : Sl}, b[i]? = some x → x ≠ .junk → a[i]? = some x := by
  induction a with
  | nil =>
    intro b h i x e n
    cases b with
    | nil => exact e
    | cons _ _ => exact h.elim
  | cons z xs ih =>
    intro b h i x e n
    cases b with
    | nil => exact h.elim
    | cons y ys =>
      cases i with
      | zero =>
        obtain rfl : y = x := Option.some.inj e
        rcases h.1 with z | z
        · exact absurd z n
        · exact congrArg some z
      | succ i => exact ih h.2 e n
theorem Nv.weak (E : Nv K pa G0 H0 G H σ Γ s) {Γ' : List Sl} (h : Weak Γ Γ') : Nv K pa G0 H0 G H σ Γ' s where
  len := h.len.symm.trans E.len
  val := fun i d e => E.val i d (h.get e (fun z => by cases z))
  own := fun i xs e => E.own i xs (h.get e (fun z => by cases z))
  inj := fun i j p xs ys e1 e2 => E.inj i j p xs ys (h.get e1 (fun z => by cases z)) (h.get e2 (fun z => by cases z))
  pen := fun i e => E.pen i (h.get e (fun z => by cases z))
  scr := fun i ns e => E.scr i ns (h.get e (fun z => by cases z))
  ps := E.ps
  ext := E.ext
  x := ⟨fun i sh xs e => E.x.dic i sh xs (h.get e (fun z => by cases z)), fun i j p sh xs sh' ys e1 e2 => E.x.inj i j p sh xs sh' ys (h.get e1 (fun z => by cases z)) (h.get e2 (fun z => by cases z)), fun i sh xs e => E.x.ro i sh xs (h.get e (fun z => by cases z)), E.x.t0, E.x.nt⟩
theorem Nv.tk (E : Nv K pa G0 H0 G H σ Γ s) : TabK K H := E.ext.tk E.x.t0
end
/-- an exception of the program -/
noncomputable def ExcIs (K : PySem.W.Frag) (mg : Str → Option Value) (G H : Hp) (e : Ex) (cls : Value) (dx : Option Addr) : Prop :=
  mg e.name = some cls ∧ (e.fs = [] → dx = none) ∧ (e.fs ≠ [] → ∃ d fs, dx = some d ∧ H d = some (.xd fs) ∧ fs.map (·.1) = e.fs.map (·.1) ∧ RpL K G (fs.map (·.2)) (e.fs.map (·.2)))
noncomputable def Pst (K : PySem.W.Frag) (W : WX) (mg : Str → Option Value) (pa : Option Addr) (σ : L2.St) {α : Type} (F : Hp → Hp → α → List Int → Prop) (G H : Hp) : R α → Prop
  | .ok a s => ∀ G' H', Ext K pa G H G' H' → PenOk pa G' H' s → F G' H' a s
  | .exc e => ∀ cls dx G' H', Ext K pa G H G' H' → ExcIs K mg G' H' e cls dx → W cls dx σ H'
  | .bad => False
section
variable {K : PySem.W.Frag} {W : WX} {mg : Str → Option Value} {pa : Option Addr} {σ : L2.St} {α β : Type} {F F' : Hp → Hp → α → List Int → Prop} {G H G' H' : Hp}
theorem Pst.mono {r : R α} (x : Ext K pa G H G' H') (h : Pst K W mg pa σ F G H r) : Pst K W mg pa σ F G' H' r := by
  cases r with
  | ok a s => exact fun G2 H2 y p => h G2 H2 (x.trans y) p
  | exc e => exact fun cls dx G2 H2 y z => h cls dx G2 H2 (x.trans y) z
  | bad => exact h
theorem Pst.imp {r : R α} (h : Pst K W mg pa σ F G H r) (f : ∀ G' H' a s, Ext K pa G H G' H' → PenOk pa G' H' s → F G' H' a s → F' G' H' a s) : Pst K W mg pa σ F' G H r := by
  cases r with
  | ok a s => exact fun G2 H2 y p => f _ _ _ _ y p (h G2 H2 y p)
  | exc e => exact h
  | bad => exact h
theorem Pst.bind {F : Hp → Hp → β → List Int → Prop} {m : PM α} {f : α → PM β} {s : List Int} (h : Pst K W mg pa σ F G H ((m >>= f) s)) : Pst K W mg pa σ (fun G' H' a s' => Pst K W mg pa σ F G' H' (f a s')) G H (m s) := by
  rw [PM.bind_def] at h
  cases e : m s with
  | ok a s1 =>
    rw [e] at h
    exact fun G' H' x p => h.mono x
  | exc x => rw [e] at h; exact h
  | bad => rw [e] at h; exact h
/-- a result at once -/
theorem Pst.now {a : α} {s : List Int} (h : Pst K W mg pa σ F G H ((Pure.pure a : PM α) s)) (hs : Same G H) (p : PenOk pa G H s) : F G H a s := h G H (Ext.refl hs) p
end
noncomputable def FD (K : PySem.W.Frag) (Q : VK) : Hp → Hp → D → List Int → Prop := fun G' H' d _ => ∀ v, Rp K G' v d → Q v H'
noncomputable def FB (Q : Bool → Hp → Prop) : Hp → Hp → Bool → List Int → Prop := fun _ H' b _ => Q b H'
noncomputable def FL (K : PySem.W.Frag) (Q : List V → Hp → Prop) : Hp → Hp → List D → List Int → Prop := fun G' H' ds _ => ∀ vs, RpL K G' vs ds → Q vs H'
noncomputable def evT (X : Cx) (W : WX) (pa : Option Addr) (Γ : List Sl) (m : PM D) : TE := fun σ H Q => ∃ G0 H0 G s, Nv X.K pa G0 H0 G H σ Γ s ∧ Pst X.K W X.mg pa σ (FD X.K Q) G H (m s)
noncomputable def evB (X : Cx) (W : WX) (pa : Option Addr) (Γ : List Sl) (m : PM Bool) : TT := fun σ H Q => ∃ G0 H0 G s, Nv X.K pa G0 H0 G H σ Γ s ∧ Pst X.K W X.mg pa σ (FB Q) G H (m s)
noncomputable def evL (X : Cx) (W : WX) (pa : Option Addr) (Γ : List Sl) (m : PM (List D)) : TA := fun σ H Q => ∃ G0 H0 G s, Nv X.K pa G0 H0 G H σ Γ s ∧ Pst X.K W X.mg pa σ (FL X.K Q) G H (m s)
noncomputable abbrev EV (X : Cx) (W : WX) (pa : Option Addr) (Γ : List Sl) (e : Expr) (m : PM D) : Prop := PE X e (evT X W pa Γ m)
noncomputable abbrev EB (X : Cx) (W : WX) (pa : Option Addr) (Γ : List Sl) (e : Expr) (m : PM Bool) : Prop := PT X e (evB X W pa Γ m)
noncomputable abbrev EL (X : Cx) (W : WX) (pa : Option Addr) (Γ : List Sl) (es : List Expr) (m : PM (List D)) : Prop := PA X es (evL X W pa Γ m)
theorem pe_imp {X : Cx} {e : Expr} {t t' : TE} (h : PE X e t) (i : ∀ σ H Q, t' σ H Q → t σ H Q) : PE X e t' := ⟨fun pins s σ H Q I q => h.run pins s σ H Q I (i σ H Q q)⟩
theorem pt_imp {X : Cx} {e : Expr} {t t' : TT} (h : PT X e t) (i : ∀ σ H Q, t' σ H Q → t σ H Q) : PT X e t' := ⟨fun pins s σ H Q I q => h.run pins s σ H Q I (i σ H Q q)⟩
end EV
namespace EV
open PySem PySem.Spec PyProof.Rows L2
mutual
noncomputable def toPy : D → PyData
  | .non => .none
  | .bl b => .bool b
  | .int i => .int i
  | .str x => .str x
  | .tup xs => .tuple (toPyL xs)
  | .lst xs => .list (toPyL xs)
  | .dct _ => .dict []
  | .obj _ _ => .dict []
  | .cls _ => .dict []
noncomputable def toPyL : List D → List PyData
  | [] => []
  | x :: xs => toPy x :: toPyL xs
end
theorem toPyL_map : ∀ xs : List D, toPyL xs = xs.map toPy
  | [] => rfl
  | x :: xs => by simp only [toPyL, List.map_cons, toPyL_map xs]
noncomputable def shp (d : D) : Bool := SeqAt.shaped (toPy d)
noncomputable def eqvD (a b : D) : Bool := PyData.eqv (toPy a) (toPy b)
noncomputable def shown (d : D) : Str := PyData.shown (toPy d)
section
variable {K : PySem.W.Frag} {G H : Hp}
theorem dpAll_of : ∀ {xs : List V} {ds : List D}, xs.length = ds.length → (∀ (i : Nat) v d, xs[i]? = some v → ds[i]? = some d → Dp K G v (toPy d)) → DpAll K G xs (ds.map toPy)
  | [], [], _, _ => .nil
  | [], _ :: _, n, _ => by simp at n
  | _ :: _, [], n, _ => by simp at n
  | x :: xs, d :: ds, n, h => .cons (h 0 x d rfl rfl) (dpAll_of (by simpa using n) fun i v e h1 h2 => h (i + 1) v e (by simpa using h1) (by simpa using h2))
theorem noDict_at : ∀ {ds : List D}, PyData.hasDictAll (ds.map toPy) = false → ∀ (i : Nat) d, ds[i]? = some d → (toPy d).hasDict = false
  | [], _, i, d, e => by simp at e
  | x :: ds, h, 0, d, e => by
    simp only [List.map_cons, PyData.hasDictAll, Bool.or_eq_false_iff] at h
    have e : x = d := by simpa using e
    rw [← e]
    exact h.1
  | x :: ds, h, i + 1, d, e => by
    simp only [List.map_cons, PyData.hasDictAll, Bool.or_eq_false_iff] at h
    exact noDict_at h.2 i d (by simpa using e)
theorem Rp.dp {v : V} {d : D} (h : Rp K G v d) (hn : (toPy d).hasDict = false) : Dp K G v (toPy d) := by
  induction h with
  | non => exact .non
  | bl b => exact .bl b
  | int i => exact .int i
  | str x => exact .str x
  | lst h n _ ih =>
    simp only [toPy, toPyL_map] at hn ⊢
    exact .lst (SqL.of h) (dpAll_of n fun i v d h1 h2 => ih i v d h1 h2 (noDict_at (by simpa only [PyData.hasDict] using hn) i d h2))
  | tup h n _ ih =>
    simp only [toPy, toPyL_map] at hn ⊢
    exact .tup h (dpAll_of n fun i v d h1 h2 => ih i v d h1 h2 (noDict_at (by simpa only [PyData.hasDict] using hn) i d h2))
  | dct h hk n _ ih =>
    simp [toPy, PyData.hasDict] at hn
  | obj h hc hk _ ih =>
    simp [toPy, PyData.hasDict] at hn
  | cls C =>
    simp [toPy, PyData.hasDict] at hn
mutual
theorem lay_nd : ∀ d : PyData, d.canLay0 = true → d.hasDict = false
  | .none, _ => rfl
  | .bool _, _ => rfl
  | .int _, _ => rfl
  | .str _, _ => rfl
  | .list xs, h => by
    simp only [PyData.canLay0] at h
    simp only [PyData.hasDict]
    exact layAll_nd xs h
  | .tuple xs, h => by
    simp only [PyData.canLay0] at h
    simp only [PyData.hasDict]
    exact layAll_nd xs h
  | .dict _, h => by simp [PyData.canLay0] at h
theorem layAll_nd : ∀ xs : List PyData, PyData.canLayAll0 xs = true → PyData.hasDictAll xs = false
  | [], _ => rfl
  | x :: xs, h => by
    simp only [PyData.canLayAll0, Bool.and_eq_true] at h
    simp only [PyData.hasDictAll, lay_nd x h.1, layAll_nd xs h.2, Bool.or_self]
end
theorem shp_nd {d : D} (h : shp d = true) : (toPy d).hasDict = false := by
  unfold shp SeqAt.shaped at h
  rw [Bool.and_eq_true] at h
  exact lay_nd _ h.1
theorem Rp.dpS {v : V} {d : D} (h : Rp K G v d) (s : shp d = true) : Dp K G v (toPy d) := h.dp (shp_nd s)
end
structure Cok (X : Cx) (W : WX) (k : Nat) : Prop where
  calm : X.calm = true
  nd : X.N.Nodup
  takes : Takes X W
  room : Room k X.A
  guards : 32 ≤ k → X.A.guards = some []
  passes : PassesOwn (model X.prog X.w) X.A X.env X.xe
section
variable {X : Cx} {W : WX} {pa : Option Addr} {Γ : List Sl} {k : Nat} {pos : Pos}
theorem ev_var {i : Nat} {x : Str} {d : D} (hΓ : Γ[i]? = some (.val d)) (hN : X.N[i]? = some x) (hv : Vis X.env.scope x) (hd : autoParam ((x == ("__debug__" : Str)) = false) EV.tac1) (hcd : autoParam ((x == ("__classdict__" : Str)) = false) EV.tac1) :
    EV X W pa Γ (.Name x pos) (pure d) := pe_imp (pe_var hN hv hd hcd) fun σ H Q h_ => EV.ex4 h_ fun G0 H0 G s E P => by
  refine EV.el1_2 (E.val i d hΓ) fun v h1 h2 => ?_
  exact EV.in1_2 v h1 (P.now E.sub E.ps v h2)
theorem ev_const {e : Expr} {v : V} {d : D} (h : PE X e (tC v)) (r : ∀ K G, Rp K G v d) : EV X W pa Γ e (pure d) := pe_imp h fun σ H Q h_ => EV.ex4 h_ fun G0 H0 G s E P => P.now E.sub E.ps v (r _ _)
theorem ev_int {i j} : EV X W pa Γ (.Constant (.int i) j pos) (pure (.int i)) := ev_const pe_int fun _ _ => .int i
theorem ev_bl {b j} : EV X W pa Γ (.Constant (.bool b) j pos) (pure (.bl b)) := ev_const pe_bl fun _ _ => .bl b
theorem ev_non {j} : EV X W pa Γ (.Constant .none j pos) (pure .non) := ev_const pe_non fun _ _ => .non
theorem ev_str {x j} : EV X W pa Γ (.Constant (.str x) j pos) (pure (.str x)) := ev_const pe_str fun _ _ => .str x
/-- a name of the module that holds a number or a text -/
theorem ev_glob {x : Str} {v : V} {u : Value} {d : D} (hg : Gl X x) (hm : X.mg x = some u) (r : RelV v u) (rp : ∀ G, Rp X.K G v d) (hd : autoParam ((x == ("__debug__" : Str)) = false) EV.tac1) : EV X W pa Γ (.Name x pos) (pure d) :=
  pe_imp (pe_glob hg hm r hd) fun σ H Q h_ => EV.ex4 h_ fun G0 H0 G s E P => P.now E.sub E.ps v (rp _)
theorem pa_imp {es : List Expr} {t t' : TA} (h : PA X es t) (i : ∀ σ H Q, t' σ H Q → t σ H Q) : PA X es t' := ⟨fun p pins s σ H Q I q => h.run p pins s σ H Q I (i σ H Q q)⟩
theorem el_nil : EL X W pa Γ [] (pure []) := pa_imp pa_nil fun σ H Q h_ => EV.ex4 h_ fun G0 H0 G s E P => P.now E.sub E.ps [] .nil
theorem el_cons {e : Expr} {es : List Expr} {m : PM D} {ml : PM (List D)} (h : EV X W pa Γ e m) (t : EL X W pa Γ es ml) (hs : autoParam (starEach (e :: es) X.env = (false, eval e X.env) :: starEach es X.env) EV.tac2) :
    EL X W pa Γ (e :: es) (m >>= fun d => ml >>= fun ds => pure (d :: ds)) := pa_imp (pa_cons h t hs) fun σ H Q h_ => EV.ex4 h_ fun G0 H0 G s E P =>
  ⟨G0, H0, G, s, E, P.bind.imp fun G1 H1 a s1 x1 p1 P1 v r => ⟨G0, H0, G1, s1, E.step x1 p1, P1.bind.imp fun G2 H2 as s2 x2 p2 P2 vs rs => P2.now x2.sub p2 (v :: vs) (.cons (r.mono x2.g) rs)⟩⟩
noncomputable def OpD (X : Cx) (f : Value → Value → Sem Value) (g : D → D → PM D) : Prop := ∃ r : R2, OpR X f r ∧
  ∀ (W : WX) (pa : Option Addr) (σ : L2.St) (G H : Hp) (s : List Int) (x y : V) (a b : D) (Q : VK), Same G H → PenOk pa G H s → Rp X.K G x a → Rp X.K G y b → Pst X.K W X.mg pa σ (FD X.K Q) G H (g a b s) → r x y H Q
theorem OpD.or {f : Value → Value → Sem Value} {g g' : D → D → PM D} {c : D → D → Bool} (h : OpD X f g) (h' : OpD X f g') : OpD X f (fun a b => if c a b = true then g a b else g' a b) := by
  (refine EV.el1_2 h ?_; try clear h; intro r h1 h2)
  (refine EV.el1_2 h' ?_; try clear h'; intro r' h1' h2')
  refine EV.in1_2 _ (h1.or h1') (fun W pa σ G H s x y a b Q hs hp ra rb P => ?_)
  by_cases hc : c a b = true
  · dsimp only at P
    rw [if_pos hc] at P
    exact .inl (h2 W pa σ G H s x y a b Q hs hp ra rb P)
  · dsimp only at P
    rw [if_neg hc] at P
    exact .inr (h2' W pa σ G H s x y a b Q hs hp ra rb P)
theorem OpD.to {f : Value → Value → Sem Value} {g g' : D → D → PM D} (h : OpD X f g) (e : ∀ a b s, g' a b s = g a b s ∨ g' a b s = .bad) : OpD X f g' := by
  (refine EV.el1_2 h ?_; try clear h; intro r h1 h2)
  refine EV.in1_2 r h1 (fun W pa σ G H s x y a b Q hs hp ra rb P => ?_)
  rcases e a b s with q | q
  · rw [q] at P
    exact h2 W pa σ G H s x y a b Q hs hp ra rb P
  · rw [q] at P
    exact P.elim
theorem ev_op {op : Operator} {g : D → D → PM D} {a b : Expr} {ma mb : PM D} (ho : OpD X (binaryOp op) g) (ha : EV X W pa Γ a ma) (hb : EV X W pa Γ b mb) : EV X W pa Γ (.BinOp a op b pos) (ma >>= fun x => mb >>= fun y => g x y) := by
  (refine EV.el1_2 ho ?_; try clear ho; intro r h1 h2)
  exact pe_imp (pe_op h1 ha hb) fun σ H Q h_ => EV.ex4 h_ fun G0 H0 G s E P =>
    ⟨G0, H0, G, s, E, P.bind.imp fun G1 H1 a s1 x1 p1 P1 v r => ⟨G0, H0, G1, s1, E.step x1 p1, P1.bind.imp fun G2 H2 b s2 x2 p2 P2 w rw => h2 W pa σ G2 H2 s2 v w a b Q x2.sub p2 (r.mono x2.g) rw P2⟩⟩
theorem ev_cmp {op : CmpOp} {g : D → D → PM D} {a b : Expr} {ma mb : PM D} (ho : OpD X (compareOp op) g) (ha : EV X W pa Γ a ma) (hb : EV X W pa Γ b mb) (hm : behindInMarks op b = false) : EV X W pa Γ (.Compare a [op] [b] pos) (ma >>= fun x => mb >>= fun y => g x y) := by
  (refine EV.el1_2 ho ?_; try clear ho; intro r h1 h2)
  exact pe_imp (pe_cmpR h1 ha hb hm) fun σ H Q h_ => EV.ex4 h_ fun G0 H0 G s E P =>
    ⟨G0, H0, G, s, E, P.bind.imp fun G1 H1 a s1 x1 p1 P1 v r => ⟨G0, H0, G1, s1, E.step x1 p1, P1.bind.imp fun G2 H2 b s2 x2 p2 P2 w rw => h2 W pa σ G2 H2 s2 v w a b Q x2.sub p2 (r.mono x2.g) rw P2⟩⟩
noncomputable def asB : D → PM Bool
  | .bl b => pure b
  | _ => bad
theorem eb_cmp {op : CmpOp} {g : D → D → PM D} {a b : Expr} {ma mb : PM D} (ho : OpD X (compareOp op) g) (ha : EV X W pa Γ a ma) (hb : EV X W pa Γ b mb) (hm : behindInMarks op b = false) : EB X W pa Γ (.Compare a [op] [b] pos) (ma >>= fun x => mb >>= fun y => g x y >>= asB) := by
  (refine EV.el1_2 ho ?_; try clear ho; intro r h1 h2)
  exact pt_imp (pt_cmpR h1 ha hb hm) fun σ H Q h_ => EV.ex4 h_ fun G0 H0 G s E P =>
    ⟨G0, H0, G, s, E, P.bind.imp fun G1 H1 a s1 x1 p1 P1 v r => ⟨G0, H0, G1, s1, E.step x1 p1, P1.bind.imp fun G2 H2 b s2 x2 p2 P2 w rw => h2 W pa σ G2 H2 s2 v w a b _ x2.sub p2 (r.mono x2.g) rw
      (P2.bind.imp fun G3 H3 d s3 x3 p3 P3 u ru => by
        cases ru with
        | bl c => exact EV.in1_2 c rfl (P3.now x3.sub p3)
        | _ => exact P3.elim)⟩⟩
/-- an expression whose value is a bool -/
theorem eb_val {e : Expr} {m : PM D} (h : EV X W pa Γ e m) (he : autoParam (∀ whole, isTrue e X.env whole = (do let v ← whole; standAt e.pos; holding [v] (truthy v))) EV.tac3) : EB X W pa Γ e (m >>= asB) :=
  pt_imp (pt_val h he) fun σ H Q h_ => EV.ex4 h_ fun G0 H0 G s E P => ⟨G0, H0, G, s, E, P.bind.imp fun G1 H1 d s1 x1 p1 P1 v r => by
    cases r with
    | bl c => exact EV.in1_2 c rfl (P1.now x1.sub p1)
    | _ => exact P1.elim⟩
theorem eb_not {a : Expr} {m : PM Bool} (h : EB X W pa Γ a m) : EB X W pa Γ (.UnaryOp .Not a pos) (m >>= fun b => pure (!b)) :=
  pt_imp (pt_not h) fun σ H Q h_ => EV.ex4 h_ fun G0 H0 G s E P => ⟨G0, H0, G, s, E, P.bind.imp fun G1 H1 d s1 x1 p1 P1 => P1.now x1.sub p1⟩
noncomputable abbrev EW (X : Cx) (W : WX) (pa : Option Addr) (Γ : List Sl) (e : Expr) (m : PM Bool) : Prop := PW X e (evB X W pa Γ m)
theorem pw_imp {e : Expr} {t t' : TT} (h : PW X e t) (i : ∀ σ H Q, t' σ H Q → t σ H Q) : PW X e t' := ⟨fun wh pins s σ H Q I q => h.run wh pins s σ H Q I (i σ H Q q)⟩
theorem ew_and1 {a : Expr} {m : PM Bool} (h : EB X W pa Γ a m) : EW X W pa Γ (.BoolOp .And [a] pos) m := pw_and1 h
theorem ew_or1 {a : Expr} {m : PM Bool} (h : EB X W pa Γ a m) : EW X W pa Γ (.BoolOp .Or [a] pos) m := pw_or1 h
theorem ew_and {a b : Expr} {rest : List Expr} {m ml : PM Bool} (h : EB X W pa Γ a m) (t : EW X W pa Γ (.BoolOp .And (b :: rest) pos) ml) : EW X W pa Γ (.BoolOp .And (a :: b :: rest) pos) (m >>= fun c => if c = true then ml else pure false) :=
  pw_imp (pw_and h t) fun σ H Q h_ => EV.ex4 h_ fun G0 H0 G s E P => ⟨G0, H0, G, s, E, P.bind.imp fun G1 H1 c s1 x1 p1 P1 => by
    cases c with
    | true => exact (show evB X W pa Γ ml σ H1 Q from ⟨G0, H0, G1, s1, E.step x1 p1, P1⟩)
    | false => exact (show Q false H1 from P1.now x1.sub p1)⟩
theorem ew_or {a b : Expr} {rest : List Expr} {m ml : PM Bool} (h : EB X W pa Γ a m) (t : EW X W pa Γ (.BoolOp .Or (b :: rest) pos) ml) : EW X W pa Γ (.BoolOp .Or (a :: b :: rest) pos) (m >>= fun c => if c = true then pure true else ml) :=
  pw_imp (pw_or h t) fun σ H Q h_ => EV.ex4 h_ fun G0 H0 G s E P => ⟨G0, H0, G, s, E, P.bind.imp fun G1 H1 c s1 x1 p1 P1 => by
    cases c with
    | true => exact (show Q true H1 from P1.now x1.sub p1)
    | false => exact (show evB X W pa Γ ml σ H1 Q from ⟨G0, H0, G1, s1, E.step x1 p1, P1⟩)⟩
theorem eb_bool {e : Expr} {m : PM Bool} (h : EW X W pa Γ e m) : EB X W pa Γ e m := h.pt
/-- a test's value, as a value (an and, an or, a not of bools) -/
theorem ev_one {op} {a : Expr} {m : PM D} (h : EV X W pa Γ a m) : EV X W pa Γ (.BoolOp op [a] pos) m := pe_one h
theorem ev_and {a b : Expr} {rest : List Expr} {m ml : PM D} (h : EV X W pa Γ a m) (t : EV X W pa Γ (.BoolOp .And (b :: rest) pos) ml) : EV X W pa Γ (.BoolOp .And (a :: b :: rest) pos) (m >>= fun d => asB d >>= fun c => if c = true then ml else pure (.bl false)) :=
  pe_imp (pe_and h t) fun σ H Q h_ => EV.ex4 h_ fun G0 H0 G s E P => ⟨G0, H0, G, s, E, P.bind.imp fun G1 H1 d s1 x1 p1 P1 v r => by
    cases r with
    | bl c =>
      refine EV.in1_2 c rfl ?_
      have P2 := (P1.bind).now x1.sub p1
      cases c with
      | true => exact (show evT X W pa Γ ml σ H1 Q from ⟨G0, H0, G1, s1, E.step x1 p1, P2⟩)
      | false => exact (show Q (.bl false) H1 from P2.now x1.sub p1 _ (.bl false))
    | _ => exact P1.elim⟩
theorem ev_not {a : Expr} {m : PM D} (h : EV X W pa Γ a m) : EV X W pa Γ (.UnaryOp .Not a pos) (m >>= fun d => asB d >>= fun c => pure (.bl (!c))) :=
  pe_imp (pe_not h) fun σ H Q h_ => EV.ex4 h_ fun G0 H0 G s E P => ⟨G0, H0, G, s, E, P.bind.imp fun G1 H1 d s1 x1 p1 P1 v r => by
    cases r with
    | bl c => exact EV.in1_2 c rfl (((P1.bind).now x1.sub p1).now x1.sub p1 _ (.bl _))
    | _ => exact P1.elim⟩
theorem ev_ifExp {c a b : Expr} {mc : PM Bool} {ma mb : PM D} (hc : EB X W pa Γ c mc) (ha : EV X W pa Γ a ma) (hb : EV X W pa Γ b mb) : EV X W pa Γ (.IfExp c a b pos) (mc >>= fun t => if t = true then ma else mb) :=
  pe_imp (pe_ifExp hc ha hb) fun σ H Q h_ => EV.ex4 h_ fun G0 H0 G s E P => ⟨G0, H0, G, s, E, P.bind.imp fun G1 H1 t s1 x1 p1 P1 => by
    cases t with
    | true => exact (show evT X W pa Γ ma σ H1 Q from ⟨G0, H0, G1, s1, E.step x1 p1, P1⟩)
    | false => exact (show evT X W pa Γ mb σ H1 Q from ⟨G0, H0, G1, s1, E.step x1 p1, P1⟩)⟩
noncomputable abbrev lim : Nat := 1000000
theorem lim_le {n : Nat} (h : n ≤ lim) : n ≤ sizeLine := Nat.le_trans h (by decide)
theorem lim_lt {n : Nat} (h : n ≤ lim) : n < sizeLine := Nat.lt_of_le_of_lt h (by decide)
noncomputable def mkT (xs : List D) : PM D := if xs.length ≤ lim then pure (.tup xs) else bad
noncomputable def mkL (xs : List D) : PM D := if xs.length ≤ lim then pure (.lst xs) else bad
theorem mkT_ok {xs : List D} (h : xs.length ≤ lim) : mkT xs = pure (.tup xs) := if_pos h
theorem mkL_ok {xs : List D} (h : xs.length ≤ lim) : mkL xs = pure (.lst xs) := if_pos h
section
variable {mg : Str → Option Value} {K : PySem.W.Frag} {pa : Option Addr} {σ : L2.St} {G H : Hp} {s : List Int} {Q : VK}
theorem mkT_len {vs : List V} {ds : List D} (P : Pst K W mg pa σ (FD K Q) G H (mkT ds s)) (r : RpL K G vs ds) : vs.length ≤ sizeLine := by
  unfold mkT at P
  split at P
  · rename_i h
    rw [r.1]
    exact lim_le h
  · exact P.elim
theorem mkT_use {vs : List V} {ds : List D} (P : Pst K W mg pa σ (FD K Q) G H (mkT ds s)) (r : RpL K G vs ds) (hs : Same G H) (hp : PenOk pa G H s) {p : Addr} (np : H p = none) : Q (.ref p) (upd H p (.tup vs)) := by
  unfold mkT at P
  split at P
  · have x := Ext.new (K := K) (pa := pa) hs np (.tup vs)
    exact P _ _ x (hp.upd np _) _ (.mkT (SqT.of upd_same) (r.mono x.g))
  · exact P.elim
theorem mkL_len {vs : List V} {ds : List D} (P : Pst K W mg pa σ (FD K Q) G H (mkL ds s)) (r : RpL K G vs ds) : vs.length ≤ sizeLine := by
  unfold mkL at P
  split at P
  · rename_i h
    rw [r.1]
    exact lim_le h
  · exact P.elim
theorem mkL_use {vs : List V} {ds : List D} (P : Pst K W mg pa σ (FD K Q) G H (mkL ds s)) (r : RpL K G vs ds) (hs : Same G H) (hp : PenOk pa G H s) {p : Addr} (np : H p = none) : Q (.ref p) (upd H p (.lst vs)) := by
  unfold mkL at P
  split at P
  · have x := Ext.new (K := K) (pa := pa) hs np (.lst vs)
    exact P _ _ x (hp.upd np _) _ (.mkL upd_same (r.mono x.g))
  · exact P.elim
end
theorem ev_tup {es : List Expr} {x1} {ml : PM (List D)} (h : EL X W pa Γ es ml) : EV X W pa Γ (.Tuple es x1 pos) (ml >>= mkT) :=
  pe_imp (L2.pe_tup h) fun σ H Q h_ => EV.ex4 h_ fun G0 H0 G s E P => ⟨G0, H0, G, s, E, P.bind.imp fun G1 H1 ds s1 x1 p1 P1 vs r =>
    ⟨mkT_len P1 r, fun p np => mkT_use P1 r x1.sub p1 np⟩⟩
theorem ev_lst {es : List Expr} {ml : PM (List D)} (h : EL X W pa Γ es ml) : EV X W pa Γ (.List es pos) (ml >>= mkL) :=
  pe_imp (L2.pe_lst h) fun σ H Q h_ => EV.ex4 h_ fun G0 H0 G s E P => ⟨G0, H0, G, s, E, P.bind.imp fun G1 H1 ds s1 x1 p1 P1 vs r =>
    ⟨mkL_len P1 r, fun p np => mkL_use P1 r x1.sub p1 np⟩⟩
/-- a call by values -/
noncomputable def CallD (X : Cx) (f : Value) (g : List D → PM D) : Prop := ∃ r : List V → Hp → VK → Prop, CallR X f r ∧
  ∀ (W : WX) (pa : Option Addr) (σ : L2.St) (G H : Hp) (s : List Int) (xs : List V) (ds : List D) (Q : VK), Same G H → PenOk pa G H s → RpL X.K G xs ds → Pst X.K W X.mg pa σ (FD X.K Q) G H (g ds s) → r xs H Q
theorem CallD.or {f : Value} {g g' : List D → PM D} {c : List D → Bool} (h : CallD X f g) (h' : CallD X f g') : CallD X f (fun a => if c a = true then g a else g' a) := by
  (refine EV.el1_2 h ?_; try clear h; intro r h1 h2)
  (refine EV.el1_2 h' ?_; try clear h'; intro r' h1' h2')
  refine EV.in1_2 _ (h1.or h1') (fun W pa σ G H s x a Q hs hp ra P => ?_)
  by_cases hc : c a = true
  · dsimp only at P
    rw [if_pos hc] at P
    exact .inl (h2 W pa σ G H s x a Q hs hp ra P)
  · dsimp only at P
    rw [if_neg hc] at P
    exact .inr (h2' W pa σ G H s x a Q hs hp ra P)
theorem CallD.to {f : Value} {g g' : List D → PM D} (h : CallD X f g) (e : ∀ a s, g' a s = g a s ∨ g' a s = .bad) : CallD X f g' := by
  (refine EV.el1_2 h ?_; try clear h; intro r h1 h2)
  refine EV.in1_2 r h1 (fun W pa σ G H s x a Q hs hp ra P => ?_)
  rcases e a s with q | q
  · rw [q] at P
    exact h2 W pa σ G H s x a Q hs hp ra P
  · rw [q] at P
    exact P.elim
theorem ev_callB {x : Str} {id : String} {g : List D → PM D} {e : Expr} {es : List Expr} {p : Pos} {ml : PM (List D)} (hc : CallD X (.builtin id) g) (hg : Gl X x) (hm : X.mg x = none) (hv : bootBuiltins x = some (.builtin id)) (ha : EL X W pa Γ (e :: es) ml)
    (hn : autoParam (x ≠ "__name__") EV.tac1) (hdb : autoParam ((x == ("__debug__" : Str)) = false) EV.tac1) (hs : autoParam (starEach (e :: es) X.env = (false, eval e X.env) :: starEach es X.env) EV.tac2)
    (hpl : autoParam ((backTo pos (starEach es X.env)).any (·.1) = false) EV.tac2) : EV X W pa Γ (.Call (.Name x p) (e :: es) [] pos) (ml >>= g) := by
  (refine EV.el1_2 hc ?_; try clear hc; intro r h1 h2)
  exact pe_imp (pe_callB h1 hg hm hv ha hn hdb hs hpl) fun σ H Q h_ => EV.ex4 h_ fun G0 H0 G s E P => ⟨G0, H0, G, s, E, P.bind.imp fun G1 H1 ds s1 x1 p1 P1 vs rs => h2 W pa σ G1 H1 s1 vs ds Q x1.sub p1 rs P1⟩
theorem ev_callTy {x : Str} {T : String} {g : List D → PM D} {e : Expr} {es : List Expr} {p : Pos} {ml : PM (List D)} (hc : CallD X (.type T) g) (hg : Gl X x) (hm : X.mg x = none) (hv : bootBuiltins x = some (.type T)) (ha : EL X W pa Γ (e :: es) ml)
    (hn : autoParam (x ≠ "__name__") EV.tac1) (hdb : autoParam ((x == ("__debug__" : Str)) = false) EV.tac1) (hs : autoParam (starEach (e :: es) X.env = (false, eval e X.env) :: starEach es X.env) EV.tac2)
    (hpl : autoParam ((backTo pos (starEach es X.env)).any (·.1) = false) EV.tac2) : EV X W pa Γ (.Call (.Name x p) (e :: es) [] pos) (ml >>= g) := by
  (refine EV.el1_2 hc ?_; try clear hc; intro r h1 h2)
  exact pe_imp (pe_callTy h1 hg hm hv ha hn hdb hs hpl) fun σ H Q h_ => EV.ex4 h_ fun G0 H0 G s E P => ⟨G0, H0, G, s, E, P.bind.imp fun G1 H1 ds s1 x1 p1 P1 vs rs => h2 W pa σ G1 H1 s1 vs ds Q x1.sub p1 rs P1⟩
end
end EV
namespace EV
open PySem PySem.Spec PyProof.Rows L2
section
variable {X : Cx} {k : Nat}
theorem od_i0 {f : Value → Value → Sem Value} {v : Int → Int → V} {d : Int → Int → D} (h : OpR X f (rI0 v)) (r : ∀ K G i j, Rp K G (v i j) (d i j)) {g : D → D → PM D}
    (e : ∀ a b s, (∃ i j, a = .int i ∧ b = .int j ∧ g a b s = .ok (d i j) s) ∨ g a b s = .bad) : OpD X f g := by
  refine EV.in1_2 _ h (fun W pa σ G H s x y a b Q hs hp ra rb P => ?_)
  rcases e a b s with ⟨i, j, rfl, rfl, q⟩ | q
  · rw [q] at P
    cases ra
    cases rb
    exact EV.in2_3 i j rfl rfl (P G H (Ext.refl hs) hp _ (r _ _ _ _))
  · rw [q] at P
    exact P.elim
theorem od_i {f : Value → Value → Sem Value} {C : Int → Int → Prop} {v : Int → Int → V} {d : Int → Int → D} (h : OpR X f (rI C v)) (r : ∀ K G i j, Rp K G (v i j) (d i j)) {g : D → D → PM D}
    (e : ∀ a b s, (∃ i j, a = .int i ∧ b = .int j ∧ C i j ∧ g a b s = .ok (d i j) s) ∨ g a b s = .bad) : OpD X f g := by
  refine EV.in1_2 _ h (fun W pa σ G H s x y a b Q hs hp ra rb P => ?_)
  rcases e a b s with ⟨i, j, rfl, rfl, c, q⟩ | q
  · rw [q] at P
    cases ra
    cases rb
    exact EV.in2_4 i j rfl rfl c (P G H (Ext.refl hs) hp _ (r _ _ _ _))
  · rw [q] at P
    exact P.elim
/-- of two ints -/
noncomputable def intD (f : Int → Int → PM D) (a b : D) : PM D := match a with
  | .int i => (match b with
    | .int j => f i j
    | _ => bad)
  | _ => bad
theorem intD_or (f : Int → Int → PM D) (a b : D) (s : List Int) : (∃ i j, a = .int i ∧ b = .int j ∧ intD f a b s = f i j s) ∨ intD f a b s = .bad := by
  cases a with
  | int i =>
    cases b with
    | int j => exact .inl ⟨i, j, rfl, rfl, rfl⟩
    | _ => exact .inr rfl
  | _ => exact .inr rfl
theorem od_iD0 {f : Value → Value → Sem Value} {v : Int → Int → V} {d : Int → Int → D} (h : OpR X f (rI0 v)) (r : ∀ K G i j, Rp K G (v i j) (d i j)) : OpD X f (intD fun i j => pure (d i j)) := od_i0 h r fun a b s => by
  rcases intD_or (fun i j => pure (d i j)) a b s with ⟨i, j, e1, e2, q⟩ | q
  · exact .inl ⟨i, j, e1, e2, q⟩
  · exact .inr q
theorem od_iD {f : Value → Value → Sem Value} {C : Int → Int → Prop} [I : ∀ i j, Decidable (C i j)] {v : Int → Int → V} {d : Int → Int → D} (h : OpR X f (rI C v)) (r : ∀ K G i j, Rp K G (v i j) (d i j)) : OpD X f (intD fun i j => if C i j then pure (d i j) else bad) := od_i h r fun a b s => by
  rcases intD_or (fun i j => if C i j then pure (d i j) else bad) a b s with ⟨i, j, e1, e2, q⟩ | q
  · by_cases c : C i j
    · rw [if_pos c] at q
      exact .inl ⟨i, j, e1, e2, c, q⟩
    · rw [if_neg c] at q
      exact .inr q
  · exact .inr q
noncomputable def addD : D → D → PM D
  | .int i, .int j => pure (.int (i + j))
  | .lst a, .lst b => mkL (a ++ b)
  | .tup a, .tup b => mkT (a ++ b)
  | .str a, .str b => if a.length + b.length ≤ lim then pure (.str (a ++ b)) else bad
  | _, _ => bad
theorem mkT_same {mg : Str → Option Value} {K : PySem.W.Frag} {W : WX} {pa : Option Addr} {σ : L2.St} {G H : Hp} {s : List Int} {Q : VK} {a : Addr} {vs : List V} {ds : List D} (P : Pst K W mg pa σ (FD K Q) G H (mkT ds s)) (h : SqT K G a vs) (r : RpL K G vs ds) (hs : Same G H) (hp : PenOk pa G H s) : Q (.ref a) H := by
  unfold mkT at P
  split at P
  · exact P G H (Ext.refl hs) hp _ (.mkT h r)
  · exact P.elim
theorem nil_of {vs : List V} {ds : List D} {K : PySem.W.Frag} {G : Hp} (h : RpL K G vs ds) (e : vs = []) : ds = [] := by
  have := h.1
  subst e
  cases ds with
  | nil => rfl
  | cons _ _ => simp at this
theorem od_add : OpD X (binaryOp .Add) addD := by
  refine EV.in1_2 _ (op_add.or (op_cat.or (op_catA.or op_add_str))) (fun W pa σ G H s x y a b Q hs hp ra rb P => ?_)
  cases ra with
  | int i =>
    cases rb with
    | int j => exact .inl ⟨i, j, rfl, rfl, P G H (Ext.refl hs) hp _ (.int _)⟩
    | _ => exact P.elim
  | str i =>
    cases rb with
    | str j =>
      have P : Pst X.K W X.mg pa σ (FD X.K Q) G H ((if i.length + j.length ≤ lim then pure (.str (i ++ j)) else bad : PM D) s) := P
      split at P
      · rename_i hl
        exact .inr (.inr (.inr ⟨i, j, rfl, rfl, lim_le hl, P G H (Ext.refl hs) hp _ (.str _)⟩))
      · exact P.elim
    | _ => exact P.elim
  | lst h n r =>
    cases rb with
    | lst h' n' r' =>
      have q : RpL X.K G _ _ := RpL.app ⟨n, r⟩ ⟨n', r'⟩
      have z := mkL_len P q
      rw [List.length_append] at z
      exact .inr (.inl ⟨_, _, _, _, rfl, rfl, hs _ _ h, hs _ _ h', z, fun p np => mkL_use P q hs hp np⟩)
    | _ => exact P.elim
  | tup h n r =>
    cases rb with
    | tup h' n' r' =>
      have q : RpL X.K G _ _ := RpL.app ⟨n, r⟩ ⟨n', r'⟩
      have z := mkT_len P q
      rw [List.length_append] at z
      refine .inr (.inr (.inl ⟨_, _, _, _, rfl, rfl, sameT hs h, sameT hs h', z, fun e => ?_, fun e1 e2 => ?_, fun e1 e2 p np => mkT_use P q hs hp np⟩))
      · have e' := nil_of ⟨n, r⟩ e
        subst e'
        exact mkT_same (P : Pst X.K W X.mg pa σ (FD X.K Q) G H (mkT ([] ++ _) s)) h' (by rw [List.nil_append]; exact ⟨n', r'⟩) hs hp
      · have e' := nil_of ⟨n', r'⟩ e2
        subst e'
        exact mkT_same (P : Pst X.K W X.mg pa σ (FD X.K Q) G H (mkT (_ ++ []) s)) h (by rw [List.append_nil]; exact ⟨n, r⟩) hs hp
    | _ => exact P.elim
  | _ => exact P.elim
noncomputable def subD : D → D → PM D := intD fun i j => pure (.int (i - j))
theorem od_sub : OpD X (binaryOp .Sub) subD := od_iD0 (d := fun i j => .int (i - j)) op_sub (fun _ _ _ _ => .int _)
noncomputable instance (i j : Int) : Decidable (CMul i j) := inferInstanceAs (Decidable ((-(2 ^ 64) < i ∧ i < 2 ^ 64) ∨ (-(2 ^ 64) < j ∧ j < 2 ^ 64)))
noncomputable instance (i j : Int) : Decidable (CDivN i j) := inferInstanceAs (Decidable (j ≠ 0 ∧ j.natAbs < 1073741824))
noncomputable instance (i j : Int) : Decidable (CPow i j) := inferInstanceAs (Decidable (0 ≤ j ∧ j ≤ 1000000 ∧ i.natAbs < 2 ^ 64))
noncomputable def mulD : D → D → PM D := intD fun i j => if CMul i j then pure (.int (i * j)) else bad
theorem od_mul : OpD X (binaryOp .Mult) mulD := od_iD (C := CMul) (d := fun i j => .int (i * j)) op_mul (fun _ _ _ _ => .int _)
noncomputable def fdivD : D → D → PM D := intD fun i j => if CDivN i j then pure (.int (i.fdiv j)) else bad
theorem od_fdiv : OpD X (binaryOp .FloorDiv) fdivD := od_iD (C := CDivN) (d := fun i j => .int (i.fdiv j)) op_fdivN (fun _ _ _ _ => .int _)
noncomputable def modD : D → D → PM D := intD fun i j => if j ≠ 0 then pure (.int (i.fmod j)) else bad
theorem od_mod : OpD X (binaryOp .Mod) modD := od_iD (C := fun _ j => j ≠ 0) (d := fun i j => .int (i.fmod j)) op_modN (fun _ _ _ _ => .int _)
noncomputable def powD : D → D → PM D := intD fun i j => if CPow i j then pure (.int (i ^ j.toNat)) else bad
theorem od_pow : OpD X (binaryOp .Pow) powD := od_iD (C := CPow) (d := fun i j => .int (i ^ j.toNat)) op_pow (fun _ _ _ _ => .int _)
noncomputable def eqD0 (a b : D) : PM D := if shp a = true ∧ shp b = true then pure (.bl (eqvD a b)) else bad
noncomputable def neD0 (a b : D) : PM D := if shp a = true ∧ shp b = true then pure (.bl (!eqvD a b)) else bad
noncomputable def twoS : D → D → Bool
  | .str _, .str _ => true
  | _, _ => false
/-- two texts: no more is asked -/
noncomputable def eqD : D → D → PM D
  | .str x, .str y => pure (.bl (x == y))
  | a, b => eqD0 a b
noncomputable def neD : D → D → PM D
  | .str x, .str y => pure (.bl (!(x == y)))
  | a, b => neD0 a b
theorem eqD_0 {a b : D} (h : twoS a b = false) : eqD a b = eqD0 a b := by
  cases a <;> cases b <;> first | rfl | exact EV.nnB (Eq.symm h)
theorem neD_0 {a b : D} (h : twoS a b = false) : neD a b = neD0 a b := by
  cases a <;> cases b <;> first | rfl | exact EV.nnB (Eq.symm h)
theorem twoS_rp {K : PySem.W.Frag} {G : Hp} {x y : V} {a b : D} (h : twoS a b = true) (ra : Rp K G x a) (rb : Rp K G y b) : ∃ z t, a = .str z ∧ b = .str t ∧ x = .str z ∧ y = .str t := by
  cases ra with
  | str z =>
    cases rb with
    | str t => exact EV.in2_4 z t rfl rfl rfl rfl
    | _ => exact EV.nnB h
  | _ => exact EV.nnB h
theorem od_eq (hr : Room k X.A) : OpD X (compareOp .Eq) eqD := by
  refine EV.in1_2 _ (op_eq.or (op_eqD hr.units)) (fun W pa σ G H s x y a b Q hs hp ra rb P => ?_)
  cases e : twoS a b with
  | true =>
    (refine EV.el2_2 (twoS_rp e ra rb) fun z t q11_ q12_ => ?_; obtain rfl := q11_; (refine EV.el0_2 q12_ ?_; try clear q12_; intro q13_ q14_; obtain rfl := q13_; (refine EV.el0_2 q14_ ?_; try clear q14_; intro q15_ q16_; obtain rfl := q15_; obtain rfl := q16_)))
    exact .inl ⟨rfl, by rw [dec_str]; exact P G H (Ext.refl hs) hp _ (.bl _)⟩
  | false =>
    rw [eqD_0 e] at P
    unfold eqD0 at P
    split at P
    · rename_i h
      exact .inr ⟨toPy a, toPy b, (ra.mono hs).dpS h.1, (rb.mono hs).dpS h.2, h.1, h.2, P G H (Ext.refl hs) hp _ (.bl _)⟩
    · exact P.elim
theorem od_ne (hr : Room k X.A) : OpD X (compareOp .NotEq) neD := by
  refine EV.in1_2 _ (op_ne.or (op_neD hr.units)) (fun W pa σ G H s x y a b Q hs hp ra rb P => ?_)
  cases e : twoS a b with
  | true =>
    (refine EV.el2_2 (twoS_rp e ra rb) fun z t q17_ q18_ => ?_; obtain rfl := q17_; (refine EV.el0_2 q18_ ?_; try clear q18_; intro q19_ q20_; obtain rfl := q19_; (refine EV.el0_2 q20_ ?_; try clear q20_; intro q21_ q22_; obtain rfl := q21_; obtain rfl := q22_)))
    exact .inl ⟨rfl, by rw [dec_str]; exact P G H (Ext.refl hs) hp _ (.bl _)⟩
  | false =>
    rw [neD_0 e] at P
    unfold neD0 at P
    split at P
    · rename_i h
      exact .inr ⟨toPy a, toPy b, (ra.mono hs).dpS h.1, (rb.mono hs).dpS h.2, h.1, h.2, P G H (Ext.refl hs) hp _ (.bl _)⟩
    · exact P.elim
noncomputable def ltD : D → D → PM D := intD fun i j => pure (.bl (decide (i < j)))
noncomputable def leD : D → D → PM D := intD fun i j => pure (.bl (decide (i ≤ j)))
noncomputable def geD : D → D → PM D := intD fun i j => pure (.bl (decide (j ≤ i)))
theorem od_lt : OpD X (compareOp .Lt) ltD := od_iD0 (d := fun i j => .bl (decide (i < j))) op_lt (fun _ _ _ _ => .bl _)
theorem od_le : OpD X (compareOp .LtE) leD := od_iD0 (d := fun i j => .bl (decide (i ≤ j))) op_le (fun _ _ _ _ => .bl _)
theorem od_ge : OpD X (compareOp .GtE) geD := od_iD0 (d := fun i j => .bl (decide (j ≤ i))) op_ge (fun _ _ _ _ => .bl _)
/-- x is None -/
noncomputable def isNonD : D → Bool
  | .non => true
  | _ => false
noncomputable def isND (a b : D) : PM D := match b with
  | .non => pure (.bl (isNonD a))
  | _ => bad
noncomputable def notND (a b : D) : PM D := match b with
  | .non => pure (.bl (!isNonD a))
  | _ => bad
theorem od_isN : OpD X (compareOp .Is) isND := by
  refine EV.in1_2 _ op_isN (fun W pa σ G H s x y a b Q hs hp ra rb P => ?_)
  cases rb with
  | non =>
    refine ⟨rfl, ?_⟩
    cases ra <;> exact P G H (Ext.refl hs) hp _ (.bl _)
  | _ => exact P.elim
theorem od_notN : OpD X (compareOp .IsNot) notND := by
  refine EV.in1_2 _ op_notN (fun W pa σ G H s x y a b Q hs hp ra rb P => ?_)
  cases rb with
  | non =>
    refine ⟨rfl, ?_⟩
    cases ra <;> exact P G H (Ext.refl hs) hp _ (.bl _)
  | _ => exact P.elim
theorem room65 {A : Around} (hr : Room k A) : A.units + 65 < cLine := by have := hr.un; omega
noncomputable def rInT (K : PySem.W.Frag) : R2 := fun x y H Q => ∃ d ds, Dp K H x d ∧ Dp K H y (.tuple ds) ∧ SeqAt.shaped d = true ∧ SeqAt.shaped (.tuple ds) = true ∧ Q (.bl (ds.any fun z => PyData.eqv z d)) H
noncomputable def rNotInT (K : PySem.W.Frag) : R2 := fun x y H Q => ∃ d ds, Dp K H x d ∧ Dp K H y (.tuple ds) ∧ SeqAt.shaped d = true ∧ SeqAt.shaped (.tuple ds) = true ∧ Q (.bl (!ds.any fun z => PyData.eqv z d)) H
noncomputable def inD (a b : D) : PM D := match b with
  | .lst xs => if shp a = true ∧ shp (.lst xs) = true then pure (.bl (xs.any fun z => eqvD z a)) else bad
  | .tup xs => if shp a = true ∧ shp (.tup xs) = true then pure (.bl (xs.any fun z => eqvD z a)) else bad
  | .str b => (match a with
    | .str a => pure (.bl (!(Builtin.Str.occurrences b a 0 b.length 1).isEmpty))
    | _ => bad)
  | _ => bad
noncomputable def notInD (a b : D) : PM D := match b with
  | .lst xs => if shp a = true ∧ shp (.lst xs) = true then pure (.bl (!xs.any fun z => eqvD z a)) else bad
  | .tup xs => if shp a = true ∧ shp (.tup xs) = true then pure (.bl (!xs.any fun z => eqvD z a)) else bad
  | _ => bad
theorem op_inT (hu : X.A.units + 65 < cLine) : OpR X (compareOp .In) (rInT X.K) := by
  intro pins s σ H x y v u Q I rx ry ⟨d, ds, hd, he, sd, se, q⟩
  refine EV.el1_1 (Dp.reads I d x v hd rx) fun as r1 => ?_
  refine EV.el1_1 (Dp.reads I (.tuple ds) y u he ry) fun bs r2 => ?_
  have sc : PyData.canLayAll0 ds = true := by
    have z := SeqAt.canLay_of_shaped se
    simpa only [PyData.canLay0] using z
  exact SeqAt.in_tuple_reads r2 r1 sc (SeqAt.canLay_of_shaped sd) (room_in_shaped sd hu) ⟨.bl _, H, I, rfl, q⟩
theorem op_notInT (hu : X.A.units + 65 < cLine) : OpR X (compareOp .NotIn) (rNotInT X.K) := by
  intro pins s σ H x y v u Q I rx ry ⟨d, ds, hd, he, sd, se, q⟩
  refine EV.el1_1 (Dp.reads I d x v hd rx) fun as r1 => ?_
  refine EV.el1_1 (Dp.reads I (.tuple ds) y u he ry) fun bs r2 => ?_
  have sc : PyData.canLayAll0 ds = true := by
    have z := SeqAt.canLay_of_shaped se
    simpa only [PyData.canLay0] using z
  exact SeqAt.notIn_tuple_reads r2 r1 sc (SeqAt.canLay_of_shaped sd) (room_in_shaped sd hu) ⟨.bl _, H, I, rfl, q⟩
theorem any_py (xs : List D) (a : D) : ((xs.map toPy).any fun z => PyData.eqv z (toPy a)) = xs.any fun z => eqvD z a := by
  rw [List.any_map]
  rfl
theorem od_in (hr : Room k X.A) : OpD X (compareOp .In) inD := by
  refine EV.in1_2 _ ((op_inD (room65 hr)).or ((op_inT (room65 hr)).or op_in_str)) (fun W pa σ G H s x y a b Q hs hp ra rb P => ?_)
  cases rb with
  | @lst p vs ds h n r =>
    have P : Pst X.K W X.mg pa σ (FD X.K Q) G H ((if shp a = true ∧ shp (.lst ds) = true then pure (.bl (ds.any fun z => eqvD z a)) else bad : PM D) s) := P
    split at P
    · rename_i hh
      have dy : Dp X.K H (.ref p) (.list (ds.map toPy)) := by
        have z := (((Rp.lst h n r : Rp X.K G (.ref p) (.lst ds)).mono hs).dpS hh.2)
        simpa only [toPy, toPyL_map] using z
      have sy : SeqAt.shaped (.list (ds.map toPy)) = true := by
        have z : SeqAt.shaped (toPy (.lst ds)) = true := hh.2
        simpa only [toPy, toPyL_map] using z
      refine .inl ⟨toPy a, ds.map toPy, (ra.mono hs).dpS hh.1, dy, hh.1, sy, ?_⟩
      rw [any_py]
      exact P G H (Ext.refl hs) hp _ (.bl _)
    · exact P.elim
  | @tup p vs ds h n r =>
    have P : Pst X.K W X.mg pa σ (FD X.K Q) G H ((if shp a = true ∧ shp (.tup ds) = true then pure (.bl (ds.any fun z => eqvD z a)) else bad : PM D) s) := P
    split at P
    · rename_i hh
      have dy : Dp X.K H (.ref p) (.tuple (ds.map toPy)) := by
        have z := (((Rp.tup h n r : Rp X.K G (.ref p) (.tup ds)).mono hs).dpS hh.2)
        simpa only [toPy, toPyL_map] using z
      have sy : SeqAt.shaped (.tuple (ds.map toPy)) = true := by
        have z : SeqAt.shaped (toPy (.tup ds)) = true := hh.2
        simpa only [toPy, toPyL_map] using z
      refine .inr (.inl ⟨toPy a, ds.map toPy, (ra.mono hs).dpS hh.1, dy, hh.1, sy, ?_⟩)
      rw [any_py]
      exact P G H (Ext.refl hs) hp _ (.bl _)
    · exact P.elim
  | str z =>
    cases ra with
    | str y => exact .inr (.inr ⟨y, z, rfl, rfl, P G H (Ext.refl hs) hp _ (.bl _)⟩)
    | _ => exact P.elim
  | _ => exact P.elim
theorem od_notIn (hr : Room k X.A) : OpD X (compareOp .NotIn) notInD := by
  refine EV.in1_2 _ ((op_notInD (room65 hr)).or (op_notInT (room65 hr))) (fun W pa σ G H s x y a b Q hs hp ra rb P => ?_)
  cases rb with
  | @lst p vs ds h n r =>
    have P : Pst X.K W X.mg pa σ (FD X.K Q) G H ((if shp a = true ∧ shp (.lst ds) = true then pure (.bl (!ds.any fun z => eqvD z a)) else bad : PM D) s) := P
    split at P
    · rename_i hh
      have dy : Dp X.K H (.ref p) (.list (ds.map toPy)) := by
        have z := (((Rp.lst h n r : Rp X.K G (.ref p) (.lst ds)).mono hs).dpS hh.2)
        simpa only [toPy, toPyL_map] using z
      have sy : SeqAt.shaped (.list (ds.map toPy)) = true := by
        have z : SeqAt.shaped (toPy (.lst ds)) = true := hh.2
        simpa only [toPy, toPyL_map] using z
      refine .inl ⟨toPy a, ds.map toPy, (ra.mono hs).dpS hh.1, dy, hh.1, sy, ?_⟩
      rw [any_py]
      exact P G H (Ext.refl hs) hp _ (.bl _)
    · exact P.elim
  | @tup p vs ds h n r =>
    have P : Pst X.K W X.mg pa σ (FD X.K Q) G H ((if shp a = true ∧ shp (.tup ds) = true then pure (.bl (!ds.any fun z => eqvD z a)) else bad : PM D) s) := P
    split at P
    · rename_i hh
      have dy : Dp X.K H (.ref p) (.tuple (ds.map toPy)) := by
        have z := (((Rp.tup h n r : Rp X.K G (.ref p) (.tup ds)).mono hs).dpS hh.2)
        simpa only [toPy, toPyL_map] using z
      have sy : SeqAt.shaped (.tuple (ds.map toPy)) = true := by
        have z : SeqAt.shaped (toPy (.tup ds)) = true := hh.2
        simpa only [toPy, toPyL_map] using z
      refine .inr ⟨toPy a, ds.map toPy, (ra.mono hs).dpS hh.1, dy, hh.1, sy, ?_⟩
      rw [any_py]
      exact P G H (Ext.refl hs) hp _ (.bl _)
    · exact P.elim
  | _ => exact P.elim
theorem ev_chain {W : WX} {pa : Option Addr} {Γ : List Sl} {pos : Pos} {op op' : CmpOp} {g g' : D → D → PM D} {a b c : Expr} {ma mb mc : PM D} (ho : OpD X (compareOp op) g) (ho' : OpD X (compareOp op') g') (ha : EV X W pa Γ a ma) (hb : EV X W pa Γ b mb) (hc : EV X W pa Γ c mc)
    (hm : autoParam (lastMarks [op, op'] [b, c] = false) EV.tac4) : EV X W pa Γ (.Compare a [op, op'] [b, c] pos) (ma >>= fun x => mb >>= fun y => g x y >>= fun r => asB r >>= fun t => if t = true then mc >>= fun z => g' y z else pure (.bl false)) := by
  (refine EV.el1_2 ho ?_; try clear ho; intro r h1 h2)
  (refine EV.el1_2 ho' ?_; try clear ho'; intro r' h1' h2')
  refine pe_imp (pe_chain h1 h1' ha hb hc hm) fun σ H Q h_ => EV.ex4 h_ fun G0 H0 G s E P =>
    ⟨G0, H0, G, s, E, P.bind.imp fun G1 H1 a s1 x1 p1 P1 v rv => ⟨G0, H0, G1, s1, E.step x1 p1, P1.bind.imp fun G2 H2 b s2 x2 p2 P2 w rw => ?_⟩⟩
  refine h2 W pa σ G2 H2 s2 v w a b _ x2.sub p2 (rv.mono x2.g) rw (P2.bind.imp fun G3 H3 d s3 x3 p3 P3 u ru => ?_)
  cases ru with
  | bl t =>
    refine EV.in1_2 t rfl ?_
    have P4 := (P3.bind).now x3.sub p3
    cases t with
    | false => exact (show Q (.bl false) H3 from P4.now x3.sub p3 _ (.bl _))
    | true =>
      refine (show evT X W pa Γ mc σ H3 _ from ⟨G0, H0, G3, s3, ((E.step x1 p1).step x2 p2).step x3 p3, (P4.bind : Pst X.K W X.mg pa σ _ G3 H3 (mc s3)).imp fun G5 H5 z s5 x5 p5 P5 u' ru' => ?_⟩)
      exact h2' W pa σ G5 H5 s5 w u' b z Q x5.sub p5 (rw.mono (x3.g.trans x5.g)) ru' P5
  | _ => exact P3.elim
noncomputable def getD : D → D → PM D
  | .lst xs, .int i => match atI xs i with | some d => pure d | none => bad
  | .tup xs, .int i => match atI xs i with | some d => pure d | none => bad
  | .str z, .int i => if z.length ≤ lim then (match atI z.cps.toList i with | some c => pure (.str ⟨#[c]⟩) | none => bad) else bad
  | _, _ => bad
theorem atI_rp {K : PySem.W.Frag} {G : Hp} {vs : List V} {ds : List D} (h : RpL K G vs ds) {i : Int} {d : D} (e : atI ds i = some d) : ∃ v, atI vs i = some v ∧ Rp K G v d := by
  unfold atI at e ⊢
  rw [h.1]
  cases q : ixN ds.length i with
  | none => rw [q] at e; exact EV.nnS e
  | some j =>
    rw [q] at e
    exact h.get e
set_option tactic.hygienic true in
theorem ev_ix {W : WX} {pa : Option Addr} {Γ : List Sl} {pos : Pos} {a b : Expr} {ma mb : PM D} (ha : EV X W pa Γ a ma) (hb : EV X W pa Γ b mb) (hs : PlainIx b) : EV X W pa Γ (.Subscript a b pos) (ma >>= fun x => mb >>= fun y => getD x y) :=
  pe_imp (pe_ix ix_seq ha hb hs) fun σ H Q h_ => EV.ex4 h_ fun G0 H0 G s E P =>
    ⟨G0, H0, G, s, E, P.bind.imp fun G1 H1 a s1 x1 p1 P1 v rv => ⟨G0, H0, G1, s1, E.step x1 p1, P1.bind.imp fun G2 H2 b s2 x2 p2 P2 w rw => by
      have rv := rv.mono x2.g
      cases rv with
      | lst h n r =>
        cases rw with
        | int i =>
          rename_i ds
          have P2 : Pst X.K W X.mg pa σ (FD X.K Q) G2 H2 ((match atI ds i with | some d => pure d | none => bad : PM D) s2) := P2
          cases e : atI ds i with
          | none => rw [e] at P2; exact P2.elim
          | some d =>
            rw [e] at P2
            refine EV.el1_2 (atI_rp ⟨n, r⟩ e) fun u e' ru => ?_
            exact .inl ⟨_, _, i, u, rfl, rfl, SqL.of (x2.sub _ _ h), e', P2 G2 H2 (Ext.refl x2.sub) p2 u ru⟩
        | _ => exact P2.elim
      | tup h n r =>
        cases rw with
        | int i =>
          rename_i ds
          have P2 : Pst X.K W X.mg pa σ (FD X.K Q) G2 H2 ((match atI ds i with | some d => pure d | none => bad : PM D) s2) := P2
          cases e : atI ds i with
          | none => rw [e] at P2; exact P2.elim
          | some d =>
            rw [e] at P2
            refine EV.el1_2 (atI_rp ⟨n, r⟩ e) fun u e' ru => ?_
            exact .inr (.inl ⟨_, _, i, u, rfl, rfl, sameT x2.sub h, e', P2 G2 H2 (Ext.refl x2.sub) p2 u ru⟩)
        | _ => exact P2.elim
      | str z =>
        cases rw with
        | int i =>
          have P2 : Pst X.K W X.mg pa σ (FD X.K Q) G2 H2 ((if z.length ≤ lim then (match atI z.cps.toList i with | some c => pure (.str ⟨#[c]⟩) | none => bad) else bad : PM D) s2) := P2
          split at P2
          · rename_i hl
            cases e : atI z.cps.toList i with
            | none => rw [e] at P2; exact P2.elim
            | some c =>
              rw [e] at P2
              exact .inr (.inr ⟨z, i, c, rfl, rfl, lim_le hl, e, P2 G2 H2 (Ext.refl x2.sub) p2 _ (.str _)⟩)
          · exact P2.elim
        | _ => exact P2.elim
      | _ => exact P2.elim⟩⟩
/-- the bounds of a slice -/
noncomputable abbrev EO (X : Cx) (W : WX) (pa : Option Addr) (Γ : List Sl) (e : Option Expr) (m : PM (Option Int)) : Prop := PO X e (fun σ H Q => ∃ G0 H0 G s, Nv X.K pa G0 H0 G H σ Γ s ∧ Pst X.K W X.mg pa σ (fun _ H' o _ => Q o H') G H (m s))
theorem po_imp {e : Option Expr} {t t' : TO} (h : PO X e t) (i : ∀ σ H Q, t' σ H Q → t σ H Q) : PO X e t' := ⟨fun pins s σ H Q I q => h.run pins s σ H Q I (i σ H Q q)⟩
noncomputable def asI : D → PM (Option Int)
  | .int i => pure (some i)
  | _ => bad
theorem eo_none {W : WX} {pa : Option Addr} {Γ : List Sl} : EO X W pa Γ none (pure none) := po_imp po_none fun σ H Q h_ => EV.ex4 h_ fun G0 H0 G s E P => P.now E.sub E.ps
theorem eo_some {W : WX} {pa : Option Addr} {Γ : List Sl} {e : Expr} {m : PM D} (h : EV X W pa Γ e m) : EO X W pa Γ (some e) (m >>= asI) := po_imp (po_some h) fun σ H Q h_ => EV.ex4 h_ fun G0 H0 G s E P =>
  ⟨G0, H0, G, s, E, P.bind.imp fun G1 H1 a s1 x1 p1 P1 v rv => by
    cases rv with
    | int i => exact EV.in1_2 i rfl (P1.now x1.sub p1)
    | _ => exact P1.elim⟩
noncomputable def cutD (xs : List D) (lo hi : Option Int) : List D := (xs.drop (HT.sIx xs.length 0 lo)).take (HT.sIx xs.length xs.length hi - HT.sIx xs.length 0 lo)
noncomputable def sliceD : D → Option Int → Option Int → PM D
  | .lst xs, lo, hi => mkL (cutD xs lo hi)
  | .tup xs, lo, hi => mkT (cutD xs lo hi)
  | .str z, lo, hi => if z.length ≤ lim then pure (.str (cutS z lo hi)) else bad
  | _, _, _ => bad
theorem cut_rp {K : PySem.W.Frag} {G : Hp} {vs : List V} {ds : List D} (h : RpL K G vs ds) (lo hi : Option Int) : RpL K G (cutV vs lo hi) (cutD ds lo hi) := by
  unfold cutV cutD
  rw [h.1]
  exact (h.drop _).take _
theorem ev_slice {W : WX} {pa : Option Addr} {Γ : List Sl} {pos p2 : Pos} {a : Expr} {lo hi : Option Expr} {ma : PM D} {ml mh : PM (Option Int)} (ha : EV X W pa Γ a ma) (hl : EO X W pa Γ lo ml) (hh : EO X W pa Γ hi mh) :
    EV X W pa Γ (.Subscript a (.Slice lo hi none p2) pos) (ma >>= fun x => ml >>= fun l => mh >>= fun u => sliceD x l u) :=
  pe_imp (pe_slice (SlR.or sl_list (SlR.or sl_tupA sl_str)) ha hl hh) fun σ H Q h_ => EV.ex4 h_ fun G0 H0 G s E P =>
    ⟨G0, H0, G, s, E, P.bind.imp fun G1 H1 a s1 x1 p1 P1 v rv => ⟨G0, H0, G1, s1, E.step x1 p1, P1.bind.imp fun G2 H2 l s2 x2 p2 P2 => ⟨G0, H0, G2, s2, (E.step x1 p1).step x2 p2, P2.bind.imp fun G3 H3 u s3 x3 p3 P3 => by
      have rv := rv.mono (x2.g.trans x3.g)
      cases rv with
      | lst h n r =>
        rename_i ds
        exact .inl ⟨_, _, rfl, SqL.of (x3.sub _ _ h), fun p np => mkL_use (P3 : Pst X.K W X.mg pa σ (FD X.K Q) G3 H3 (mkL (cutD ds l u) s3)) (cut_rp ⟨n, r⟩ l u) x3.sub p3 np⟩
      | tup h n r =>
        rename_i ds
        have P3 : Pst X.K W X.mg pa σ (FD X.K Q) G3 H3 (mkT (cutD ds l u) s3) := P3
        refine .inr (.inl ⟨_, _, rfl, sameT x3.sub h, fun hw => ?_, fun hw p np => mkT_use P3 (cut_rp ⟨n, r⟩ l u) x3.sub p3 np⟩)
        have e : cutD ds l u = ds := by
          rw [n] at hw
          unfold cutD
          rw [hw.1, hw.2]
          simp
        rw [e] at P3
        exact mkT_same P3 h ⟨n, r⟩ x3.sub p3
      | str z =>
        have P3 : Pst X.K W X.mg pa σ (FD X.K Q) G3 H3 ((if z.length ≤ lim then pure (.str (cutS z l u)) else bad : PM D) s3) := P3
        split at P3
        · rename_i hz
          exact .inr (.inr ⟨z, rfl, lim_le hz, P3 G3 H3 (Ext.refl x3.sub) p3 _ (.str _)⟩)
        · exact P3.elim
      | _ => exact P3.elim⟩⟩⟩
noncomputable def lenF : List D → PM D
  | [.lst xs] => pure (.int xs.length)
  | [.tup xs] => pure (.int xs.length)
  | [.str z] => if z.length ≤ lim then pure (.int z.length) else bad
  | _ => bad
theorem rp1 {K : PySem.W.Frag} {G : Hp} {vs : List V} {d : D} (h : RpL K G vs [d]) : ∃ v, vs = [v] ∧ Rp K G v d := by
  have n := h.1
  cases vs with
  | nil => simp at n
  | cons v r =>
    cases r with
    | nil => exact EV.in1_2 v rfl (h.tail.1)
    | cons _ _ => simp at n
theorem rp2 {K : PySem.W.Frag} {G : Hp} {vs : List V} {d e : D} (h : RpL K G vs [d, e]) : ∃ v w, vs = [v, w] ∧ Rp K G v d ∧ Rp K G w e := by
  have n := h.1
  cases vs with
  | nil => simp at n
  | cons v r =>
    (refine EV.el1_2 (rp1 h.tail.2) fun w q23_ r2 => ?_; obtain rfl := q23_)
    exact EV.in2_3 v w rfl (h.tail.1) r2
theorem cd_len : CallD X (.builtin "len") lenF := by
  refine EV.in1_2 _ (call_len_seq.or call_len_str) (fun W pa σ G H s xs ds Q hs hp rs P => ?_)
  match ds, rs, P with
  | [d], rs, P =>
    (refine EV.el1_2 (rp1 rs) fun v q24_ r => ?_; obtain rfl := q24_)
    cases r with
    | lst h n r => exact .inl ⟨_, _, rfl, .inl (SqL.of (hs _ _ h)), by rw [n]; exact P G H (Ext.refl hs) hp _ (.int _)⟩
    | tup h n r => exact .inl ⟨_, _, rfl, .inr (sameT hs h), by rw [n]; exact P G H (Ext.refl hs) hp _ (.int _)⟩
    | str z =>
      have P : Pst X.K W X.mg pa σ (FD X.K Q) G H ((if z.length ≤ lim then pure (.int z.length) else bad : PM D) s) := P
      split at P
      · rename_i hz
        exact .inr ⟨z, rfl, lim_le hz, P G H (Ext.refl hs) hp _ (.int _)⟩
      · exact P.elim
    | _ => exact P.elim
  | [], _, P => exact P.elim
  | a :: _ :: _, _, P => cases a <;> exact P.elim
noncomputable def tupleF : List D → PM D
  | [.lst xs] => mkT xs
  | [.tup xs] => mkT xs
  | _ => bad
theorem cd_tuple : CallD X (.type "tuple") tupleF := by
  refine EV.in1_2 _ call_tuple_of (fun W pa σ G H s xs ds Q hs hp rs P => ?_)
  match ds, rs, P with
  | [d], rs, P =>
    (refine EV.el1_2 (rp1 rs) fun v q25_ r => ?_; obtain rfl := q25_)
    cases r with
    | lst h n r => exact EV.in2_2 _ _ rfl (.inl ⟨SqL.of (hs _ _ h), fun p np => mkT_use (P : Pst X.K W X.mg pa σ (FD X.K Q) G H (mkT _ s)) ⟨n, r⟩ hs hp np⟩)
    | tup h n r => exact EV.in2_2 _ _ rfl (.inr ⟨sameT hs h, mkT_same (P : Pst X.K W X.mg pa σ (FD X.K Q) G H (mkT _ s)) h ⟨n, r⟩ hs hp⟩)
    | _ => exact P.elim
  | [], _, P => exact P.elim
  | a :: _ :: _, _, P => cases a <;> exact P.elim
noncomputable def listF : List D → PM D
  | [.lst xs] => mkL xs
  | [.tup xs] => mkL xs
  | _ => bad
theorem cd_list : CallD X (.type "list") listF := by
  refine EV.in1_2 _ call_list_of (fun W pa σ G H s xs ds Q hs hp rs P => ?_)
  match ds, rs, P with
  | [d], rs, P =>
    (refine EV.el1_2 (rp1 rs) fun v q26_ r => ?_; obtain rfl := q26_)
    cases r with
    | lst h n r => exact EV.in2_3 _ _ rfl (.inl (SqL.of (hs _ _ h))) (fun p np => mkL_use (P : Pst X.K W X.mg pa σ (FD X.K Q) G H (mkL _ s)) ⟨n, r⟩ hs hp np)
    | tup h n r => exact EV.in2_3 _ _ rfl (.inr (sameT hs h)) (fun p np => mkL_use (P : Pst X.K W X.mg pa σ (FD X.K Q) G H (mkL _ s)) ⟨n, r⟩ hs hp np)
    | _ => exact P.elim
  | [], _, P => exact P.elim
  | a :: _ :: _, _, P => cases a <;> exact P.elim
/-- lists of bools, of ints -/
noncomputable def blsOf : List D → Option (List Bool)
  | [] => some []
  | .bl b :: r => (blsOf r).map (b :: ·)
  | _ :: _ => none
noncomputable def intsOf : List D → Option (List Int)
  | [] => some []
  | .int b :: r => (intsOf r).map (b :: ·)
  | _ :: _ => none
theorem blsOf_map : ∀ bs : List Bool, blsOf (bs.map D.bl) = some bs
  | [] => rfl
  | b :: r => by simp only [List.map_cons, blsOf, blsOf_map r, Option.map_some]
theorem intsOf_map : ∀ bs : List Int, intsOf (bs.map D.int) = some bs
  | [] => rfl
  | b :: r => by simp only [List.map_cons, intsOf, intsOf_map r, Option.map_some]
theorem blsOf_inv {ds : List D} : ∀ {bs : List Bool}, blsOf ds = some bs → ds = bs.map D.bl := by
  induction ds with
  | nil =>
    intro bs e
    obtain rfl := Option.some.inj e
    rfl
  | cons d r ih =>
    intro bs e
    cases d with
    | bl b =>
      have e : (blsOf r).map (b :: ·) = some bs := e
      cases q : blsOf r with
      | none => rw [q] at e; exact EV.nnS e
      | some cs =>
        rw [q] at e
        obtain rfl := Option.some.inj e
        rw [ih q]
        rfl
    | _ => exact EV.nnS e
theorem intsOf_inv {ds : List D} : ∀ {bs : List Int}, intsOf ds = some bs → ds = bs.map D.int := by
  induction ds with
  | nil =>
    intro bs e
    obtain rfl := Option.some.inj e
    rfl
  | cons d r ih =>
    intro bs e
    cases d with
    | int b =>
      have e : (intsOf r).map (b :: ·) = some bs := e
      cases q : intsOf r with
      | none => rw [q] at e; exact EV.nnS e
      | some cs =>
        rw [q] at e
        obtain rfl := Option.some.inj e
        rw [ih q]
        rfl
    | _ => exact EV.nnS e
theorem rpL_mapI {α : Type} {K : PySem.W.Frag} {G : Hp} {f : α → D} {g : α → V} (h : ∀ v a, Rp K G v (f a) → v = g a) {bs : List α} : ∀ {vs : List V}, RpL K G vs (bs.map f) → vs = bs.map g := by
  induction bs with
  | nil =>
    intro vs r
    exact List.length_eq_zero_iff.mp r.1
  | cons b bs ih =>
    intro vs r
    cases vs with
    | nil => exact absurd r.1 (by simp)
    | cons v vs =>
      have z : RpL K G (v :: vs) (f b :: bs.map f) := r
      show v :: vs = g b :: bs.map g
      rw [h _ _ z.tail.1, ih z.tail.2]
theorem blsOf_rp {K : PySem.W.Frag} {G : Hp} {vs : List V} {ds : List D} {bs : List Bool} (r : RpL K G vs ds) (e : blsOf ds = some bs) : vs = bs.map V.bl := by
  rw [blsOf_inv e] at r
  exact rpL_mapI (fun v a z => by cases z; rfl) r
theorem intsOf_rp {K : PySem.W.Frag} {G : Hp} {vs : List V} {ds : List D} {bs : List Int} (r : RpL K G vs ds) (e : intsOf ds = some bs) : vs = bs.map V.int := by
  rw [intsOf_inv e] at r
  exact rpL_mapI (fun v a z => by cases z; rfl) r
noncomputable def anyF : List D → PM D
  | [.lst xs] => match blsOf xs with | some bs => pure (.bl (bs.any id)) | none => bad
  | _ => bad
noncomputable def allF : List D → PM D
  | [.lst xs] => match blsOf xs with | some bs => pure (.bl (bs.all id)) | none => bad
  | _ => bad
theorem cd_any (hc : X.calm = true) : CallD X (.builtin "any") anyF := by
  refine EV.in1_2 _ (cr_any hc) (fun W pa σ G H s xs ds Q hs hp rs P => ?_)
  match ds, rs, P with
  | [d], rs, P =>
    (refine EV.el1_2 (rp1 rs) fun v q27_ r => ?_; obtain rfl := q27_)
    cases r with
    | @lst a vs es h n r =>
      have P : Pst X.K W X.mg pa σ (FD X.K Q) G H ((match blsOf es with | some bs => pure (.bl (bs.any id)) | none => bad : PM D) s) := P
      cases e : blsOf es with
      | none => rw [e] at P; exact P.elim
      | some bs =>
        rw [e] at P
        exact EV.in2_3 _ bs rfl (by rw [← blsOf_rp ⟨n, r⟩ e]; exact SqL.of (hs _ _ h)) (P G H (Ext.refl hs) hp _ (.bl _))
    | _ => exact P.elim
  | [], _, P => exact P.elim
  | a :: _ :: _, _, P => cases a <;> exact P.elim
theorem cd_all (hc : X.calm = true) : CallD X (.builtin "all") allF := by
  refine EV.in1_2 _ (cr_all hc) (fun W pa σ G H s xs ds Q hs hp rs P => ?_)
  match ds, rs, P with
  | [d], rs, P =>
    (refine EV.el1_2 (rp1 rs) fun v q28_ r => ?_; obtain rfl := q28_)
    cases r with
    | @lst a vs es h n r =>
      have P : Pst X.K W X.mg pa σ (FD X.K Q) G H ((match blsOf es with | some bs => pure (.bl (bs.all id)) | none => bad : PM D) s) := P
      cases e : blsOf es with
      | none => rw [e] at P; exact P.elim
      | some bs =>
        rw [e] at P
        exact EV.in2_3 _ bs rfl (by rw [← blsOf_rp ⟨n, r⟩ e]; exact SqL.of (hs _ _ h)) (P G H (Ext.refl hs) hp _ (.bl _))
    | _ => exact P.elim
  | [], _, P => exact P.elim
  | a :: _ :: _, _, P => cases a <;> exact P.elim
/-- sorted of ints -/
noncomputable def insI (x : Int) : List Int → List Int
  | [] => [x]
  | y :: r => if x ≤ y then x :: y :: r else y :: insI x r
noncomputable def sortI : List Int → List Int
  | [] => []
  | x :: r => insI x (sortI r)
theorem insI_perm (x : Int) : ∀ l, (insI x l).Perm (x :: l)
  | [] => .refl _
  | y :: r => by
    unfold insI
    split
    · exact .refl _
    · exact ((insI_perm x r).cons y).trans (.swap x y r)
theorem sortI_perm : ∀ l, (sortI l).Perm l
  | [] => .refl _
  | x :: r => (insI_perm x (sortI r)).trans ((sortI_perm r).cons x)
theorem insI_sorted (x : Int) : ∀ l, l.Pairwise (· ≤ ·) → (insI x l).Pairwise (· ≤ ·)
  | [], _ => by simp [insI]
  | y :: r, h => by
    unfold insI
    have h' := List.pairwise_cons.mp h
    split
    · rename_i hxy
      refine List.pairwise_cons.mpr ⟨fun z hz => ?_, h⟩
      rcases List.mem_cons.mp hz with rfl | hz
      · exact hxy
      · exact Int.le_trans hxy (h'.1 z hz)
    · rename_i hxy
      refine List.pairwise_cons.mpr ⟨fun z hz => ?_, insI_sorted x r h'.2⟩
      have hz' := (insI_perm x r).mem_iff.mp hz
      rcases List.mem_cons.mp hz' with rfl | hz'
      · omega
      · exact h'.1 z hz'
theorem sortI_sorted : ∀ l, (sortI l).Pairwise (· ≤ ·)
  | [] => .nil
  | x :: r => insI_sorted x _ (sortI_sorted r)
theorem sorted_eq {l r : List Int} (p : l.Perm r) (hl : l.Pairwise (· ≤ ·)) (hr : r.Pairwise (· ≤ ·)) : l = r :=
  List.Perm.eq_of_pairwise (fun a b _ _ h1 h2 => Int.le_antisymm h1 h2) hl hr p
noncomputable def sortedF : List D → PM D
  | [.lst xs] => match intsOf xs with | some ns => mkL ((sortI ns).map D.int) | none => bad
  | _ => bad
theorem rpl_ints {K : PySem.W.Frag} {G : Hp} (ns : List Int) : RpL K G (ns.map V.int) (ns.map D.int) := RpL.map_of ns fun x _ => .int x
theorem cd_sortedI : CallD X (.builtin "sorted") sortedF := by
  refine EV.in1_2 _ cr_sortedI (fun W pa σ G H s xs ds Q hs hp rs P => ?_)
  match ds, rs, P with
  | [d], rs, P =>
    (refine EV.el1_2 (rp1 rs) fun v q29_ r => ?_; obtain rfl := q29_)
    cases r with
    | @lst a vs es h n r =>
      have P : Pst X.K W X.mg pa σ (FD X.K Q) G H ((match intsOf es with | some ns => mkL ((sortI ns).map D.int) | none => bad : PM D) s) := P
      cases e : intsOf es with
      | none => rw [e] at P; exact P.elim
      | some bs =>
        rw [e] at P
        refine EV.in2_3 _ bs rfl (by rw [← intsOf_rp ⟨n, r⟩ e]; exact SqL.of (hs _ _ h)) (fun ns' p q1 q2 np => ?_)
        have e2 : ns' = sortI bs := sorted_eq (q1.trans (sortI_perm bs).symm) q2 (sortI_sorted bs)
        rw [e2]
        exact mkL_use (P : Pst X.K W X.mg pa σ (FD X.K Q) G H (mkL _ s)) (rpl_ints _) hs hp np
    | _ => exact P.elim
  | [], _, P => exact P.elim
  | a :: _ :: _, _, P => cases a <;> exact P.elim
mutual
noncomputable def okD : D → Bool
  | .non => true
  | .bl _ => true
  | .int i => decide (i.natAbs.log2 < 1920)
  | .str _ => true
  | .tup xs => okDL xs
  | .lst xs => okDL xs
  | .dct _ => false
  | .obj _ _ => false
  | .cls _ => false
noncomputable def okDL : List D → Bool
  | [] => true
  | x :: xs => okD x && okDL xs
end
mutual
theorem okD_py : ∀ d : D, okD d = true → (toPy d).showable = true ∧ (toPy d).hasDict = false
  | .non, _ => ⟨rfl, rfl⟩
  | .bl _, _ => ⟨rfl, rfl⟩
  | .int i, h => ⟨by simpa [toPy, PyData.showable, okD] using h, rfl⟩
  | .str _, _ => ⟨rfl, rfl⟩
  | .tup xs, h => by
    have z := okDL_py xs (by simpa [okD] using h)
    exact ⟨by simpa [toPy, PyData.showable] using z.1, by simpa [toPy, PyData.hasDict] using z.2⟩
  | .lst xs, h => by
    have z := okDL_py xs (by simpa [okD] using h)
    exact ⟨by simpa [toPy, PyData.showable] using z.1, by simpa [toPy, PyData.hasDict] using z.2⟩
  | .dct _, h => by simp [okD] at h
  | .obj _ _, h => by simp [okD] at h
  | .cls _, h => by simp [okD] at h
theorem okDL_py : ∀ ds : List D, okDL ds = true → PyData.showableAll (toPyL ds) = true ∧ PyData.hasDictAll (toPyL ds) = false
  | [], _ => ⟨rfl, rfl⟩
  | x :: xs, h => by
    simp only [okDL, Bool.and_eq_true] at h
    have z1 := okD_py x h.1
    have z2 := okDL_py xs h.2
    exact ⟨by simp [toPyL, PyData.showableAll, z1.1, z2.1], by simp [toPyL, PyData.hasDictAll, z1.2, z2.2]⟩
end
noncomputable def reprF : List D → PM D
  | [d] => if okD d = true ∧ (toPy d).depth ≤ 60 ∧ (shown d).length ≤ lim then pure (.str (shown d)) else bad
  | _ => bad
noncomputable def rRepr (K : PySem.W.Frag) : List V → Hp → VK → Prop := fun xs H Q => ∃ x d, xs = [x] ∧ Dp K H x d ∧ d.showable = true ∧ d.hasDict = false ∧ d.depth ≤ 60 ∧ d.shown.length ≤ sizeLine ∧ Q (.str d.shown) H
end
end EV
namespace EV
open PySem PySem.Spec PyProof.Rows L2
theorem pure_any {α : Type} {M : Model} {A : Around} {Q : α → Shared → Prop} {E : Value → Shared → Prop} {s : Shared} {x : α} (h : ∀ b, Q b s) : wpAny M A (pure x) Q E s := wpAny_pure (h x)
set_option tactic.hygienic true in
theorem newEnumB {v : Value} {o : Obj} {H : Heap → Prop} (B : Begins v o H) :
    Meets (Builtin.«enumerate.__new__» ⟨[.type "enumerate", v], []⟩)
      (fun _ R s => H s.heap ∧ R (.ok (.ret (.ref (s.heap.push o).objs.size)))
        { s with heap := (s.heap.push o).push { cls := .type "enumerate", data := .fields #[.none, .bool false, .ref s.heap.objs.size, rawInt 0, .none, .none] } }) :=
  .of_wp fun prog w A R s h => by
    obtain ⟨hp, g, d, tk, os⟩ := s
    obtain ⟨h1, h⟩ := h
    have hsub := sub_enumerate
    have q1 : ∀ {A' : Around} {E : Value → Shared → Prop} {Q : Value → Shared → Prop}, Q (.ref hp.objs.size) ⟨hp.push o, g, d, tk, os⟩ → wpAny (model prog w) A' (pyIter v) Q E ⟨hp, g, d, tk, os⟩ :=
      fun q => B.iter prog w _ _ ⟨hp, g, d, tk, os⟩ _ h1 q
    wp_walk using q1
    refine wpAny_stack_any fun st => pure_any fun b => ?_
    cases b <;> (wp_walk using q1; exact ⟨_, rfl, h⟩)
theorem callEnumT {prog : Program} {w : World} {A : Around} {E : Value → Shared → Prop} {s : Shared} {l : Addr} {items : Array Value} {Q : Value → Shared → Prop} (hT : s.heap.IsTuple l items)
    (h : ∀ h', IsEnum h' (s.heap.objs.size + 1) s.heap.objs.size 0 .none → h'.IsTupleIter s.heap.objs.size l 0 →
      (∀ b o, s.heap.get? b = some o → h'.get? b = some o) → Q (.ref (s.heap.objs.size + 1)) { s with heap := h' }) :
    wpAny (model prog w) A (call (.type "enumerate") [.ref l]) Q E s := by
  refine callType_new F.called_enumerate (by decide) (F.typeCall_enumerate_1 _) (F.newCall_enumerate_1 _) (fun obj => F.args_object_init_2 obj _)
    F.entry_enumerate_new (newEnumB (begins_tuple l items)) ⟨hT, ?_⟩
  generalize ho : ({ cls := .type "tuple_iterator", data := .fields #[.ref l, .int 0 0] } : Obj) = ob
  have hf : ob.isFreed = false := by rw [← ho]; rfl
  have hz : (s.heap.push ob).objs.size = s.heap.objs.size + 1 := Heap.size_push ..
  show _ ∧ _
  rw [hz]
  generalize he0 : ({ cls := .type "enumerate", data := .fields #[.none, .bool false, .ref s.heap.objs.size, rawInt 0, .none, .none] } : Obj) = oe
  have hfe : oe.isFreed = false := by rw [← he0]; rfl
  have he : ((s.heap.push ob).push oe).get? (s.heap.objs.size + 1) = some oe := by
    have := Heap.get?_push_size (s.heap.push ob) (o := oe) hfe
    rw [hz] at this
    exact this
  have he2 : IsEnum ((s.heap.push ob).push oe) (s.heap.objs.size + 1) s.heap.objs.size 0 .none := by
    subst he0
    exact he
  refine ⟨⟨_, he2, rfl⟩, h _ he2 ?_ fun b o x => Heap.get?_push_of_some _ (Heap.get?_push_of_some _ x)⟩
  subst ho
  exact EV.in1_3 _ (Heap.get?_push_of_some _ (Heap.get?_push_size _ hf)) rfl rfl
/-- the tuple at a, each item in a new pair -/
noncomputable def IteT (K : PySem.W.Frag) (a : Addr) : It :=
  ⟨fun i H => ∃ (xs : List V) (x : V), SqT K H a xs ∧ xs[i]? = some x,
    fun i H v H' => ∃ T x, v = .ref T ∧ H T = none ∧ H' = upd H T (.tup [.int (i : Nat), x]) ∧ ∀ xs, SqT K H a xs → xs[i]? = some x,
    fun i H => ∃ xs : List V, SqT K H a xs ∧ xs.length ≤ i⟩
theorem turnEnumT {P : Program} {w : World} {K : PySem.W.Frag} {elts : List Expr} {kk : Nat} {tpos : Pos} (a e it : Addr) :
    Turn P w K (.Tuple elts kk tpos) (IteT K a) [e, it] e (fun i h => (∃ old, IsEnum h e it ((i : Nat) : Int) old) ∧ h.IsTupleIter it a i ∧ e ≠ it ∧ a ≠ it ∧ a ≠ e) where
  mem := by simp
  obj := fun i h st b hb => by
    (refine EV.el0_3 st ?_; try clear st; intro q30_ q31_ _; (refine EV.el1_1 q30_ ?_; try clear q30_; intro old he); (refine EV.el1_3 q31_ ?_; try clear q31_; intro o ho hc hd))
    have e' : b = e ∨ b = it := by simpa using hb
    rcases e' with z | z
    · rw [z]
      exact EV.in1_2 _ he (fun v q => nomatch q)
    · rw [z]
      exact EV.in1_2 o ho (fun v q => by rw [hd] at q; cases q)
  keep := fun i h h' st k => by
    (refine EV.el0_3 st ?_; try clear st; intro q32_ hi hne; (refine EV.el1_1 q32_ ?_; try clear q32_; intro old he))
    exact ⟨⟨old, k e (by simp) _ he⟩, hi.at fun o q => k it (by simp) o q, hne⟩
  item := by
    intro X hP hw hK hc i pins s σ H E I hf st hg
    subst hP hw hK
    (refine EV.el0_5 st ?_; try clear st; intro q33_ hit hne hai hae; (refine EV.el1_1 q33_ ?_; try clear q33_; intro old he))
    (refine EV.el2_2 hg ?_; try clear hg; intro xs x hq hx)
    refine EV.el1_3 (I.tuple hq) fun its rv p hz => ?_
    have hlt : i < its.toArray.size := by
      have h1 := (List.getElem?_eq_some_iff.mp hx).1
      have h2 := rv.length
      simp only [List.size_toArray]
      omega
    have hel : e < s.heap.objs.size := Heap.lt_size he
    have hil : it < s.heap.objs.size := by
      (refine EV.el1_2 hit ?_; try clear hit; intro _ q _)
      exact Heap.lt_size q
    refine wpAny_pyNext_enum_itemD (Draws.tuple (prog := X.prog) (w := X.w) (A := X.A.in1) (I.ok.hd hc) it a hai its.toArray) he ⟨hit, p⟩ hlt hne (by simp [hne, Ne.symm hae]) fun u h' tk hu ho hit' hT hsz hk => ?_
    refine EV.el1_2 (rv.get hx) fun u' hu' ru' => ?_
    have eu : u = u' := by
      have z : its[i]? = some u := by simpa using hu
      rw [hu'] at z
      exact (Option.some.inj z).symm
    subst eu
    refine EV.in1_2 _ rfl (wpAny_letOwnedTupleGo_enum (s := { s with heap := h', toks := tk + 1 }) ho fun h'' he' sb => ?_)
    have hT2 : h''.get? s.heap.objs.size = some { cls := .type "tuple", data := .seq #[.int i tk, u] } := (sb.2 _ (Nat.ne_of_gt hel)).trans hT
    have new : ObjOk X.prog X.w (upd H s.heap.objs.size (.tup [.int (i : Nat), x])) h'' s.heap.objs.size (.tup [.int (i : Nat), x]) :=
      ⟨(by show 2 ≤ sizeLine; decide), [.int i tk, u], .cons ⟨_, rfl⟩ (.cons ru' .nil), ⟨_, hT2, rfl, _, rfl⟩⟩
    have I1 : Inv X pins σ (upd H s.heap.objs.size (.tup [.int (i : Nat), x])) { s with heap := h'', toks := tk + 1 } := by
      refine I.turnedNew (ch := [e, it]) (fun b ob hb q => ?_) hf (Nat.le_refl _) new
      have n1 : b ≠ e := fun z => hb (by simp [z])
      have n2 : b ≠ it := fun z => hb (by simp [z])
      exact (sb.2 b n1).trans (hk b ob n1 n2 q)
    refine EV.in2_5 (.ref s.heap.objs.size) _ I1 rfl (⟨_, x, rfl, I.hok.fresh (Nat.le_refl _), rfl, fun ys hy => ?_⟩) (⟨⟨u, ?_⟩, ?_, hne, hai, hae⟩) (fun b hb => ?_)
    · rw [I.tuple_inj hy hq]
      exact hx
    · have e1 : ((i + 1 : Nat) : Int) = (i : Int) + 1 := by rfl
      rw [e1]
      exact he'
    · exact hit'.1.at fun o q => (sb.2 it (Ne.symm hne)).trans q
    · have hb' : b < s.heap.objs.size := by
        have e' : b = e ∨ b = it := by simpa using hb
        rcases e' with z | z <;> (rw [z]; assumption)
      rw [upd_ne (Nat.ne_of_lt hb')]
      exact (hf b hb).1
  done := by
    intro X hP hw hK hc i pins s σ H E I hf st hg
    subst hP hw hK
    (refine EV.el0_5 st ?_; try clear st; intro q34_ hit hne hai hae; (refine EV.el1_1 q34_ ?_; try clear q34_; intro old he))
    (refine EV.el1_2 hg ?_; try clear hg; intro xs hq hx)
    refine EV.el1_3 (I.tuple hq) fun its rv p hz => ?_
    refine EV.el0_6 (hf it (by simp)) fun f0 f1 f2 f3 f4 f5 => ?_
    have hl := rv.length
    have D0 := Draws.tuple (prog := X.prog) (w := X.w) (A := X.A.in1) (I.ok.hd hc) it a hai its.toArray
    have D : Draws X.prog X.w X.A.in1 it [it, a] i (fun _ _ => True) (fun j h => j = i ∧ h.IsTupleIter it a i ∧ h.IsTuple a its.toArray) := by
      refine ⟨fun _ _ st => ?_, fun _ _ _ st hk => ⟨st.1, st.2.1.at fun o e => hk it (by simp) o e, st.2.2.at fun o e => hk a (by simp) o e⟩, fun j s Q E hj st => ?_, fun s Q E st hE => ?_⟩
      · (refine EV.el0_3 st ?_; try clear st; intro _ q35_ _; (refine EV.el1_2 q35_ ?_; try clear q35_; intro o ho _))
        exact EV.in1_1 o ho
      · have := st.1
        omega
      · exact wpAny_nextOf_tuple_end (I.ok.hd hc) st.2.1 st.2.2 (by simp; omega) hE
    exact wpAny_pyNext_enum_endD D he ⟨rfl, hit, p⟩ fun h' eb => ⟨rfl, I.turned (t' := s.toks) (fun b o hb q => eb b o hb q) f0 f1 f3 f4 f5⟩
  self := fun A i s Q E st h => by
    (refine EV.el0_2 st ?_; try clear st; intro q36_ _; (refine EV.el1_1 q36_ ?_; try clear q36_; intro _ he))
    exact wpAny_pyIter_enum he h
noncomputable def IterOk (K : PySem.W.Frag) (J : It) (G : Hp) (xs : List D) : Prop := ∀ G' H', Same G G' → Same G' H' →
  (∀ (i : Nat) x, xs[i]? = some x → J.go i H' ∧ ∀ v H'', J.yld i H' v H'' → ∃ G'', Ext K none G' H' G'' H'' ∧ Rp K G'' v x) ∧ (∀ i : Nat, xs.length ≤ i → J.stop i H')
noncomputable def evI (X : Cx) (W : WX) (pa : Option Addr) (Γ : List Sl) (m : PM (List D)) : TI := fun σ H R => ∃ G0 H0 G s, Nv X.K pa G0 H0 G H σ Γ s ∧ Pst X.K W X.mg pa σ (fun G' H' xs _ => ∀ J, IterOk X.K J G' xs → R J H') G H (m s)
noncomputable abbrev EI (X : Cx) (W : WX) (pa : Option Addr) (Γ : List Sl) (tg iter : Expr) (m : PM (List D)) : Prop := PI X tg iter (evI X W pa Γ m)
theorem pi_imp {X : Cx} {tg iter : Expr} {t t' : TI} (h : PI X tg iter t) (i : ∀ σ H Q, t' σ H Q → t σ H Q) : PI X tg iter t' := ⟨fun pins s σ H Q I q => h.run pins s σ H Q I (i σ H Q q)⟩
theorem Ext.any {K : PySem.W.Frag} {pa : Option Addr} {G H G' H' : Hp} (x : Ext K none G H G' H') : Ext K pa G H G' H' := ⟨x.g, fun a o e _ t => x.h a o e (fun z => by exact EV.nnS z) t, x.t, x.n, x.sub, x.tk, x.gt⟩
theorem PenOk.ext {K : PySem.W.Frag} {pa : Option Addr} {G H G' H' : Hp} {s : List Int} (p : PenOk pa G H s) (x : Ext K Option.none G H G' H') : PenOk pa G' H' s := fun q e => by
  refine EV.el0_2 (p q e) fun h1 h2 => ?_
  exact ⟨x.n _ _ h2 h1, x.h _ _ h2 (fun z => by exact EV.nnS z)⟩
section
variable {K : PySem.W.Frag} {G : Hp} {vs : List V} {ds : List D} {a : Addr}
theorem iter_list (h : G a = some (.lst vs)) (r : RpL K G vs ds) : IterOk K (Itl K a) G ds := fun G' H' g s => by
  refine ⟨fun i x e => ?_, fun i hi => ⟨vs, SqL.of (s _ _ (g _ _ h)), by rw [r.1]; exact hi⟩⟩
  refine EV.el1_2 (r.get e) fun v e' rv => ?_
  refine ⟨⟨vs, v, SqL.of (s _ _ (g _ _ h)), e'⟩, fun w H'' y => ?_⟩
  (refine EV.el0_2 y ?_; try clear y; intro q37_ y; obtain rfl := q37_)
  have e2 := y vs (SqL.of (s _ _ (g _ _ h)))
  rw [e'] at e2
  obtain rfl := Option.some.inj e2
  exact EV.in1_2 G' (Ext.refl s) (rv.mono g)
theorem iter_tup (h : SqT K G a vs) (r : RpL K G vs ds) : IterOk K (Itt K a) G ds := fun G' H' g s => by
  refine ⟨fun i x e => ?_, fun i hi => ⟨vs, sameT s (sameT g h), by rw [r.1]; exact hi⟩⟩
  refine EV.el1_2 (r.get e) fun v e' rv => ?_
  refine ⟨⟨vs, v, sameT s (sameT g h), e'⟩, fun w H'' y => ?_⟩
  (refine EV.el0_2 y ?_; try clear y; intro q38_ y; obtain rfl := q38_)
  have e2 := y vs (sameT s (sameT g h))
  rw [e'] at e2
  obtain rfl := Option.some.inj e2
  exact EV.in1_2 G' (Ext.refl s) (rv.mono g)
noncomputable def pairsFrom : Nat → List D → List D
  | _, [] => []
  | n, x :: r => .tup [.int n, x] :: pairsFrom (n + 1) r
theorem pairsFrom_get : ∀ (xs : List D) (n i : Nat) (y : D), (pairsFrom n xs)[i]? = some y → ∃ x, xs[i]? = some x ∧ y = .tup [.int ((n + i : Nat) : Int), x]
  | [], _, _, _, h => by simp [pairsFrom] at h
  | x :: r, n, 0, y, h => by
    simp [pairsFrom] at h
    exact EV.in1_2 x rfl (h.symm)
  | x :: r, n, i + 1, y, h => by
    simp only [pairsFrom, List.getElem?_cons_succ] at h
    refine EV.el1_2 (pairsFrom_get r (n + 1) i y h) fun z h1 h2 => ?_
    refine EV.in1_2 z (by simpa using h1) ?_
    rw [h2]
    have : n + 1 + i = n + (i + 1) := by exact Nat.add_right_comm _ _ _
    rw [this]
theorem pairsFrom_len : ∀ (xs : List D) (n : Nat), (pairsFrom n xs).length = xs.length
  | [], _ => rfl
  | x :: r, n => by simp [pairsFrom, pairsFrom_len r]
theorem pairNew {G' H' : Hp} {T : Addr} {u v : V} {d e : D} (s : Same G' H') (nT : H' T = none) (r1 : Rp K G' u d) (r2 : Rp K G' v e) : ∃ G'', Ext K none G' H' G'' (upd H' T (.tup [u, v])) ∧ Rp K G'' (.ref T) (.tup [d, e]) := by
  have x := Ext.new (K := K) (pa := none) s nT (.tup [u, v])
  exact EV.in1_2 _ x (.mkT (SqT.of upd_same) (.cons (r1.mono x.g) (.cons (r2.mono x.g) .nil)))
theorem iter_enumL (h : G a = some (.lst vs)) (r : RpL K G vs ds) : IterOk K (Ite K a) G (pairsFrom 0 ds) := fun G' H' g s => by
  have hq := SqL.of (K := K) (s _ _ (g _ _ h))
  refine ⟨fun i x e => ?_, fun i hi => ⟨vs, hq, by rw [r.1, ← pairsFrom_len ds 0]; exact hi⟩⟩
  (refine EV.el1_2 (pairsFrom_get ds 0 i x e) fun z e1 q39_ => ?_; obtain rfl := q39_)
  refine EV.el1_2 (r.get e1) fun v e' rv => ?_
  refine ⟨⟨vs, v, hq, e'⟩, fun w H'' y => ?_⟩
  (refine EV.el2_2 y ?_; try clear y; intro T u q40_ q41_; obtain rfl := q40_; (refine EV.el0_3 q41_ ?_; try clear q41_; intro nT q42_ y; obtain rfl := q42_))
  have e2 := y vs hq
  rw [e'] at e2
  obtain rfl := Option.some.inj e2
  rw [Nat.zero_add]
  exact pairNew s nT (.int _) (rv.mono g)
theorem iter_enumT (h : SqT K G a vs) (r : RpL K G vs ds) : IterOk K (IteT K a) G (pairsFrom 0 ds) := fun G' H' g s => by
  have hq := sameT s (sameT g h)
  refine ⟨fun i x e => ?_, fun i hi => ⟨vs, hq, by rw [r.1, ← pairsFrom_len ds 0]; exact hi⟩⟩
  (refine EV.el1_2 (pairsFrom_get ds 0 i x e) fun z e1 q43_ => ?_; obtain rfl := q43_)
  refine EV.el1_2 (r.get e1) fun v e' rv => ?_
  refine ⟨⟨vs, v, hq, e'⟩, fun w H'' y => ?_⟩
  (refine EV.el2_2 y ?_; try clear y; intro T u q44_ q45_; obtain rfl := q44_; (refine EV.el0_3 q45_ ?_; try clear q45_; intro nT q46_ y; obtain rfl := q46_))
  have e2 := y vs hq
  rw [e'] at e2
  obtain rfl := Option.some.inj e2
  rw [Nat.zero_add]
  exact pairNew s nT (.int _) (rv.mono g)
noncomputable def zipT : List D → List D → List D
  | x :: xs, y :: ys => .tup [x, y] :: zipT xs ys
  | _, _ => []
theorem zipT_get : ∀ (xs ys : List D) (i : Nat) (p : D), (zipT xs ys)[i]? = some p → ∃ x y, xs[i]? = some x ∧ ys[i]? = some y ∧ p = .tup [x, y]
  | [], _, _, _, h => by simp [zipT] at h
  | _ :: _, [], _, _, h => by simp [zipT] at h
  | x :: xs, y :: ys, 0, p, h => by
    simp [zipT] at h
    exact EV.in2_3 x y rfl rfl (h.symm)
  | x :: xs, y :: ys, i + 1, p, h => by
    simp only [zipT, List.getElem?_cons_succ] at h
    refine EV.el2_3 (zipT_get xs ys i p h) fun a b h1 h2 h3 => ?_
    exact EV.in2_3 a b (by simpa using h1) (by simpa using h2) h3
theorem zipT_len : ∀ (xs ys : List D) (i : Nat), (zipT xs ys).length ≤ i → xs.length ≤ i ∨ ys.length ≤ i
  | [], _, _, _ => .inl (Nat.zero_le _)
  | _ :: _, [], _, _ => .inr (Nat.zero_le _)
  | x :: xs, y :: ys, 0, h => by simp [zipT] at h
  | x :: xs, y :: ys, i + 1, h => by
    have := zipT_len xs ys i (by simpa [zipT] using h)
    simpa using this
theorem iter_zipL {b : Addr} {ws : List V} {es : List D} (h : G a = some (.lst vs)) (r : RpL K G vs ds) (h' : G b = some (.lst ws)) (r' : RpL K G ws es) : IterOk K (Itz K a b) G (zipT ds es) := fun G' H' g s => by
  have hq := SqL.of (K := K) (s _ _ (g _ _ h))
  have hq' := SqL.of (K := K) (s _ _ (g _ _ h'))
  refine ⟨fun i x e => ?_, fun i hi => ⟨vs, ws, hq, hq', by rw [r.1, r'.1]; exact zipT_len ds es i hi⟩⟩
  (refine EV.el2_3 (zipT_get ds es i x e) fun z1 z2 e1 e2 q47_ => ?_; obtain rfl := q47_)
  refine EV.el1_2 (r.get e1) fun v ev rv => ?_
  refine EV.el1_2 (r'.get e2) fun w ew rw' => ?_
  refine ⟨⟨vs, ws, v, w, hq, hq', ev, ew⟩, fun q H'' y => ?_⟩
  (refine EV.el3_2 y ?_; try clear y; intro T u1 u2 q48_ q49_; obtain rfl := q48_; (refine EV.el0_3 q49_ ?_; try clear q49_; intro nT q50_ q51_; obtain rfl := q50_; (refine EV.el0_2 q51_ ?_; try clear q51_; intro y1 y2)))
  have q1 := y1 vs hq
  have q2 := y2 ws hq'
  rw [ev] at q1
  rw [ew] at q2
  obtain rfl := Option.some.inj q1
  obtain rfl := Option.some.inj q2
  exact pairNew s nT (rv.mono g) (rw'.mono g)
theorem iter_zipT {b : Addr} {ws : List V} {es : List D} (h : SqT K G a vs) (r : RpL K G vs ds) (h' : SqT K G b ws) (r' : RpL K G ws es) : IterOk K (RZ.ItzT K a b) G (zipT ds es) := fun G' H' g s => by
  have hq := sameT s (sameT g h)
  have hq' := sameT s (sameT g h')
  refine ⟨fun i x e => ?_, fun i hi => ⟨vs, ws, hq, hq', by rw [r.1, r'.1]; exact zipT_len ds es i hi⟩⟩
  (refine EV.el2_3 (zipT_get ds es i x e) fun z1 z2 e1 e2 q52_ => ?_; obtain rfl := q52_)
  refine EV.el1_2 (r.get e1) fun v ev rv => ?_
  refine EV.el1_2 (r'.get e2) fun w ew rw' => ?_
  refine ⟨⟨vs, ws, v, w, hq, hq', ev, ew⟩, fun q H'' y => ?_⟩
  (refine EV.el3_2 y ?_; try clear y; intro T u1 u2 q53_ q54_; obtain rfl := q53_; (refine EV.el0_3 q54_ ?_; try clear q54_; intro nT q55_ q56_; obtain rfl := q55_; (refine EV.el0_2 q56_ ?_; try clear q56_; intro y1 y2)))
  have q1 := y1 vs hq
  have q2 := y2 ws hq'
  rw [ev] at q1
  rw [ew] at q2
  obtain rfl := Option.some.inj q1
  obtain rfl := Option.some.inj q2
  exact pairNew s nT (rv.mono g) (rw'.mono g)
noncomputable def rangeL (lo : Int) (n : Nat) : List D := (List.range n).map fun (i : Nat) => D.int (lo + (i : Int))
theorem iter_range {lo : Int} {n : Nat} : IterOk K (Itr lo n) G (rangeL lo n) := fun G' H' g s => by
  refine ⟨fun i x e => ?_, fun i hi => by simpa [rangeL, Itr] using hi⟩
  unfold rangeL at e
  rw [List.getElem?_map] at e
  by_cases hi : i < n
  · rw [List.getElem?_range hi] at e
    obtain rfl := Option.some.inj e
    refine ⟨hi, fun v H'' y => ?_⟩
    (refine EV.el0_2 y ?_; try clear y; intro q57_ q58_; obtain rfl := q57_; obtain rfl := q58_)
    exact EV.in1_2 G' (Ext.refl s) (.int _)
  · rw [List.getElem?_eq_none (by simpa using hi)] at e
    exact EV.nnS e
end
section
variable {X : Cx} {W : WX} {pa : Option Addr} {Γ : List Sl} {tg : Expr} {p pos : Pos}
noncomputable def itemsD : D → PM (List D)
  | .lst xs => pure xs
  | .tup xs => pure xs
  | _ => bad
/-- a list or a tuple -/
theorem pi_seq {l : Expr} {tl : TE} (hl : PE X l tl) : PI X tg l (fun σ H R => tl σ H fun x H1 => ∃ a, x = .ref a ∧ ((∃ xs, SqL X.K H1 a xs ∧ R (Itl X.K a) H1) ∨ (∃ xs, SqT X.K H1 a xs ∧ R (Itt X.K a) H1))) := by
  refine ⟨fun pins s σ H R I h => ?_⟩
  refine thn (hl.run pins s σ H _ I h) fun v s1 h1_ => ?_; obtain ⟨x, H1, I1, r1, a, e, q⟩ := h1_
  subst e
  cases r1
  have fr := fun (b : Addr) (hb : b ∈ [s1.heap.objs.size]) => (by
    have e : b = s1.heap.objs.size := by simpa using hb
    subst e
    exact I1.fpOk (Nat.le_refl _) (I1.hok.fresh (Nat.le_refl _)) : FpOk X pins H1 b)
  rcases q with ⟨xs, hq, q⟩ | ⟨xs, hq, q⟩
  · refine EV.el1_3 (I1.list hq) fun its rv pl hz => ?_
    refine wpAny_pyIter_list pl.isList ?_
    exact ⟨s1.heap.objs.size, [s1.heap.objs.size], _, _, H1, rfl, I1.kept (t' := s1.toks) fun b o e => Heap.get?_push_of_some _ e, turn_list a _, ⟨_, Heap.get?_push_size _ rfl, rfl, rfl⟩, fr, q⟩
  · refine EV.el1_3 (I1.tuple hq) fun its rv pl hz => ?_
    refine wpAny_pyIter_tuple (show s1.heap.IsTuple a its.toArray from pl) ?_
    exact ⟨s1.heap.objs.size, [s1.heap.objs.size], _, _, H1, rfl, I1.kept (t' := s1.toks) fun b o e => Heap.get?_push_of_some _ e, turn_tuple a _, ⟨_, Heap.get?_push_size _ rfl, rfl, rfl⟩, fr, q⟩
theorem ei_seq {l : Expr} {m : PM D} (h : EV X W pa Γ l m) : EI X W pa Γ tg l (m >>= itemsD) := pi_imp (pi_seq h) fun σ H R h_ => EV.ex4 h_ fun G0 H0 G s E P => ⟨G0, H0, G, s, E, P.bind.imp fun G1 H1 d s1 x1 p1 P1 v r => by
  cases r with
  | lst h n r => exact EV.in1_2 _ rfl (.inl ⟨_, SqL.of (x1.sub _ _ h), P1.now x1.sub p1 _ (iter_list h ⟨n, r⟩)⟩)
  | tup h n r => exact EV.in1_2 _ rfl (.inr ⟨_, sameT x1.sub h, P1.now x1.sub p1 _ (iter_tup h ⟨n, r⟩)⟩)
  | _ => exact P1.elim⟩
noncomputable def rangeF : List D → PM (List D)
  | [.int j] => if -(2 ^ 62) ≤ j ∧ j < 2 ^ 62 then pure (rangeL 0 j.toNat) else bad
  | [.int i, .int j] => if -(2 ^ 62) ≤ i ∧ i < 2 ^ 62 ∧ -(2 ^ 62) ≤ j ∧ j < 2 ^ 62 then pure (rangeL i (j - i).toNat) else bad
  | _ => bad
noncomputable def rangeF1 : List D → PM (List D)
  | [d] => rangeF [d]
  | _ => bad
theorem ei_range1 {a : Expr} {ml : PM (List D)} (hg : Gl X "range") (hm : X.mg "range" = none) (ha : EL X W pa Γ [a] ml) (hs : autoParam (starEach [a] X.env = [(false, eval a X.env)]) EV.tac2) :
    EI X W pa Γ tg (.Call (.Name "range" p) [a] [] pos) (ml >>= rangeF1) := pi_imp (pi_range1 hg hm ha hs) fun σ H R h_ => EV.ex4 h_ fun G0 H0 G s E P =>
  ⟨G0, H0, G, s, E, P.bind.imp fun G1 H1 ds s1 x1 p1 P1 vs rs => by
    match ds, rs, P1 with
    | [d], rs, P1 =>
      (refine EV.el1_2 (rp1 rs) fun v q59_ r => ?_; obtain rfl := q59_)
      cases r with
      | int j =>
        have P1 : Pst X.K W X.mg pa σ (fun G' H' xs _ => ∀ J, IterOk X.K J G' xs → R J H') G1 H1 ((if -(2 ^ 62) ≤ j ∧ j < 2 ^ 62 then pure (rangeL 0 j.toNat) else bad : PM (List D)) s1) := P1
        split at P1
        · rename_i hj
          exact EV.in1_4 j rfl (hj.1) (hj.2) (P1.now x1.sub p1 _ iter_range)
        · exact P1.elim
      | _ => exact P1.elim
    | [], _, P1 => exact P1.elim
    | _ :: _ :: _, _, P1 => exact P1.elim⟩
noncomputable def enumF : List D → PM (List D)
  | [.lst xs] => pure (pairsFrom 0 xs)
  | [.tup xs] => pure (pairsFrom 0 xs)
  | _ => bad
theorem pi_enumA {e : Expr} {ta : TA} {tpos : Pos} {elts : List Expr} {kk : Nat} (hg : Gl X "enumerate") (hm : X.mg "enumerate" = none) (ha : PA X [e] ta) (hs : autoParam (starEach [e] X.env = [(false, eval e X.env)]) EV.tac2) :
    PI X (.Tuple elts kk tpos) (.Call (.Name "enumerate" p) [e] [] pos) (fun σ H R => ta σ H fun vs H1 => ∃ a xs, vs = [.ref a] ∧ ((SqL X.K H1 a xs ∧ R (Ite X.K a) H1) ∨ (SqT X.K H1 a xs ∧ R (IteT X.K a) H1))) := by
  refine ⟨fun pins s σ H R I h => ?_⟩
  refine Call_ (ld_blt I hg hm boot_enumerate (PyProof.Rows.callWith_type1 (thn (ha.run pos pins s σ H _ I h) fun us s1 h2_ => ?_) hs rfl)); obtain ⟨vs, H1, I1, r1, a, xs, ex, q⟩ := h2_
  subst ex
  cases r1 with
  | cons r rr =>
    cases rr
    cases r
    have fr := fun (b : Addr) (hb : b ∈ [s1.heap.objs.size + 1, s1.heap.objs.size]) => (by
      have e' : b = s1.heap.objs.size + 1 ∨ b = s1.heap.objs.size := by simpa using hb
      have hle : s1.heap.objs.size ≤ b := by
        rcases e' with z | z
        · rw [z]; exact Nat.le_succ _
        · rw [z]; exact Nat.le_refl _
      exact I1.fpOk hle (I1.hok.fresh hle) : FpOk X pins H1 b)
    rcases q with ⟨hq, q⟩ | ⟨hq, q⟩
    · refine EV.el1_3 (I1.list hq) fun its rv p' hz => ?_
      refine call_enumerate_list p'.isList fun h' he hit hsz hk => wpAny_pyIter_enum he ?_
      exact ⟨s1.heap.objs.size + 1, [s1.heap.objs.size + 1, s1.heap.objs.size], _, _, H1, rfl, I1.kept (t' := s1.toks) hk, turn_enum a _ _, ⟨⟨.none, he⟩, hit, Nat.succ_ne_self _⟩, fr, q⟩
    · refine EV.el1_3 (I1.tuple hq) fun its rv p' hz => ?_
      have hlt : a < s1.heap.objs.size := by
        (refine EV.el1_2 p' ?_; try clear p'; intro o ho _)
        exact Heap.lt_size ho
      refine callEnumT (show s1.heap.IsTuple a its.toArray from p') fun h' he hit hk => wpAny_pyIter_enum he ?_
      exact ⟨s1.heap.objs.size + 1, [s1.heap.objs.size + 1, s1.heap.objs.size], _, _, H1, rfl, I1.kept (t' := s1.toks) hk, turnEnumT a _ _, ⟨⟨.none, he⟩, hit, Nat.succ_ne_self _, Nat.ne_of_lt hlt, Nat.ne_of_lt (Nat.lt_succ_of_lt hlt)⟩, fr, q⟩
theorem ei_enum {e : Expr} {ml : PM (List D)} {tpos : Pos} {elts : List Expr} {kk : Nat} (hg : Gl X "enumerate") (hm : X.mg "enumerate" = none) (ha : EL X W pa Γ [e] ml) (hs : autoParam (starEach [e] X.env = [(false, eval e X.env)]) EV.tac2) :
    EI X W pa Γ (.Tuple elts kk tpos) (.Call (.Name "enumerate" p) [e] [] pos) (ml >>= enumF) := pi_imp (pi_enumA hg hm ha hs) fun σ H R h_ => EV.ex4 h_ fun G0 H0 G s E P =>
  ⟨G0, H0, G, s, E, P.bind.imp fun G1 H1 ds s1 x1 p1 P1 vs rs => by
    match ds, rs, P1 with
    | [d], rs, P1 =>
      (refine EV.el1_2 (rp1 rs) fun v q60_ r => ?_; obtain rfl := q60_)
      cases r with
      | lst h n r => exact EV.in2_2 _ _ rfl (.inl ⟨SqL.of (x1.sub _ _ h), P1.now x1.sub p1 _ (iter_enumL h ⟨n, r⟩)⟩)
      | tup h n r => exact EV.in2_2 _ _ rfl (.inr ⟨sameT x1.sub h, P1.now x1.sub p1 _ (iter_enumT h ⟨n, r⟩)⟩)
      | _ => exact P1.elim
    | [], _, P1 => exact P1.elim
    | a :: _ :: _, _, P1 => cases a <;> exact P1.elim⟩
noncomputable def zipF : List D → PM (List D)
  | [a, b] => (match a with
    | .lst xs => (match b with
      | .lst ys => pure (zipT xs ys)
      | _ => bad)
    | .tup xs => (match b with
      | .tup ys => pure (zipT xs ys)
      | _ => bad)
    | _ => bad)
  | _ => bad
theorem ei_zip {e e2 : Expr} {ml : PM (List D)} {tpos : Pos} {elts : List Expr} {kk : Nat} (hg : Gl X "zip") (hm : X.mg "zip" = none) (ha : EL X W pa Γ [e, e2] ml) (hs : autoParam (starEach [e, e2] X.env = [(false, eval e X.env), (false, eval e2 X.env)]) EV.tac2)
    (hs2 : autoParam (starEach [e2] X.env = [(false, eval e2 X.env)]) EV.tac2) :
    EI X W pa Γ (.Tuple elts kk tpos) (.Call (.Name "zip" p) [e, e2] [] pos) (ml >>= zipF) := pi_imp (RZ.pi_zipA hg hm ha (by rw [hs, hs2]) (by rw [hs2]; rfl)) fun σ H R h_ => EV.ex4 h_ fun G0 H0 G s E P =>
  ⟨G0, H0, G, s, E, P.bind.imp fun G1 H1 ds s1 x1 p1 P1 vs rs => by
    match ds, rs, P1 with
    | [d, d'], rs, P1 =>
      (refine EV.el2_2 (rp2 rs) fun v w q61_ q62_ => ?_; obtain rfl := q61_; (refine EV.el0_2 q62_ ?_; try clear q62_; intro r r'))
      cases r with
      | lst h n r =>
        cases r' with
        | lst h' n' r' => exact EV.in4_2 _ _ _ _ rfl (.inl ⟨SqL.of (x1.sub _ _ h), SqL.of (x1.sub _ _ h'), P1.now x1.sub p1 _ (iter_zipL h ⟨n, r⟩ h' ⟨n', r'⟩)⟩)
        | _ => exact P1.elim
      | tup h n r =>
        cases r' with
        | tup h' n' r' => exact EV.in4_2 _ _ _ _ rfl (.inr ⟨sameT x1.sub h, sameT x1.sub h', P1.now x1.sub p1 _ (iter_zipT h ⟨n, r⟩ h' ⟨n', r'⟩)⟩)
        | _ => exact P1.elim
      | _ => exact P1.elim
    | [], _, P1 => exact P1.elim
    | [a], _, P1 => exact P1.elim
    | a :: b :: _ :: _, _, P1 => exact P1.elim⟩
end
end EV
namespace EV
open PySem PySem.Spec PyProof.Rows L2
noncomputable abbrev W0 : WX := fun _ _ _ _ => False
noncomputable def noExc {α : Type} (m : PM α) : PM α := fun s => match m s with
  | .ok a s1 => .ok a s1
  | _ => .bad
theorem noExc_pure {α : Type} (a : α) : noExc (pure a : PM α) = pure a := rfl
noncomputable def compG {ι : Type} (dec : D → Option ι) (mt : ι → PM Bool) (me : ι → PM D) : List D → PM (List D)
  | [] => pure []
  | x :: xs => match dec x with
    | none => bad
    | some z => noExc (mt z) >>= fun b => if b = true then noExc (me z) >>= fun y => compG dec mt me xs >>= fun r => pure (y :: r) else compG dec mt me xs
noncomputable def compL {ι : Type} (dec : D → Option ι) (mt : ι → PM Bool) (me : ι → PM D) (xs : List D) : PM (List D) := if xs.length ≤ lim then compG dec mt me xs else bad
/-- one name, a pair of names, three -/
noncomputable def dec1 : D → Option D := some
noncomputable def dec2 : D → Option (D × D)
  | .tup [a, b] => some (a, b)
  | _ => none
noncomputable def wipeG (Γ : List Sl) : List Nat → List Sl
  | [] => Γ
  | v :: vs => (wipeG Γ vs).set v .junk
section
variable {K : PySem.W.Frag} {W : WX} {mg : Str → Option Value} {pa : Option Addr} {σ : L2.St} {G0 H0 G H G1 H1 : Hp} {Γ : List Sl} {s : List Int}
theorem Nv.wipe1 (E : Nv K pa G0 H0 G H σ Γ s) (v : Nat) : Nv K pa G0 H0 G H (σ.set v none) (Γ.set v .junk) s where
  len := by simp [E.len]
  val := fun i d e => by
    by_cases hi : v = i
    · subst hi
      have := (List.getElem?_eq_some_iff.mp e).1
      rw [List.getElem?_set_self (by simpa using this)] at e
      cases e
    · rw [List.getElem?_set_ne hi] at e ⊢
      exact E.val i d e
  own := fun i d e => by
    by_cases hi : v = i
    · subst hi
      have := (List.getElem?_eq_some_iff.mp e).1
      rw [List.getElem?_set_self (by simpa using this)] at e
      cases e
    · rw [List.getElem?_set_ne hi] at e ⊢
      exact E.own i d e
  inj := fun i j p xs ys e1 e2 => by
    have n1 : v ≠ i := fun hi => by
      subst hi
      have := (List.getElem?_eq_some_iff.mp e1).1
      rw [List.getElem?_set_self (by simpa using this)] at e1
      cases e1
    have n2 : v ≠ j := fun hi => by
      subst hi
      have := (List.getElem?_eq_some_iff.mp e2).1
      rw [List.getElem?_set_self (by simpa using this)] at e2
      cases e2
    rw [List.getElem?_set_ne n1] at e1 ⊢
    rw [List.getElem?_set_ne n2] at e2 ⊢
    exact E.inj i j p xs ys e1 e2
  pen := fun i e => by
    have n1 : v ≠ i := fun hi => by
      subst hi
      have := (List.getElem?_eq_some_iff.mp e).1
      rw [List.getElem?_set_self (by simpa using this)] at e
      cases e
    rw [List.getElem?_set_ne n1] at e ⊢
    exact E.pen i e
  scr := fun i ns e => by
    have n1 : v ≠ i := fun hi => by
      subst hi
      have := (List.getElem?_eq_some_iff.mp e).1
      rw [List.getElem?_set_self (by simpa using this)] at e
      cases e
    rw [List.getElem?_set_ne n1] at e ⊢
    exact E.scr i ns e
  ps := E.ps
  ext := E.ext
  x := E.x.put v rfl
theorem Nv.wipe (E : Nv K pa G0 H0 G H σ Γ s) : ∀ vs : List Nat, Nv K pa G0 H0 G H (L2.wipe σ vs) (wipeG Γ vs) s
  | [] => E
  | v :: vs => (E.wipe vs).wipe1 v
theorem Pst.bind0 {α β : Type} {F : Hp → Hp → β → List Int → Prop} {m : PM α} {f : α → PM β} {s : List Int} (x : Ext K pa G1 H1 G H) (h : Pst K W mg pa σ F G1 H1 ((m >>= f) s)) : Pst K W mg pa σ (fun _ _ a s' => Pst K W mg pa σ F G1 H1 (f a s')) G H (m s) := by
  rw [PM.bind_def] at h
  cases e : m s with
  | ok a s1 =>
    rw [e] at h
    exact fun _ _ _ _ => h
  | exc z =>
    rw [e] at h
    exact fun cls dx G' H' y q => h cls dx G' H' (x.trans y) q
  | bad => rw [e] at h; exact h
theorem Pst.noExc {α : Type} {W' : WX} {F : Hp → Hp → α → List Int → Prop} {m : PM α} {s : List Int} {σ' : L2.St} (h : Pst K W mg pa σ F G H (noExc m s)) : Pst K W' mg pa σ' F G H (m s) := by
  unfold EV.noExc at h
  cases e : m s with
  | ok a s1 => rw [e] at h; exact h
  | exc z => rw [e] at h; exact h.elim
  | bad => rw [e] at h; exact h.elim
end
/-- the target of a comprehension or of a loop: from an item to what the slots know -/
noncomputable def TgOk (X : Cx) (pa : Option Addr) {ι : Type} (dec : D → Option ι) (g : TG) (vs : List Nat) (Γ : List Sl) (Γz : ι → List Sl) : Prop :=
  ∀ (G0 H0 G H : Hp) (σ : L2.St) (s : List Int) (v : V) (d : D) (z : ι) (Q : L2.St → Hp → Prop), Nv X.K pa G0 H0 G H σ Γ s → Rp X.K G v d → dec d = some z →
    (∀ σ', Nv X.K pa G0 H0 G H σ' (Γz z) s → L2.wipe σ' vs = L2.wipe σ vs → Q σ' H) → g v σ H Q
theorem wipe_set {σ : L2.St} {i : Nat} {x : Option V} : ∀ {vs : List Nat}, i ∈ vs → L2.wipe (σ.set i x) vs = L2.wipe σ vs
  | v :: vs, h => by
    unfold L2.wipe
    by_cases hv : i ∈ vs
    · rw [wipe_set hv]
    · have e : i = v := by
        rcases List.mem_cons.mp h with z | z
        · exact z
        · exact absurd z hv
      subst e
      clear h
      have step : ∀ us : List Nat, i ∉ us → (L2.wipe (σ.set i x) us) = (L2.wipe σ us).set i x := by
        intro us
        induction us with
        | nil => intro _; rfl
        | cons u us ih =>
          intro hu
          have h1 : u ≠ i := fun z => hu (by simp [z])
          have h2 : i ∉ us := fun z => hu (List.mem_cons_of_mem _ z)
          unfold L2.wipe
          rw [ih h2, List.set_comm _ _ (Ne.symm h1)]
      rw [step vs hv]
      simp
theorem tg_name {X : Cx} {pa : Option Addr} {i : Nat} {Γ : List Sl} {vs : List Nat} (hi : i ∈ vs) : TgOk X pa dec1 (gName i) vs Γ (fun d => Γ.set i (.val d)) := by
  intro G0 H0 G H σ s v d z Q E r e h
  obtain rfl := Option.some.inj e
  exact h _ (E.set i r) (wipe_set hi)
set_option tactic.hygienic true in
theorem tg_pair {X : Cx} {pa : Option Addr} {i j : Nat} {Γ : List Sl} {vs : List Nat} (hi : i ∈ vs) (hj : j ∈ vs) : TgOk X pa dec2 (gTup X.K 2 (gCons (gName i) (gCons (gName j) gNil))) vs Γ (fun z => (Γ.set i (.val z.1)).set j (.val z.2)) := by
  intro G0 H0 G H σ s v d z Q E r e h
  cases r with
  | tup hq n rr =>
    rename_i vs' ds
    match ds, e, n, rr with
    | [a, b], e, n, rr =>
      obtain rfl := Option.some.inj e
      (refine EV.el2_2 (rp2 ⟨n, rr⟩) fun x y q63_ q64_ => ?_; obtain rfl := q63_; (refine EV.el0_2 q64_ ?_; try clear q64_; intro r1 r2))
      refine ⟨_, _, rfl, sameT E.sub hq, rfl, x, [y], rfl, y, [], rfl, rfl, ?_⟩
      exact h _ ((E.set i r1).set j r2) (by rw [wipe_set hj, wipe_set hi])
    | [], e, _, _ => exact EV.nnS e
    | [_], e, _, _ => exact EV.nnS e
    | _ :: _ :: _ :: _, e, _, _ => exact EV.nnS e
  | _ => exact EV.nnS e
theorem pt_ex {X : Cx} {ι : Type} {e : Expr} {t : ι → TT} (h : ∀ z, PT X e (t z)) : PT X e (fun σ H Q => ∃ z, t z σ H Q) := ⟨fun pins s σ H Q I h3_ => by (refine EV.el1_1 h3_ ?_; try clear h3_; intro z q); exact (h z).run pins s σ H Q I q⟩
theorem pe_ex {X : Cx} {ι : Type} {e : Expr} {t : ι → TE} (h : ∀ z, PE X e (t z)) : PE X e (fun σ H Q => ∃ z, t z σ H Q) := ⟨fun pins s σ H Q I h4_ => by (refine EV.el1_1 h4_ ?_; try clear h4_; intro z q); exact (h z).run pins s σ H Q I q⟩
theorem pts_ex {X : Cx} {ι : Type} {e : List Expr} {t : ι → TT} (h : ∀ z, PTs X e (t z)) : PTs X e (fun σ H Q => ∃ z, t z σ H Q) := ⟨fun pins s σ H Q I h5_ => by (refine EV.el1_1 h5_ ?_; try clear h5_; intro z q); exact (h z).run pins s σ H Q I q⟩
theorem pts_imp {X : Cx} {e : List Expr} {t t' : TT} (h : PTs X e t) (i : ∀ σ H Q, t' σ H Q → t σ H Q) : PTs X e t' := ⟨fun pins s σ H Q I q => h.run pins s σ H Q I (i σ H Q q)⟩
noncomputable abbrev ETs (X : Cx) (W : WX) (pa : Option Addr) (Γ : List Sl) (es : List Expr) (m : PM Bool) : Prop := PTs X es (evB X W pa Γ m)
theorem ets_nil {X : Cx} {W : WX} {pa : Option Addr} {Γ : List Sl} : ETs X W pa Γ [] (pure true) := pts_imp pts_nil fun σ H Q h_ => EV.ex4 h_ fun G0 H0 G s E P => P.now E.sub E.ps
theorem ets_one {X : Cx} {W : WX} {pa : Option Addr} {Γ : List Sl} {e : Expr} {m : PM Bool} (h : EB X W pa Γ e m) : ETs X W pa Γ [e] m := pts_one h
theorem lcCore {X : Cx} {W : WX} {pa : Option Addr} {Γ : List Sl} {ι β : Type} {dec : D → Option ι} {mt : ι → PM Bool} {me : ι → PM D} {g : TG} {vs : List Nat} {Γz : ι → List Sl} {σ : L2.St} {J : It} {xs : List D} {D0 : Addr}
    {G0 H0 G1 H1 : Hp} {s1 : List Int} {F : Hp → Hp → β → List Int → Prop} {cont : List D → PM β} {Qd : Hp → Prop}
    (hg : TgOk X pa dec g vs (wipeG Γ vs) Γz) (E : Nv X.K pa G0 H0 G1 H1 σ Γ s1) (hJ : IterOk X.K J G1 xs) (nD : H1 D0 = none)
    (P : Pst X.K W X.mg pa σ F G1 H1 ((compL dec mt me xs >>= cont) s1))
    (fin : ∀ G H accV accD s', Ext X.K pa G1 H1 G H → PenOk pa G H s' → H D0 = some (.lst accV) → G D0 = none → RpL X.K G accV accD → Pst X.K W X.mg pa σ F G1 H1 (cont accD s') → Qd H) :
    ∃ Wv : Nat → Nat → Hp → Prop, (∃ m, Wv 0 m (upd H1 D0 (.lst []))) ∧ ∀ i m H, Wv i m H →
      (J.stop i H ∧ Qd H) ∨ (J.go i H ∧ ∃ Nx : Hp → Prop, (∀ H', Nx H' → ∃ m', m' < m ∧ Wv (i + 1) m' H') ∧ ∀ x H', J.yld i H x H' → g x (L2.wipe σ vs) H' fun σ2 H2 => L2.wipe σ2 vs = L2.wipe σ vs ∧
        (fun σ H Q => ∃ z, evB X W0 pa (Γz z) (mt z) σ H Q : TT) σ2 H2 fun b H3 =>
          if b = true then (fun σ H Q => ∃ z, evT X W0 pa (Γz z) (me z) σ H Q : TE) σ2 H3 fun y H4 => ∃ acc, H4 D0 = some (.lst acc) ∧ acc.length < sizeLine ∧ Nx (upd H4 D0 (.lst (acc ++ [y]))) else Nx H3) := by
  have hlen : xs.length ≤ lim := by
    by_cases h : xs.length ≤ lim
    · exact h
    · unfold compL at P
      rw [if_neg h] at P
      exact P.elim
  unfold compL at P
  rw [if_pos hlen] at P
  let Wv : Nat → Nat → Hp → Prop := fun i m H => m = xs.length - i ∧ i ≤ xs.length ∧ ∃ G accV accD s', Ext X.K pa G1 H1 G H ∧ PenOk pa G H s' ∧ H D0 = some (.lst accV) ∧ G D0 = none ∧ RpL X.K G accV accD ∧ accD.length ≤ i ∧
    Pst X.K W X.mg pa σ F G1 H1 ((compG dec mt me (xs.drop i) >>= fun r => cont (accD ++ r)) s')
  refine EV.in1_2 Wv (⟨xs.length, by simp, Nat.zero_le _, G1, [], [], s1, Ext.newH E.sub nD _, E.ps.updH nD _, upd_same, E.sub.free nD, .nil, Nat.le_refl _, by simpa using P⟩) ?_
  rintro i m H ⟨rfl, hi, G, accV, accD, s', x1, p1, hD, gD, racc, hacc, P⟩
  by_cases hlt : i < xs.length
  · obtain ⟨x, hx⟩ : ∃ x, xs[i]? = some x := ⟨_, List.getElem?_eq_getElem hlt⟩
    refine EV.el0_2 ((hJ G H x1.g x1.sub).1 i x hx) fun hgo hyld => ?_
    have hdrop : xs.drop i = x :: xs.drop (i + 1) := by
      rw [List.drop_eq_getElem_cons hlt]
      congr 1
      rw [List.getElem?_eq_getElem hlt] at hx
      exact Option.some.inj hx
    rw [hdrop] at P
    refine .inr ⟨hgo, fun H' => Wv (i + 1) (xs.length - (i + 1)) H', fun H' w => ⟨_, Nat.sub_lt_sub_left (by assumption) (Nat.lt_succ_self i), w⟩, fun v H2 hy => ?_⟩
    refine EV.el1_2 (hyld v H2 hy) fun G2 x2 rv => ?_
    have x2 : Ext X.K pa G H G2 H2 := x2.any
    have hD2 : H2 D0 = some (.lst accV) := (by assumption : Ext X.K none G H G2 H2).h _ _ hD (fun z => by exact EV.nnS z)
    have gD2 : G2 D0 = none := x2.n _ _ hD gD
    have p2 : PenOk pa G2 H2 s' := p1.ext (by assumption)
    have E2 : Nv X.K pa G0 H0 G2 H2 σ Γ s' := E.step (x1.trans x2) p2
    unfold compG at P
    cases hd : dec x with
    | none => rw [hd] at P; exact P.elim
    | some z =>
      rw [hd] at P
      dsimp only at P
      have P : Pst X.K W X.mg pa σ F G1 H1 ((noExc (mt z) >>= fun b => (if b = true then noExc (me z) >>= fun y => compG dec mt me (xs.drop (i + 1)) >>= fun r => pure (y :: r) else compG dec mt me (xs.drop (i + 1))) >>= fun r => cont (accD ++ r)) s') := by
        rw [bind_assoc] at P
        exact P
      refine hg G0 H0 G2 H2 (L2.wipe σ vs) s' v x z _ (E2.wipe vs) rv hd fun σ3 E3 hw => ⟨?_, z, G0, H0, G2, s', E3, ?_⟩
      · have ww : L2.wipe (L2.wipe σ vs) vs = L2.wipe σ vs := by
          have : ∀ us : List Nat, (∀ u ∈ us, u ∈ vs) → L2.wipe (L2.wipe σ us) vs = L2.wipe σ vs := by
            intro us
            induction us with
            | nil => intro _; rfl
            | cons u us ih =>
              intro hu
              show L2.wipe ((L2.wipe σ us).set u none) vs = _
              rw [wipe_set (hu u List.mem_cons_self)]
              exact ih fun w hw => hu w (List.mem_cons_of_mem _ hw)
          exact this vs fun _ h => h
        rw [hw, ww]
      · have Q1 := P.bind0 (x1.trans x2)
        refine (Pst.noExc Q1).imp fun G3 H3 b s3 x3 p3 P3 => ?_
        have hD3 : H3 D0 = some (.lst accV) := x3.h _ _ hD2 (fun z => by
          have := (p1 D0 z).2
          have := p1 D0 z
          have e1 := E.ps D0 z
          rw [e1.2] at nD
          exact EV.nnS (Eq.symm nD))
        have gD3 : G3 D0 = none := x3.n _ _ hD2 gD2
        cases b with
        | false =>
          rw [if_neg Bool.false_ne_true] at P3
          show Wv (i + 1) (xs.length - (i + 1)) H3
          exact ⟨rfl, hlt, G3, accV, accD, s3, (x1.trans x2).trans x3, p3, hD3, gD3, racc.mono (x2.g.trans x3.g), by omega, P3⟩
        | true =>
          rw [if_pos rfl] at P3
          rw [bind_assoc] at P3
          show ∃ z, evT X W0 pa (Γz z) (me z) σ3 H3 _
          refine EV.in5_2 z G0 H0 G3 s3 (E3.step x3 p3) ?_
          have Q3 := P3.bind0 ((x1.trans x2).trans x3)
          refine (Pst.noExc Q3).imp fun G4 H4 y s4 x4 p4 P4 => fun w rw4 => ?_
          have hD4 : H4 D0 = some (.lst accV) := x4.h _ _ hD3 (fun z => by
            have e1 := E.ps D0 z
            rw [e1.2] at nD
            exact EV.nnS (Eq.symm nD))
          have gD4 : G4 D0 = none := x4.n _ _ hD3 gD3
          have xx := ((x1.trans x2).trans x3).trans x4
          have racc4 := racc.mono ((x2.g.trans x3.g).trans x4.g)
          have hl : accV.length < sizeLine := by
            rw [racc.1]
            exact lim_lt (by omega)
          refine ⟨accV, hD4, hl, rfl, hlt, G4, accV ++ [w], accD ++ [y], s4, ?_, ?_, upd_same, gD4, racc4.app (.cons rw4 .nil), by simp; assumption, ?_⟩
          · refine ⟨xx.g, fun a o e np nt => ?_, fun a o e => ?_, xx.n, fun a o e => ?_, fun h => (xx.tk h).updL hD4, xx.gt⟩
            · rw [upd_ne (ne_of_none e nD)]
              exact xx.h a o e np nt
            · rw [upd_ne (ne_of_none e nD)]
              exact xx.t a o e
            · have : a ≠ D0 := ne_of_none e gD4
              rw [upd_ne this]
              exact xx.sub a o e
          · intro q e
            refine EV.el0_2 (p4 q e) fun q1 q2 => ?_
            have : q ≠ D0 := fun z => by
              rw [z] at e
              have e1 := E.ps D0 e
              rw [e1.2] at nD
              exact EV.nnS (Eq.symm nD)
            rw [upd_ne this]
            exact ⟨q1, q2⟩
          · rw [bind_assoc] at P4
            have e5 : (fun r => cont (accD ++ [y] ++ r)) = fun r => (pure (y :: r) : PM (List D)) >>= fun r => cont (accD ++ r) := by
              funext r
              rw [pure_bind]
              simp
            rw [e5]
            exact P4
  · have e : i = xs.length := by exact EV.w_eq (by assumption) (by assumption)
    subst e
    refine .inl ⟨(hJ G H x1.g x1.sub).2 _ (Nat.le_refl _), fin G H accV accD s' x1 p1 hD gD racc ?_⟩
    rw [List.drop_length] at P
    have P : Pst X.K W X.mg pa σ F G1 H1 (((pure [] : PM (List D)) >>= fun r => cont (accD ++ r)) s') := P
    rw [pure_bind, List.append_nil] at P
    exact P
end EV
namespace EV
open PySem PySem.Spec PyProof.Rows L2
theorem Cok.blk {X : Cx} {W : WX} {k : Nat} (C : Cok X W k) {s : Shared} {H : Hp} {scope : Scope} {cenv : PySem.Env} {fp : List Addr} : Cok (X.blk s H scope cenv fp) W0 k where
  calm := C.calm
  nd := C.nd
  takes := takes0
  room := C.room
  guards := C.guards
  passes := PassesOwn.never
theorem Cok.mono {X : Cx} {W : WX} {j k : Nat} (C : Cok X W k) (h : j ≤ k) : Cok X W j := ⟨C.calm, C.nd, C.takes, C.room.mono h, fun q => C.guards (Nat.le_trans q h), C.passes⟩
/-- the rest after a list that is made: it is public -/
theorem lc_pub {X : Cx} {W : WX} {pa : Option Addr} {σ : L2.St} {G1 H1 : Hp} {D0 : Addr} {Q : VK} {s1 : List Int} (nD : H1 D0 = none) (hs1 : Same G1 H1) (hp1 : PenOk pa G1 H1 s1) (G H : Hp) (accV : List V) (accD : List D) (s' : List Int) (x : Ext X.K pa G1 H1 G H) (p : PenOk pa G H s') (hD : H D0 = some (.lst accV))
    (gD : G D0 = none) (r : RpL X.K G accV accD) (P : Pst X.K W X.mg pa σ (FD X.K Q) G1 H1 ((pure (.lst accD) : PM D) s')) : Q (.ref D0) H := by
  have sg : Same G (upd G D0 (.lst accV)) := fun a o e => by
    rw [upd_ne (ne_of_none e gD)]
    exact e
  have x' : Ext X.K pa G1 H1 (upd G D0 (.lst accV)) H := by
    refine ⟨x.g.trans sg, x.hh, x.t, fun a o e n => ?_, fun a o e => ?_, x.tk, fun h => (x.gt h).upd (nt_lst _)⟩
    · rw [upd_ne (ne_of_none e nD)]
      exact x.n a o e n
    · by_cases h : a = D0
      · subst h
        rw [upd_same] at e
        rw [← e]
        exact hD
      · rw [upd_ne h] at e
        exact x.sub a o e
  refine P _ _ x' (fun q e => ?_) _ (.mkL upd_same (r.mono sg))
  refine EV.el0_2 (p q e) fun q1 q2 => ?_
  refine ⟨?_, q2⟩
  rw [upd_ne (ne_of_none (hp1 q e).2 nD)]
  exact q1
section
variable {X : Cx} {W : WX} {pa : Option Addr} {Γ : List Sl} {k : Nat} {pos : Pos} {ι : Type}
theorem lc_read {dec : D → Option ι} {mt : ι → PM Bool} {me : ι → PM D} {mi : PM (List D)} {g : TG} {vs : List Nat} {Γz : ι → List Sl} (hg : TgOk X pa dec g vs (wipeG Γ vs) Γz) (σ : L2.St) (H : Hp) (Q : VK)
    (h : evT X W pa Γ (mi >>= fun xs => compL dec mt me xs >>= fun r => pure (.lst r)) σ H Q) :
    tLc (evI X W pa Γ mi) g (fun σ H Q => ∃ z, evB X W0 pa (Γz z) (mt z) σ H Q) (fun σ H Q => ∃ z, evT X W0 pa (Γz z) (me z) σ H Q) vs σ H Q := by
  (refine EV.el4_2 h ?_; try clear h; intro G0 H0 G s E P)
  refine EV.in4_2 G0 H0 G s E (P.bind.imp fun G1 H1 xs s1 x1 p1 P1 J hJ D0 nD => ?_)
  exact lcCore hg (E.step x1 p1) hJ nD P1 fun G H accV accD s' x p hD gD r P => lc_pub nD x1.sub p1 G H accV accD s' x p hD gD r P
/-- [elt for tg in iter if ..] -/
theorem ev_lc {elt tg iter : Expr} {ifs : List Expr} {scope : Scope} {own : List (Str × Nat)} {dec : D → Option ι} {mt : ι → PM Bool} {me : ι → PM D} {mi : PM (List D)} {g : TG} {Γz : ι → List Sl} (C : Cok X W k) (hi : EI X W pa Γ tg iter mi) (ok : BlkOk X.N X.env.scope scope own)
    (hg : TgOk X pa dec g (own.map (·.2)) (wipeG Γ (own.map (·.2))) Γz)
    (hp : ∀ (s : Shared) (H : Hp) (C : Addr) (cl : List (Str × Addr)) (fp : List Addr), PG (X.blk s H scope (compEnvC scope cl C X.env) fp) tg g)
    (ht : ∀ (z : ι) (s : Shared) (H : Hp) (C : Addr) (cl : List (Str × Addr)) (fp : List Addr), ETs (X.blk s H scope (compEnvC scope cl C X.env) fp) W0 pa (Γz z) ifs (mt z))
    (he : ∀ (z : ι) (s : Shared) (H : Hp) (C : Addr) (cl : List (Str × Addr)) (fp : List Addr), EV (X.blk s H scope (compEnvC scope cl C X.env) fp) W0 pa (Γz z) elt (me z))
    (hs : autoParam (∀ x, foldedSetIterable iter X.env x = pure x) EV.tac3) :
    EV X W pa Γ (.ListComp elt [⟨tg, iter, ifs, 0⟩] scope pos) (mi >>= fun xs => compL dec mt me xs >>= fun r => pure (.lst r)) :=
  pe_imp (pe_lc C.calm C.nd hi ok hp (fun s H C cl fp => pts_ex fun z => ht z s H C cl fp) (fun s H C cl fp => pe_ex fun z => he z s H C cl fp) hs) fun σ H Q h => lc_read hg σ H Q h
noncomputable def tyName : D → String
  | .non => "NoneType"
  | .bl _ => "bool"
  | .int _ => "int"
  | .str _ => "str"
  | .tup _ => "tuple"
  | .lst _ => "list"
  | .dct _ => "dict"
  | .obj _ _ => "object"
  | .cls _ => "type"
theorem Rp.ty {K : PySem.W.Frag} {G H : Hp} {v : V} {d : D} (hs : Same G H) (h : Rp K G v d) (hd : ∀ C fs, d ≠ .obj C fs) (hq : ∀ C, d ≠ .cls C) : TyX K H v (.type (tyName d)) := by
  cases h with
  | obj _ _ _ _ => exact absurd rfl (hd _ _)
  | cls _ => exact absurd rfl (hq _)
  | @dct a sh vs kvs h hk n r =>
    have h := hs _ _ h
    cases sh with
    | t ks => exact .base (.dT h)
    | k ks => exact .base (.dK h)
    | tu m => exact EV.nnS hk
    | tn o m => exact EV.nnS hk
    | ins _ _ _ _ => exact EV.nnS hk
  | non => exact .base .non
  | bl b => exact .base (.bl b)
  | int i => exact .base (.int i)
  | str x => exact .base (.str x)
  | lst h _ _ => exact .base (.lst (hs _ _ h))
  | tup h _ _ =>
    rcases h with (h | ⟨o, h⟩) | ⟨o, its, n, h1, h2, _⟩
    · exact .base (.tup (hs _ _ h))
    · exact .fTuple (hs _ _ h)
    · exact .kTuple h1 h2
/-- one of int, bool, tuple, str, list -/
noncomputable def isTy (T : String) (d : D) : Bool := tyName d == T || (tyName d == "bool" && T == "int")
noncomputable def isF (T : String) : D → PM D
  | .obj _ _ => pure (.bl false)
  | .cls _ => bad
  | d => pure (.bl (isTy T d))
theorem kitTable : ∀ a ∈ ["NoneType", "bool", "int", "str", "tuple", "list", "dict"], ∀ T ∈ ["int", "bool", "tuple", "str", "list"], kitB a T = some (a == T || (a == "bool" && T == "int")) := by decide +kernel
theorem kit_isTy (T : String) (hT : T ∈ ["int", "bool", "tuple", "str", "list"]) (d : D) (K : PySem.W.Frag) (h : ∀ c fs, d ≠ .obj c fs) (hq : ∀ c, d ≠ .cls c) : PySem.W.kitOne K (.type (tyName d)) (.type T) = some (isTy T d) := by
  refine kit_ty (kitTable (tyName d) ?_ T hT)
  cases d with
  | obj c fs => exact absurd rfl (h c fs)
  | cls c => exact absurd rfl (hq c)
  | _ => simp [tyName]
theorem ev_isi {e : Expr} {T : String} {x : Str} {m : PM D} {p p2 : Pos} (hT : T ∈ ["int", "bool", "tuple", "str", "list"]) (h : EV X W pa Γ e m) (hg : Gl X "isinstance") (hm : X.mg "isinstance" = none) (hg2 : Gl X x) (hm2 : X.mg x = none) (hv : bootBuiltins x = some (.type T))
    (hn : autoParam (x ≠ "__name__") EV.tac1) (hdb : autoParam ((x == ("__debug__" : Str)) = false) EV.tac1)
    (hs : autoParam (starEach [e, .Name x p2] X.env = (false, eval e X.env) :: starEach [.Name x p2] X.env) EV.tac2) (hs2 : autoParam (starEach [.Name x p2] X.env = (false, eval (.Name x p2) X.env) :: starEach [] X.env) EV.tac2)
    (hpl : autoParam ((backTo pos (starEach [.Name x p2] X.env)).any (·.1) = false) EV.tac2) :
    EV X W pa Γ (.Call (.Name "isinstance" p) [e, .Name x p2] [] pos) (m >>= isF T) := by
  have hb : PE X (.Name x p2) (tC (.ty T)) := pe_bltn hg2 hm2 hv rfl hn hdb
  refine pe_imp (pe_callB call_isi hg hm (by decide +kernel) (pa_cons h (pa_cons hb pa_nil hs2) hs) (by decide) (by decide) hs hpl) fun σ H Q h_ => EV.ex4 h_ fun G0 H0 G s E P =>
    ⟨G0, H0, G, s, E, P.bind.imp fun G1 H1 d s1 x1 p1 P1 v r => ?_⟩
  by_cases ho : ∃ c fs, d = .obj c fs
  · (refine EV.el2_1 ho ?_; try clear ho; intro c fs q65_; obtain rfl := q65_)
    cases r with
    | @obj a C dx fvs fs h hc hk rr => exact ⟨.ref a, .ty T, _, _, false, rfl, .ty T, .base (.ins (x1.sub _ _ h) hc.cl hc.ha hc.hn hc.htk hc.hm), hc.bt T hT, P1.now x1.sub p1 _ (.bl _)⟩
  · by_cases hq : ∃ c, d = .cls c
    · (refine EV.el1_1 hq ?_; try clear hq; intro c q66_; obtain rfl := q66_)
      exact P1.elim
    have e : isF T d = pure (.bl (isTy T d)) := by
      cases d <;> first | rfl | exact absurd ⟨_, _, rfl⟩ ho | exact absurd ⟨_, rfl⟩ hq
    rw [e] at P1
    exact ⟨v, .ty T, _, _, isTy T d, rfl, .ty T, r.ty x1.sub (fun c fs z => ho ⟨c, fs, z⟩) (fun c z => hq ⟨c, z⟩), kit_isTy T hT d X.K (fun c fs z => ho ⟨c, fs, z⟩) (fun c z => hq ⟨c, z⟩), P1.now x1.sub p1 _ (.bl _)⟩
end
/-- a def's promise, where no guard is held around -/
structure FnG (P : Program) (w : World) (K : PySem.W.Frag) (mg : Str → Option Value) (base : Heap) (k : Nat) (f : Addr) (fd : FuncData) (ps : List Str) (sp : Sp) : Prop where
  len : ∀ vs H Q E, sp vs H Q E → vs.length = ps.length
  run : ∀ (A : Around) (outer : List PySem.Env) (s : Shared) (H : Hp) (args : Args) (us : List Value) (vs : List V) (Q : VK) (E : XK), (32 ≤ k → A.guards = some []) → Room k A →
    Env0 P w K mg base A outer s H → BindsTo s fd args (ps.zip us) → Vals vs us → sp vs H Q E → codeAny (model P w) A (.call (.ref f) args) (CR (L2.CX P w) outer P w H s Q E) s
theorem FnG.mono {P : Program} {w : World} {K : PySem.W.Frag} {mg : Str → Option Value} {base : Heap} {j k : Nat} {f : Addr} {fd : FuncData} {ps : List Str} {sp : Sp} (F : FnG P w K mg base j f fd ps sp) (h : j ≤ k) : FnG P w K mg base k f fd ps sp :=
  ⟨F.len, fun A outer s H args us vs Q E hg hr => F.run A outer s H args us vs Q E (fun q => hg (Nat.le_trans q h)) (hr.mono h)⟩
section
variable {X : Cx} {W : WX} {pa : Option Addr} {Γ : List Sl} {k : Nat} {f : Addr} {fd : FuncData} {ps : List Str} {sp : Sp} {ds : List Value} {dvs : List V} {E : L2.St → XK}
/-- as CallSlots' run of a def, for these promises -/
theorem runG {pins : List (Addr × Obj)} {σ : L2.St} {H : Hp} {s : Shared} {Q : VK} {us : List Value} {vs : List V} (C : Cok X W k) (F : FnG X.prog X.w X.K X.mg X.base k f fd ps sp) (hb : Binds X.K fd ps []) (I : Inv X pins σ H s) (r : Vals vs us)
    (h : sp vs H Q (fun cls d H' => W cls d σ H')) : wpAny (model X.prog X.w) X.A (call (.ref f) us) (EP X pins σ Q) X.xe s := by
  have hl : us.length = ps.length := by
    rw [← r.length]
    exact F.len _ _ _ _ h
  have hbd := hb s us I.kIn (by rw [List.append_nil]; exact hl)
  rw [List.append_nil] at hbd
  have key := F.run X.A X.stack s H ⟨us, []⟩ us vs Q _ C.guards C.room I.env0 hbd r h
  refine wpAny_call (codeAny_mono key fun r s' hq => ?_)
  cases r with
  | error e => exact C.takes e s' (XE.of_call I (fun cls d H' q => q) hq)
  | ok fl =>
    cases fl with
    | ret u => exact I.after hq
    | next => exact hq.elim
    | brk => exact hq.elim
    | cont => exact hq.elim
theorem pe_callG {x : Str} {p pos : Pos} {e : Expr} {es : List Expr} {t : TA} (C : Cok X W k) (F : FnG X.prog X.w X.K X.mg X.base k f fd ps sp) (hg : Gl X x) (hm : X.mg x = some (.ref f)) (hk : PySem.W.keepIn X.K (.ref f) = true) (hb : Binds X.K fd ps []) (ha : PA X (e :: es) t)
    (hdb : autoParam ((x == ("__debug__" : Str)) = false) EV.tac1) (he : autoParam (starEach (e :: es) X.env = (false, eval e X.env) :: starEach es X.env) EV.tac2) (hpl : autoParam ((backTo pos (starEach es X.env)).any (·.1) = false) EV.tac2) :
    PE X (.Call (.Name x p) (e :: es) [] pos) (fun σ H Q => t σ H fun vs H1 => sp vs H1 Q (fun cls d H' => W cls d σ H')) := by
  refine ⟨fun pins s σ H Q I h => ?_⟩
  have step := fun (us : List Value) (s1 : Shared) (q : AP X pins σ (fun vs H1 => sp vs H1 Q (fun cls d H' => W cls d σ H')) us s1) => (by
    (refine EV.el2_3 q ?_; try clear q; intro vs H1 I1 r q)
    exact ⟨I1.kIn, runG C F hb I1 r q⟩ : X.K.In s1.heap ∧ wpAny (model X.prog X.w) X.A (call (.ref f) us) (EP X pins σ Q) X.xe s1)
  exact wpAny_Call_Name_kw (ld_glob I hg hm (PySem.W.callWith_K (h₀ := X.base) I.ok.mod.kin hk (thn (ha.run pos pins s σ H _ I h) step) he hpl) hdb)
end
end EV
namespace EV
open PySem PySem.Spec PyProof.Rows L2
noncomputable def fn0 (g : PM D) : List D → PM D
  | [] => g
  | _ => bad
noncomputable def fn1 (g : D → PM D) : List D → PM D
  | [a] => g a
  | _ => bad
noncomputable def fn2 (g : D → D → PM D) : List D → PM D
  | [a, b] => g a b
  | _ => bad
noncomputable def fn3 (g : D → D → D → PM D) : List D → PM D
  | [a, b, c] => g a b c
  | _ => bad
noncomputable def fn4 (g : D → D → D → D → PM D) : List D → PM D
  | [a, b, c, d] => g a b c d
  | _ => bad
noncomputable def Arity (n : Nat) (f : List D → PM D) : Prop := ∀ ds s, ds.length ≠ n → f ds s = .bad
theorem ar1 {g} : Arity 1 (fn1 g) := fun ds s h => by
  match ds, h with
  | [_], h => exact absurd rfl h
  | [], _ => rfl
  | _ :: _ :: _, _ => rfl
theorem ar2 {g} : Arity 2 (fn2 g) := fun ds s h => by
  match ds, h with
  | [_, _], h => exact absurd rfl h
  | [], _ => rfl
  | [_], _ => rfl
  | _ :: _ :: _ :: _, _ => rfl
theorem ar3 {g} : Arity 3 (fn3 g) := fun ds s h => by
  match ds, h with
  | [_, _, _], h => exact absurd rfl h
  | [], _ => rfl
  | [_], _ => rfl
  | [_, _], _ => rfl
  | _ :: _ :: _ :: _ :: _, _ => rfl
theorem ar4 {g} : Arity 4 (fn4 g) := fun ds s h => by
  match ds, h with
  | [_, _, _, _], h => exact absurd rfl h
  | [], _ => rfl
  | [_], _ => rfl
  | [_, _], _ => rfl
  | [_, _, _], _ => rfl
  | _ :: _ :: _ :: _ :: _ :: _, _ => rfl
/-- what a def with a pen (pn) or without makes of its arguments -/
noncomputable def spF (K : PySem.W.Frag) (mg : Str → Option Value) (pn : Bool) (n : Nat) (f : List D → PM D) : Sp := fun vs H Q E => ∃ (pa : Option Addr) (G : Hp) (s : List Int) (vs' : List V) (ds : List D),
  pa.isSome = pn ∧ vs = pa.toList.map V.ref ++ vs' ∧ (Same G H ∧ TabK K H ∧ NoT G) ∧ PenOk pa G H s ∧ RpL K G vs' ds ∧ ds.length = n ∧
    Pst K (fun cls dx _ H' => E cls dx H') mg pa [] (FD K Q) G H (f ds s)
section
variable {X : Cx} {W : WX} {pa : Option Addr} {Γ : List Sl} {k : Nat} {f : Addr} {fd : FuncData} {ps : List Str} {n : Nat} {F : List D → PM D} {x : Str} {p pos : Pos}
theorem pst_run0 {K : PySem.W.Frag} {mg : Str → Option Value} {σ : L2.St} {G H : Hp} {s : List Int} {Q : VK} {m : PM D} (hp : PenOk pa G H s) (hP : Pst K W mg pa σ (FD K Q) G H (run0 m s)) : Pst K (fun cls dx _ H' => W cls dx σ H') mg none [] (FD K Q) G H (m []) := by
  unfold run0 at hP
  cases e : m [] with
  | ok a s1 =>
    rw [e] at hP
    exact fun G' H' y _ => hP G' H' y.any (hp.ext y)
  | exc z =>
    rw [e] at hP
    exact fun cls dx G' H' y q => hP cls dx G' H' y.any q
  | bad => rw [e] at hP; exact hP.elim
theorem run0_len {m : List D → PM D} (ar : Arity n m) {ds : List D} {K : PySem.W.Frag} {mg : Str → Option Value} {σ : L2.St} {G H : Hp} {s : List Int} {Q : VK} (hP : Pst K W mg pa σ (FD K Q) G H (run0 (m ds) s)) : ds.length = n := by
  by_cases h : ds.length = n
  · exact h
  · unfold run0 at hP
    rw [ar ds [] h] at hP
    exact hP.elim
/-- f(e, ..), a def without a pen -/
theorem ev_call {e : Expr} {es : List Expr} {ml : PM (List D)} (C : Cok X W k) (FG : FnG X.prog X.w X.K X.mg X.base k f fd ps (spF X.K X.mg false n F)) (ar : Arity n F) (hg : Gl X x) (hm : X.mg x = some (.ref f)) (hk : PySem.W.keepIn X.K (.ref f) = true) (hb : Binds X.K fd ps [])
    (ha : EL X W pa Γ (e :: es) ml) (hdb : autoParam ((x == ("__debug__" : Str)) = false) EV.tac1) (he : autoParam (starEach (e :: es) X.env = (false, eval e X.env) :: starEach es X.env) EV.tac2) (hpl : autoParam ((backTo pos (starEach es X.env)).any (·.1) = false) EV.tac2) :
    EV X W pa Γ (.Call (.Name x p) (e :: es) [] pos) (ml >>= fun ds => run0 (F ds)) :=
  pe_imp (pe_callG C FG hg hm hk hb ha hdb he hpl) fun σ H Q h_ => EV.ex4 h_ fun G0 H0 G s E P => ⟨G0, H0, G, s, E, P.bind.imp fun G1 H1 ds s1 x1 p1 P1 vs r =>
    ⟨none, G1, [], vs, ds, rfl, rfl, ⟨x1.sub, x1.tk E.tk, x1.gt E.x.nt⟩, PenOk.none, r, run0_len ar P1, pst_run0 p1 P1⟩⟩
end
inductive Out where
  | fall (Γ : List Sl) | ret (d : D) | brk (Γ : List Sl) | cnt (Γ : List Sl) | retG (d : D) (Γ : List Sl)
noncomputable def SPost (K : PySem.W.Frag) (W : WX) (mg : Str → Option Value) (pa : Option Addr) (G0 H0 : Hp) (Dn : Ends) : R Out → Prop
  | .ok (.fall Γ') s => ∀ σ' G' H', Nv K pa G0 H0 G' H' σ' Γ' s → Dn.nx σ' H'
  | .ok (.ret d) s => ∀ v G' H', Ext K pa G0 H0 G' H' → PenOk pa G' H' s → Rp K G' v d → Dn.rt v H'
  | .ok (.brk Γ') s => ∀ σ' G' H', Nv K pa G0 H0 G' H' σ' Γ' s → Dn.bk σ' H'
  | .ok (.cnt Γ') s => ∀ σ' G' H', Nv K pa G0 H0 G' H' σ' Γ' s → Dn.ct σ' H'
  | .ok (.retG d Γ') s => ∀ v σ' G' H', Nv K pa G0 H0 G' H' σ' Γ' s → Rp K G' v d → Dn.rt v H'
  | .exc e => ∀ cls dx σ' G' H', Ext K pa G0 H0 G' H' → ExcIs K mg G' H' e cls dx → W cls dx σ' H'
  | .bad => False
noncomputable def svT (X : Cx) (W : WX) (pa : Option Addr) (Γ : List Sl) (m : PM Out) : TS := fun Dn σ H => ∃ G0 H0 G s, Nv X.K pa G0 H0 G H σ Γ s ∧ SPost X.K W X.mg pa G0 H0 Dn (m s)
/-- a block, its outcome m read by out -/
noncomputable def SV (X : Cx) (W : WX) (pa : Option Addr) (Γ : List Sl) {α : Type} (out : α → Out) (sts : List Stmt) (m : PM α) : Prop := PSs X sts (svT X W pa Γ (m >>= fun a => pure (out a)))
section
variable {K : PySem.W.Frag} {W : WX} {mg : Str → Option Value} {pa : Option Addr} {G0 H0 G H : Hp} {Dn : Ends} {σ : L2.St} {Γ : List Sl} {s : List Int}
theorem SPost.bind {α : Type} {m : PM α} {f : α → PM Out} (E : Nv K pa G0 H0 G H σ Γ s) (h : SPost K W mg pa G0 H0 Dn ((m >>= f) s)) : Pst K W mg pa σ (fun _ _ a s' => SPost K W mg pa G0 H0 Dn (f a s')) G H (m s) := by
  rw [PM.bind_def] at h
  cases e : m s with
  | ok a s1 =>
    rw [e] at h
    exact fun _ _ _ _ => h
  | exc z =>
    rw [e] at h
    exact fun cls dx G' H' y q => h cls dx σ G' H' (E.ext.trans y) q
  | bad => rw [e] at h; exact h
end
theorem pss_imp {X : Cx} {sts : List Stmt} {t t' : TS} (h : PSs X sts t) (i : ∀ Dn σ H, t' Dn σ H → t Dn σ H) : PSs X sts t' := ⟨fun pins s σ H D I q => h.run pins s σ H D I (i D σ H q)⟩
theorem pss_ex {X : Cx} {ι : Type} {sts : List Stmt} {t : ι → TS} (h : ∀ z, PSs X sts (t z)) : PSs X sts (fun D σ H => ∃ z, t z D σ H) := ⟨fun pins s σ H D I h6_ => by (refine EV.el1_1 h6_ ?_; try clear h6_; intro z q); exact (h z).run pins s σ H D I q⟩
section
variable {X : Cx} {W : WX} {pa : Option Addr} {Γ Γ' : List Sl} {k : Nat} {pos : Pos} {α β : Type} {out : α → Out} {rest : List Stmt}
/-- the block's end -/
theorem sv_nil {a : α} (h : out a = .fall Γ') (w : Weak Γ Γ') : SV X W pa Γ out [] (pure a) := by
  unfold SV
  rw [pure_bind, h]
  exact pss_imp pss_nil fun Dn σ H h_ => EV.ex4 h_ fun G0 H0 G s E P => P σ G H (E.weak w)
/-- x = e -/
theorem sv_set (i : Nat) {x : Str} {e : Expr} {pos' : Pos} {me : PM D} {kk : D → PM α} (hN : X.N.Nodup) (he : EV X W pa Γ e me) (hr : ∀ d, SV X W pa (Γ.set i (.val d)) out rest (kk d)) (hi : autoParam (X.N[i]? = some x) EV.tac2) (hx : autoParam (Loc X.env.scope x) EV.tac5)
    (hs : autoParam (swapsWith e (some (.Name x pos')) pos.line X.env = pure false) EV.tac2) (hf : autoParam (X.fn x = true ∨ X.env.scope.names.lookup x = some .local) EV.tac6) :
    SV X W pa Γ out (.Assign [.Name x pos'] e pos :: rest) (me >>= kk) := by
  unfold SV
  rw [bind_assoc]
  exact pss_imp (pss_cons (ps_set (i := i) hN hi hx he hs hf) (pss_ex hr)) fun Dn σ H h_ => EV.ex4 h_ fun G0 H0 G s E P =>
    ⟨G0, H0, G, s, E, (P.bind E).imp fun G1 H1 d s1 x1 p1 P1 v r => ⟨d, G0, H0, G1, s1, (E.step x1 p1).set i r, P1⟩⟩
/-- return e -/
theorem sv_ret {e : Expr} {me : PM D} {inj : D → α} (hi : ∀ d, out (inj d) = .ret d) (he : EV X W pa Γ e me) : SV X W pa Γ out (.Return (some e) pos :: rest) (me >>= fun d => pure (inj d)) := by
  unfold SV
  rw [bind_assoc]
  refine pss_imp (pss_cons (ps_ret he) (pss_never (sts := rest))) fun Dn σ H h_ => EV.ex4 h_ fun G0 H0 G s E P => ⟨G0, H0, G, s, E, (P.bind E).imp fun G1 H1 d s1 x1 p1 P1 v r => ?_⟩
  rw [pure_bind, hi] at P1
  exact P1 v G1 H1 (E.ext.trans x1) p1 r
/-- an expression alone -/
theorem sv_expr {e : Expr} {me : PM D} {kk : PM α} (he : EV X W pa Γ e me) (hr : SV X W pa Γ out rest kk) (hs : autoParam (swapsWith e none pos.line X.env = pure false) EV.tac2) : SV X W pa Γ out (.Expr e pos :: rest) (me >>= fun _ => kk) := by
  unfold SV
  rw [bind_assoc]
  exact pss_imp (pss_cons (ps_expr he hs) hr) fun Dn σ H h_ => EV.ex4 h_ fun G0 H0 G s E P => ⟨G0, H0, G, s, E, (P.bind E).imp fun G1 H1 d s1 x1 p1 P1 v r => ⟨G0, H0, G1, s1, E.step x1 p1, P1⟩⟩
/-- if c: .. that leaves the block by return; then the rest -/
theorem sv_ifR {c : Expr} {A : List Stmt} {mc : PM Bool} {mA kk : PM α} (hc : EB X W pa Γ c mc) (hA : SV X W pa Γ out A mA) (hn : ∀ a s s' Γ', mA s = .ok a s' → out a ≠ .fall Γ') (hr : SV X W pa Γ out rest kk) :
    SV X W pa Γ out (.If c A [] pos :: rest) (mc >>= fun b => if b = true then mA else kk) := by
  unfold SV
  rw [bind_assoc]
  refine pss_imp (pss_cons (ps_if hc hA pss_nil) hr) fun Dn σ H h_ => EV.ex4 h_ fun G0 H0 G s E P => ⟨G0, H0, G, s, E, (P.bind E).imp fun G1 H1 b s1 x1 p1 P1 => ?_⟩
  cases b with
  | false => exact (show svT X W pa Γ (kk >>= fun a => pure (out a)) Dn σ H1 from ⟨G0, H0, G1, s1, E.step x1 p1, P1⟩)
  | true =>
    refine (show svT X W pa Γ (mA >>= fun a => pure (out a)) _ σ H1 from ⟨G0, H0, G1, s1, E.step x1 p1, ?_⟩)
    have P1 : SPost X.K W X.mg pa G0 H0 Dn ((mA >>= fun a => pure (out a)) s1) := P1
    rw [PM.bind_def] at P1 ⊢
    cases e : mA s1 with
    | ok a s2 =>
      rw [e] at P1
      have h := hn a s1 s2
      show SPost X.K W X.mg pa G0 H0 _ (.ok (out a) s2)
      have P1 : SPost X.K W X.mg pa G0 H0 Dn (.ok (out a) s2) := P1
      cases q : out a with
      | fall Γ' => exact absurd q (h Γ' e)
      | ret d => rw [q] at P1; exact P1
      | brk Γ' => rw [q] at P1; exact P1
      | cnt Γ' => rw [q] at P1; exact P1
      | retG d Γ' => rw [q] at P1; exact P1
    | exc z => rw [e] at P1; exact P1
    | bad => rw [e] at P1; exact P1.elim
/-- if c: A else: B, both fall into the rest; a tells what they changed -/
theorem sv_ifJ {c : Expr} {A B : List Stmt} {mc : PM Bool} {mA mB : PM β} {mk : β → List Sl} {kk : β → PM α} (hc : EB X W pa Γ c mc) (hA : SV X W pa Γ (fun b => Out.fall (mk b)) A mA) (hB : SV X W pa Γ (fun b => Out.fall (mk b)) B mB)
    (hr : ∀ b, SV X W pa (mk b) out rest (kk b)) : SV X W pa Γ out (.If c A B pos :: rest) (mc >>= fun b => (if b = true then mA else mB) >>= kk) := by
  unfold SV
  rw [bind_assoc]
  refine pss_imp (pss_cons (ps_if hc hA hB) (pss_ex hr)) fun Dn σ H h_ => EV.ex4 h_ fun G0 H0 G s E P => ⟨G0, H0, G, s, E, (P.bind E).imp fun G1 H1 b s1 x1 p1 P1 => ?_⟩
  have go : ∀ m : PM β, SPost X.K W X.mg pa G0 H0 Dn (((m >>= kk) >>= fun a => pure (out a)) s1) →
      svT X W pa Γ (m >>= fun b => pure (Out.fall (mk b))) { Dn with nx := fun σ H => ∃ z, svT X W pa (mk z) (kk z >>= fun a => pure (out a)) Dn σ H } σ H1 := fun m P => by
    refine EV.in4_2 G0 H0 G1 s1 (E.step x1 p1) ?_
    rw [bind_assoc, PM.bind_def] at P
    rw [PM.bind_def]
    cases e : m s1 with
    | ok a s2 =>
      rw [e] at P
      exact fun σ' G' H' E' => ⟨a, G0, H0, G', s2, E', P⟩
    | exc z => rw [e] at P; exact P
    | bad => rw [e] at P; exact P.elim
  cases b with
  | false => exact go mB P1
  | true => exact go mA P1
end
end EV
namespace EV
open PySem PySem.Spec PyProof.Rows L2
noncomputable def NF {α : Type} (out : α → Out) (m : PM α) : Prop := ∀ a s s' Γ', m s = .ok a s' → out a ≠ .fall Γ'
theorem nf_ret {α : Type} {out : α → Out} {inj : D → α} {m : PM D} (h : ∀ d, out (inj d) = .ret d) : NF out (m >>= fun d => pure (inj d)) := fun a s s' Γ' e q => by
  rw [PM.bind_def] at e
  cases h1 : m s with
  | ok d s1 =>
    rw [h1] at e
    cases e
    rw [h] at q
    cases q
  | exc z => rw [h1] at e; cases e
  | bad => rw [h1] at e; cases e
theorem nf_bad {α : Type} {out : α → Out} : NF out (bad : PM α) := fun a s s' Γ' e => by cases e
theorem nf_bind {α β : Type} {out : α → Out} {m : PM β} {f : β → PM α} (h : ∀ b, NF out (f b)) : NF out (m >>= f) := fun a s s' Γ' e => by
  rw [PM.bind_def] at e
  cases h1 : m s with
  | ok d s1 => rw [h1] at e; exact h d a s1 s' Γ' e
  | exc z => rw [h1] at e; cases e
  | bad => rw [h1] at e; cases e
theorem nf_ite {α : Type} {out : α → Out} {c : Prop} [Decidable c] {m n : PM α} (h : NF out m) (h' : NF out n) : NF out (if c then m else n) := by
  split <;> assumption
section
variable {K : PySem.W.Frag} {W : WX} {mg : Str → Option Value} {pa : Option Addr} {G0 H0 G1 H1 G H : Hp} {σ : L2.St} {Γ : List Sl} {s : List Int}
theorem Ext.base (x : Ext K pa G0 H0 G1 H1) : Ext K pa G1 H0 G1 H1 := ⟨Same.refl _, x.hh, x.t, fun a o e n => n, x.sub, x.tk, fun h => h⟩
theorem Ext.back (x : Ext K pa G0 H0 G1 H1) (y : Ext K pa G1 H0 G H) : Ext K pa G0 H0 G H := ⟨x.g.trans y.g, y.hh, y.t, fun a o e n => y.n a o e (x.n a o e n), y.sub, y.tk, fun h => y.gt (x.gt h)⟩
theorem Nv.base (E : Nv K pa G0 H0 G1 H1 σ Γ s) : Nv K pa G1 H0 G1 H1 σ Γ s := ⟨E.len, E.val, E.own, E.inj, E.pen, E.scr, E.ps, E.ext.base, E.x⟩
theorem Nv.back (x : Ext K pa G0 H0 G1 H1) (E : Nv K pa G1 H0 G H σ Γ s) : Nv K pa G0 H0 G H σ Γ s := ⟨E.len, E.val, E.own, E.inj, E.pen, E.scr, E.ps, x.back E.ext, E.x⟩
theorem SPost.base {Dn : Ends} {r : R Out} (x : Ext K pa G0 H0 G1 H1) (h : SPost K W mg pa G0 H0 Dn r) : SPost K W mg pa G1 H0 Dn r := by
  cases r with
  | ok o s =>
    cases o with
    | fall Γ' => exact fun σ' G' H' E => h σ' G' H' (E.back x)
    | ret d => exact fun v G' H' y p r => h v G' H' (x.back y) p r
    | brk Γ' => exact fun σ' G' H' E => h σ' G' H' (E.back x)
    | cnt Γ' => exact fun σ' G' H' E => h σ' G' H' (E.back x)
    | retG d Γ' => exact fun v σ' G' H' E r => h v σ' G' H' (E.back x) r
  | exc e => exact fun cls dx σ' G' H' y q => h cls dx σ' G' H' (x.back y) q
  | bad => exact h
end
inductive Lp (C : Type) where
  | go (c : C) | ret (d : D)
noncomputable def forS {ι C : Type} (dec : D → Option ι) (mb : C → ι → PM C) : List D → C → PM C
  | [], c => pure c
  | x :: xs, c => match dec x with
    | none => bad
    | some z => mb c z >>= forS dec mb xs
noncomputable def forL {ι C : Type} (dec : D → Option ι) (mb : C → ι → PM (Lp C)) : List D → C → PM (Lp C)
  | [], c => pure (.go c)
  | x :: xs, c => match dec x with
    | none => bad
    | some z => mb c z >>= fun r => match r with
      | .go c' => forL dec mb xs c'
      | .ret d => pure (.ret d)
noncomputable def lpOut {C : Type} (mk : C → List Sl) : Lp C → Out
  | .go c => .fall (mk c)
  | .ret d => .ret d
noncomputable def lpK {C α : Type} (inj : D → α) (kk : C → PM α) : Lp C → PM α
  | .go c => kk c
  | .ret d => pure (inj d)
section
variable {X : Cx} {W : WX} {pa : Option Addr} {Γ : List Sl} {k : Nat} {pos : Pos} {α : Type} {out : α → Out} {rest : List Stmt} {ι C : Type} {dec : D → Option ι} {tg iter : Expr} {body : List Stmt} {g : TG} {vs : List Nat} {mk : C → List Sl} {Γz : C → ι → List Sl} {mi : PM (List D)} {c0 : C}
theorem sv_forL {mb : C → ι → PM (Lp C)} {kk : C → PM α} {inj : D → α} (Cx : Cok X W k) (hi : EI X W pa Γ tg iter mi) (hp : PG X tg g) (hg : ∀ c, TgOk X pa dec g vs (mk c) (Γz c)) (w : Weak Γ (mk c0)) (hj : ∀ d, out (inj d) = .ret d)
    (hb : ∀ c z, SV X W pa (Γz c z) (lpOut mk) body (mb c z)) (hr : ∀ c, SV X W pa (mk c) out rest (kk c)) (hs : autoParam (∀ x, foldedSetIterable iter X.env x = pure x) EV.tac3) :
    SV X W pa Γ out (.For tg iter body [] pos :: rest) (mi >>= fun xs => forL dec mb xs c0 >>= lpK inj kk) := by
  have hbody : PSs X body (fun D σ H => ∃ p : C × ι, svT X W pa (Γz p.1 p.2) (mb p.1 p.2 >>= fun a => pure (lpOut mk a)) D σ H) := pss_ex (ι := C × ι) fun p => hb p.1 p.2
  unfold SV
  rw [bind_assoc]
  refine pss_imp (pss_cons (ps_for Cx.passes Cx.calm hi hp hbody hs) (pss_ex hr)) fun Dn σ H h_ => EV.ex4 h_ fun G0 H0 G s E P => ⟨G0, H0, G, s, E, (P.bind E).imp fun G1 H1 xs s1 x1 p1 P1 J hJ => ?_⟩
  have E1 := (E.step x1 p1).weak w
  have P1 : SPost X.K W X.mg pa G1 H0 Dn (((forL dec mb xs c0 >>= lpK inj kk) >>= fun a => pure (out a)) s1) := P1.base E1.ext
  have E1b : Nv X.K pa G1 H0 G1 H1 σ (mk c0) s1 := E1.base
  refine ⟨fun i m σ H => m = xs.length - i ∧ i ≤ xs.length ∧ ∃ G c s', Nv X.K pa G1 H0 G H σ (mk c) s' ∧ SPost X.K W X.mg pa G1 H0 Dn (((forL dec mb (xs.drop i) c >>= lpK inj kk) >>= fun a => pure (out a)) s'),
    ⟨xs.length, by simp, Nat.zero_le _, G1, c0, s1, E1b, by simpa using P1⟩, ?_⟩
  rintro i m σ2 H2 ⟨rfl, hi', G2, c, s2, E2, P2⟩
  have jk := hJ G2 H2 E2.ext.g E2.sub
  by_cases hlt : i < xs.length
  · obtain ⟨x, hx⟩ : ∃ x, xs[i]? = some x := ⟨_, List.getElem?_eq_getElem hlt⟩
    refine EV.el0_2 (jk.1 i x hx) fun hgo hyld => ?_
    have hdrop : xs.drop i = x :: xs.drop (i + 1) := by
      rw [List.drop_eq_getElem_cons hlt]
      congr 1
      rw [List.getElem?_eq_getElem hlt] at hx
      exact Option.some.inj hx
    rw [hdrop] at P2
    unfold forL at P2
    refine .inr ⟨hgo, fun σ H => ∃ G c s', Nv X.K pa G1 H0 G H σ (mk c) s' ∧ SPost X.K W X.mg pa G1 H0 Dn (((forL dec mb (xs.drop (i + 1)) c >>= lpK inj kk) >>= fun a => pure (out a)) s'), fun σ' H' q => ⟨_, Nat.sub_lt_sub_left (by assumption) (Nat.lt_succ_self i), rfl, hlt, q⟩, fun v H3 hy => ?_⟩
    refine EV.el1_2 (hyld v H3 hy) fun G3 x3 rv => ?_
    have p3 := E2.ps.ext x3
    have E3 := E2.step x3.any p3
    cases hd : dec x with
    | none => rw [hd] at P2; exact P2.elim
    | some z =>
      rw [hd] at P2
      dsimp only at P2
      refine hg c G1 H0 G3 H3 σ2 s2 v x z _ E3 rv hd fun σ4 E4 _ => ⟨(c, z), G1, H0, G3, s2, E4, ?_⟩
      rw [bind_assoc, bind_assoc, PM.bind_def] at P2
      rw [PM.bind_def]
      cases e : mb c z s2 with
      | ok r s5 =>
        rw [e] at P2
        dsimp only at P2
        cases r with
        | go c' => exact fun σ' G' H' E' => ⟨G', c', s5, E', by rw [bind_assoc]; exact P2⟩
        | ret d =>
          have P2 : SPost X.K W X.mg pa G1 H0 Dn ((((pure (.ret d) : PM (Lp C)) >>= lpK inj kk) >>= fun a => pure (out a)) s5) := by rw [bind_assoc]; exact P2
          rw [pure_bind] at P2
          have P2 : SPost X.K W X.mg pa G1 H0 Dn ((((pure (inj d)) : PM α) >>= fun a => pure (out a)) s5) := P2
          rw [pure_bind, hj] at P2
          exact P2
      | exc q => rw [e] at P2; exact P2
      | bad => rw [e] at P2; exact P2.elim
  · have e : i = xs.length := by exact EV.w_eq (by assumption) (by assumption)
    subst e
    rw [List.drop_length] at P2
    exact .inl ⟨jk.2 _ (Nat.le_refl _), c, G1, H0, G2, s2, E2, P2⟩
theorem sv_forS {mb : C → ι → PM C} {kk : C → PM α} (Cx : Cok X W k) (hi : EI X W pa Γ tg iter mi) (hp : PG X tg g) (hg : ∀ c, TgOk X pa dec g vs (mk c) (Γz c)) (w : Weak Γ (mk c0))
    (hb : ∀ c z, SV X W pa (Γz c z) (fun c => Out.fall (mk c)) body (mb c z)) (hr : ∀ c, SV X W pa (mk c) out rest (kk c)) (hs : autoParam (∀ x, foldedSetIterable iter X.env x = pure x) EV.tac3) :
    SV X W pa Γ out (.For tg iter body [] pos :: rest) (mi >>= fun xs => forS dec mb xs c0 >>= kk) := by
  have hbody : PSs X body (fun D σ H => ∃ p : C × ι, svT X W pa (Γz p.1 p.2) (mb p.1 p.2 >>= fun a => pure (Out.fall (mk a))) D σ H) := pss_ex (ι := C × ι) fun p => hb p.1 p.2
  unfold SV
  rw [bind_assoc]
  refine pss_imp (pss_cons (ps_for Cx.passes Cx.calm hi hp hbody hs) (pss_ex hr)) fun Dn σ H h_ => EV.ex4 h_ fun G0 H0 G s E P => ⟨G0, H0, G, s, E, (P.bind E).imp fun G1 H1 xs s1 x1 p1 P1 J hJ => ?_⟩
  have E1 := (E.step x1 p1).weak w
  have P1 : SPost X.K W X.mg pa G1 H0 Dn (((forS dec mb xs c0 >>= kk) >>= fun a => pure (out a)) s1) := P1.base E1.ext
  have E1b : Nv X.K pa G1 H0 G1 H1 σ (mk c0) s1 := E1.base
  refine ⟨fun i m σ H => m = xs.length - i ∧ i ≤ xs.length ∧ ∃ G c s', Nv X.K pa G1 H0 G H σ (mk c) s' ∧ SPost X.K W X.mg pa G1 H0 Dn (((forS dec mb (xs.drop i) c >>= kk) >>= fun a => pure (out a)) s'),
    ⟨xs.length, by simp, Nat.zero_le _, G1, c0, s1, E1b, by simpa using P1⟩, ?_⟩
  rintro i m σ2 H2 ⟨rfl, hi', G2, c, s2, E2, P2⟩
  have jk := hJ G2 H2 E2.ext.g E2.sub
  by_cases hlt : i < xs.length
  · obtain ⟨x, hx⟩ : ∃ x, xs[i]? = some x := ⟨_, List.getElem?_eq_getElem hlt⟩
    refine EV.el0_2 (jk.1 i x hx) fun hgo hyld => ?_
    have hdrop : xs.drop i = x :: xs.drop (i + 1) := by
      rw [List.drop_eq_getElem_cons hlt]
      congr 1
      rw [List.getElem?_eq_getElem hlt] at hx
      exact Option.some.inj hx
    rw [hdrop] at P2
    unfold forS at P2
    refine .inr ⟨hgo, fun σ H => ∃ G c s', Nv X.K pa G1 H0 G H σ (mk c) s' ∧ SPost X.K W X.mg pa G1 H0 Dn (((forS dec mb (xs.drop (i + 1)) c >>= kk) >>= fun a => pure (out a)) s'), fun σ' H' q => ⟨_, Nat.sub_lt_sub_left (by assumption) (Nat.lt_succ_self i), rfl, hlt, q⟩, fun v H3 hy => ?_⟩
    refine EV.el1_2 (hyld v H3 hy) fun G3 x3 rv => ?_
    have p3 := E2.ps.ext x3
    have E3 := E2.step x3.any p3
    cases hd : dec x with
    | none => rw [hd] at P2; exact P2.elim
    | some z =>
      rw [hd] at P2
      dsimp only at P2
      refine hg c G1 H0 G3 H3 σ2 s2 v x z _ E3 rv hd fun σ4 E4 _ => ⟨(c, z), G1, H0, G3, s2, E4, ?_⟩
      rw [bind_assoc, bind_assoc, PM.bind_def] at P2
      rw [PM.bind_def]
      cases e : mb c z s2 with
      | ok c' s5 =>
        rw [e] at P2
        dsimp only at P2
        exact fun σ' G' H' E' => ⟨G', c', s5, E', by rw [bind_assoc]; exact P2⟩
      | exc q => rw [e] at P2; exact P2
      | bad => rw [e] at P2; exact P2.elim
  · have e : i = xs.length := by exact EV.w_eq (by assumption) (by assumption)
    subst e
    rw [List.drop_length] at P2
    have P2 : SPost X.K W X.mg pa G1 H0 Dn ((((pure c : PM C) >>= kk) >>= fun a => pure (out a)) s2) := P2
    rw [pure_bind] at P2
    exact .inl ⟨jk.2 _ (Nat.le_refl _), c, G1, H0, G2, s2, E2, P2⟩
noncomputable def whileS {C : Type} (mc : C → PM Bool) (mb : C → PM C) : Nat → C → PM C
  | 0, _ => bad
  | n + 1, c => mc c >>= fun b => if b = true then mb c >>= whileS mc mb n else pure c
theorem sv_while (n : Nat) {cnd : Expr} {mc : C → PM Bool} {mb : C → PM C} {kk : C → PM α} (Cx : Cok X W k) (w : Weak Γ (mk c0)) (hc : ∀ c, EB X W pa (mk c) cnd (mc c)) (hb : ∀ c, SV X W pa (mk c) (fun c => Out.fall (mk c)) body (mb c)) (hr : ∀ c, SV X W pa (mk c) out rest (kk c)) :
    SV X W pa Γ out (.While cnd body [] pos :: rest) (whileS mc mb n c0 >>= kk) := by
  unfold SV
  rw [bind_assoc]
  have hcc : PT X cnd (fun σ H Q => ∃ c, evB X W pa (mk c) (mc c) σ H Q) := pt_ex hc
  have hbb : PSs X body (fun D σ H => ∃ c, svT X W pa (mk c) (mb c >>= fun a => pure (Out.fall (mk a))) D σ H) := pss_ex hb
  refine pss_imp (pss_cons (ps_while Cx.passes hcc hbb) (pss_ex hr)) fun Dn σ H h_ => EV.ex4 h_ fun G0 H0 G s E P => ?_
  refine EV.in1_2 (fun m σ H => ∃ G c s', Nv X.K pa G0 H0 G H σ (mk c) s' ∧ SPost X.K W X.mg pa G0 H0 Dn ((whileS mc mb m c >>= fun c => kk c >>= fun a => pure (out a)) s')) (⟨n, G, c0, s, E.weak w, P⟩) ?_
  rintro m σ1 H1 ⟨G1, c, s1, E1, P1⟩
  cases m with
  | zero => exact P1.elim
  | succ m =>
    unfold whileS at P1
    rw [bind_assoc] at P1
    refine EV.in5_2 c G0 H0 G1 s1 E1 ((P1.bind E1).imp fun G2 H2 b s2 x2 p2 P2 => ?_)
    have E2 := E1.step x2 p2
    cases b with
    | false =>
      have P2 : SPost X.K W X.mg pa G0 H0 Dn (((pure c : PM C) >>= fun c => kk c >>= fun a => pure (out a)) s2) := P2
      rw [pure_bind] at P2
      exact (show ∃ z, svT X W pa (mk z) (kk z >>= fun a => pure (out a)) Dn σ1 H2 from ⟨c, G0, H0, G2, s2, E2, P2⟩)
    | true =>
      have P2 : SPost X.K W X.mg pa G0 H0 Dn (((mb c >>= whileS mc mb m) >>= fun c => kk c >>= fun a => pure (out a)) s2) := P2
      refine (show ∃ N : L2.St → Hp → Prop, _ from ⟨fun σ H => ∃ G c s', Nv X.K pa G0 H0 G H σ (mk c) s' ∧ SPost X.K W X.mg pa G0 H0 Dn ((whileS mc mb m c >>= fun c => kk c >>= fun a => pure (out a)) s'), fun σ' H' q => ⟨m, Nat.lt_succ_self _, q⟩, c, G0, H0, G2, s2, E2, ?_⟩)
      rw [bind_assoc, PM.bind_def] at P2
      rw [PM.bind_def]
      cases e : mb c s2 with
      | ok c' s5 =>
        rw [e] at P2
        exact fun σ' G' H' E' => ⟨G', c', s5, E', P2⟩
      | exc q => rw [e] at P2; exact P2
      | bad => rw [e] at P2; exact P2.elim
end
end EV
namespace EV
open PySem PySem.Spec PyProof.Rows L2
section
variable {K : PySem.W.Frag} {pa : Option Addr} {G0 H0 G H : Hp} {σ : L2.St} {Γ : List Sl} {s : List Int}
theorem Nv.lt (E : Nv K pa G0 H0 G H σ Γ s) {i : Nat} {x : Sl} (h : Γ[i]? = some x) : i < Γ.length := (List.getElem?_eq_some_iff.mp h).1
/-- an own list seen as a value -/
theorem Nv.pubW (E : Nv K pa G0 H0 G H σ Γ s) {i : Nat} {xs : List D} (h : Γ[i]? = some (.own xs)) :
    ∃ p vs, σ[i]? = some (some (.ref p)) ∧ H p = some (.lst vs) ∧ G p = none ∧ RpL K G vs xs ∧ H0 p = none ∧ pa ≠ some p ∧ Nv K pa G0 H0 (upd G p (.lst vs)) H σ (Γ.set i (.val (.lst xs))) s := by
  refine EV.el2_6 (E.own i xs h) fun p vs h1 h2 h3 h4 h5 h6 => ?_
  have sg : Same G (upd G p (.lst vs)) := fun a o e => by
    rw [upd_ne (ne_of_none e h3)]
    exact e
  refine EV.in2_7 p vs h1 h2 h3 h4 h5 h6 ?_
  have hlt := E.lt h
  refine ⟨by simp [E.len], fun j d e => ?_, fun j ys e => ?_, fun j l q ys zs e1 e2 e3 e4 => ?_, fun j e => ?_, fun j ns e => ?_, fun q e => ?_, ?_, (E.x.pubL h2 h3).putG i rfl⟩
  · by_cases hj : i = j
    · subst hj
      rw [List.getElem?_set_self hlt] at e
      cases e
      exact EV.in1_2 _ h1 (.mkL upd_same (h4.mono sg))
    · rw [List.getElem?_set_ne hj] at e
      refine EV.el1_2 (E.val j d e) fun v q1 q2 => ?_
      exact EV.in1_2 v q1 (q2.mono sg)
  · by_cases hj : i = j
    · subst hj
      rw [List.getElem?_set_self hlt] at e
      cases e
    · rw [List.getElem?_set_ne hj] at e
      refine EV.el2_6 (E.own j ys e) fun q ws q1 q2 q3 q4 q5 q6 => ?_
      have : q ≠ p := fun z => by
        rw [z] at q1
        exact hj (E.inj i j p _ _ h e h1 q1)
      exact EV.in2_6 q ws q1 q2 (by rw [upd_ne this]; exact q3) (q4.mono sg) q5 q6
  · have n1 : i ≠ j := fun z => by
      subst z
      rw [List.getElem?_set_self hlt] at e1
      cases e1
    have n2 : i ≠ l := fun z => by
      subst z
      rw [List.getElem?_set_self hlt] at e2
      cases e2
    rw [List.getElem?_set_ne n1] at e1
    rw [List.getElem?_set_ne n2] at e2
    exact E.inj j l q ys zs e1 e2 e3 e4
  · have n1 : i ≠ j := fun z => by
      subst z
      rw [List.getElem?_set_self hlt] at e
      cases e
    rw [List.getElem?_set_ne n1] at e
    exact E.pen j e
  · have n1 : i ≠ j := fun z => by
      subst z
      rw [List.getElem?_set_self hlt] at e
      cases e
    rw [List.getElem?_set_ne n1] at e
    refine EV.el1_2 (E.scr j ns e) fun a q1 q2 => ?_
    exact EV.in1_2 a q1 (sg.seq q2)
  · refine EV.el0_2 (E.ps q e) fun q1 q2 => ?_
    have : q ≠ p := fun z => h6 (by rw [← z]; exact e)
    rw [upd_ne this]
    exact ⟨q1, q2⟩
  · refine ⟨E.ext.g.trans sg, E.ext.hh, E.ext.t, fun a o e n => ?_, fun a o e => ?_, E.ext.tk, fun h => (E.ext.gt h).upd (nt_lst _)⟩
    · rw [upd_ne (ne_of_none e h5)]
      exact E.ext.n a o e n
    · by_cases ha : a = p
      · subst ha
        rw [upd_same] at e
        rw [← e]
        exact h2
      · rw [upd_ne ha] at e
        exact E.sub a o e
/-- back from a peek -/
theorem unpeek {p : Addr} {vs : List V} {G' H' : Hp} (hG : G p = none) (hp : H p = some (.lst vs)) (x : Ext K pa (upd G p (.lst vs)) H G' H') :
    ∃ G'', Ext K pa G H G'' H' ∧ (∀ s, PenOk pa G' H' s → PenOk pa G'' H' s) := by
  refine ⟨fun a => if a = p then none else G' a, ⟨fun a o e => ?_, x.hh, x.t, fun a o e n => ?_, fun a o e => ?_, x.tk, fun h P ps e => by
    have e : (if P = p then none else G' P) = some (.tbl ps) := e
    by_cases z : P = p
    · rw [if_pos z] at e
      exact EV.nnS e
    · rw [if_neg z] at e
      exact x.gt (h.upd (nt_lst _)) P ps e⟩, fun s q a e => ?_⟩
  · have : a ≠ p := ne_of_none e hG
    show (if a = p then none else G' a) = some o
    rw [if_neg this]
    refine x.g a o ?_
    rw [upd_ne this]
    exact e
  · show (if a = p then none else G' a) = none
    by_cases ha : a = p
    · rw [if_pos ha]
    · rw [if_neg ha]
      exact x.n a o e (by rw [upd_ne ha]; exact n)
  · have e : (if a = p then none else G' a) = some o := e
    by_cases ha : a = p
    · rw [if_pos ha] at e
      exact EV.nnS e
    · rw [if_neg ha] at e
      exact x.sub a o e
  · refine EV.el0_2 (q a e) fun q1 q2 => ?_
    refine ⟨?_, q2⟩
    show (if a = p then none else G' a) = none
    by_cases ha : a = p
    · rw [if_pos ha]
    · rw [if_neg ha]
      exact q1
/-- an own list is changed -/
theorem Nv.mut (E : Nv K pa G0 H0 G H σ Γ s) {i : Nat} {xs : List D} {p : Addr} {vs : List V} {ys : List D} (h : Γ[i]? = some (.own xs)) (hp : σ[i]? = some (some (.ref p))) (r : RpL K G vs ys) :
    Nv K pa G0 H0 G (upd H p (.lst vs)) σ (Γ.set i (.own ys)) s := by
  refine EV.el2_6 (E.own i xs h) fun p' vs' h1 h2 h3 h4 h5 h6 => ?_
  rw [hp] at h1
  cases h1
  have hlt := E.lt h
  refine ⟨by simp [E.len], fun j d e => ?_, fun j zs e => ?_, fun j l q ys' zs e1 e2 e3 e4 => ?_, fun j e => ?_, fun j ns e => ?_, fun q e => ?_, ?_, (E.x.updL h2).putG i rfl⟩
  · by_cases hj : i = j
    · subst hj
      rw [List.getElem?_set_self hlt] at e
      cases e
    · rw [List.getElem?_set_ne hj] at e
      exact E.val j d e
  · by_cases hj : i = j
    · subst hj
      rw [List.getElem?_set_self hlt] at e
      cases e
      exact EV.in2_6 p vs hp upd_same h3 r h5 h6
    · rw [List.getElem?_set_ne hj] at e
      refine EV.el2_6 (E.own j zs e) fun q ws q1 q2 q3 q4 q5 q6 => ?_
      have : q ≠ p := fun z => by
        rw [z] at q1
        exact hj (E.inj i j p _ _ h e hp q1)
      exact EV.in2_6 q ws q1 (by rw [upd_ne this]; exact q2) q3 q4 q5 q6
  · have back : ∀ (m : Nat) zs, (Γ.set i (.own ys))[m]? = some (.own zs) → ∃ zs', Γ[m]? = some (.own zs') := fun m zs e => by
      by_cases hm : i = m
      · subst hm
        exact EV.in1_1 xs h
      · rw [List.getElem?_set_ne hm] at e
        exact EV.in1_1 zs e
    refine EV.el1_1 (back j ys' e1) fun z1 f1 => ?_
    refine EV.el1_1 (back l zs e2) fun z2 f2 => ?_
    exact E.inj j l q z1 z2 f1 f2 e3 e4
  · have n1 : i ≠ j := fun z => by
      subst z
      rw [List.getElem?_set_self hlt] at e
      cases e
    rw [List.getElem?_set_ne n1] at e
    exact E.pen j e
  · have n1 : i ≠ j := fun z => by
      subst z
      rw [List.getElem?_set_self hlt] at e
      cases e
    rw [List.getElem?_set_ne n1] at e
    exact E.scr j ns e
  · refine EV.el0_2 (E.ps q e) fun q1 q2 => ?_
    have : q ≠ p := fun z => h6 (by rw [← z]; exact e)
    rw [upd_ne this]
    exact ⟨q1, q2⟩
  · refine ⟨E.ext.g, fun a o e n nt => ?_, fun a o e => ?_, E.ext.n, fun a o e => ?_, fun h => (E.ext.tk h).updL h2, E.ext.gt⟩
    · rw [upd_ne (ne_of_none e h5)]
      exact E.ext.h a o e n nt
    · rw [upd_ne (ne_of_none e h5)]
      exact E.ext.t a o e
    · rw [upd_ne (ne_of_none e h3)]
      exact E.sub a o e
end
section
variable {X : Cx} {W : WX} {pa : Option Addr} {Γ : List Sl} {k : Nat} {pos : Pos} {α : Type} {out : α → Out} {rest : List Stmt}
theorem eb_peek (i : Nat) {xs : List D} {e : Expr} {m : PM Bool} (h : Γ[i]? = some (.own xs)) (he : EB X W pa (Γ.set i (.val (.lst xs))) e m) : EB X W pa Γ e (noExc m) :=
  pt_imp he fun σ H Q h_ => EV.ex4 h_ fun G0 H0 G s E P => by
    (refine EV.el2_4 (E.pubW h) fun p vs h1 h2 h3 q67_ => ?_; refine EV.el0_4 q67_ ?_; try clear q67_; intro h4 h5 h6 E')
    refine EV.in4_2 G0 H0 _ s E' ?_
    unfold noExc at P
    cases e : m s with
    | ok b s1 =>
      rw [e] at P
      intro G' H' x q
      refine EV.el1_2 (unpeek h3 h2 x) fun G'' y z => ?_
      exact P G'' H' y (z _ q)
    | exc z => rw [e] at P; exact P.elim
    | bad => rw [e] at P; exact P.elim
noncomputable def scalD : D → Bool
  | .non | .bl _ | .int _ | .str _ => true
  | _ => false
theorem Rp.scal {K : PySem.W.Frag} {G G' : Hp} {v : V} {d : D} (h : scalD d = true) (r : Rp K G v d) : Rp K G' v d := by
  cases r with
  | non => exact .non
  | bl b => exact .bl b
  | int b => exact .int b
  | str b => exact .str b
  | lst _ _ _ => exact EV.nnB h
  | tup _ _ _ => exact EV.nnB h
  | dct _ _ _ _ => exact EV.nnB h
  | obj _ _ _ _ => exact EV.nnB h
  | cls _ => exact EV.nnB h
theorem sv_pub (i : Nat) {xs : List D} {sts : List Stmt} {m : PM α} (h : Γ[i]? = some (.own xs)) (hr : SV X W pa (Γ.set i (.val (.lst xs))) out sts m) : SV X W pa Γ out sts m :=
  pss_imp hr fun Dn σ H h_ => EV.ex4 h_ fun G0 H0 G s E P => by
    (refine EV.el2_4 (E.pubW h) fun p vs h1 h2 h3 q68_ => ?_; refine EV.el0_4 q68_ ?_; try clear q68_; intro h4 h5 h6 E')
    exact EV.in4_2 G0 H0 _ s E' P
/-- nothing is said -/
theorem sv_bad {sts : List Stmt} : SV X W pa Γ out sts bad := pss_imp pss_never fun Dn σ H h_ => EV.ex4 h_ fun G0 H0 G s E P => P.elim
noncomputable def okLen (xs : List D) : PM Unit := if xs.length ≤ lim then pure () else bad
theorem okLen_ok {xs : List D} (h : xs.length ≤ lim) : okLen xs = pure () := if_pos h
theorem sv_append (i : Nat) {x : Str} {e : Expr} {xs : List D} {me : PM D} {kk : D → PM α} {p1 apos cpos : Pos} (h : Γ[i]? = some (.own xs)) (he : EV X W pa Γ e me) (hr : ∀ d, SV X W pa (Γ.set i (.own (xs ++ [d]))) out rest (kk d))
    (hN : autoParam (X.N[i]? = some x) EV.tac2) (hv : autoParam (Vis X.env.scope x) EV.tac7) (hd : autoParam ((x == ("__debug__" : Str)) = false) EV.tac1) (hcd : autoParam ((x == ("__classdict__" : Str)) = false) EV.tac1)
    (hbase : autoParam (attributeBase (.Name x p1) "append" X.env (eval (.Name x p1) X.env) = eval (.Name x p1) X.env) EV.tac2)
    (hfew : autoParam (((backTo cpos (starEach [e] X.env)).all (fun x => !x.1) && (backToKw cpos (keywordEach [] X.env)).all (fun x => x.1.isSome)
      && decide ([e].length + ([] : List Keyword).length + (if ([] : List Keyword).isEmpty then 0 else 1) < 30)) = true) EV.tac2)
    (hline : autoParam ((apos.endLine == cpos.line) = true) EV.tac2) (hs : autoParam (starEach [e] X.env = (false, eval e X.env) :: starEach [] X.env) EV.tac2) (hplain : autoParam ((backTo cpos (starEach [] X.env)).any (·.1) = false) EV.tac2)
    (hsw : autoParam (swapsWith (.Call (.Attribute (.Name x p1) "append" apos) [e] [] cpos) none pos.line X.env = pure false) EV.tac2) :
    SV X W pa Γ out (.Expr (.Call (.Attribute (.Name x p1) "append" apos) [e] [] cpos) pos :: rest) (me >>= fun d => okLen (xs ++ [d]) >>= fun _ => kk d) := by
  unfold SV
  rw [bind_assoc]
  refine pss_imp (pss_cons (ps_expr (pe_bm PySem.F.plainAttrs_list PySem.F.slot_list_append PySem.F.type_list_append mt_append (pe_var hN hv hd hcd) (pa_cons he pa_nil hs) hbase hfew hline hs hplain) hsw) (pss_ex hr)) fun Dn σ H h_ => EV.ex4 h_ fun G0 H0 G s E P => ?_
  refine EV.el2_6 (E.own i xs h) fun p vs h1 h2 h3 h4 h5 h6 => ?_
  refine ⟨.ref p, h1, .inl ⟨rfl, vs, SqL.of h2⟩, G0, H0, G, s, E, (P.bind E).imp fun G1 H1 d s1 x1 p1 P1 v r => ?_⟩
  have h2' := x1.h _ _ h2 h6
  by_cases hl : (xs ++ [d]).length ≤ lim
  · rw [okLen_ok hl, pure_bind] at P1
    have hv' : vs.length < sizeLine := by
      rw [h4.1]
      rw [List.length_append, List.length_singleton] at hl
      exact lim_lt (by exact Nat.le_of_lt (by assumption))
    have E1 := E.step x1 p1
    exact ⟨p, vs, v, rfl, rfl, h2', hv', d, G0, H0, G1, s1, E1.mut h h1 ((h4.mono x1.g).app (.cons r .nil)), P1⟩
  · unfold okLen at P1
    rw [if_neg hl] at P1
    exact P1.elim
noncomputable def scalL : D → PM (List D)
  | .lst ys => if ys.all scalD = true then pure ys else bad
  | _ => bad
theorem rpl_scal {K : PySem.W.Frag} {G G' : Hp} {vs : List V} {ds : List D} (h : ds.all scalD = true) (r : RpL K G vs ds) : RpL K G' vs ds :=
  ⟨r.1, fun i v d h1 h2 => (r.2 i v d h1 h2).scal (List.all_eq_true.mp h d (List.mem_of_getElem? h2))⟩
/-- x.extend(e), e looks at x; its items are numbers, texts -/
theorem sv_extendP (i : Nat) {x : Str} {e : Expr} {xs : List D} {me : PM D} {kk : List D → PM α} {p1 apos cpos : Pos} (h : Γ[i]? = some (.own xs)) (he : EV X W pa (Γ.set i (.val (.lst xs))) e me) (hr : ∀ ys, SV X W pa (Γ.set i (.own (xs ++ ys))) out rest (kk ys))
    (hN : autoParam (X.N[i]? = some x) EV.tac2) (hv : autoParam (Vis X.env.scope x) EV.tac7) (hd : autoParam ((x == ("__debug__" : Str)) = false) EV.tac1) (hcd : autoParam ((x == ("__classdict__" : Str)) = false) EV.tac1)
    (hbase : autoParam (attributeBase (.Name x p1) "extend" X.env (eval (.Name x p1) X.env) = eval (.Name x p1) X.env) EV.tac2)
    (hfew : autoParam (((backTo cpos (starEach [e] X.env)).all (fun x => !x.1) && (backToKw cpos (keywordEach [] X.env)).all (fun x => x.1.isSome)
      && decide ([e].length + ([] : List Keyword).length + (if ([] : List Keyword).isEmpty then 0 else 1) < 30)) = true) EV.tac2)
    (hline : autoParam ((apos.endLine == cpos.line) = true) EV.tac2) (hs : autoParam (starEach [e] X.env = (false, eval e X.env) :: starEach [] X.env) EV.tac2) (hplain : autoParam ((backTo cpos (starEach [] X.env)).any (·.1) = false) EV.tac2)
    (hsw : autoParam (swapsWith (.Call (.Attribute (.Name x p1) "extend" apos) [e] [] cpos) none pos.line X.env = pure false) EV.tac2) :
    SV X W pa Γ out (.Expr (.Call (.Attribute (.Name x p1) "extend" apos) [e] [] cpos) pos :: rest) (noExc me >>= scalL >>= fun ys => okLen (xs ++ ys) >>= fun _ => kk ys) := by
  unfold SV
  rw [bind_assoc, bind_assoc]
  refine pss_imp (pss_cons (ps_expr (pe_bm PySem.F.plainAttrs_list PySem.F.slot_list_extend PySem.F.type_list_extend mt_extend (pe_var hN hv hd hcd) (pa_cons he pa_nil hs) hbase hfew hline hs hplain) hsw) (pss_ex hr)) fun Dn σ H h_ => EV.ex4 h_ fun G0 H0 G s E P => ?_
  (refine EV.el2_4 (E.pubW h) fun p vs h1 h2 h3 q69_ => ?_; refine EV.el0_4 q69_ ?_; try clear q69_; intro h4 h5 h6 E')
  refine ⟨.ref p, h1, .inl ⟨rfl, vs, SqL.of h2⟩, G0, H0, _, s, E', ?_⟩
  rw [PM.bind_def] at P
  unfold noExc at P
  cases em : me s with
  | exc z => rw [em] at P; exact P.elim
  | bad => rw [em] at P; exact P.elim
  | ok d s1 =>
    rw [em] at P
    intro G1 H1 x1 p1 v r
    cases r with
    | @lst b zs ys hb n rr =>
      have P : SPost X.K W X.mg pa G0 H0 Dn (((if ys.all scalD = true then pure ys else bad : PM (List D)) >>= fun ys => (okLen (xs ++ ys) >>= fun _ => kk ys) >>= fun a => pure (out a)) s1) := P
      by_cases hsc : ys.all scalD = true
      · rw [if_pos hsc, pure_bind] at P
        by_cases hl : (xs ++ ys).length ≤ lim
        · rw [okLen_ok hl, pure_bind] at P
          refine EV.el1_2 (unpeek h3 h2 x1) fun G2 y2 z2 => ?_
          have h2' := x1.h _ _ h2 h6
          have E2 := E.step y2 (z2 _ p1)
          refine ⟨p, b, vs, zs, rfl, rfl, h2', x1.sub _ _ hb, ?_, ys, G0, H0, G2, s1, E2.mut h h1 ((h4.mono y2.g).app (rpl_scal hsc ⟨n, rr⟩)), P⟩
          rw [h4.1, n]
          rw [List.length_append] at hl
          exact lim_le hl
        · unfold okLen at P
          rw [if_neg hl] at P
          exact P.elim
      · rw [if_neg hsc] at P
        exact P.elim
    | _ => exact P.elim
noncomputable def FO (K : PySem.W.Frag) (Hb : Hp) (Q : VK) : Hp → Hp → List D → List Int → Prop := fun G' H' ds _ => ∀ p vs, Hb p = none → H' p = some (.lst vs) → G' p = none → RpL K G' vs ds → Q (.ref p) H'
noncomputable def evO (X : Cx) (W : WX) (pa : Option Addr) (Γ : List Sl) (m : PM (List D)) : TE := fun σ H Q => ∃ G0 H0 G s, Nv X.K pa G0 H0 G H σ Γ s ∧ Pst X.K W X.mg pa σ (FO X.K H Q) G H (m s)
noncomputable abbrev EO' (X : Cx) (W : WX) (pa : Option Addr) (Γ : List Sl) (e : Expr) (m : PM (List D)) : Prop := PE X e (evO X W pa Γ m)
noncomputable def okL (xs : List D) : PM (List D) := if xs.length ≤ lim then pure xs else bad
theorem eo_lst {es : List Expr} {ml : PM (List D)} (h : EL X W pa Γ es ml) : EO' X W pa Γ (.List es pos) (ml >>= okL) :=
  pe_imp (L2.pe_lst h) fun σ H Q h_ => EV.ex4 h_ fun G0 H0 G s E P => ⟨G0, H0, G, s, E, P.bind.imp fun G1 H1 ds s1 x1 p1 P1 vs r => by
    unfold okL at P1
    split at P1
    · rename_i hl
      refine ⟨by rw [r.1]; exact lim_le hl, fun p np => ?_⟩
      have hb : H p = none := by
        cases q : H p with
        | none => rfl
        | some o =>
          refine EV.el1_1 (x1.t p o q) fun o' z => ?_
          rw [np] at z
          exact EV.nnS z
      exact P1 G1 _ (Ext.newH x1.sub np _) (p1.updH np _) p vs hb upd_same (x1.sub.free np) r
    · exact P1.elim⟩
theorem sv_setO (i : Nat) {st : Stmt} {me : PM (List D)} {kk : List D → PM α} (he : PS X st (tAsg (evO X W pa Γ me) (gName i))) (hr : ∀ ds, SV X W pa (Γ.set i (.own ds)) out rest (kk ds)) :
    SV X W pa Γ out (st :: rest) (me >>= kk) := by
  unfold SV
  rw [bind_assoc]
  refine pss_imp (pss_cons he (pss_ex hr)) fun Dn σ H h_ => EV.ex4 h_ fun G0 H0 G s E P =>
    ⟨G0, H0, G, s, E, (P.bind E).imp fun G1 H1 ds s1 x1 p1 P1 p vs hb hp hg r => ⟨ds, G0, H0, G1, s1, ?_, P1⟩⟩
  have E1 := E.step x1 p1
  refine E1.setOwn i hp hg r ?_ (fun e => ?_) fun j ys hj e q => ?_
  · cases z : H0 p with
    | none => rfl
    | some o =>
      refine EV.el1_1 (E.ext.t p o z) fun o' z' => ?_
      rw [hb] at z'
      exact EV.nnS z'
  · have := (E.ps p e).2
    rw [hb] at this
    exact EV.nnS this
  · refine EV.el2_3 (E.own j ys e) fun p' vs' q1 q2 _ => ?_
    rw [q] at q1
    cases q1
    rw [hb] at q2
    exact EV.nnS q2
theorem sv_setV (i : Nat) {st : Stmt} {me : PM D} {kk : D → PM α} (he : PS X st (tAsg (evT X W pa Γ me) (gName i))) (hr : ∀ d, SV X W pa (Γ.set i (.val d)) out rest (kk d)) :
    SV X W pa Γ out (st :: rest) (me >>= kk) := by
  unfold SV
  rw [bind_assoc]
  exact pss_imp (pss_cons he (pss_ex hr)) fun Dn σ H h_ => EV.ex4 h_ fun G0 H0 G s E P =>
    ⟨G0, H0, G, s, E, (P.bind E).imp fun G1 H1 d s1 x1 p1 P1 v r => ⟨d, G0, H0, G1, s1, (E.step x1 p1).set i r, P1⟩⟩
theorem ps_imp {st : Stmt} {t t' : TS} (h : PS X st t) (i : ∀ Dn σ H, t' Dn σ H → t Dn σ H) : PS X st t' := ⟨fun pins s σ H D I q => h.run pins s σ H D I (i D σ H q)⟩
/-- y = [..] on one line, y a plain local: as a value, as a list of one's own -/
theorem ps_lcV {ι : Type} {i : Nat} {y : Str} {py spos : Pos} {elt tg iter : Expr} {ifs : List Expr} {scope : Scope} {own : List (Str × Nat)} {dec : D → Option ι} {mt : ι → PM Bool} {me : ι → PM D} {mi : PM (List D)} {g : TG} {Γz : ι → List Sl} (C : Cok X W k) (hy : X.N[i]? = some y) (hyl : X.env.scope.names.lookup y = some .local)
    (hsw : swapsWith (.ListComp elt [⟨tg, iter, ifs, 0⟩] scope pos) (some (.Name y py)) spos.line X.env = pure true) (hi : EI X W pa Γ tg iter mi) (ok : BlkOk X.N X.env.scope scope own)
    (hg : TgOk X pa dec g (own.map (·.2)) (wipeG Γ (own.map (·.2))) Γz)
    (hp : ∀ (s : Shared) (H : Hp) (C : Addr) (cl : List (Str × Addr)) (fp : List Addr), PG (X.blk s H scope (compEnvC scope cl C X.env) fp) tg g)
    (ht : ∀ (z : ι) (s : Shared) (H : Hp) (C : Addr) (cl : List (Str × Addr)) (fp : List Addr), ETs (X.blk s H scope (compEnvC scope cl C X.env) fp) W0 pa (Γz z) ifs (mt z))
    (he : ∀ (z : ι) (s : Shared) (H : Hp) (C : Addr) (cl : List (Str × Addr)) (fp : List Addr), EV (X.blk s H scope (compEnvC scope cl C X.env) fp) W0 pa (Γz z) elt (me z))
    (hs : autoParam (∀ x, foldedSetIterable iter X.env x = pure x) EV.tac3) :
    PS X (.Assign [.Name y py] (.ListComp elt [⟨tg, iter, ifs, 0⟩] scope pos) spos) (tAsg (evT X W pa Γ (mi >>= fun xs => compL dec mt me xs >>= fun r => pure (.lst r))) (gName i)) :=
  ps_imp (ps_setLc C.calm C.nd hy hyl hsw hi ok hp (fun s H C cl fp => pts_ex fun z => ht z s H C cl fp) (fun s H C cl fp => pe_ex fun z => he z s H C cl fp) hs) fun Dn σ H h => lc_read hg σ H _ h
/-- y = [..], y a name that is captured -/
theorem ps_o {i : Nat} {x : Str} {e : Expr} {pos' : Pos} {me : PM (List D)} (hN : X.N.Nodup) (he : EO' X W pa Γ e me) (hi : autoParam (X.N[i]? = some x) EV.tac2) (hx : autoParam (Loc X.env.scope x) EV.tac5)
    (hs : autoParam (swapsWith e (some (.Name x pos')) pos.line X.env = pure false) EV.tac2) (hf : autoParam (X.fn x = true ∨ X.env.scope.names.lookup x = some .local) EV.tac6) :
    PS X (.Assign [.Name x pos'] e pos) (tAsg (evO X W pa Γ me) (gName i)) := ps_set hN hi hx he hs hf
noncomputable def penSet (i : D) (d : D) : PM Unit := match i, d with
  | .int i, .int n => fun s => match ixN s.length i with
    | some j => .ok () (s.set j n)
    | none => .bad
  | _, _ => bad
theorem atI_map {α β : Type} (g : α → β) (xs : List α) (i : Int) : atI (xs.map g) i = (atI xs i).map g := by
  unfold atI
  rw [List.length_map]
  cases ixN xs.length i with
  | none => rfl
  | some j => simp
end
end EV
namespace EV
open PySem PySem.Spec PyProof.Rows L2
section
variable {P : Program} {w : World} {K : PySem.W.Frag} {mg : Str → Option Value} {base : Heap}
theorem fnG_of {x qual : Str} {st : Stmt} {f : Addr} {fd : FuncData} {N ps : List Str} {k : Nat} {sp : Sp} (F : Fun K x qual st f fd) (S : FnScope N ps (defScope st)) (len : ∀ vs H Q E, sp vs H Q E → vs.length = ps.length)
    (hbody : ∀ (cdv : Value), fd.code = cdv → ∀ (A : Around) (outer : List PySem.Env) (s : Shared) (H : Hp) (vs : List V) (Q : VK) (E : XK), (32 ≤ k → A.guards = some []) → Room k (A.deeper (envOfC qual (defScope st) s.heap.objs.size f cdv)) → sp vs H Q E →
      ∃ t, PSs (cxOf (L2.CX P w) P w K mg base N qual (defScope st) f cdv A outer s H E) (defBody st) t ∧ t { nx := fun _ H' => Q .non H', rt := Q } (start N vs) H) :
    FnG P w K mg base (k + 1) f fd ps sp := by
  (refine EV.el4_1 (F.ex) fun oc od kV doc q72_ => ?_; refine EV.el5_2 q72_ ?_; try clear q72_; intro pm an cdv ct osl q70_ q71_; obtain rfl := q70_; (refine EV.el0_2 q71_ ?_; try clear q71_; intro lk hcd))
  refine ⟨len, fun A outer s H args us vs Q E hgu hr e0 hb r hsp => ?_⟩
  have hl := len _ _ _ _ hsp
  have KX : K.In s.heap := e0.mod.kin.keeps fun b o e => (e0.bs b o e).1
  have lim : s.heap.NoLimit := e0.mod.nolimit.keeps fun b o e => (e0.bs b o e).1
  have hkind : ∀ y ∈ ps.zip us, (defScope st).names.lookup y.1 = some .local ∨ ((defScope st).names.lookup y.1 = some .cell ∧ ((cellsFrom (s.heap.objs.size + 1) (defScope st).names []).lookup y.1).isSome = true) := by
    intro y hy
    obtain ⟨n, v⟩ := y
    rcases S.par n (List.of_mem_zip hy).1 with q | q
    · exact .inl q
    · exact .inr ⟨q, PySem.W.cellsFrom_some _ _ _ (.inl q)⟩
  refine codeAny_call_function hr.depth (KX _ _ lk) rfl S.co S.gen rfl (PySem.W.codeRec_of KX hcd) (hb _ _ _ _ ?_)
  refine wpAny_newFunctionEnv_cells S.kind hkind fun env he s1 x => ?_
  subst he
  refine ⟨lim.keeps x.toInCall.keep, codeAny_func ?_⟩
  refine EV.el1_2 (hbody cdv rfl A outer s H vs Q E (fun q => hgu (Nat.le_succ_of_le q)) (hr.deeper _) hsp) fun t ht hq => ?_
  have I : Inv (cxOf (L2.CX P w) P w K mg base N qual (defScope st) f cdv A outer s H E) [] (start N vs) H s1 := inv_start S hr.hd e0 hl r x
  refine wpAny_mono (ht.run [] s1 (start N vs) H _ I hq) (fun fl s' hs => ?_) fun e s' hs => hs
  cases fl with
  | ret u =>
    (refine EV.el3_3 hs ?_; try clear hs; intro v σ' H' J rv q)
    exact EV.in2_6 v H' (J.os) (J.bare) (J.base) (J.hok) rv q
  | next =>
    (refine EV.el2_2 hs ?_; try clear hs; intro σ' H' J q)
    exact EV.in2_6 (V.non) H' (J.os) (J.bare) (J.base) (J.hok) rfl q
  | brk =>
    (refine EV.el2_2 hs ?_; try clear hs; intro _ _ _ q)
    exact q.elim
  | cont =>
    (refine EV.el2_2 hs ?_; try clear hs; intro _ _ _ q)
    exact q.elim
/-- the context of a def's body -/
theorem cok_fn {N : List Str} {qual : Str} {scope : Scope} {f : Addr} {cdv : Value} {A : Around} {outer : List PySem.Env} {s : Shared} {H : Hp} {E : XK} {k : Nat} (nd : N.Nodup) (hg : 32 ≤ k → A.guards = some []) (hr : Room k (A.deeper (envOfC qual scope s.heap.objs.size f cdv))) :
    Cok (cxOf (L2.CX P w) P w K mg base N qual scope f cdv A outer s H E) (fun cls d _ H => E cls d H) k where
  calm := rfl
  nd := nd
  takes := takes_of rfl rfl rfl rfl
  room := hr
  guards := hg
  passes := passes_of rfl
end
section
variable {K : PySem.W.Frag} {W : WX} {mg : Str → Option Value} {G H : Hp} {s : List Int} {N : List Str} {vs : List V} {ds : List D}
theorem start_get {vs : List V} {i : Nat} {v : V} (h : vs[i]? = some v) : (start N vs)[i]? = some (some v) := by
  have hi := (List.getElem?_eq_some_iff.mp h).1
  unfold L2.start
  rw [List.getElem?_append_left (by simpa using hi), List.getElem?_map, h]
  rfl
theorem start_len {vs : List V} (h : vs.length ≤ N.length) : (start N vs).length = N.length := by
  unfold L2.start
  rw [List.length_append, List.length_map, List.length_replicate]
  omega
theorem get_vals {l : List Sl} {m i : Nat} {x : Sl} (h : (l ++ List.replicate m Sl.junk)[i]? = some x) (hx : x ≠ .junk) : l[i]? = some x := by
  by_cases hi : i < l.length
  · rwa [List.getElem?_append_left hi] at h
  · rw [List.getElem?_append_right (by exact Nat.not_lt.mp (by assumption)), List.getElem?_replicate] at h
    split at h
    · obtain rfl := Option.some.inj h
      exact absurd rfl hx
    · exact EV.nnS h
noncomputable def slots0 (N : List Str) (ds : List D) : List Sl := ds.map .val ++ List.replicate (N.length - ds.length) .junk
noncomputable def slotsS (N : List Str) (ns : List Int) (ds : List D) : List Sl := (.scr ns :: ds.map .val) ++ List.replicate (N.length - (ds.length + 1)) .junk
theorem plain0 (l : List D) (m : Nat) : ∀ z ∈ l.map Sl.val ++ List.replicate m Sl.junk, plainS z = true := fun z h => by
  rcases List.mem_append.mp h with h | h
  · (refine EV.el1_2 (List.mem_map.mp h) fun d _ q73_ => ?_; obtain rfl := q73_)
    rfl
  · rw [List.eq_of_mem_replicate h]
    rfl
theorem nv_start0 (hs : Same G H ∧ TabK K H ∧ NoT G) (r : RpL K G vs ds) (hn : vs.length ≤ N.length) : Nv K none G H G H (start N vs) (slots0 N ds) s where
  len := by
    rw [start_len hn]
    unfold slots0
    have := r.1
    simp
    omega
  val := fun i d e => by
    have e := get_vals e (fun z => by cases z)
    rw [List.getElem?_map] at e
    cases q : ds[i]? with
    | none => rw [q] at e; exact EV.nnS e
    | some d' =>
      rw [q] at e
      cases e
      refine EV.el1_2 (r.get q) fun v h1 h2 => ?_
      exact EV.in1_2 v (start_get h1) h2
  own := fun i xs e => by
    have e := get_vals e (fun z => by cases z)
    rw [List.getElem?_map] at e
    cases q : ds[i]? <;> rw [q] at e <;> cases e
  inj := fun i j p xs ys e => by
    have e := get_vals e (fun z => by cases z)
    rw [List.getElem?_map] at e
    cases q : ds[i]? <;> rw [q] at e <;> cases e
  pen := fun i e => by
    have e := get_vals e (fun z => by cases z)
    rw [List.getElem?_map] at e
    cases q : ds[i]? <;> rw [q] at e <;> cases e
  scr := fun i ns e => by
    have e := get_vals e (fun z => by cases z)
    rw [List.getElem?_map] at e
    cases q : ds[i]? <;> rw [q] at e <;> cases e
  ps := PenOk.none
  ext := Ext.refl hs.1
  x := NvX.none (plain0 ds _) hs.2.1 hs.2.2
theorem nv_startS {a : Addr} {ns : List Int} (hs : Same G H ∧ TabK K H ∧ NoT G) (hq : SqL K G a (ns.map V.int)) (r : RpL K G vs ds) (hn : vs.length + 1 ≤ N.length) : Nv K none G H G H (start N (.ref a :: vs)) (slotsS N ns ds) s where
  len := by
    rw [start_len (by simpa using hn)]
    unfold slotsS
    have := r.1
    simp
    omega
  val := fun i d e => by
    have e := get_vals e (fun z => by cases z)
    cases i with
    | zero => cases e
    | succ i =>
      rw [List.getElem?_cons_succ, List.getElem?_map] at e
      cases q : ds[i]? with
      | none => rw [q] at e; exact EV.nnS e
      | some d' =>
        rw [q] at e
        cases e
        refine EV.el1_2 (r.get q) fun v h1 h2 => ?_
        exact EV.in1_2 v (start_get (by simpa using h1)) h2
  own := fun i xs e => by
    have e := get_vals e (fun z => by cases z)
    cases i with
    | zero => cases e
    | succ i =>
      rw [List.getElem?_cons_succ, List.getElem?_map] at e
      cases q : ds[i]? <;> rw [q] at e <;> cases e
  inj := fun i j p xs ys e => by
    have e := get_vals e (fun z => by cases z)
    cases i with
    | zero => cases e
    | succ i =>
      rw [List.getElem?_cons_succ, List.getElem?_map] at e
      cases q : ds[i]? <;> rw [q] at e <;> cases e
  pen := fun i e => by
    have e := get_vals e (fun z => by cases z)
    cases i with
    | zero => cases e
    | succ i =>
      rw [List.getElem?_cons_succ, List.getElem?_map] at e
      cases q : ds[i]? <;> rw [q] at e <;> cases e
  scr := fun i ns' e => by
    have e := get_vals e (fun z => by cases z)
    cases i with
    | zero =>
      cases e
      exact EV.in1_2 a (start_get rfl) hq
    | succ i =>
      rw [List.getElem?_cons_succ, List.getElem?_map] at e
      cases q : ds[i]? <;> rw [q] at e <;> cases e
  ps := PenOk.none
  ext := Ext.refl hs.1
  x := NvX.none (fun z h => by
    rcases List.mem_cons.mp h with rfl | h
    · rfl
    · exact plain0 ds _ z h) hs.2.1 hs.2.2
noncomputable def outD : Out → PM D
  | .ret d => pure d
  | .fall _ => pure .non
  | _ => bad
theorem spost_fn {α : Type} {out : α → Out} {m : PM α} {pa : Option Addr} {Q : VK} {E : XK} (h : Pst K (fun cls dx _ H' => E cls dx H') mg pa [] (FD K Q) G H ((m >>= fun a => outD (out a)) s)) :
    SPost K (fun cls d _ H => E cls d H) mg pa G H { nx := fun _ H' => Q .non H', rt := Q } ((m >>= fun a => pure (out a)) s) := by
  rw [PM.bind_def] at h ⊢
  cases e : m s with
  | ok a s1 =>
    rw [e] at h
    have h : Pst K (fun cls dx _ H' => E cls dx H') mg pa [] (FD K Q) G H (outD (out a) s1) := h
    show SPost K _ mg pa G H _ (.ok (out a) s1)
    cases q : out a with
    | fall Γ' =>
      rw [q] at h
      exact fun σ' G' H' E' => h G' H' E'.ext E'.ps _ .non
    | ret d =>
      rw [q] at h
      exact fun v G' H' x p r => h G' H' x p v r
    | brk Γ' => rw [q] at h; exact h.elim
    | cnt Γ' => rw [q] at h; exact h.elim
    | retG d Γ' => rw [q] at h; exact h.elim
  | exc z =>
    rw [e] at h
    exact fun cls dx σ' G' H' x q => h cls dx G' H' x q
  | bad => rw [e] at h; exact h.elim
end
section
variable {P : Program} {w : World} {K : PySem.W.Frag} {mg : Str → Option Value} {base : Heap} {x qual : Str} {st : Stmt} {f : Addr} {fd : FuncData} {N ps : List Str} {k n : Nat}
theorem scope_le {sc : Scope} (S : FnScope N ps sc) : ps.length ≤ N.length := by
  have := congrArg List.length S.pre
  rw [List.length_take] at this
  omega
/-- a def without a pen -/
theorem fn_pure {F : List D → PM D} (FU : Fun K x qual st f fd) (S : FnScope N ps (defScope st)) (hps : ps.length = n)
    (hb : ∀ (cdv : Value) (A : Around) (outer : List PySem.Env) (s : Shared) (H : Hp) (E : XK), Cok (cxOf (L2.CX P w) P w K mg base N qual (defScope st) f cdv A outer s H E) (fun cls d _ H => E cls d H) k → ∀ ds : List D, ds.length = n →
      ∃ (α : Type) (out : α → Out) (m : PM α), SV (cxOf (L2.CX P w) P w K mg base N qual (defScope st) f cdv A outer s H E) (fun cls d _ H => E cls d H) none (slots0 N ds) out (defBody st) m ∧ F ds = (m >>= fun a => outD (out a))) :
    FnG P w K mg base (k + 1) f fd ps (spF K mg false n F) := by
  refine fnG_of FU S (fun vs H Q E h => ?_) fun cdv _ A outer s H vs Q E hg hr h => ?_
  · (refine EV.el5_3 h ?_; try clear h; intro pa G s vs' ds hpa q74_ q75_; obtain rfl := q74_; (refine EV.el0_5 q75_ ?_; try clear q75_; intro _ _ r hn _))
    cases pa with
    | some _ => exact EV.nnB (Eq.symm hpa)
    | none => rw [show (Option.toList (none : Option Addr)).map V.ref ++ vs' = vs' from rfl, r.1, hn, hps]
  · (refine EV.el5_3 h ?_; try clear h; intro pa G s' vs' ds hpa q76_ q77_; obtain rfl := q76_; (refine EV.el0_5 q77_ ?_; try clear q77_; intro hs hp r hn hP))
    cases pa with
    | some _ => exact EV.nnB (Eq.symm hpa)
    | none =>
      obtain ⟨α, out, m, sv, e⟩ := hb cdv A outer s H E (cok_fn S.nd hg hr) ds hn
      rw [e] at hP
      exact ⟨_, sv, G, H, G, s', nv_start0 hs r (by show vs'.length ≤ _; rw [r.1, hn, ← hps]; exact scope_le S), spost_fn hP⟩
/-- a def of the script -/
noncomputable def spS (K : PySem.W.Frag) (mg : Str → Option Value) (n : Nat) (f : List Int → List D → PM D) : Sp := fun vs H Q E => ∃ (a : Addr) (ns : List Int) (G : Hp) (vs' : List V) (ds : List D),
  vs = .ref a :: vs' ∧ (Same G H ∧ TabK K H ∧ NoT G) ∧ SqL K G a (ns.map V.int) ∧ RpL K G vs' ds ∧ ds.length = n ∧ Pst K (fun cls dx _ H' => E cls dx H') mg none [] (FD K Q) G H (f ns ds [])
theorem fn_scr {F : List Int → List D → PM D} (FU : Fun K x qual st f fd) (S : FnScope N ps (defScope st)) (hps : ps.length = n + 1)
    (hb : ∀ (cdv : Value) (A : Around) (outer : List PySem.Env) (s : Shared) (H : Hp) (E : XK), Cok (cxOf (L2.CX P w) P w K mg base N qual (defScope st) f cdv A outer s H E) (fun cls d _ H => E cls d H) k → ∀ (ns : List Int) (ds : List D), ds.length = n →
      ∃ (α : Type) (out : α → Out) (m : PM α), SV (cxOf (L2.CX P w) P w K mg base N qual (defScope st) f cdv A outer s H E) (fun cls d _ H => E cls d H) none (slotsS N ns ds) out (defBody st) m ∧ F ns ds = (m >>= fun a => outD (out a))) :
    FnG P w K mg base (k + 1) f fd ps (spS K mg n F) := by
  refine fnG_of FU S (fun vs H Q E h => ?_) fun cdv _ A outer s H vs Q E hg hr h => ?_
  · (refine EV.el5_2 h ?_; try clear h; intro a ns G vs' ds q78_ q79_; obtain rfl := q78_; (refine EV.el0_5 q79_ ?_; try clear q79_; intro _ _ r hn _))
    show vs'.length + 1 = _
    rw [r.1, hn, hps]
  · (refine EV.el5_2 h ?_; try clear h; intro a ns G vs' ds q80_ q81_; obtain rfl := q80_; (refine EV.el0_5 q81_ ?_; try clear q81_; intro hs hq r hn hP))
    obtain ⟨α, out, m, sv, e⟩ := hb cdv A outer s H E (cok_fn S.nd hg hr) ns ds hn
    rw [e] at hP
    exact ⟨_, sv, G, H, G, [], nv_startS hs hq r (by rw [r.1, hn, ← hps]; exact scope_le S), spost_fn hP⟩
end
end EV
namespace EV
open PySem PySem.Spec PyProof.Rows L2
section
variable {X : Cx} {W : WX} {pa : Option Addr} {Γ : List Sl} {k : Nat} {pos : Pos} {α : Type} {out : α → Out} {rest : List Stmt} {f : Addr} {fd : FuncData} {ps : List Str} {n : Nat} {x : Str} {p : Pos}
theorem ev_lenScr {i : Nat} {y : Str} {ns : List Int} {p2 : Pos} (hg : Gl X "len") (hm : X.mg "len" = none) (hΓ : Γ[i]? = some (.scr ns)) (hN : X.N[i]? = some y) (hv : Vis X.env.scope y)
    (hs : autoParam (starEach [.Name y p2] X.env = (false, eval (.Name y p2) X.env) :: starEach [] X.env) EV.tac2) (hpl : autoParam ((backTo pos (starEach [] X.env)).any (·.1) = false) EV.tac2) (hd : autoParam ((y == ("__debug__" : Str)) = false) EV.tac1) (hcd : autoParam ((y == ("__classdict__" : Str)) = false) EV.tac1) :
    EV X W pa Γ (.Call (.Name "len" p) [.Name y p2] [] pos) (pure (.int ns.length)) :=
  pe_imp (pe_callB call_len_seq hg hm PySem.boot_len (pa_cons (pe_var hN hv hd hcd) pa_nil hs) (by decide) (by decide) hs hpl) fun σ H Q h_ => EV.ex4 h_ fun G0 H0 G s E P => by
    refine EV.el1_2 (E.scr i ns hΓ) fun a h1 h2 => ?_
    refine ⟨.ref a, h1, a, ns.map V.int, rfl, .inl (E.sub.seq h2), ?_⟩
    rw [List.length_map]
    exact P.now E.sub E.ps _ (.int _)
noncomputable def scrGet (ns : List Int) : D → PM D
  | .int i => match atI ns i with
    | some m => pure (.int m)
    | none => bad
  | _ => bad
theorem ev_scr {i : Nat} {y : Str} {ns : List Int} {b : Expr} {p2 : Pos} {mb : PM D} (hΓ : Γ[i]? = some (.scr ns)) (hN : X.N[i]? = some y) (hv : Vis X.env.scope y) (hb : EV X W pa Γ b mb) (hs : PlainIx b) (hd : autoParam ((y == ("__debug__" : Str)) = false) EV.tac1) (hcd : autoParam ((y == ("__classdict__" : Str)) = false) EV.tac1) :
    EV X W pa Γ (.Subscript (.Name y p2) b pos) (mb >>= scrGet ns) := pe_imp (pe_ix ix_list (pe_var hN hv hd hcd) hb hs) fun σ H Q h_ => EV.ex4 h_ fun G0 H0 G s E P => by
  refine EV.el1_2 (E.scr i ns hΓ) fun a e2 h2 => ?_
  refine ⟨.ref a, e2, G0, H0, G, s, E, P.bind.imp fun G1 H1 d s1 x1 p1 P1 v r => ?_⟩
  cases r with
  | int j =>
    have P1 : Pst X.K W X.mg pa σ (FD X.K Q) G1 H1 ((match atI ns j with | some m => pure (.int m) | none => bad : PM D) s1) := P1
    cases e : atI ns j with
    | none => rw [e] at P1; exact P1.elim
    | some m =>
      rw [e] at P1
      exact EV.in4_5 a (ns.map V.int) j (.int m) rfl rfl ((x1.g.trans x1.sub).seq h2) (by rw [atI_map, e]; rfl) (P1.now x1.sub p1 _ (.int m))
  | _ => exact P1.elim
/-- f(script, e, ..) -/
theorem ev_callS {F : List Int → List D → PM D} {i : Nat} {y : Str} {ns : List Int} {p2 : Pos} {es : List Expr} {ml : PM (List D)} (C : Cok X W k) (FG : FnG X.prog X.w X.K X.mg X.base k f fd ps (spS X.K X.mg n F)) (ar : ∀ ns, Arity n (F ns)) (hg : Gl X x) (hm : X.mg x = some (.ref f)) (hk : PySem.W.keepIn X.K (.ref f) = true) (hb : Binds X.K fd ps [])
    (hΓ : Γ[i]? = some (.scr ns)) (hN : X.N[i]? = some y) (hv : Vis X.env.scope y) (ha : EL X W pa Γ es ml) (hdb : autoParam ((x == ("__debug__" : Str)) = false) EV.tac1)
    (he : autoParam (starEach (.Name y p2 :: es) X.env = (false, eval (.Name y p2) X.env) :: starEach es X.env) EV.tac2) (hpl : autoParam ((backTo pos (starEach es X.env)).any (·.1) = false) EV.tac2)
    (hd : autoParam ((y == ("__debug__" : Str)) = false) EV.tac1) (hcd : autoParam ((y == ("__classdict__" : Str)) = false) EV.tac1) :
    EV X W pa Γ (.Call (.Name x p) (.Name y p2 :: es) [] pos) (ml >>= fun ds => run0 (F ns ds)) :=
  pe_imp (pe_callG C FG hg hm hk hb (pa_cons (pe_var hN hv hd hcd) ha he) hdb he hpl) fun σ H Q h_ => EV.ex4 h_ fun G0 H0 G s E P => by
    refine EV.el1_2 (E.scr i ns hΓ) fun a e2 h2 => ?_
    exact ⟨.ref a, e2, G0, H0, G, s, E, P.bind.imp fun G1 H1 ds s1 x1 p1 P1 vs r => ⟨a, ns, G1, vs, ds, rfl, ⟨x1.sub, x1.tk E.tk, x1.gt E.x.nt⟩, x1.g.seq h2, r, run0_len (ar ns) P1, pst_run0 p1 P1⟩⟩
noncomputable def two {β : Type} (kk : D → D → PM β) : List D → PM β
  | [a, b] => kk a b
  | _ => bad
noncomputable def unp2 {β : Type} (kk : D → D → PM β) (d : D) : PM β := match dec2 d with
  | some z => kk z.1 z.2
  | none => bad
/-- a, b = e1, e2, plain locals -/
theorem sv_par (i j : Nat) {y z : Str} {a b : Expr} {px py pt : Pos} {kt k2 pt2} {ml : PM (List D)} {kk : D → D → PM α} (hc : X.calm = true) (hN : X.N.Nodup) (ha : EL X W pa Γ [a, b] ml) (hij : i ≠ j)
    (hr : ∀ u v, SV X W pa ((Γ.set i (.val u)).set j (.val v)) out rest (kk u v)) (hi : autoParam (X.N[i]? = some y) EV.tac2) (hj : autoParam (X.N[j]? = some z) EV.tac2)
    (hx : autoParam (X.env.scope.names.lookup y = some .local) EV.tac2) (hy : autoParam (X.env.scope.names.lookup z = some .local) EV.tac2)
    (hw : autoParam (swappedStores [.Tuple [.Name y px, .Name z py] kt pt] (.Tuple [a, b] k2 pt2) X.env = pure (some [y, z])) EV.tac2)
    (hs : autoParam (swapsWithSole [.Tuple [.Name y px, .Name z py] kt pt] (.Tuple [a, b] k2 pt2) pos.line X.env = pure false) EV.tac2) :
    SV X W pa Γ out (.Assign [.Tuple [.Name y px, .Name z py] kt pt] (.Tuple [a, b] k2 pt2) pos :: rest) (ml >>= two kk) := by
  unfold SV
  rw [bind_assoc]
  have hrest : PSs X rest (fun D σ H => ∃ q : EV.D × EV.D, svT X W pa ((Γ.set i (.val q.1)).set j (.val q.2)) (kk q.1 q.2 >>= fun a => pure (out a)) D σ H) := pss_ex (ι := EV.D × EV.D) fun q => hr q.1 q.2
  refine pss_imp (pss_cons (ps_par (i := i) (j := j) hc hN hi hj hij hx hy ha hw hs) hrest) fun Dn σ H h_ => EV.ex4 h_ fun G0 H0 G s E P => ⟨G0, H0, G, s, E, (P.bind E).imp fun G1 H1 ds s1 x1 p1 P1 vs r => ?_⟩
  match ds, r, P1 with
  | [u, v], r, P1 =>
    (refine EV.el2_2 (rp2 r) fun v1 v2 q82_ q83_ => ?_; obtain rfl := q82_; (refine EV.el0_2 q83_ ?_; try clear q83_; intro r1 r2))
    exact ⟨v1, v2, rfl, (u, v), G0, H0, G1, s1, ((E.step x1 p1).set i r1).set j r2, P1⟩
  | [], _, P1 => exact P1.elim
  | [_], _, P1 => exact P1.elim
  | _ :: _ :: _ :: _, _, P1 => exact P1.elim
/-- a, b = e, by a tuple -/
theorem sv_unp (i j : Nat) {y z : Str} {e : Expr} {px py pt : Pos} {kt : Nat} {me : PM D} {kk : D → D → PM α} (C : Cok X W k) (he : EV X W pa Γ e me)
    (hr : ∀ u v, SV X W pa ((Γ.set i (.val u)).set j (.val v)) out rest (kk u v)) (hp : PG X (.Tuple [.Name y px, .Name z py] kt pt) (gTup X.K 2 (gCons (gName i) (gCons (gName j) gNil))))
    (hs : autoParam (swapsWithSole [.Tuple [.Name y px, .Name z py] kt pt] e pos.line X.env = pure false) EV.tac2) (hw : autoParam (swappedStores [.Tuple [.Name y px, .Name z py] kt pt] e X.env = pure none) EV.tac2)
    (h1 : autoParam ((assignEach [.Tuple [.Name y px, .Name z py] kt pt] X.env).map (·.2) = [assign (.Tuple [.Name y px, .Name z py] kt pt) X.env]) EV.tac2) :
    SV X W pa Γ out (.Assign [.Tuple [.Name y px, .Name z py] kt pt] e pos :: rest) (me >>= unp2 kk) := by
  unfold SV
  rw [bind_assoc]
  have hrest : PSs X rest (fun D σ H => ∃ q : EV.D × EV.D, svT X W pa ((Γ.set i (.val q.1)).set j (.val q.2)) (kk q.1 q.2 >>= fun a => pure (out a)) D σ H) := pss_ex (ι := EV.D × EV.D) fun q => hr q.1 q.2
  refine pss_imp (pss_cons (ps_asg he hp hs hw h1) hrest) fun Dn σ H h_ => EV.ex4 h_ fun G0 H0 G s E P => ⟨G0, H0, G, s, E, (P.bind E).imp fun G1 H1 d s1 x1 p1 P1 v r => ?_⟩
  have E1 := E.step x1 p1
  cases e1 : dec2 d with
  | none =>
    unfold unp2 at P1
    rw [e1] at P1
    exact P1.elim
  | some q =>
    unfold unp2 at P1
    rw [e1] at P1
    exact tg_pair (vs := [i, j]) (by simp) (by simp) G0 H0 G1 H1 σ s1 v d q _ E1 r e1 fun σ' E' _ => ⟨q, G0, H0, G1, s1, E', P1⟩
end
theorem law_end {l : PySem.W.OpenLaw} {n k : Nat} {q : Program} {loose : List Str} {XP : (Str → Option Value) → Heap → Prop} {YP : World → Heap → Prop} {d : DefRec} {K : Params → PySem.W.Frag} {x : Str} {F : List Int → List D → PM D} (cs : List (Addr × Addr))
    (hn : l.most = some n) (hn2 : n ≤ sizeLine) (hdf : d.params.defaults = []) (hr : Room k callerA) (hY : ∀ (w : World) (h : Heap), YP w h → (K w.params).In h) (hT : ∀ (w : World) (h : Heap), YP w h → ∀ p ∈ cs, h.get? p.2 = some { cls := .none, data := .fields #[] })
    (hC : ∀ (w : World) (h : Heap), (K w.params).In h → ∀ p ∈ cs, PySem.W.CodeHd h p.1 p.2) (nT : ∀ w : World, ∀ p ∈ cs, (K w.params).lookup p.2 = none) (hN : ∀ (w : World) (P : Addr), NeedT (K w.params) P → ∃ p ∈ cs, p.2 = P)
    (hF : ∀ (w : World) (mg : Str → Option Value) (fa : Addr) (h : Heap), (K w.params).In h → h.Ns mainGlobals mg → mg d.name = some (.ref fa) →
      ∃ fd : FuncData, (∀ (s : Shared) (u : Value), BindsTo s fd ⟨[u], []⟩ [(x, u)]) ∧ ∀ base : Heap, (K w.params).In base → base.Ns mainGlobals mg → (∀ p ∈ cs, LamX.TabB base mg p.1 p.2) → FnG l.prog w (K w.params) mg base k fa fd [x] (spS (K w.params) mg 0 F))
    (hlaw : ∀ ns : List Int, ns.length ≤ n → ∃ s, F ns [] [] = .ok (.bl true) s) :
    PySem.W.WalkO q loose XP YP l.row.toRowW d [] (fun f vs => PySem.call f vs) := by
  refine Att.attach_call hn hdf fun w s₀ s₁ mg mb fa o pm cd doc a vs ns G Y ho hd hcd hmg hobj hints hlen hg => ?_
  have KX := hY w _ Y
  have tabs := hT w _ Y
  have heads := hC w _ KX
  refine EV.el1_2 (hF w mg fa _ KX G.T.g hmg) fun fd hb hFF => ?_
  have rv := vals_ints hints
  have lenV := hints.length
  have lz : ns.length ≤ sizeLine := Nat.le_trans hlen hn2
  have aNo : ∀ p ∈ cs, p.2 ≠ a := fun p hp z => by
    have q := tabs p hp
    rw [z, hobj] at q
    cases (show Data.seq vs.toArray _ = Data.fields #[] from congrArg Obj.data (Option.some.inj q))
  have core : ∀ G0 H : Hp, Same G0 H → NoT G0 → (∀ p ∈ cs, H p.2 = some (.tbl #[])) → (∀ b, H b = none ∨ (H b = some (.tbl #[]) ∧ ∃ p ∈ cs, p.2 = b) ∨ ∃ oz xs, H b = some (.frz oz (.lst xs))) → SqL (K w.params) G0 a (ns.map V.int) → HOk l.prog w H s₁.heap →
      (∀ b, H b ≠ none → b = a ∨ ∃ p ∈ cs, p.2 = b) → (H a ≠ none → (K w.params).lookup a = none) →
      codeAny (model l.prog w) callerA (.call (.ref fa) ⟨[.ref a], []⟩) (fun r s' => r = .ok (.ret (.bool true)) ∧ OldK s₁.heap s'.heap ∧ s'.os = s₁.os ∧ AllBare s'.gens) s₁ := by
    intro G0 H hGH hG0 hTb hO hS hok hA hK
    have offT : ∀ {b : Addr} {ob : Obj}, s₁.heap.get? b = some ob → (∀ us n, ob.data ≠ .seq us n) → ob.data ≠ .fields #[] → H b = none := by
      intro b ob e ne1 ne2
      refine Classical.byContradiction fun q => ?_
      rcases hA b q with e' | ⟨p, hp, e'⟩
      · subst e'
        rw [hobj] at e
        obtain rfl := Option.some.inj e
        exact ne1 _ _ rfl
      · subst e'
        rw [tabs p hp] at e
        obtain rfl := Option.some.inj e
        exact ne2 rfl
    have nodict : ∀ {b : Addr} {ob : Obj} {es : Array DictEntry} {ep : Nat}, s₁.heap.get? b = some ob → ob.data = .dict es ep → H b = none := fun {b ob es ep} e dd =>
      offT e (fun us n z => by rw [dd] at z; cases z) fun z => by rw [dd] at z; cases z
    have nsK : ∀ {b : Addr} {m : Str → Option Value}, s₁.heap.Ns b m → (hidT s₁.heap H).Ns b m := by
      intro b m hm
      (refine EV.el3_3 hm ?_; try clear hm; intro ob es ep e dd r)
      exact EV.in3_3 ob es ep (hidT_get e (nodict e dd)) dd r
    have hKb : (K w.params).In (hidT s₁.heap H) := by
      intro b ob e
      refine hidT_get (KX b ob e) ?_
      refine Classical.byContradiction fun q => ?_
      rcases hA b q with e' | ⟨p, hp, e'⟩
      · subst e'
        rw [hK q] at e
        exact EV.nnS e
      · subst e'
        rw [nT w p hp] at e
        exact EV.nnS e
    have hM : Mod (K w.params) mg (hidT s₁.heap H) := by
      refine EV.el1_2 (G.T.nolimit) fun mc l1 l2 => ?_
      exact ⟨hKb, nsK G.T.g, ⟨mb, nsK G.T.b, G.T.builtins⟩, mc, nsK l1, l2⟩
    have hTB : ∀ p ∈ cs, LamX.TabB (hidT s₁.heap H) mg p.1 p.2 := by
      intro p hp
      refine EV.el3_3 (G.T.g) fun gm ges gep ge gd _ => ?_
      refine ⟨?_, ?_, fun z => ?_⟩
      · (refine EV.el4_1 (heads p hp) fun co us fi tf q84_ => ?_; refine EV.el4_1 q84_ ?_; try clear q84_; intro fl tg inF tx q85_; refine EV.el1_5 q85_ ?_; try clear q85_; intro tt c1 c2 c3 c4 rest)
        refine ⟨co, us, fi, tf, fl, tg, inF, tx, tt, hidT_get c1 (offT c1 (fun us' n z => ?_) fun z => ?_), c2, c3, c4, rest⟩ <;> rw [c3] at z <;> cases z
        exact EV.nnS c4
      · refine EV.el2_6 (G.T.bmain) fun bm ob b1 b2 b3 b4 b5 b6 => ?_
        refine ⟨bm, ob, b1, b2, fun z => ?_, fun z => ?_, hidT_get b3 (offT b3 (fun us' n z => ?_) fun z => ?_), b4, b5, b6⟩
        · rw [z, ge] at b3
          obtain rfl := Option.some.inj b3
          rw [gd] at b6
          cases b6
        · rw [z, tabs p hp] at b3
          obtain rfl := Option.some.inj b3
          cases b6
        · rw [b6] at z
          cases z
        · rw [b6] at z
          cases z
      · rw [z, tabs p hp] at ge
        obtain rfl := Option.some.inj ge
        cases gd
    have nil0 : ∀ b : Addr, b ∉ frs [] := fun b hb => absurd (show b ∈ ([] : List Addr) from hb) (by simp)
    have e0 : Env0 l.prog w (K w.params) mg (hidT s₁.heap H) callerA [] s₁ H :=
      ⟨rfl, hM, fun b ob e => of_hidT e, Nat.le_of_eq (hidT_size _ _), trivial, fun b hb => absurd hb (nil0 b), hok, .of_eq hg⟩
    refine EV.el1_1 (hlaw ns hlen) fun sf hlf => ?_
    have tk1 : ∀ P ps, H P = some (.tbl ps) → LamX.TabS H P (tauK (K w.params) P) := fun P ps e => by
      rcases hO P with z | ⟨z, _⟩ | ⟨oz, xs, z⟩
      · rw [z] at e
        exact EV.nnS e
      · exact LamX.TabS.nil z
      · rw [z] at e
        cases e
    have tk : TabK (K w.params) H := ⟨tk1, fun P nd => by
      refine EV.el1_2 (hN w P nd) fun p hp e => ?_
      rw [← e]
      exact ⟨_, hTb p hp⟩⟩
    have hsp : spS (K w.params) mg 0 F [.ref a] H (fun v _ => v = .bl true) (fun _ _ _ => False) := by
      refine ⟨a, ns, G0, [], [], rfl, ⟨hGH, tk, hG0⟩, hS, .nil, rfl, ?_⟩
      rw [hlf]
      intro G' H' _ _ v rr
      cases rr
      rfl
    refine codeAny_mono ((hFF _ hKb (nsK G.T.g) hTB).run callerA [] s₁ H ⟨[.ref a], []⟩ [.ref a] [.ref a] _ _ (fun _ => rfl) hr e0 (hb s₁ (.ref a)) (.cons rfl .nil) hsp) fun r s' h => ?_
    cases r with
    | error e =>
      (refine EV.el4_1 h ?_; try clear h; intro _ _ _ _ q86_; refine EV.el1_4 q86_ ?_; try clear q86_; intro _ _ _ _ q87_; refine EV.el0_5 q87_ ?_; try clear q87_; intro _ _ _ _ z)
      exact z.elim
    | ok fl =>
      cases fl with
      | next => exact h.elim
      | brk => exact h.elim
      | cont => exact h.elim
      | ret u =>
        (refine EV.el2_6 h ?_; try clear h; intro v H' os bare un hok' r' q')
        have q' : v = .bl true := q'
        subst q'
        obtain rfl : u = Value.bool true := r'
        have each : ∀ b ob, s₁.heap.get? b = some ob → s'.heap.get? b = some ob ∨ ∃ p ∈ cs, p.2 = b ∧ ∃ more, s'.heap.get? b = some { cls := .none, data := .fields more } := fun b ob e => by
          rcases hO b with z | ⟨z, p, hp, ep⟩ | ⟨oz, xs, z⟩
          · exact .inl (un.keep b ob e z (nil0 b) (by simp))
          · refine EV.el1_1 (un.tbls b #[] z) fun more z2 => ?_
            exact .inr ⟨p, hp, ep, _, hok' b _ z2⟩
          · have z2 := un.frzs b oz _ z
            refine EV.el0_2 (hok b _ z) fun e1 _ => ?_
            refine EV.el0_2 (hok' b _ z2) fun e2 _ => ?_
            rw [e] at e1
            obtain rfl := Option.some.inj e1
            exact .inl e2
        refine ⟨rfl, ⟨fun b ob e => ?_, fun b ob e => ?_⟩, os, bare⟩
        · rcases each b ob e with z | ⟨p, hp, rfl, more, z⟩
          · exact .inl z
          · have e1 := tabs p hp
            rw [e1] at e
            obtain rfl := Option.some.inj e
            exact .inr (.inl ⟨((heads p hp).tab e1).isCodeTable, rfl, #[], more, rfl, by rw [Array.empty_append]; exact z⟩)
        · rcases each b ob e with z | ⟨p, hp, rfl, more, z⟩
          · exact EV.in1_1 _ z
          · exact EV.in1_1 _ z
  have laid : ∀ G0 : Hp, (∀ b, G0 b = none ∨ (b = a ∧ G0 b = some (.frz { cls := .type "list", data := .seq vs.toArray } (.lst (ns.map V.int))))) → SqL (K w.params) G0 a (ns.map V.int) → (G0 a ≠ none → (K w.params).lookup a = none) →
      codeAny (model l.prog w) callerA (.call (.ref fa) ⟨[.ref a], []⟩) (fun r s' => r = .ok (.ret (.bool true)) ∧ OldK s₁.heap s'.heap ∧ s'.os = s₁.os ∧ AllBare s'.gens) s₁ := by
    intro G0 h0 hS hK
    have inT : ∀ {b : Addr}, b ∈ cs.map (·.2) → ∃ p ∈ cs, p.2 = b := fun {b} m => by
      refine EV.el1_2 (List.mem_map.mp m) fun p hp e => ?_
      exact EV.in1_2 p hp e
    have aT : a ∉ cs.map (·.2) := fun m => by
      refine EV.el1_2 (inT m) fun p hp e => ?_
      exact aNo p hp e
    refine core G0 (fun b => if b ∈ cs.map (·.2) then some (.tbl #[]) else G0 b) (fun b u e => ?_) (fun P ps e => ?_) (fun p hp => if_pos (List.mem_map.mpr ⟨p, hp, rfl⟩)) (fun b => ?_) hS (fun b u e => ?_) (fun b z => ?_) fun z => hK (by rwa [if_neg aT] at z)
    · rcases h0 b with z | ⟨rfl, _⟩
      · rw [z] at e
        exact EV.nnS e
      · exact (if_neg aT).trans e
    · rcases h0 P with z | ⟨_, z⟩ <;> rw [z] at e <;> cases e
    · by_cases m : b ∈ cs.map (·.2)
      · exact .inr (.inl ⟨if_pos m, inT m⟩)
      · rcases h0 b with z | ⟨_, z⟩
        · exact .inl ((if_neg m).trans z)
        · exact .inr (.inr ⟨_, _, (if_neg m).trans z⟩)
    · by_cases m : b ∈ cs.map (·.2)
      · cases (if_pos m).symm.trans e
        (refine EV.el1_2 (inT m) fun p hp q88_ => ?_; obtain rfl := q88_)
        exact tabs p hp
      · have e := (if_neg m).symm.trans e
        rcases h0 b with z | ⟨rfl, z⟩
        · rw [z] at e
          exact EV.nnS e
        · rw [z] at e
          obtain rfl := Option.some.inj e
          exact ⟨hobj, by rw [List.length_map]; exact lz, vs, _, rv, hobj⟩
    · by_cases m : b ∈ cs.map (·.2)
      · exact .inr (inT m)
      · rcases h0 b with y | ⟨y, _⟩
        · exact absurd ((if_neg m).trans y) z
        · exact .inl y
  cases hk : (K w.params).lookup a with
  | some ok =>
    have e := KX a ok hk
    rw [hobj] at e
    obtain rfl := Option.some.inj e
    refine laid (fun _ => none) (fun _ => .inl rfl) (.inr ⟨_, vs.toArray, _, hk, rfl, rfl, rfl, ?_, ?_⟩) fun z => absurd rfl z
    · rw [List.size_toArray, lenV]
      exact lz
    · simpa using rv
  | none =>
    refine laid (fun b => if b = a then some (.frz { cls := .type "list", data := .seq vs.toArray } (.lst (ns.map V.int))) else none) (fun b => ?_) (.inl (.inr ⟨{ cls := .type "list", data := .seq vs.toArray }, if_pos rfl⟩)) fun _ => hk
    by_cases hb : b = a
    · exact .inr ⟨hb, if_pos hb⟩
    · exact .inl (if_neg hb)
end EV
namespace EV
open PySem PySem.Spec PyProof.Rows L2
section
variable {X : Cx} {W : WX} {pa : Option Addr} {Γ : List Sl} {k : Nat} {pos : Pos}
theorem vv (i : Nat) {x : Str} {d : D} (hΓ : autoParam (Γ[i]? = some (.val d)) EV.tac2) (hN : autoParam (X.N[i]? = some x) EV.tac2) (hv : autoParam (Vis X.env.scope x) EV.tac7)
    (hd : autoParam ((x == ("__debug__" : Str)) = false) EV.tac1) (hcd : autoParam ((x == ("__classdict__" : Str)) = false) EV.tac1) : EV X W pa Γ (.Name x pos) (pure d) := ev_var hΓ hN hv hd hcd
/-- a def of the text that keeps its promise -/
structure Cal (P : Program) (w : World) (K : PySem.W.Frag) (mg : Str → Option Value) (base : Heap) (k : Nat) (x : Str) (ps : List Str) (sp : Sp) : Prop where
  ex : ∃ f fd, FnG P w K mg base k f fd ps sp ∧ mg x = some (.ref f) ∧ PySem.W.keepIn K (.ref f) = true ∧ Binds K fd ps []
theorem Cal.mono {P : Program} {w : World} {K : PySem.W.Frag} {mg : Str → Option Value} {base : Heap} {j k : Nat} {x : Str} {ps : List Str} {sp : Sp} (F : Cal P w K mg base j x ps sp) (h : j ≤ k) : Cal P w K mg base k x ps sp := by
  refine EV.el2_4 (F.ex) fun f fd h1 h2 h3 h4 => ?_
  exact ⟨f, fd, h1.mono h, h2, h3, h4⟩
structure FunAt (K : PySem.W.Frag) (mg : Str → Option Value) (x : Str) (st : Stmt) : Prop where
  ex : ∃ f fd, Fun K x x st f fd ∧ mg x = some (.ref f)
theorem call {x : Str} {p : Pos} {n : Nat} {F : List D → PM D} {ps : List Str} {j : Nat} {e : Expr} {es : List Expr} {ml : PM (List D)} (C : Cok X W k) (FC : Cal X.prog X.w X.K X.mg X.base j x ps (spF X.K X.mg false n F)) (ar : Arity n F)
    (ha : EL X W pa Γ (e :: es) ml) (hj : autoParam (j ≤ k) EV.tac1) (hg : autoParam (Gl X x) EV.tac2) (hdb : autoParam ((x == ("__debug__" : Str)) = false) EV.tac1) (he : autoParam (starEach (e :: es) X.env = (false, eval e X.env) :: starEach es X.env) EV.tac2) (hpl : autoParam ((backTo pos (starEach es X.env)).any (·.1) = false) EV.tac2) :
    EV X W pa Γ (.Call (.Name x p) (e :: es) [] pos) (ml >>= fun ds => run0 (F ds)) := by
  refine EV.el2_4 (FC.ex) fun f fd h1 h2 h3 h4 => ?_
  exact ev_call C (h1.mono hj) ar hg h2 h3 h4 ha hdb he hpl
theorem callS (i : Nat) {x y : Str} {ns : List Int} {p p2 : Pos} {n : Nat} {F : List Int → List D → PM D} {ps : List Str} {j : Nat} {es : List Expr} {ml : PM (List D)} (C : Cok X W k) (FC : Cal X.prog X.w X.K X.mg X.base j x ps (spS X.K X.mg n F)) (ar : ∀ ns, Arity n (F ns))
    (ha : EL X W pa Γ es ml) (hj : autoParam (j ≤ k) EV.tac1) (hΓ : autoParam (Γ[i]? = some (.scr ns)) EV.tac2) (hN : autoParam (X.N[i]? = some y) EV.tac2) (hv : autoParam (Vis X.env.scope y) EV.tac7) (hg : autoParam (Gl X x) EV.tac2) (hdb : autoParam ((x == ("__debug__" : Str)) = false) EV.tac1)
    (he : autoParam (starEach (.Name y p2 :: es) X.env = (false, eval (.Name y p2) X.env) :: starEach es X.env) EV.tac2) (hpl : autoParam ((backTo pos (starEach es X.env)).any (·.1) = false) EV.tac2)
    (hd : autoParam ((y == ("__debug__" : Str)) = false) EV.tac1) (hcd : autoParam ((y == ("__classdict__" : Str)) = false) EV.tac1) :
    EV X W pa Γ (.Call (.Name x p) (.Name y p2 :: es) [] pos) (ml >>= fun ds => run0 (F ns ds)) := by
  refine EV.el2_4 (FC.ex) fun f fd h1 h2 h3 h4 => ?_
  exact ev_callS C (h1.mono hj) ar hg h2 h3 h4 hΓ hN hv ha hdb he hpl hd hcd
theorem sget (i : Nat) {y : Str} {ns : List Int} {b : Expr} {p2 : Pos} {mb : PM D} (hb : EV X W pa Γ b mb) (hs : PlainIx b) (hΓ : autoParam (Γ[i]? = some (.scr ns)) EV.tac2) (hN : autoParam (X.N[i]? = some y) EV.tac2) (hv : autoParam (Vis X.env.scope y) EV.tac7) (hd : autoParam ((y == ("__debug__" : Str)) = false) EV.tac1) (hcd : autoParam ((y == ("__classdict__" : Str)) = false) EV.tac1) :
    EV X W pa Γ (.Subscript (.Name y p2) b pos) (mb >>= scrGet ns) := ev_scr hΓ hN hv hb hs hd hcd
theorem slen (i : Nat) {y : Str} {ns : List Int} {p p2 : Pos} (hm : X.mg "len" = none) (hg : autoParam (Gl X "len") EV.tac2) (hΓ : autoParam (Γ[i]? = some (.scr ns)) EV.tac2) (hN : autoParam (X.N[i]? = some y) EV.tac2) (hv : autoParam (Vis X.env.scope y) EV.tac7)
    (hs : autoParam (starEach [.Name y p2] X.env = (false, eval (.Name y p2) X.env) :: starEach [] X.env) EV.tac2) (hpl : autoParam ((backTo pos (starEach [] X.env)).any (·.1) = false) EV.tac2) (hd : autoParam ((y == ("__debug__" : Str)) = false) EV.tac1) (hcd : autoParam ((y == ("__classdict__" : Str)) = false) EV.tac1) :
    EV X W pa Γ (.Call (.Name "len" p) [.Name y p2] [] pos) (pure (.int ns.length)) := ev_lenScr hg hm hΓ hN hv hs hpl hd hcd
theorem eb_chain {op op' : CmpOp} {g g' : D → D → PM D} {a b c : Expr} {ma mb mc : PM D} (ho : OpD X (compareOp op) g) (ho' : OpD X (compareOp op') g') (ha : EV X W pa Γ a ma) (hb : EV X W pa Γ b mb) (hc : EV X W pa Γ c mc)
    (hm : autoParam (lastMarks [op, op'] [b, c] = false) EV.tac4) : EB X W pa Γ (.Compare a [op, op'] [b, c] pos) (ma >>= fun x => mb >>= fun y => g x y >>= fun r => asB r >>= fun t => if t = true then mc >>= fun z => g' y z >>= asB else pure false) := by
  (refine EV.el1_2 ho ?_; try clear ho; intro r h1 h2)
  (refine EV.el1_2 ho' ?_; try clear ho'; intro r' h1' h2')
  refine pt_imp (pt_chain h1 h1' ha hb hc hm) fun σ H Q h_ => EV.ex4 h_ fun G0 H0 G s E P =>
    ⟨G0, H0, G, s, E, P.bind.imp fun G1 H1 a s1 x1 p1 P1 v rv => ⟨G0, H0, G1, s1, E.step x1 p1, P1.bind.imp fun G2 H2 b s2 x2 p2 P2 w rw => ?_⟩⟩
  refine h2 W pa σ G2 H2 s2 v w a b _ x2.sub p2 (rv.mono x2.g) rw (P2.bind.imp fun G3 H3 d s3 x3 p3 P3 u ru => ?_)
  cases ru with
  | bl t =>
    refine EV.in1_2 t rfl ?_
    have P4 := (P3.bind).now x3.sub p3
    cases t with
    | false =>
      have q : Q false H3 := P4.now x3.sub p3
      exact (show ∃ k, V.bl false = V.bl k ∧ Q k H3 from ⟨false, rfl, q⟩)
    | true =>
      refine (show evT X W pa Γ mc σ H3 _ from ⟨G0, H0, G3, s3, ((E.step x1 p1).step x2 p2).step x3 p3, (P4.bind : Pst X.K W X.mg pa σ _ G3 H3 (mc s3)).imp fun G5 H5 z s5 x5 p5 P5 u' ru' => ?_⟩)
      refine h2' W pa σ G5 H5 s5 w u' b z _ x5.sub p5 (rw.mono (x3.g.trans x5.g)) ru' (P5.bind.imp fun G6 H6 d s6 x6 p6 P6 u2 ru2 => ?_)
      cases ru2 with
      | bl c => exact EV.in1_2 c rfl (P6.now x6.sub p6)
      | _ => exact P6.elim
  | _ => exact P3.elim
end
section
variable {X : Cx} {pos : Pos}
theorem pgn (i : Nat) {x : Str} (nd : X.N.Nodup) (hi : autoParam (X.N[i]? = some x) EV.tac2) (hx : autoParam (Loc X.env.scope x) EV.tac5) (hf : autoParam (X.fn x = true ∨ X.env.scope.names.lookup x = some .local) EV.tac6) : PG X (.Name x pos) (gName i) := pg_name nd hi hx hf
end
theorem wn : Weak [] [] := trivial
theorem wk {x : Sl} {xs ys : List Sl} (h : Weak xs ys) : Weak (x :: xs) (x :: ys) := ⟨.inr rfl, h⟩
theorem wj {x : Sl} {xs ys : List Sl} (h : Weak xs ys) : Weak (x :: xs) (.junk :: ys) := ⟨.inl rfl, h⟩
theorem out_ret (m : PM D) : m = (m >>= fun a => outD (Out.ret a)) := (bind_pure m).symm
/-- built-in names that the module leaves as they are -/
structure Bn (mg : Str → Option Value) : Prop where
  len : mg "len" = none
  tuple : mg "tuple" = none
  list : mg "list" = none
  sorted : mg "sorted" = none
  set : mg "set" = none
  range : mg "range" = none
  enumerate : mg "enumerate" = none
  zip : mg "zip" = none
  any : mg "any" = none
  all : mg "all" = none
  max : mg "max" = none
  min : mg "min" = none
  repr : mg "repr" = none
  isinstance : mg "isinstance" = none
  int : mg "int" = none
  bool : mg "bool" = none
  str : mg "str" = none
  dict : mg "dict" = none
theorem len0 {ds : List D} (h : ds.length = 0) : ds = [] := List.length_eq_zero_iff.mp h
theorem len1 {ds : List D} (h : ds.length = 1) : ∃ a, ds = [a] := List.length_eq_one_iff.mp h
theorem len2 {ds : List D} (h : ds.length = 2) : ∃ a b, ds = [a, b] := by
  match ds, h with
  | [a, b], _ => exact EV.in2_1 a b rfl
theorem len3 {ds : List D} (h : ds.length = 3) : ∃ a b c, ds = [a, b, c] := by
  match ds, h with
  | [a, b, c], _ => exact EV.in3_1 a b c rfl
theorem len4 {ds : List D} (h : ds.length = 4) : ∃ a b c d, ds = [a, b, c, d] := by
  match ds, h with
  | [a, b, c, d], _ => exact EV.in4_1 a b c d rfl
section
variable {P : Program} {w : World} {K : PySem.W.Frag} {mg : Str → Option Value} {base : Heap} {x : Str} {st : Stmt} {N ps : List Str} {k n : Nat}
theorem mk_pure {F : List D → PM D} (FA : FunAt K mg x st) (S : FnScope N ps (defScope st)) (hps : ps.length = n)
    (hbd : ∀ (kV doc pm : Value) (an : Option Addr) (cdv ct : Value) (us : List Value), us.length = ps.length → bindArgs (PySem.W.fnOf x x (defArgs st) (defBody st) (defScope st) .none kV doc pm an cdv ct) ⟨us, []⟩ = pure (ps.zip us))
    (hb : ∀ (f : Addr) (cdv : Value) (A : Around) (outer : List PySem.Env) (s : Shared) (H : Hp) (E : XK), Cok (cxOf (L2.CX P w) P w K mg base N x (defScope st) f cdv A outer s H E) (fun cls d _ H => E cls d H) k → ∀ ds : List D, ds.length = n →
      ∃ (α : Type) (out : α → Out) (m : PM α), SV (cxOf (L2.CX P w) P w K mg base N x (defScope st) f cdv A outer s H E) (fun cls d _ H => E cls d H) none (slots0 N ds) out (defBody st) m ∧ F ds = (m >>= fun a => outD (out a))) :
    Cal P w K mg base (k + 1) x ps (spF K mg false n F) := by
  refine EV.el2_2 (FA.ex) fun f fd FU hm => ?_
  exact ⟨f, fd, fn_pure FU S hps (hb f), hm, FU.kp, FU.binds hbd⟩
theorem mk_scr {F : List Int → List D → PM D} (FA : FunAt K mg x st) (S : FnScope N ps (defScope st)) (hps : ps.length = n + 1)
    (hbd : ∀ (kV doc pm : Value) (an : Option Addr) (cdv ct : Value) (us : List Value), us.length = ps.length → bindArgs (PySem.W.fnOf x x (defArgs st) (defBody st) (defScope st) .none kV doc pm an cdv ct) ⟨us, []⟩ = pure (ps.zip us))
    (hb : ∀ (f : Addr) (cdv : Value) (A : Around) (outer : List PySem.Env) (s : Shared) (H : Hp) (E : XK), Cok (cxOf (L2.CX P w) P w K mg base N x (defScope st) f cdv A outer s H E) (fun cls d _ H => E cls d H) k → ∀ (ns : List Int) (ds : List D), ds.length = n →
      ∃ (α : Type) (out : α → Out) (m : PM α), SV (cxOf (L2.CX P w) P w K mg base N x (defScope st) f cdv A outer s H E) (fun cls d _ H => E cls d H) none (slotsS N ns ds) out (defBody st) m ∧ F ns ds = (m >>= fun a => outD (out a))) :
    Cal P w K mg base (k + 1) x ps (spS K mg n F) := by
  refine EV.el2_2 (FA.ex) fun f fd FU hm => ?_
  exact ⟨f, fd, fn_scr FU S hps (hb f), hm, FU.kp, FU.binds hbd⟩
end
structure DefF (K : PySem.W.Frag) (x : Str) (st : Stmt) : Prop where
  ex : ∃ f fd, Fun K x x st f fd ∧ PySem.W.nsIn K mainGlobals x = some (some (.ref f))
theorem defF {K : PySem.W.Frag} {x : Str} {st : Stmt} {f : Addr} {oc : Value} {od an : Option Addr} {osl : Array (Option Value)} {kV doc pm cdv ct : Value} (a : PySem.W.nsIn K mainGlobals x = some (some (.ref f)))
    (l : K.lookup f = some ⟨oc, od, .func (PySem.W.fnOf x x (defArgs st) (defBody st) (defScope st) .none kV doc pm an cdv ct), osl⟩) (c : PySem.W.codeIn K cdv x = true) (k : PySem.W.keepIn K (.ref f) = true) : DefF K x st := ⟨f, _, fun_mk l c k, a⟩
theorem DefF.at {K : PySem.W.Frag} {x : Str} {st : Stmt} {h : Heap} {mg : Str → Option Value} (X : K.In h) (G : h.Ns mainGlobals mg) (d : DefF K x st) : FunAt K mg x st := by
  refine EV.el2_2 (d.ex) fun f fd F a => ?_
  exact ⟨f, fd, F, PySem.W.mg_of X G a⟩
section
variable {X : Cx} {W : WX} {pa : Option Addr} {Γ : List Sl} {k : Nat} {pos : Pos} {α : Type} {out : α → Out} {rest : List Stmt}
theorem peekB (Γ' : List Sl) (i : Nat) {xs : List D} {e : Expr} {m : PM Bool} (h : Γ[i]? = some (.own xs)) (hG : Γ.set i (.val (.lst xs)) = Γ') (he : EB X W pa Γ' e m) : EB X W pa Γ e (noExc m) :=
  eb_peek i h (hG ▸ he)
theorem sv_ext (Γ' : List Sl) (i : Nat) {x : Str} {e : Expr} {xs : List D} {me : PM D} {kk : List D → PM α} {p1 apos cpos : Pos} (h : Γ[i]? = some (.own xs)) (hG : Γ.set i (.val (.lst xs)) = Γ') (he : EV X W pa Γ' e me) (hr : ∀ ys, SV X W pa (Γ.set i (.own (xs ++ ys))) out rest (kk ys))
    (hN : autoParam (X.N[i]? = some x) EV.tac2) (hv : autoParam (Vis X.env.scope x) EV.tac7) (hd : autoParam ((x == ("__debug__" : Str)) = false) EV.tac1) (hcd : autoParam ((x == ("__classdict__" : Str)) = false) EV.tac1)
    (hbase : autoParam (attributeBase (.Name x p1) "extend" X.env (eval (.Name x p1) X.env) = eval (.Name x p1) X.env) EV.tac2)
    (hfew : autoParam (((backTo cpos (starEach [e] X.env)).all (fun x => !x.1) && (backToKw cpos (keywordEach [] X.env)).all (fun x => x.1.isSome)
      && decide ([e].length + ([] : List Keyword).length + (if ([] : List Keyword).isEmpty then 0 else 1) < 30)) = true) EV.tac2)
    (hline : autoParam ((apos.endLine == cpos.line) = true) EV.tac2) (hs : autoParam (starEach [e] X.env = (false, eval e X.env) :: starEach [] X.env) EV.tac2) (hplain : autoParam ((backTo cpos (starEach [] X.env)).any (·.1) = false) EV.tac2)
    (hsw : autoParam (swapsWith (.Call (.Attribute (.Name x p1) "extend" apos) [e] [] cpos) none pos.line X.env = pure false) EV.tac2) :
    SV X W pa Γ out (.Expr (.Call (.Attribute (.Name x p1) "extend" apos) [e] [] cpos) pos :: rest) (noExc me >>= scalL >>= fun ys => okLen (xs ++ ys) >>= fun _ => kk ys) :=
  sv_extendP i h (hG ▸ he) hr hN hv hd hcd hbase hfew hline hs hplain hsw
end
end EV
namespace L2
open PySem PySem.Spec PyProof.Rows
end L2
namespace EV
open PySem PySem.Spec PyProof.Rows L2
theorem asc_eq : ∀ {l r : List Int}, l.Pairwise (· < ·) → r.Pairwise (· < ·) → (∀ k, k ∈ l ↔ k ∈ r) → l = r
  | [], [], _, _, _ => rfl
  | [], y :: r, _, _, h => absurd ((h y).mpr List.mem_cons_self) (by simp)
  | x :: l, [], _, _, h => absurd ((h x).mp List.mem_cons_self) (by simp)
  | x :: l, y :: r, hl, hr, h => by
    have p := List.pairwise_cons.mp hl
    have q := List.pairwise_cons.mp hr
    have e : x = y := by
      rcases List.mem_cons.mp ((h x).mp List.mem_cons_self) with e | m
      · exact e
      · rcases List.mem_cons.mp ((h y).mpr List.mem_cons_self) with e | m'
        · exact e.symm
        · have h1 := q.1 x m
          have h2 := p.1 y m'
          omega
    subst e
    rw [asc_eq p.2 q.2 fun k => ?_]
    constructor
    · intro m
      rcases List.mem_cons.mp ((h k).mp (List.mem_cons_of_mem _ m)) with e | m'
      · have := p.1 k m
        omega
      · exact m'
    · intro m
      rcases List.mem_cons.mp ((h k).mpr (List.mem_cons_of_mem _ m)) with e | m'
      · have := q.1 k m
        omega
      · exact m'
theorem cstI {K : PySem.W.Frag} {x : Str} {h : Heap} {mg : Str → Option Value} {i : Int} {t : Tok} (X : K.In h) (G : h.Ns mainGlobals mg) (a : PySem.W.nsIn K mainGlobals x = some (some (.int i t))) : ∃ t, mg x = some (.int i t) := ⟨t, PySem.W.mg_of X G a⟩
theorem cstS {K : PySem.W.Frag} {x : Str} {h : Heap} {mg : Str → Option Value} {i : Str} {t : Tok} (X : K.In h) (G : h.Ns mainGlobals mg) (a : PySem.W.nsIn K mainGlobals x = some (some (.str i t))) : ∃ t, mg x = some (.str i t) := ⟨t, PySem.W.mg_of X G a⟩
end EV
namespace EV
open PySem PySem.Spec PyProof.Rows L2
section
variable {X : Cx} {W : WX} {pa : Option Addr} {Γ : List Sl} {k : Nat} {pos : Pos}
theorem rgV_rp {K : PySem.W.Frag} {G : Hp} (a b : Int) : RpL K G (rgV a b) (rangeL a (b - a).toNat) := by
  refine ⟨by rw [rgV_length]; simp [rangeL], fun i v d h1 h2 => ?_⟩
  unfold rgV at h1
  unfold rangeL at h2
  rw [List.getElem?_map] at h1 h2
  cases e : (List.range (b - a).toNat)[i]? with
  | none => rw [e] at h1; exact EV.nnS h1
  | some j =>
    rw [e] at h1 h2
    obtain rfl := Option.some.inj h1
    obtain rfl := Option.some.inj h2
    exact .int _
noncomputable def rgD (a b : Int) : PM (List D) := if -(2 ^ 62) ≤ a ∧ a < 2 ^ 62 ∧ -(2 ^ 62) ≤ b ∧ b < 2 ^ 62 ∧ (b - a).toNat ≤ lim then pure (rangeL a (b - a).toNat) else bad
noncomputable def rg1 : D → PM (List D)
  | .int n => rgD 0 n
  | _ => bad
theorem rg_use {K : PySem.W.Frag} {mg : Str → Option Value} {σ : L2.St} {F : Hp → Hp → D → List Int → Prop} {G H : Hp} {a b : Int} {f : List D → PM D} {s : List Int} (P : Pst K W mg pa σ F G H ((rgD a b >>= f) s)) : RgOk a b ∧ Pst K W mg pa σ F G H (f (rangeL a (b - a).toNat) s) := by
  unfold rgD at P
  by_cases h : -(2 ^ 62) ≤ a ∧ a < 2 ^ 62 ∧ -(2 ^ 62) ≤ b ∧ b < 2 ^ 62 ∧ (b - a).toNat ≤ lim
  · rw [if_pos h] at P
    (refine EV.el0_5 h ?_; try clear h; intro h1 h2 h3 h4 h5)
    exact ⟨⟨h1, h2, h3, h4, Nat.le_trans h5 (by decide)⟩, P⟩
  · rw [if_neg h] at P
    exact P.elim
theorem ev_lstRg1 {a : Expr} {m : PM D} {p p2 pos2 : Pos} (C : Cok X W k) (hg : Gl X "list") (hm : X.mg "list" = none) (hg2 : Gl X "range") (hm2 : X.mg "range" = none) (h : EV X W pa Γ a m)
    (na : autoParam (starEach [a] X.env = (false, eval a X.env) :: starEach [] X.env) EV.tac2) (na2 : autoParam (starEach [.Call (.Name "range" p2) [a] [] pos2] X.env = (false, eval (.Call (.Name "range" p2) [a] [] pos2) X.env) :: starEach [] X.env) EV.tac2) :
    EV X W pa Γ (.Call (.Name "list" p) [.Call (.Name "range" p2) [a] [] pos2] [] pos) (m >>= fun d => rg1 d >>= mkL) :=
  pe_imp (pe_listRg C.calm hg hm (prg_1 hg2 hm2 h na) na2) fun σ H Q h_ => EV.ex4 h_ fun G0 H0 G s E P => ⟨G0, H0, G, s, E, P.bind.imp fun G1 H1 d s1 x1 p1 P1 v r => by
    cases r with
    | int n =>
      refine EV.el0_2 (rg_use (P1 : Pst X.K W X.mg pa σ (FD X.K Q) G1 H1 ((rgD 0 n >>= mkL) s1))) fun h1 P2 => ?_
      exact EV.in1_3 n rfl h1 (fun q nq => mkL_use P2 (rgV_rp 0 n) x1.sub p1 nq)
    | _ => exact P1.elim⟩
end
inductive Mv where
  | v (d : D) | o (xs : List D)
noncomputable def mvS : Mv → Sl
  | .v d => .val d
  | .o xs => .own xs
/-- no list of one's own among these is p -/
noncomputable def NoOwn (p : Addr) : List V → List Mv → Prop
  | v :: vs, .o _ :: ms => v ≠ .ref p ∧ NoOwn p vs ms
  | _ :: vs, .v _ :: ms => NoOwn p vs ms
  | _, _ => True
noncomputable def MR (K : PySem.W.Frag) (pa : Option Addr) (G H Hb : Hp) : List V → List Mv → Prop
  | [], [] => True
  | v :: vs, .v d :: ms => Rp K G v d ∧ MR K pa G H Hb vs ms
  | v :: vs, .o xs :: ms => (∃ p ws, v = .ref p ∧ Hb p = none ∧ H p = some (.lst ws) ∧ G p = none ∧ RpL K G ws xs ∧ pa ≠ some p ∧ NoOwn p vs ms) ∧ MR K pa G H Hb vs ms
  | _, _ => False
theorem MR.base {K : PySem.W.Frag} {pa : Option Addr} {G H Hb Hb' : Hp} (i : ∀ p, Hb p = none → Hb' p = none) : ∀ {vs : List V} {ms : List Mv}, MR K pa G H Hb vs ms → MR K pa G H Hb' vs ms
  | [], [], h => h
  | _ :: _, .v _ :: _, h => ⟨h.1, MR.base i h.2⟩
  | _ :: _, .o _ :: _, h => by
    (refine EV.el0_2 h ?_; try clear h; intro q89_ h4; (refine EV.el2_3 q89_ ?_; try clear q89_; intro p ws h1 h2 h3))
    exact ⟨⟨p, ws, h1, i p h2, h3⟩, MR.base i h4⟩
  | [], .v _ :: _, h => h.elim
  | [], .o _ :: _, h => h.elim
  | _ :: _, [], h => h.elim
theorem MR.noOwn {K : PySem.W.Frag} {pa : Option Addr} {G H Hb : Hp} {p : Addr} {o : HO} (e : Hb p = some o) : ∀ {vs : List V} {ms : List Mv}, MR K pa G H Hb vs ms → NoOwn p vs ms
  | [], [], h => trivial
  | _ :: vs, .v _ :: ms, h => by
    have z : NoOwn p vs ms := MR.noOwn (K := K) (pa := pa) (G := G) (H := H) e h.2
    exact z
  | _ :: _, .o _ :: _, h => by
    (refine EV.el0_2 h ?_; try clear h; intro q90_ h4; (refine EV.el2_3 q90_ ?_; try clear q90_; intro q ws h1 h2 h3))
    refine ⟨fun z => ?_, MR.noOwn (K := K) (pa := pa) (G := G) (H := H) e h4⟩
    rw [h1] at z
    injection z with z
    rw [z, e] at h2
    exact EV.nnS (Eq.symm h2)
  | [], .v _ :: _, h => h.elim
  | [], .o _ :: _, h => h.elim
  | _ :: _, [], h => h.elim
section
variable {X : Cx} {W : WX} {pa : Option Addr} {Γ : List Sl} {k : Nat} {pos : Pos}
noncomputable def FM (K : PySem.W.Frag) (pa : Option Addr) (Hb : Hp) (Q : List V → Hp → Prop) : Hp → Hp → List Mv → List Int → Prop := fun G' H' ms _ => ∀ vs, MR K pa G' H' Hb vs ms → Q vs H'
noncomputable def evM (X : Cx) (W : WX) (pa : Option Addr) (Γ : List Sl) (m : PM (List Mv)) : TA := fun σ H Q => ∃ G0 H0 G s, Nv X.K pa G0 H0 G H σ Γ s ∧ Pst X.K W X.mg pa σ (FM X.K pa H Q) G H (m s)
noncomputable abbrev EM (X : Cx) (W : WX) (pa : Option Addr) (Γ : List Sl) (es : List Expr) (m : PM (List Mv)) : Prop := PA X es (evM X W pa Γ m)
theorem em_nil : EM X W pa Γ [] (pure []) := pa_imp pa_nil fun σ H Q h_ => EV.ex4 h_ fun G0 H0 G s E P => P.now E.sub E.ps [] trivial
theorem ext_free {K : PySem.W.Frag} {G H G' H' : Hp} (x : Ext K pa G H G' H') {p : Addr} (h : H' p = none) : H p = none := by
  cases e : H p with
  | none => rfl
  | some o =>
    refine EV.el1_1 (x.t p o e) fun o' e' => ?_
    rw [h] at e'
    exact EV.nnS e'
theorem em_v {e : Expr} {es : List Expr} {m : PM D} {ml : PM (List Mv)} (h : EV X W pa Γ e m) (t : EM X W pa Γ es ml) (hs : autoParam (starEach (e :: es) X.env = (false, eval e X.env) :: starEach es X.env) EV.tac2) :
    EM X W pa Γ (e :: es) (m >>= fun d => ml >>= fun ds => pure (.v d :: ds)) := pa_imp (pa_cons h t hs) fun σ H Q h_ => EV.ex4 h_ fun G0 H0 G s E P =>
  ⟨G0, H0, G, s, E, P.bind.imp fun G1 H1 a s1 x1 p1 P1 v r => ⟨G0, H0, G1, s1, E.step x1 p1, P1.bind.imp fun G2 H2 as s2 x2 p2 P2 vs rs => P2.now x2.sub p2 (v :: vs) ⟨r.mono x2.g, rs.base fun p h => ext_free x1 h⟩⟩⟩
theorem em_o {e : Expr} {es : List Expr} {m : PM (List D)} {ml : PM (List Mv)} (h : EO' X W pa Γ e m) (t : EM X W pa Γ es ml) (hs : autoParam (starEach (e :: es) X.env = (false, eval e X.env) :: starEach es X.env) EV.tac2) :
    EM X W pa Γ (e :: es) (m >>= fun d => ml >>= fun ds => pure (.o d :: ds)) := pa_imp (pa_cons h t hs) fun σ H Q h_ => EV.ex4 h_ fun G0 H0 G s E P =>
  ⟨G0, H0, G, s, E, P.bind.imp fun G1 H1 a s1 x1 p1 P1 p ws hb hp hg r => ⟨G0, H0, G1, s1, E.step x1 p1, P1.bind.imp fun G2 H2 as s2 x2 p2 P2 vs rs => by
    have hpa : pa ≠ some p := fun e => by
      have z := (E.ps p e).2
      rw [hb] at z
      exact EV.nnS z
    exact P2.now x2.sub p2 (.ref p :: vs) ⟨⟨p, ws, rfl, hb, x2.h _ _ hp hpa, x2.n _ _ hp hg, r.mono x2.g, hpa, rs.noOwn hp⟩, rs.base fun p h => ext_free x1 h⟩⟩⟩
end
section
variable {K : PySem.W.Frag} {pa : Option Addr} {G0 H0 G H : Hp} {σ : L2.St} {Γ : List Sl} {s : List Int}
noncomputable def FreshIn (Γ : List Sl) (σ : L2.St) (p : Addr) : Prop := ∀ (j : Nat) ys, Γ[j]? = some (.own ys) → σ[j]? ≠ some (some (.ref p))
theorem Nv.freshIn (E : Nv K pa G0 H0 G H σ Γ s) {p : Addr} (h : H p = none) : FreshIn Γ σ p := fun j ys e q => by
  refine EV.el2_3 (E.own j ys e) fun p' vs' q1 q2 _ => ?_
  rw [q] at q1
  cases q1
  rw [h] at q2
  exact EV.nnS q2
theorem FreshIn.set {p : Addr} (f : FreshIn Γ σ p) (i : Nat) {v : V} {m : Mv} (h : ∀ xs, m = .o xs → v ≠ .ref p) : FreshIn (Γ.set i (mvS m)) (σ.set i (some v)) p := fun j ys e q => by
  by_cases hj : i = j
  · subst hj
    have hi : i < Γ.length := by
      have := (List.getElem?_eq_some_iff.mp e).1
      simpa using this
    rw [List.getElem?_set_self hi] at e
    have hi2 : i < σ.length := by
      have := (List.getElem?_eq_some_iff.mp q).1
      simpa using this
    rw [List.getElem?_set_self hi2] at q
    cases m with
    | v d => cases e
    | o xs =>
      have := h xs rfl
      injection q with q
      injection q with q
      exact this q
  · rw [List.getElem?_set_ne hj] at e q
    exact f j ys e q
/-- one of them is stored -/
theorem Nv.setM (E : Nv K pa G0 H0 G H σ Γ s) {Hb : Hp} {v : V} {m : Mv} {vs : List V} {ms : List Mv} (i : Nat) (r : MR K pa G H Hb (v :: vs) (m :: ms)) (h0 : ∀ p, Hb p = none → H0 p = none) (f : ∀ p, v = .ref p → Hb p = none → FreshIn Γ σ p) :
    Nv K pa G0 H0 G H (σ.set i (some v)) (Γ.set i (mvS m)) s := by
  cases m with
  | v d => exact E.set i r.1
  | o xs =>
    (refine EV.el0_2 r ?_; try clear r; intro q91_ _; (refine EV.el2_2 q91_ ?_; try clear q91_; intro p ws q92_ q93_; obtain rfl := q92_; (refine EV.el0_6 q93_ ?_; try clear q93_; intro h1 h2 h3 h4 h5 h6)))
    exact E.setOwn i h2 h3 h4 (h0 p h1) h5 fun j ys _ e => f p rfl h1 j ys e
theorem MR.tail {Hb : Hp} {v : V} {m : Mv} {vs : List V} {ms : List Mv} (r : MR K pa G H Hb (v :: vs) (m :: ms)) : MR K pa G H Hb vs ms := by
  cases m with
  | v d => exact r.2
  | o xs => exact r.2
theorem mr_one {Hb : Hp} {vs : List V} {m : Mv} (r : MR K pa G H Hb vs [m]) : ∃ v, vs = [v] := by
  match vs, r with
  | [v], _ => exact EV.in1_1 v rfl
  | [], r => cases m <;> exact r.elim
  | _ :: _ :: _, r => cases m <;> exact r.2.elim
theorem mr_two {Hb : Hp} {vs : List V} {m n : Mv} (r : MR K pa G H Hb vs [m, n]) : ∃ v w, vs = [v, w] := by
  match vs, r with
  | v :: vs, r =>
    (refine EV.el1_1 (mr_one r.tail) fun w q94_ => ?_; obtain rfl := q94_)
    exact EV.in2_1 v w rfl
  | [], r => cases m <;> exact r.elim
/-- a later one is not an earlier one -/
theorem mr_apart {Hb : Hp} {v w : V} {m n : Mv} {vs : List V} {ms : List Mv} (r : MR K pa G H Hb (v :: w :: vs) (m :: n :: ms)) {p : Addr} (e : w = .ref p) (hn : ∃ xs, n = .o xs) : ∀ xs, m = .o xs → v ≠ .ref p := fun xs em z => by
  subst em
  (refine EV.el1_1 hn ?_; try clear hn; intro ys q95_; obtain rfl := q95_)
  (refine EV.el0_2 r ?_; try clear r; intro q96_ _; (refine EV.el2_4 q96_ ?_; try clear q96_; intro q ws h1 _ _ q97_; refine EV.el0_4 q97_ ?_; try clear q97_; intro _ _ _ h6))
  rw [h1] at z
  injection z with z
  rw [z] at h6
  exact h6.1 e
theorem Nv.set2 (E : Nv K pa G0 H0 G H σ Γ s) {Hb : Hp} {v w : V} {m n : Mv} (i j : Nat) (r : MR K pa G H Hb [v, w] [m, n]) (h0 : ∀ p, Hb p = none → H0 p = none) (f : ∀ p, Hb p = none → FreshIn Γ σ p) :
    Nv K pa G0 H0 G H ((σ.set i (some v)).set j (some w)) ((Γ.set i (mvS m)).set j (mvS n)) s := by
  have E1 := E.setM i r h0 fun p _ hb => f p hb
  cases n with
  | v d => exact E1.set j r.tail.1
  | o xs => exact E1.setM j r.tail h0 fun p e hb => (f p hb).set i (mr_apart r e ⟨xs, rfl⟩)
end
section
variable {X : Cx} {W : WX} {pa : Option Addr} {Γ : List Sl} {k : Nat} {pos : Pos} {α : Type} {out : α → Out} {rest : List Stmt}
noncomputable def two2 {β : Type} (kk : Mv → Mv → PM β) : List Mv → PM β
  | [a, b] => kk a b
  | _ => bad
noncomputable def kVO {β : Type} (kk : D → List D → PM β) : Mv → Mv → PM β
  | .v d, .o xs => kk d xs
  | _, _ => bad
theorem h_vo {i j : Nat} {kk : D → List D → PM α} (h : ∀ d xs, SV X W pa ((Γ.set i (.val d)).set j (.own xs)) out rest (kk d xs)) : ∀ a b, SV X W pa ((Γ.set i (mvS a)).set j (mvS b)) out rest (kVO kk a b)
  | .v d, .o xs => h d xs
  | .v _, .v _ => sv_bad
  | .o _, .v _ => sv_bad
  | .o _, .o _ => sv_bad
/-- a, b = e1, e2, by a tuple -/
theorem sv_unpM (i j : Nat) {y z : Str} {a b : Expr} {px py pt : Pos} {kt k2 pt2} {ml : PM (List Mv)} {kk : Mv → Mv → PM α} (C : Cok X W k) (ha : EM X W pa Γ [a, b] ml)
    (hr : ∀ u v, SV X W pa ((Γ.set i (mvS u)).set j (mvS v)) out rest (kk u v)) (hp : PG X (.Tuple [.Name y px, .Name z py] kt pt) (gTup X.K 2 (gCons (gName i) (gCons (gName j) gNil))))
    (hs : autoParam (swapsWithSole [.Tuple [.Name y px, .Name z py] kt pt] (.Tuple [a, b] k2 pt2) pos.line X.env = pure false) EV.tac2) (hw : autoParam (swappedStores [.Tuple [.Name y px, .Name z py] kt pt] (.Tuple [a, b] k2 pt2) X.env = pure none) EV.tac2)
    (h1 : autoParam ((assignEach [.Tuple [.Name y px, .Name z py] kt pt] X.env).map (·.2) = [assign (.Tuple [.Name y px, .Name z py] kt pt) X.env]) EV.tac2) :
    SV X W pa Γ out (.Assign [.Tuple [.Name y px, .Name z py] kt pt] (.Tuple [a, b] k2 pt2) pos :: rest) (ml >>= two2 kk) := by
  unfold SV
  rw [bind_assoc]
  have hrest : PSs X rest (fun D σ H => ∃ q : Mv × Mv, svT X W pa ((Γ.set i (mvS q.1)).set j (mvS q.2)) (kk q.1 q.2 >>= fun a => pure (out a)) D σ H) := pss_ex (ι := Mv × Mv) fun q => hr q.1 q.2
  refine pss_imp (pss_cons (ps_asg (L2.pe_tup ha) hp hs hw h1) hrest) fun Dn σ H h_ => EV.ex4 h_ fun G0 H0 G s E P => ⟨G0, H0, G, s, E, (P.bind E).imp fun G1 H1 ds s1 x1 p1 P1 vs r => ?_⟩
  match ds, r, P1 with
  | [u, v], r, P1 =>
    (refine EV.el2_1 (mr_two r) fun v1 v2 q98_ => ?_; obtain rfl := q98_)
    refine ⟨by show 2 ≤ sizeLine; decide, fun q nq => ⟨q, [v1, v2], rfl, .inl (.inl upd_same), rfl, v1, [v2], rfl, v2, [], rfl, rfl, (u, v), G0, H0, G1, s1, ?_, P1⟩⟩
    have E1 := (E.step x1 p1).set2 i j r (fun p h => ext_free E.ext h) (fun p h => E.freshIn h)
    exact E1.step (Ext.newH x1.sub nq _) (p1.updH nq _)
  | [], _, P1 => exact P1.elim
  | [_], _, P1 => exact P1.elim
  | _ :: _ :: _ :: _, _, P1 => exact P1.elim
end
structure CT (K : PySem.W.Frag) (mg : Str → Option Value) (x : Str) (d : D) : Prop where
  ex : ∃ a, mg x = some (.ref a) ∧ ∀ G, Rp K G (.ref a) d
noncomputable def strsB : List Value → List Str → Bool
  | [], [] => true
  | .str s _ :: r, x :: xs => s == x && strsB r xs
  | _, _ => false
theorem strsB_vals {us : List Value} : ∀ {xs : List Str}, strsB us xs = true → Vals (xs.map V.str) us := by
  induction us with
  | nil =>
    intro xs h
    cases xs with
    | nil => exact .nil
    | cons _ _ => exact EV.nnB h
  | cons u r ih =>
    intro xs h
    cases xs with
    | nil => cases u <;> cases h
    | cons x xs =>
      cases u with
      | str s t =>
        have h : (s == x && strsB r xs) = true := h
        rw [Bool.and_eq_true, beq_iff_eq] at h
        rw [h.1]
        exact .cons ⟨t, rfl⟩ (ih h.2)
      | _ => exact EV.nnB h
theorem ctS {K : PySem.W.Frag} {x : Str} {h : Heap} {mg : Str → Option Value} {a : Addr} {od : Option Addr} {its : Array Value} {n : Nat} {sl : Array (Option Value)} {xs : List Str} (X : K.In h) (G : h.Ns mainGlobals mg)
    (e : PySem.W.nsIn K mainGlobals x = some (some (.ref a))) (l : K.lookup a = some ⟨.type "tuple", od, .seq its n, sl⟩) (v : strsB its.toList xs = true) (hz : autoParam (xs.length ≤ sizeLine) EV.tac1) : CT K mg x (.tup (xs.map .str)) := by
  have hv := strsB_vals v
  have hl : its.size ≤ sizeLine := by
    rw [← Array.length_toList, ← hv.length, List.length_map]
    exact hz
  exact ⟨a, PySem.W.mg_of X G e, fun G' => .tup (xs := xs.map V.str) (.inr ⟨_, its, n, l, rfl, rfl, hl, hv⟩) (by simp) fun i v d h1 h2 => by
    rw [List.getElem?_map] at h1 h2
    cases q : xs[i]? with
    | none => rw [q] at h1; exact EV.nnS h1
    | some y =>
      rw [q] at h1 h2
      obtain rfl := Option.some.inj h1
      obtain rfl := Option.some.inj h2
      exact .str y⟩
end EV
namespace PySem.SeqAt
open PySem PySem.Spec PyProof.Rows PySem.W
section
variable {prog : Program} {w : World} {A : Around} {E : Value → Shared → Prop} {s : Shared}
/-- the call of tuple's own __lt__ -/
theorem tup_lt_call {Q : Value → Shared → Prop} {l b : Addr} {us ts : Array Value} {e r : Nat → Bool} (hl : s.heap.IsTuple l us) (hb : s.heap.IsTuple b ts)
    (he : ∀ j (h1 : j < us.size) (h2 : j < ts.size), EqAt A.in1 s us[j] ts[j] (e j)) (hr : ∀ j (h1 : j < us.size) (h2 : j < ts.size), e j = false → RcLt A.in1 s us[j] ts[j] (r j))
    (h : Q (.bool (firstLt e r (decide (us.size < ts.size)) (List.range (min us.size ts.size)))) s) : wpAny (model prog w) A (call (.builtin "tuple.__lt__") [.ref l, .ref b]) Q E s := by
  obtain ⟨⟨c1, d1, x1, z1⟩, g1, q1, n1, r1⟩ := id hl
  obtain ⟨⟨c2, d2, x2, z2⟩, g2, q2, n2, r2⟩ := id hb
  simp only at q1 r1 q2 r2
  subst q1 r1 q2 r2
  exact call_meets F.slot_tuple_lt ⟨_, g1, rfl⟩ F.entry_tuple_lt (F.args_tuple_lt_2 _ _) (tuple_ltAt l b us ts n1 n2 d1 d2 z1 z2 e r) ⟨g1, g2, he, hr, h⟩
end
end PySem.SeqAt
namespace EV
open PySem PySem.Spec PyProof.Rows PySem.W PySem.SeqAt L2
section
variable {prog : Program} {w : World} {A : Around} {E : Value → Shared → Prop} {s : Shared}
theorem oneLt_tups {xs ys : List PyData} {a b : Value} {as bs : List Addr} {Q : Bool → Shared → Prop} (ra : Reads s.heap a (.tuple xs) as) (rb : Reads s.heap b (.tuple ys) bs) (h : alikeAll xs ys = true)
    (hu : A.units + min (PyData.tuple xs).depth (PyData.tuple ys).depth < cLine) (hq : Q (dataLt (.tuple xs) (.tuple ys)) s) : wpAny (model prog w) A (oneLt' true a b) Q E s := by
  cases ra with
  | @tuple l o vs n _ as₁ h1 h2 h3 h4 =>
    cases rb with
    | @tuple l' o' vs' n' _ bs₁ k1 k2 k3 k4 =>
      have n1 : vs.size = xs.length := by simpa using ReadsAll.length _ _ _ h4
      have n2 : vs'.size = ys.length := by simpa using ReadsAll.length _ _ _ k4
      rw [dataLt_tuple, ← firstLt_toks xs ys h, ← n1, ← n2] at hq
      rw [oneLt'_eq]
      simp only [if_true]
      refine wpAny_bind (wpAny_cRoomFor (room_here hu) ?_)
      refine wpAny_bind (wpAny_callSpecialIfBound?_slot (T := "tuple") ⟨_, h1, h2⟩ F.slot_tuple_lt (tup_lt_call (e := pairEq xs ys) (r := fun j => dataLt (xs.getD j .none) (ys.getD j .none)) ⟨_, h1, h2, _, h3⟩ ⟨_, k1, k2, _, k3⟩ (fun j j1 j2 => ?_) (fun j j1 j2 hj => ?_) ?_))
      · have z := eqAt_alikeAll xs ys A.in1 s vs.toList vs'.toList _ _ h4 k4 h (room_in hu) j (by simpa using j1) (by simpa using j2)
        simpa using z
      · have z := rcLt_alikeAll xs ys A.in1 s vs.toList vs'.toList _ _ h4 k4 h (room_in hu) j (by simpa using j1) (by simpa using j2) hj
        simpa using z
      · exact wpAny_truthy_bool hq
theorem mapM_each {M : Model} {α β : Type} {f : α → Sem β} {r : α → β} : ∀ (l : List α) {Q : List β → Shared → Prop}, (∀ v ∈ l, ∀ (Q' : β → Shared → Prop), Q' (r v) s → wpAny M A (f v) Q' E s) → Q (l.map r) s → wpAny M A (l.mapM f) Q E s
  | [], _, _, h => by
    rw [List.mapM_nil]
    exact wpAny_pure h
  | x :: l, Q, hf, h => by
    rw [List.mapM_cons]
    exact wpAny_bind (hf x (.head _) _ (wpAny_bind (mapM_each l (Q := fun bs s' => wpAny M A (pure (r x :: bs)) Q E s') (fun v hv => hf v (.tail _ hv)) (wpAny_pure h))))
noncomputable def fstH (h : Heap) : Value → Option Value
  | .ref a => match h.get? a with
    | some ⟨_, _, .seq its _, _⟩ => its[0]?
    | _ => none
  | _ => none
theorem kind_tups {vs : List Value} {Q : SortKind → Shared → Prop} (h2 : 2 ≤ vs.length) (hT : ∀ v ∈ vs, ∃ a its, v = .ref a ∧ s.heap.IsTuple a its) (h0 : ∃ a, vs[0]? = some (.ref a) ∧ s.heap.IsTuple a #[]) (h : Q oneType' s) :
    wpAny (model prog w) A (keyKind' vs.toArray) Q E s := by
  obtain ⟨v₁, v₂, rest, rfl⟩ : ∃ v₁ v₂ rest, vs = v₁ :: v₂ :: rest := by
    match vs, h2 with
    | [], h2 => simp at h2
    | [_], h2 => simp at h2
    | v₁ :: v₂ :: rest, _ => exact EV.in3_1 v₁ v₂ rest rfl
  (refine EV.el1_2 h0 ?_; try clear h0; intro a0 e0 t0)
  have e0 : v₁ = .ref a0 := Option.some.inj e0
  have z0 : fstH s.heap v₁ = none := by
    obtain ⟨⟨c, d, x, z⟩, g, q, n, r⟩ := t0
    simp only at q r
    subst q r
    rw [e0]
    unfold fstH
    simp only [g]
    rfl
  have lk : ∀ v ∈ v₁ :: v₂ :: rest, Looks (model prog w) s.heap (typeOf v) (Value.type "tuple") := fun v hv => by
    (refine EV.el2_2 (hT v hv) fun a its q102_ q103_ => ?_; obtain rfl := q102_; obtain ⟨o, g, q, n, r⟩ := q103_)
    exact q ▸ (Looks.ld g).andThen .now
  rw [keyKind'_eq, List.mapM_toArray, map_eq_pure_bind]
  refine wpAny_bind (wpAny_bind (mapM_each (r := fstH s.heap) _ (fun v hv Q' hq => ?_) (wpAny_pure ?_)))
  · rw [kas_first_eq]
    refine wpAny_bind ((lk v hv).here ?_)
    rw [if_neg (by simp)]
    (refine EV.el2_2 (hT v hv) fun a its q104_ q105_ => ?_; obtain rfl := q104_; obtain ⟨⟨c, d, x, z⟩, g, q, n, r⟩ := q105_)
    simp only at q r
    subst q r
    refine wpAny_bind (listItems_at g rfl (wpAny_pure ?_))
    have e : fstH s.heap (.ref a) = its[0]? := by
      unfold fstH
      simp only [g]
    rw [← e]
    exact hq
  · rw [if_neg (by simp [z0]), if_neg (by simp [z0])]
    rw [oneTypeOnly'_eq, List.mapM_toArray, map_eq_pure_bind]
    refine wpAny_bind (wpAny_bind (wpAny_bind (kas_mapM (r := Value.type "tuple") _ (fun v hv Q' hq => (lk v hv).here hq) (wpAny_pure ?_))))
    have hall : ((List.map (fun _ => Value.type "tuple") (v₁ :: v₂ :: rest)).toArray.all fun x => x == Value.type "tuple") = true := by
      simp only [List.all_toArray, List.all_map, List.all_eq_true]
      intro _ _
      exact beq_self_eq_true _
    have hh : (List.map (fun _ => Value.type "tuple") (v₁ :: v₂ :: rest)).toArray[0]? = some (Value.type "tuple") := by simp
    rw [hh]
    simp only [hall, if_true]
    exact wpAny_pure (wpAny_pure h)
/-- tuples, the first one without an item -/
noncomputable def Tups0 (ds : List PyData) : Prop := (∀ d ∈ ds, ∃ xs, d = .tuple xs) ∧ ∃ r, ds = .tuple [] :: r
theorem reads_tup {h : Heap} {v : Value} {xs : List PyData} {as : List Addr} (r : Reads h v (.tuple xs) as) : ∃ a its, v = .ref a ∧ h.IsTuple a its ∧ its.size = xs.length := by
  cases r with
  | @tuple l o vs n _ as₁ h1 h2 h3 h4 => exact EV.in2_3 l vs rfl (⟨o, h1, h2, n, h3⟩) (by simpa using ReadsAll.length _ _ _ h4)
theorem sortsAt_tups {vs : List Value} {ds : List PyData} (e : EachIs (fun v d => ∃ as, Reads s.heap v d as) vs ds) (hal : AllAlike ds) (hk : Tups0 ds) (hu : ∀ d, d ∈ ds → A.units + d.depth < cLine) : SortsAt prog w A s (dataKind s.heap ds) vs := by
  refine ⟨fun v hv => ?_, oneType', ?_, fun h2 E Q hq => ?_⟩
  · obtain ⟨d, hd, as, r⟩ := e.left v hv
    exact EV.in1_1 _ (dataKind_some hal hd r)
  · intro E x y a b Q ha hb hq
    (refine EV.el2_3 (dataKind_inv ha) fun d as hd ra q106_ => ?_; obtain rfl := q106_)
    (refine EV.el2_3 (dataKind_inv hb) fun d' as' hd' rb q107_ => ?_; obtain rfl := q107_)
    rw [keyLt'_oneType]
    (refine EV.el1_1 (hk.1 d hd) fun xs q108_ => ?_; obtain rfl := q108_)
    (refine EV.el1_1 (hk.1 d' hd') fun ys q109_ => ?_; obtain rfl := q109_)
    exact oneLt_tups ra rb (by simpa [alike] using hal _ hd _ hd') (Nat.lt_of_le_of_lt (Nat.add_le_add_left (Nat.min_le_left _ _) _) (hu _ hd)) hq
  · refine kind_tups h2 (fun v hv => ?_) ?_ hq
    · obtain ⟨d, hd, as, r⟩ := e.left v hv
      (refine EV.el1_1 (hk.1 d hd) fun xs q110_ => ?_; obtain rfl := q110_)
      refine EV.el2_3 (reads_tup r) fun a its e1 e2 _ => ?_
      exact EV.in2_2 a its e1 e2
    · (refine EV.el1_1 (hk.2) fun r q111_ => ?_; obtain rfl := q111_)
      cases e with
      | cons h1 t =>
        (refine EV.el1_1 h1 ?_; try clear h1; intro as h1)
        (refine EV.el2_2 (reads_tup h1) fun a its q112_ q113_ => ?_; obtain rfl := q112_; (refine EV.el0_2 q113_ ?_; try clear q113_; intro e2 e3))
        have : its = #[] := Array.size_eq_zero_iff.mp e3
        subst this
        exact EV.in1_2 a rfl e2
theorem sorted_any {β : Type} {vs : List Value} {bs : List β} {enc : β → PyData} {R : Value → β → Prop} {l : Addr} {Q : Value → Shared → Prop} (hl : s.heap.IsList l vs.toArray) (e : EachIs R vs bs) (er : EachIs (fun v b => ∃ as, Reads s.heap v (enc b) as) vs bs) (hal : AllAlike (bs.map enc))
    (hk : Sortable (bs.map enc) ∨ Tups0 (bs.map enc)) (hL : bs.length ≤ sizeLine) (hu : ∀ b, b ∈ bs → A.units + 2 + (enc b).depth < cLine) (h : ∀ out, out.length = bs.length → EachIs R out (bs.mergeSort (dataLe false enc)) → Q (.ref (s.heap.objs.size + 1)) { s with heap := sortedAll s.heap vs (List.toArray out) }) :
    wpAny (model prog w) A (PySem.call (.builtin "sorted") [.ref l]) Q E s := by
  rcases hk with hk | hk
  · exact sorted_data hl e er hal hk hL hu h
  · have er' : EachIs (fun v b => ∃ as, Reads (sortingHeap (copyHeap s.heap vs) (s.heap.objs.size + 1) vs) v (enc b) as) vs bs := er.mono fun _ _ ⟨as, r⟩ => ⟨as, PyProof.Rows.Reads.keeps (fun _ _ => sorting_copy_old) r⟩
    refine sorted_vals hl (sortsAt_tups (s := { s with heap := sortingHeap (copyHeap s.heap vs) (s.heap.objs.size + 1) vs }) (each_map (R := fun v d => ∃ as, Reads (sortingHeap (copyHeap s.heap vs) (s.heap.objs.size + 1) vs) v d as) enc er') hal hk fun d hd => ?_) (by rw [e.length]; exact hL) (h _ (by rw [sortVals_length false rfl]; exact e.length) (sortVals_data false e er' hal))
    (refine EV.el1_2 (List.mem_map.mp hd) fun b hb q114_ => ?_; obtain rfl := q114_)
    exact hu b hb
end
noncomputable def neTup : PyData → Bool
  | .tuple (_ :: _) => true
  | _ => false
noncomputable def noTup : PyData → Bool
  | .tuple _ => false
  | .none => false
  | _ => true
noncomputable def isTup : PyData → Bool
  | .tuple _ => true
  | _ => false
noncomputable def tup0 : List PyData → Bool
  | .tuple [] :: _ => true
  | _ => false
noncomputable def sortP (xs : List D) : Bool := (xs.all fun a => xs.all fun b => alike (toPy a) (toPy b)) && (xs.all fun a => decide ((toPy a).depth ≤ 60)) &&
  ((xs.all fun a => neTup (toPy a)) || (xs.all fun a => noTup (toPy a)) || ((xs.all fun a => isTup (toPy a)) && tup0 (xs.map toPy)))
noncomputable def leD2 (a b : D) : Bool := !dataLt (toPy b) (toPy a)
noncomputable def sortedA : List D → PM D
  | [.lst xs] => if sortP xs = true then mkL (xs.mergeSort leD2) else bad
  | _ => bad
theorem sortP_use {xs : List D} (h : sortP xs = true) : AllAlike (xs.map toPy) ∧ (∀ d ∈ xs, (toPy d).depth ≤ 60) ∧ (Sortable (xs.map toPy) ∨ Tups0 (xs.map toPy)) := by
  unfold sortP at h
  rw [Bool.and_eq_true, Bool.and_eq_true] at h
  (refine EV.el0_2 h ?_; try clear h; intro q115_ h3; (refine EV.el0_2 q115_ ?_; try clear q115_; intro h1 h2))
  refine ⟨fun d hd d' hd' => ?_, fun d hd => of_decide_eq_true (List.all_eq_true.mp h2 d hd), ?_⟩
  · (refine EV.el1_2 (List.mem_map.mp hd) fun a ha q116_ => ?_; obtain rfl := q116_)
    (refine EV.el1_2 (List.mem_map.mp hd') fun b hb q117_ => ?_; obtain rfl := q117_)
    exact List.all_eq_true.mp (List.all_eq_true.mp h1 a ha) b hb
  · rw [Bool.or_eq_true, Bool.or_eq_true, Bool.and_eq_true] at h3
    rcases h3 with (h3 | h3) | ⟨h3, h4⟩
    · refine .inl (.inl fun d hd => ?_)
      (refine EV.el1_2 (List.mem_map.mp hd) fun a ha q118_ => ?_; obtain rfl := q118_)
      have z := List.all_eq_true.mp h3 a ha
      cases e : toPy a with
      | tuple xs =>
        rw [e] at z
        cases xs with
        | nil => exact EV.nnB z
        | cons x r => exact EV.in2_1 x r rfl
      | _ => rw [e] at z; exact EV.nnB z
    · refine .inl (.inr fun d hd => ?_)
      (refine EV.el1_2 (List.mem_map.mp hd) fun a ha q119_ => ?_; obtain rfl := q119_)
      have z := List.all_eq_true.mp h3 a ha
      refine ⟨fun e => ?_, fun xs e => ?_⟩
      · rw [e] at z
        exact EV.nnB z
      · rw [e] at z
        exact EV.nnB z
    · refine .inr ⟨fun d hd => ?_, ?_⟩
      · (refine EV.el1_2 (List.mem_map.mp hd) fun a ha q120_ => ?_; obtain rfl := q120_)
        have z := List.all_eq_true.mp h3 a ha
        cases e : toPy a with
        | tuple xs => exact EV.in1_1 xs rfl
        | _ => rw [e] at z; exact EV.nnB z
      · cases e : xs.map toPy with
        | nil => rw [e] at h4; exact EV.nnB h4
        | cons d r =>
          rw [e] at h4
          cases d with
          | tuple ys =>
            cases ys with
            | nil => exact EV.in1_1 r rfl
            | cons _ _ => exact EV.nnB h4
          | _ => exact EV.nnB h4
theorem each_of {K : PySem.W.Frag} {G : Hp} {xs : List V} {us : List Value} (h : Vals xs us) : ∀ {ds : List D}, RpL K G xs ds → EachIs (fun u d => ∃ v, RelV v u ∧ Rp K G v d) us ds := by
  induction h with
  | nil =>
    intro ds r
    cases ds with
    | nil => exact .nil
    | cons _ _ => exact absurd r.1 (by simp)
  | cons h t ih =>
    intro ds r
    cases ds with
    | nil => exact absurd r.1 (by simp)
    | cons d ds => exact .cons ⟨_, h, (RpL.tail r).1⟩ (ih (RpL.tail r).2)
theorem each_ofN {K : PySem.W.Frag} {G : Hp} {xs : List V} {us : List Value} (h : Vals xs us) : ∀ {ds : List D}, RpL K G xs ds → (∀ d ∈ ds, (toPy d).hasDict = false) → EachIs (fun u d => ∃ v, RelV v u ∧ Rp K G v d ∧ (toPy d).hasDict = false) us ds := by
  induction h with
  | nil =>
    intro ds r _
    cases ds with
    | nil => exact .nil
    | cons _ _ => exact absurd r.1 (by simp)
  | cons h t ih =>
    intro ds r n
    cases ds with
    | nil => exact absurd r.1 (by simp)
    | cons d ds => exact .cons ⟨_, h, (RpL.tail r).1, n d List.mem_cons_self⟩ (ih (RpL.tail r).2 fun e m => n e (List.mem_cons_of_mem _ m))
mutual
theorem alike_nd : ∀ d : PyData, alike d d = true → d.hasDict = false
  | .none, _ => rfl
  | .bool _, _ => rfl
  | .int _, _ => rfl
  | .str _, _ => rfl
  | .list xs, h => by
    simp only [alike] at h
    simp only [PyData.hasDict]
    exact alikeAll_nd xs h
  | .tuple xs, h => by
    simp only [alike] at h
    simp only [PyData.hasDict]
    exact alikeAll_nd xs h
  | .dict _, h => by simp [alike] at h
theorem alikeAll_nd : ∀ xs : List PyData, alikeAll xs xs = true → PyData.hasDictAll xs = false
  | [], _ => rfl
  | x :: xs, h => by
    simp only [alikeAll, Bool.and_eq_true] at h
    simp only [PyData.hasDictAll, alike_nd x h.1, alikeAll_nd xs h.2, Bool.or_self]
end
theorem allAlike_nd {ds : List D} (h : AllAlike (ds.map toPy)) : ∀ d ∈ ds, (toPy d).hasDict = false := fun d m => alike_nd _ (h _ (List.mem_map.mpr ⟨d, m, rfl⟩) _ (List.mem_map.mpr ⟨d, m, rfl⟩))
theorem of_each {K : PySem.W.Frag} {G : Hp} {us : List Value} {ds : List D} (h : EachIs (fun u d => ∃ v, RelV v u ∧ Rp K G v d) us ds) : ∃ xs : List V, Vals xs us ∧ RpL K G xs ds := by
  induction h with
  | nil => exact ⟨[], .nil, .nil⟩
  | cons h t ih =>
    obtain ⟨v, h1, h2⟩ := h
    obtain ⟨xs, q1, q2⟩ := ih
    exact ⟨v :: xs, .cons h1 q1, .cons h2 q2⟩
section
variable {X : Cx} {k : Nat}
noncomputable def rSortA (K : PySem.W.Frag) : List V → Hp → VK → Prop := fun vs H Q => ∃ (G : Hp) (a : Addr) (xs : List V) (ds : List D), Same G H ∧ vs = [V.ref a] ∧ SqL K H a xs ∧ RpL K G xs ds ∧ sortP ds = true ∧
  ∀ (ys : List V) (p : Addr), RpL K G ys (ds.mergeSort leD2) → H p = none → Q (.ref p) (upd H p (.lst ys))
theorem cr_sortA (hr : Room k X.A) : CallR X (.builtin "sorted") (rSortA X.K) := by
  intro pins s σ H vs us Q I r h
  (refine EV.el4_3 h ?_; try clear h; intro G a xs ds hs q121_ q122_; obtain rfl := q121_; (refine EV.el0_4 q122_ ?_; try clear q122_; intro hq rr hp q))
  refine EV.el0_3 (sortP_use hp) fun h1 h2 h3 => ?_
  refine EV.el1_3 (I.list hq) fun its rv hl hz => ?_
  rw [Vals.ref1 r]
  have e := each_of rv rr
  have u := hr.units
  refine sorted_any (bs := ds) (enc := toPy) hl.isList e ((each_ofN rv rr (allAlike_nd h1)).mono fun v d h8_ => by (refine EV.el1_3 h8_ ?_; try clear h8_; intro x z1 z2 z3); exact Dp.reads I _ x v ((z2.mono hs).dp z3) z1) h1 h3 (by rw [← rr.1]; exact hz) (fun b hb => by have := h2 b hb; omega) fun out ho ho2 => ?_
  refine EV.el1_2 (of_each ho2) fun ys y1 y2 => ?_
  refine EV.el1_1 (PyProof.Rows.sortedAll_at s.heap its out.toArray) fun ep he' => ?_
  have hlen : ys.length ≤ sizeLine := by
    rw [y1.length, ho, ← rr.1]
    exact hz
  exact EV.in2_3 (.ref _) (upd H (s.heap.objs.size + 1) (.lst ys)) (I.laid (t' := s.toks) (fun _ _ => PyProof.Rows.sortedAll_old) (Nat.le_succ _) ⟨hlen, out, ep, y1, he'⟩) rfl (q _ _ y2 (I.hok.fresh (Nat.le_succ _)))
theorem cd_sortedA (hr : Room k X.A) : CallD X (.builtin "sorted") sortedA := by
  refine EV.in1_2 _ (cr_sortA hr) (fun W pa σ G H s xs ds Q hs hp rs P => ?_)
  match ds, rs, P with
  | [d], rs, P =>
    (refine EV.el1_2 (rp1 rs) fun v q123_ r => ?_; obtain rfl := q123_)
    cases r with
    | @lst a vs es h n r =>
      have P : Pst X.K W X.mg pa σ (FD X.K Q) G H ((if sortP es = true then mkL (es.mergeSort leD2) else bad : PM D) s) := P
      by_cases hc : sortP es = true
      · rw [if_pos hc] at P
        exact ⟨G, a, vs, es, hs, rfl, SqL.of (hs _ _ h), ⟨n, r⟩, hc, fun ys p ry np => mkL_use P ry hs hp np⟩
      · rw [if_neg hc] at P
        exact P.elim
    | _ => exact P.elim
  | [], _, P => exact P.elim
  | a :: _ :: _, _, P => cases a <;> exact P.elim
/-- ints by their own way -/
noncomputable def intsQ : List D → Bool
  | [.lst xs] => (intsOf xs).isSome
  | _ => false
noncomputable def sortedG (a : List D) : PM D := if intsQ a = true then sortedF a else sortedA a
theorem cd_sortedG (hr : Room k X.A) : CallD X (.builtin "sorted") sortedG := cd_sortedI.or (cd_sortedA hr)
end
structure DefC (K : PySem.W.Frag) (x : Str) (xs : List Str) : Prop where
  ex : ∃ a od its n sl, PySem.W.nsIn K mainGlobals x = some (some (.ref a)) ∧ K.lookup a = some ⟨.type "tuple", od, .seq its n, sl⟩ ∧ strsB its.toList xs = true
theorem defC {K : PySem.W.Frag} {x : Str} {xs : List Str} {a : Addr} {od : Option Addr} {its : Array Value} {n : Nat} {sl : Array (Option Value)} (e : PySem.W.nsIn K mainGlobals x = some (some (.ref a)))
    (l : K.lookup a = some ⟨.type "tuple", od, .seq its n, sl⟩) (v : strsB its.toList xs = true) : DefC K x xs := ⟨a, od, its, n, sl, e, l, v⟩
theorem DefC.at {K : PySem.W.Frag} {x : Str} {xs : List Str} {h : Heap} {mg : Str → Option Value} (X : K.In h) (G : h.Ns mainGlobals mg) (d : DefC K x xs) (hz : autoParam (xs.length ≤ sizeLine) EV.tac1) : CT K mg x (.tup (xs.map .str)) := by
  refine EV.el5_3 (d.ex) fun a od its n sl e l v => ?_
  exact ctS X G e l v hz
end EV
namespace EV
open PySem PySem.Spec PyProof.Rows L2
end EV
namespace EV
open PySem PySem.Spec PyProof.Rows L2
end EV
namespace EV
open PySem PySem.Spec PyProof.Rows L2
section
variable {X : Cx} {k : Nat}
noncomputable def rCntD (K : PySem.W.Frag) : V → List V → Hp → VK → Prop := fun x xs H Q => ∃ (a : Addr) (y : V) (d : PyData) (ds : List PyData), x = V.ref a ∧ xs = [y] ∧ Dp K H (V.ref a) (.list ds) ∧ Dp K H y d ∧
  SeqAt.shaped (.list ds) = true ∧ SeqAt.shaped d = true ∧ Q (.int ((ds.countP fun z => PyData.eqv z d : Nat) : Int)) H
theorem vals_one {y : V} {us : List Value} (h : Vals [y] us) : ∃ u, us = [u] ∧ RelV y u := by
  cases h with
  | cons r z => cases z; exact EV.in1_2 _ rfl r
theorem mt_countD (hu : X.A.units + 65 < cLine) : MtR X "list.count" (rCntD X.K) := fun pins s σ H x xs v us Q I rx rxs h => by
  (refine EV.el4_2 h ?_; try clear h; intro a y d ds q124_ q125_; obtain rfl := q124_; (refine EV.el0_2 q125_ ?_; try clear q125_; intro q126_ q127_; obtain rfl := q126_; (refine EV.el0_5 q127_ ?_; try clear q127_; intro hl hy sl sd q)))
  cases rx
  (refine EV.el1_2 (vals_one rxs) fun uy q128_ ry => ?_; obtain rfl := q128_)
  refine EV.el1_1 (Dp.reads I d y uy hy ry) fun bs r1 => ?_
  cases hl with
  | lst hs ha =>
    (refine EV.el1_3 (I.list hs) fun its rv q129_ hlen => ?_; (refine EV.el2_4 q129_ ?_; try clear q129_; intro q130_ n ho hc hdn hdt; obtain ⟨cls, dd, data, sls⟩ := q130_))
    cases hc
    cases hdt
    refine EV.el1_1 (Dp.readsAll I ds _ its ha rv) fun as h4 => ?_
    have hxs := SeqAt.canLay_of_shaped sl
    have hmap : its.map (SeqAt.readOf s.heap) = ds := SeqAt.readsAll_map ds its as hxs h4
    have ec : its.toArray.toList.countP (fun u => PyData.eqv (SeqAt.readOf s.heap u) d) = ds.countP fun z => PyData.eqv z d := by
      rw [← hmap, List.countP_map]
      rfl
    refine call_meets PySem.F.slot_list_count ⟨_, ho, rfl⟩ PySem.F.entry_list_count (PySem.F.args_list_count_2 _ _) (SeqAt.list_countAt a its.toArray n dd sls uy fun u => PyData.eqv (SeqAt.readOf s.heap u) d)
      ⟨ho, SeqAt.items_eqAt (vs := its.toArray) (show ReadsAll s.heap its.toArray.toList ds as from h4) r1 hxs (SeqAt.canLay_of_shaped sd) (room_in_shaped sd hu), ⟨.int ((ds.countP fun z => PyData.eqv z d : Nat) : Int), H, I.tok _, ⟨s.toks, ?_⟩, q⟩⟩
    show Value.int ((its.toArray.toList.countP _ : Nat) : Int) s.toks = _
    rw [ec]
end
end EV
namespace EV
open PySem PySem.Spec PyProof.Rows L2 PySem.W
noncomputable def leR (a b : List Int) : Bool := decide (a ≤ b)
theorem leR_tr (a b c : List Int) (h : leR a b = true) (h2 : leR b c = true) : leR a c = true := decide_eq_true (List.le_trans (of_decide_eq_true h) (of_decide_eq_true h2))
theorem leR_tot (a b : List Int) : (leR a b || leR b a) = true := by
  rw [Bool.or_eq_true]
  rcases List.le_total a b with h | h
  · exact .inl (decide_eq_true h)
  · exact .inr (decide_eq_true h)
theorem leR_anti {a b : List Int} (h : leR a b = true) (h2 : leR b a = true) : a = b := List.le_antisymm (of_decide_eq_true h) (of_decide_eq_true h2)
noncomputable def ddR : List (List Int) → List (List Int)
  | [] => []
  | x :: r => if x ∈ ddR r then ddR r else x :: ddR r
theorem mem_ddR {x : List Int} : ∀ {l : List (List Int)}, x ∈ ddR l ↔ x ∈ l
  | [] => Iff.rfl
  | y :: r => by
    unfold ddR
    split
    · rename_i h
      rw [mem_ddR (l := r), List.mem_cons]
      constructor
      · exact .inr
      · rintro (e | m)
        · rw [e]
          exact mem_ddR.mp h
        · exact m
    · rw [List.mem_cons, mem_ddR (l := r), List.mem_cons]
theorem ddR_nodup : ∀ (l : List (List Int)), (ddR l).Nodup
  | [] => .nil
  | y :: r => by
    unfold ddR
    split
    · exact ddR_nodup r
    · rename_i h
      exact List.nodup_cons.mpr ⟨h, ddR_nodup r⟩
noncomputable def setT (l : List (List Int)) : List (List Int) := (ddR l).mergeSort leR
theorem mem_setT {x : List Int} {l : List (List Int)} : x ∈ setT l ↔ x ∈ l := by
  unfold setT
  rw [(List.mergeSort_perm _ _).mem_iff, mem_ddR]
theorem setT_sorted (l : List (List Int)) : (setT l).Pairwise fun a b => leR a b = true := List.pairwise_mergeSort leR_tr leR_tot _
theorem setT_nodup (l : List (List Int)) : (setT l).Nodup := (List.mergeSort_perm _ _).nodup_iff.mpr (ddR_nodup l)
theorem setT_uniq {A B : List (List Int)} (ha : A.Pairwise fun a b => leR a b = true) (hb : B.Pairwise fun a b => leR a b = true) (na : A.Nodup) (nb : B.Nodup) (e : ∀ x, x ∈ A ↔ x ∈ B) : A = B :=
  List.Perm.eq_of_pairwise (fun a b _ _ h1 h2 => leR_anti h1 h2) ha hb ((List.perm_ext_iff_of_nodup na nb).mpr e)
end EV
namespace EV
open PySem PySem.Spec PyProof.Rows L2
end EV
set_option maxHeartbeats 1000000
namespace EV
open PySem PySem.Spec PyProof.Rows L2 GenW
end EV
set_option maxHeartbeats 1000000
namespace EV
open PySem PySem.Spec PyProof.Rows L2 GenW
noncomputable def fnL2 (g : D → D → PM (List D)) : List D → PM (List D)
  | [a, b] => g a b
  | _ => bad
noncomputable def fnL1 (g : D → PM (List D)) : List D → PM (List D)
  | [a] => g a
  | _ => bad
theorem GFn.mono {P : Program} {w : World} {K : PySem.W.Frag} {mg : Str → Option Value} {base : Heap} {j k : Nat} {f : Addr} {fd : FuncData} {ps : List Str} {sp : SpG} (F : GFn P w K mg base j f fd ps sp) (h : j ≤ k) : GFn P w K mg base k f fd ps sp := by
  refine ⟨F.len, fun A outer s H args us vs Q E hr e0 hb r hsp => codeAny_mono (F.run A outer s H args us vs Q E (hr.mono h) e0 hb r hsp) fun r s' hq => ?_⟩
  cases r with
  | error e => exact hq
  | ok fl =>
    cases fl with
    | ret u =>
      (refine EV.el3_4 hq ?_; try clear hq; intro a g c h1 h2 h3 q131_; refine EV.el0_7 q131_ ?_; try clear q131_; intro h4 h5 h6 h7 h8 h9 h10)
      exact ⟨a, g, c, h1, h2, h3, h4, h5, h6, h7, h8, h9, fun A S s2 hr => h10 A S s2 (hr.mono h)⟩
    | next => exact hq.elim
    | brk => exact hq.elim
    | cont => exact hq.elim
theorem arL2 {g} : ∀ ds, ds.length ≠ 2 → fnL2 g ds [] = .bad := fun ds h => by
  match ds, h with
  | [_, _], h => exact absurd rfl h
  | [], _ => rfl
  | [_], _ => rfl
  | _ :: _ :: _ :: _, _ => rfl
end EV
namespace EV
open PySem PySem.Spec PyProof.Rows L2 PySem.W
end EV
namespace EV
open PySem PySem.Spec PyProof.Rows L2
end EV
section
set_option maxHeartbeats 4000000
namespace EV
open PySem PySem.Spec PyProof.Rows L2
theorem tuple_mul1 (l : Addr) (items : Array Value) (n : Nat) (dd : Option Addr) (sl : Array (Option Value)) (x : Int) (u : Tok) (c0 : (decide (x < -(2 ^ 63)) || decide (x ≥ 2 ^ 63)) = false) (c1 : (items.isEmpty || x == 1) = true) :
    Meets (Builtin.«tuple.__mul__» ⟨[.ref l, .int x u], []⟩) (fun _ R s => s.heap.get? l = some { cls := .type "tuple", dict := dd, data := .seq items n, slots := sl } ∧ R (.ok (.ret (Value.ref l))) s) :=
  .of_wp fun prog w A R s h => by
    obtain ⟨hp, g, d, tk, os⟩ := s
    (refine EV.el0_2 h ?_; try clear h; intro hl h)
    have f1 := AutoSeq1.idx_int
    wp_walk using wpAny_loadPart' hl
    repeat (first
      | (refine wpAny_ite_false (decide_eq_false (by rw [c0]; exact Bool.false_ne_true)) ?_; wp_walk using wpAny_loadPart' hl)
      | (refine wpAny_ite_true (decide_eq_true c1) ?_; wp_walk using wpAny_loadPart' hl))
    exact EV.in1_2 _ rfl h
noncomputable def rRep1 (K : PySem.W.Frag) : R2 := fun x y H Q => ∃ l xs, x = .ref l ∧ y = .int 1 ∧ SqT K H l xs ∧ Q (.ref l) H
section
variable {X : Cx}
theorem op_rep1 : OpR X (binaryOp .Mult) (rRep1 X.K) := by
  intro pins s σ H x y v u Q I rx ry h
  (refine EV.el2_2 h ?_; try clear h; intro l xs q132_ q133_; obtain rfl := q132_; (refine EV.el0_2 q133_ ?_; try clear q133_; intro q134_ q135_; obtain rfl := q134_; (refine EV.el0_2 q135_ ?_; try clear q135_; intro hT q)))
  cases rx
  (refine EV.el1_1 ry ?_; try clear ry; intro t q136_; obtain rfl := q136_)
  (refine EV.el1_3 (I.tuple hT) fun its r q137_ hs => ?_; obtain ⟨⟨cls, dd, data, sl⟩, ho, hc, n, hd⟩ := q137_)
  simp only at hc hd
  subst hc hd
  have c0 : (decide ((1 : Int) < -(2 ^ 63)) || decide ((1 : Int) ≥ 2 ^ 63)) = false := by
    rw [decide_eq_false (by decide), decide_eq_false (by decide)] <;> rfl
  have c1 : (its.toArray.isEmpty || (1 : Int) == 1) = true := by
    rw [beq_self_eq_true, Bool.or_true]
  refine wpAny_binaryOp_repeat_ref (T := "tuple") (U := "int") (by decide) ⟨_, ho, rfl⟩ (fun s' => typeIs_int s' 1 t) noFill_tuple_mul F.fills_int_mul F.slot_int_rmul repeat_tuple F.slot_int_index.lookup
    (call_meets F.slot_int_rmul (typeIs_int s 1 t) F.entry_int_rmul (F.args_int_rmul_2 _ _) (int_rmul_tuple 1 t l its.toArray n dd sl)
      ⟨ho, rfl, ⟨_, ho, rfl⟩, call_meets F.slot_tuple_mul ⟨_, ho, rfl⟩ F.entry_tuple_mul (F.args_tuple_mul_2 _ _) (tuple_mul1 l its.toArray n dd sl 1 t c0 c1) ⟨ho, ?_⟩⟩)
  exact EV.in2_3 (.ref l) H I rfl q
end
noncomputable def repD (k : Int) (xs : List D) : List D := (List.replicate k.toNat xs).flatten
noncomputable def mulG : D → D → PM D
  | .tup xs, .int k => if k = 1 then pure (.tup xs) else if xs ≠ [] ∧ 2 ≤ k ∧ k ≤ 1000 ∧ xs.length ≤ 1000 then mkT (repD k xs) else bad
  | a, b => mulD a b
theorem rep_rp {K : PySem.W.Frag} {G : Hp} {vs : List V} {ds : List D} (r : RpL K G vs ds) : ∀ n : Nat, RpL K G (List.replicate n vs).flatten (List.replicate n ds).flatten
  | 0 => .nil
  | n + 1 => by
    rw [List.replicate_succ, List.replicate_succ, List.flatten_cons, List.flatten_cons]
    exact r.app (rep_rp r n)
section
variable {X : Cx}
theorem od_mulG : OpD X (binaryOp .Mult) mulG := by
  refine EV.el1_2 (od_mul (X := X)) fun r h1 h2 => ?_
  refine EV.in1_2 _ ((h1.or op_repT).or op_rep1) (fun W pa σ G H s x y a b Q hs hp ra rb P => ?_)
  by_cases ht : ∃ xs k, a = .tup xs ∧ b = .int k
  · (refine EV.el2_2 ht ?_; try clear ht; intro xs k q139_ q140_; obtain rfl := q139_; obtain rfl := q140_)
    cases rb
    have P : Pst X.K W X.mg pa σ (FD X.K Q) G H ((if k = 1 then pure (.tup xs) else if xs ≠ [] ∧ 2 ≤ k ∧ k ≤ 1000 ∧ xs.length ≤ 1000 then mkT (repD k xs) else bad : PM D) s) := P
    cases ra with
    | @tup l vs ds h n rr =>
      by_cases k1 : k = 1
      · subst k1
        rw [if_pos rfl] at P
        exact .inr ⟨l, vs, rfl, rfl, sameT hs h, P.now hs hp _ (.tup h n rr)⟩
      · rw [if_neg k1] at P
        by_cases g : xs ≠ [] ∧ 2 ≤ k ∧ k ≤ 1000 ∧ xs.length ≤ 1000
        · rw [if_pos g] at P
          have rl : RpL X.K G vs xs := ⟨n, rr⟩
          have rp := rep_rp rl k.toNat
          exact .inl (.inr ⟨l, k, vs, rfl, rfl, sameT hs h, fun e => g.1 (by rw [e] at n; exact List.eq_nil_of_length_eq_zero n.symm), g.2.1, g.2.2.1, by rw [n]; exact g.2.2.2, fun p np => mkT_use P rp hs hp np⟩)
        · rw [if_neg g] at P
          exact P.elim
  · have e : mulG a b = mulD a b := by
      cases a <;> cases b <;> first | rfl | exact absurd ⟨_, _, rfl, rfl⟩ ht
    rw [e] at P
    exact .inl (.inl (h2 W pa σ G H s x y a b Q hs hp ra rb P))
end
end EV
end
namespace EV
open PySem PySem.Spec PyProof.Rows L2
end EV
namespace EV
open PySem PySem.Spec PyProof.Rows L2
end EV
namespace L2
open PySem PySem.Spec PyProof.Rows PpSet
end L2
namespace EV
open PySem PySem.Spec PyProof.Rows L2
end EV
namespace EV
open PySem PySem.Spec PyProof.Rows L2 PySem.W
open AutoSeq1 (wpAny_loadPart')
end EV
namespace EV
open PySem PySem.Spec PyProof.Rows L2
section
variable {K : PySem.W.Frag} {pa : Option Addr} {G0 H0 G H : Hp} {σ : L2.St} {Γ : List Sl} {s : List Int}
/-- a dict of one's own is changed -/
theorem Nv.mutDic (E : Nv K pa G0 H0 G H σ Γ s) {i : Nat} {sh sh' : DSh} {xs ys : List D} {p : Addr} {vs : List V} (h : Γ[i]? = some (.dic sh xs)) (hp : σ[i]? = some (some (.ref p))) (r : RpL K G vs ys) (hl : sh'.len = ys.length) (hat : autoParam (sh.at p → sh'.at p) EV.tac8) :
    Nv K pa G0 H0 G (upd H p (sh'.ho vs)) σ (Γ.set i (.dic sh' ys)) s := by
  refine EV.el2_6 (E.x.dic i sh xs h) fun p' vs' h1 h2 h3 h4 h5 h6 => ?_
  rw [hp] at h1
  cases h1
  have hlt : i < Γ.length := (List.getElem?_eq_some_iff.mp h).1
  have lst : ∀ {q : Addr} {ws : List V}, H q = some (.lst ws) → q ≠ p := fun {q ws} e z => by
    rw [z, h2] at e
    exact DSh.notLst (Option.some.inj e)
  have back : ∀ {j : Nat} {z : Sl}, plainS z = true → (Γ.set i (.dic sh' ys))[j]? = some z → Γ[j]? = some z := fun {j z} hz e => by
    by_cases hj : i = j
    · subst hj
      rw [List.getElem?_set_self hlt] at e
      rw [← Option.some.inj e] at hz
      exact EV.nnB hz
    · rw [List.getElem?_set_ne hj] at e
      exact e
  have old : ∀ {j : Nat} {s2 : DSh} {zs : List D}, (Γ.set i (.dic sh' ys))[j]? = some (.dic s2 zs) → ∃ s3 ws, Γ[j]? = some (.dic s3 ws) := fun {j s2 zs} e => by
    by_cases hj : i = j
    · subst hj
      exact EV.in2_1 sh xs h
    · rw [List.getElem?_set_ne hj] at e
      exact EV.in2_1 s2 zs e
  refine ⟨by simp [E.len], fun j d e => E.val j d (back rfl e), fun j zs e => ?_, fun j l q ys' zs e1 e2 => E.inj j l q ys' zs (back rfl e1) (back rfl e2), fun j e => E.pen j (back rfl e), fun j ns e => E.scr j ns (back rfl e), fun q e => ?_, ?_, ⟨fun j s2 zs e => ?_, fun j l q s1 y1 s2 z2 e1 e2 => ?_, fun j s2 zs e => ?_, E.x.t0, E.x.nt⟩⟩
  · refine EV.el2_3 (E.own j zs (back rfl e)) fun q ws q1 q2 q3 => ?_
    exact EV.in2_3 q ws q1 (by rw [upd_ne (lst q2)]; exact q2) q3
  · refine EV.el0_2 (E.ps q e) fun q1 q2 => ?_
    rw [upd_ne (lst q2)]
    exact ⟨q1, q2⟩
  · refine ⟨E.ext.g, fun a o e n nt => ?_, fun a o e => ?_, E.ext.n, fun a o e => ?_, fun hK => (E.ext.tk hK).upd (fun _ z => DSh.notTbl z) (fun φ z => by rw [h2] at z; exact DSh.notExt (Option.some.inj z)) (fun φ z => by rw [h2] at z; exact DSh.notTbl (Option.some.inj z)), E.ext.gt⟩
    · rw [upd_ne (ne_of_none e h6.1)]
      exact E.ext.h a o e n nt
    · rw [upd_ne (ne_of_none e h6.1)]
      exact E.ext.t a o e
    · rw [upd_ne (ne_of_none e h3)]
      exact E.sub a o e
  · by_cases hj : i = j
    · subst hj
      rw [List.getElem?_set_self hlt] at e
      cases e
      exact EV.in2_7 p vs hp upd_same h3 r hl (h6.1) (hat h6.2)
    · rw [List.getElem?_set_ne hj] at e
      refine EV.el2_3 (E.x.dic j s2 zs e) fun q ws q1 q2 q3 => ?_
      have ne : q ≠ p := fun z => by
        rw [z] at q1
        exact hj (E.x.inj i j p _ _ _ _ h e hp q1)
      exact EV.in2_3 q ws q1 (by rw [upd_ne ne]; exact q2) q3
  · refine EV.el2_1 (old e1) fun _ _ f1 => ?_
    refine EV.el2_1 (old e2) fun _ _ f2 => ?_
    exact E.x.inj j l q _ _ _ _ f1 f2
  · by_cases hj : i = j
    · subst hj
      rw [List.getElem?_set_self hlt] at e
      cases e
    · rw [List.getElem?_set_ne hj] at e
      exact E.x.ro j s2 zs e
end
end EV
namespace EV
open PySem PySem.Spec PyProof.Rows L2
end EV
namespace EV
open PySem PySem.Spec PyProof.Rows L2 PySem.W
end EV
namespace EV
open PySem PyProof.Rows L2
end EV
namespace EV
open PySem PySem.Spec PyProof.Rows L2 PySem.W
end EV
namespace EV
open PySem PySem.Spec PyProof.Rows L2
end EV
namespace EV
open PySem PySem.Spec PyProof.Rows L2 PySem.W
end EV
namespace EV
open PySem PySem.Spec PyProof.Rows L2
noncomputable def mulL : D → D → PM D
  | .lst xs, .int k => if -(2 ^ 63) ≤ k ∧ k < 2 ^ 63 ∧ xs.length * k.toNat ≤ lim then mkL (repD k xs) else bad
  | _, _ => bad
theorem od_mulL {X : Cx} : OpD X (binaryOp .Mult) mulL := by
  refine EV.in1_2 _ op_rep (fun W pa σ G H s x y a b Q hs hp ra rb P => ?_)
  cases ra with
  | @lst l vs ds h n rr =>
    cases rb with
    | int k =>
      have P : Pst X.K W X.mg pa σ (FD X.K Q) G H ((if -(2 ^ 63) ≤ k ∧ k < 2 ^ 63 ∧ ds.length * k.toNat ≤ lim then mkL (repD k ds) else bad : PM D) s) := P
      by_cases hc : -(2 ^ 63) ≤ k ∧ k < 2 ^ 63 ∧ ds.length * k.toNat ≤ lim
      · rw [if_pos hc] at P
        exact ⟨l, k, vs, rfl, rfl, hs _ _ h, hc.1, hc.2.1, by rw [n]; exact lim_le hc.2.2, fun p np => mkL_use P (rep_rp ⟨n, rr⟩ _) hs hp np⟩
      · rw [if_neg hc] at P
        exact P.elim
    | _ => exact P.elim
  | _ => exact P.elim
end EV
namespace EV
open PySem PySem.Spec PyProof.Rows L2
/-- the module's x is an own exception class below ValueError, without an own __init__ -/
structure ErrC (K : PySem.W.Frag) (mg : Str → Option Value) (x : Str) : Prop where
  ex : ∃ C : Addr, mg x = some (.ref C) ∧ PySem.W.excIn K C [.type "ValueError", .type "Exception", .type "BaseException", .type "object"] "ValueError.__new__" = true ∧ PySem.W.keepIn K (.ref C) = true ∧
    PySem.W.subIn K (.ref C) (.type "BaseException") = some true ∧ PySem.W.typeIn K (.ref C) = some (.type "type")
theorem nf_raise {α : Type} {out : α → Out} {e : Ex} : NF out (raiseP e : PM α) := fun a s s' Γ' q => by cases q
section
variable {X : Cx} {W : WX} {pa : Option Addr} {Γ : List Sl} {k : Nat} {pos : Pos} {α : Type} {out : α → Out} {rest : List Stmt}
/-- raise X("..") -/
theorem sv_raise {x m : Str} {j : Nat} {p p2 p3 : Pos} (C : Cok X W k) (E : ErrC X.K X.mg x) (hg : autoParam (Gl X x) EV.tac2) (hdb : autoParam ((x == ("__debug__" : Str)) = false) EV.tac1) :
    SV X W pa Γ out (.Raise (some (.Call (.Name x p) [.Constant (.str m) j p2] [] p3)) none pos :: rest) (raiseP ⟨x, []⟩) := by
  refine EV.el1_5 (E.ex) fun c h1 h2 h3 h4 h5 => ?_
  refine pss_imp (pss_cons (ps_raise C.calm C.takes (pmk_own PySem.F.excBase_ValueError h2 h1 h3 (raises_own h4 h5) hg hdb)) pss_never) fun Dn σ H h_ => EV.ex4 h_ fun G0 H0 G s N P => ?_
  have P : ∀ cls dx σ' G' H', Ext X.K pa G0 H0 G' H' → ExcIs X.K X.mg G' H' ⟨x, []⟩ cls dx → W cls dx σ' H' := P
  exact P (.ref c) none σ G H N.ext ⟨h1, fun _ => rfl, fun z => absurd rfl z⟩
end
end EV
set_option maxHeartbeats 2000000
namespace EV
open PySem PySem.Spec PyProof.Rows L2
section
variable {X : Cx} {k : Nat} {f : Addr} {fd : FuncData} {ps : List Str} {sp : Addr × Obj → List V → Hp → VK → Prop} {x : Str} {q pos : Pos} {e : Expr} {es : List Expr} {t : TA}
/-- isinstance(e, c), e the handled exception -/
theorem call_isP {a D : Addr} {oe : Obj} (hp : (a, oe) ∈ X.pn) (C : ExcC X.K D) (hz : Zc (.ref D) none oe) (hf : ∃ vs, oe.data = .fields vs) : CallR X (.builtin "isinstance") (rIsE X.K D a) := by
  intro pins s σ H xs us Q I r ⟨c, cv, b, e1, hcv, e, y⟩
  subst e1
  (refine EV.el2_2 (vals2 r) fun u1 u2 q141_ q142_ => ?_; obtain rfl := q141_; (refine EV.el0_2 q142_ ?_; try clear q142_; intro rx rt))
  cases rx
  cases hcv _ rt
  refine EV.el0_2 (I.pin (a, oe) (List.mem_append_left _ hp)) fun hget _ => ?_
  (refine EV.el1_1 hf ?_; try clear hf; intro vs hv)
  have J : PySem.W.InstAt s.heap a oe D none := by
    obtain ⟨oc, od, oda, osl⟩ := oe
    (refine EV.el0_2 hz ?_; try clear hz; intro h1 h2)
    dsimp only at h1 h2 hv
    subst h1 h2 hv
    exact ⟨hget, rfl, rfl, trivial⟩
  exact PySem.W.kia_one (PySem.W.handS_kitx_exc C.hg C.hk C.hs C.hd C.ha C.hn C.ht C.hm) I.kIn J e (fun z => nomatch z) fun tk => ⟨.bl b, H, I.kept (t' := tk) fun _ _ z => z, rfl, y⟩
end
end EV
set_option maxHeartbeats 2000000
namespace EV
open PySem PySem.Spec PyProof.Rows L2
/-- new things alone, no tables -/
noncomputable def News (H H' : Hp) : Prop := (∀ b o, H b = some o → H' b = some o) ∧ ∀ P ps, H' P = some (.tbl ps) → H P = some (.tbl ps)
theorem News.refl (H : Hp) : News H H := ⟨fun _ _ h => h, fun _ _ h => h⟩
theorem News.upd {H H' : Hp} (n : News H H') {p : Addr} {o : HO} (np : H' p = none) (ho : ∀ ps, o ≠ .tbl ps) : News H (L2.upd H' p o) := ⟨fun b u e => by
  have e' := n.1 b u e
  rw [upd_ne (ne_of_none e' np)]
  exact e', fun P ps e => by
  by_cases z : P = p
  · subst z
    rw [upd_same] at e
    exact absurd (Option.some.inj e) (ho ps)
  · rw [upd_ne z] at e
    exact n.2 P ps e⟩
theorem News.mut {H H' : Hp} (n : News H H') {p : Addr} {o : HO} (np : H p = none) (ho : ∀ ps, o ≠ .tbl ps) : News H (L2.upd H' p o) := ⟨fun b u e => by
  rw [upd_ne (ne_of_none e np)]
  exact n.1 b u e, fun P ps e => by
  by_cases z : P = p
  · subst z
    rw [upd_same] at e
    exact absurd (Option.some.inj e) (ho ps)
  · rw [upd_ne z] at e
    exact n.2 P ps e⟩
theorem News.free {H H' : Hp} (n : News H H') {p : Addr} (h : H' p = none) : H p = none := by
  cases q : H p with
  | none => rfl
  | some o =>
    rw [n.1 p o q] at h
    exact EV.nnS (Eq.symm h)
theorem dp_bls {K : PySem.W.Frag} {H : Hp} {l : Addr} (bs : List Bool) (h : H l = some (.lst (bs.map V.bl))) : Dp K H (.ref l) (.list (bs.map PyData.bool)) := by
  refine .lst (SqL.of h) ?_
  induction bs with
  | nil => exact .nil
  | cons b bs ih => exact .cons (.bl b) (by
      clear h
      clear ih
      induction bs with
      | nil => exact .nil
      | cons c bs ih => exact .cons (.bl c) ih)
end EV
set_option maxHeartbeats 2000000
namespace EV
open PySem PySem.Spec PyProof.Rows L2
/-- the names of the exceptions, in the order of the words -/
noncomputable def errsL : List Str := ["NetError", "ComponentError", "SetError", "ReportError", "WordError", "NumberError", "TextError", "NothingDone", "Unexplained", "LimitError"]
/-- the class at D is number j; CA is the class of them all -/
structure ErrJ (K : PySem.W.Frag) (mg : Str → Option Value) (CA : Addr) (D : Addr) (j : Nat) : Prop where
  cls : ExcC K D
  all : PySem.W.exmOne K (.ref D) (.ref CA) = some true
  val : PySem.W.kitOne K (.ref D) (.type "ValueError") = some true
  is : ∀ (i : Nat) (x : Str), errsL[i]? = some x → ∃ C, mg x = some (.ref C) ∧ PySem.W.kitOne K (.ref D) (.ref C) = some (i == j)
theorem pss_and {X : Cx} {sts : List Stmt} {t : TS} {p : Prop} (h : p → PSs X sts t) : PSs X sts (fun D σ H => p ∧ t D σ H) := ⟨fun pins s σ H D I h9_ => by (refine EV.el0_2 h9_ ?_; try clear h9_; intro z q); exact (h z).run pins s σ H D I q⟩
theorem pss_len {X : Cx} {sts : List Stmt} {t : TS} (h : PSs X sts t) : PSs X sts (fun D σ H => σ.length = X.N.length → t D σ H) := ⟨fun pins s σ H D I q => h.run pins s σ H D I (q I.len)⟩
end EV
set_option maxHeartbeats 2000000
namespace EV
open PySem PySem.Spec PyProof.Rows L2 LamX
/-- the heap behind the making of a lambda: as it was, or the table at P has grown by the code object c' -/
noncomputable def LamH (P : Addr) (q : Str) (c' : Addr) (H H1 : Hp) : Prop := H1 = H ∨ ∃ ps more, H P = some (.tbl ps) ∧ H c' = none ∧ H1 = upd (upd H P (.tbl (ps ++ more))) c' (CodeO c' q)
section
variable {X : Cx} {pins : List (Addr × Obj)} {σ : L2.St} {H : Hp} {s : Shared}
theorem lam_make3 {c P : Addr} {params : Arguments} {body : Expr} {scope : Scope} {pos : Pos} {E : Value → Shared → Prop} {Q : Value → Shared → Prop} (I : Inv X pins σ H s) (TB : TabB X.base X.mg c P) (hcode : X.env.code = .ref c)
    (hT : TabS H P (X.env.qual ++ "<lambda>")) (hdef : defaultsOf params X.env = ([], [])) (hfree : ∀ y ∈ scope.names, y.2 = .free → ∃ c, X.env.cells.lookup y.1 = some c)
    (h : ∀ (f c' : Addr) (pm ctv : Value) (H1 : Hp) (s' : Shared), Inv X pins σ H1 s' → LamH P (X.env.qual ++ "<lambda>") c' H H1 → TabS H1 P (X.env.qual ++ "<lambda>") →
      s'.heap.get? f = some (PySem.W.kla_obj "<lambda>" (X.env.qual ++ "<lambda>") params body scope (cloFrom X.env.cells scope.names []) pm c' ctv) → H1 f = none → f ∉ frs X.stack → H1 c' = some (CodeO c' (X.env.qual ++ "<lambda>")) → Q (.ref f) s') :
    wpAny (model X.prog X.w) X.A (eval (.Lambda params body scope pos) X.env) Q E s := by
  (refine EV.el1_3 hT ?_; try clear hT; intro ps hP ht ha)
  have bP : s.heap.BuiltinsAt X.mg P := TB.bm.keeps I.bk
  have hP' : s.heap.get? P = some { cls := .none, data := .fields ps } := I.hok P _ hP
  have nofr : ∀ f, s.heap.objs.size ≤ f → f ∉ frs X.stack := fun f hf z => (List.mem_cons.mp (I.stkSub _ z)).elim
    (fun e => Nat.lt_irrefl _ (Nat.lt_of_lt_of_le (e ▸ I.lt) hf)) fun e => I.nofs hf e
  refine PySem.W.kla_eval hdef ?_
  cases hc : codeAmong pos ps.toList with
  | some cv =>
    (refine EV.el1_2 (ha pos cv hc) fun c' q143_ hco => ?_; obtain rfl := q143_)
    refine PySem.W.kla_makeFunctionHit (mg := X.mg) (c := c) (P := P) (ps := ps) (closure_ok hfree) I.ok.glob (I.mod.glob.keeps I.bk) hcode (TB.code.keeps I.bk) hP' ht hc bP fun ctv h' tk hx hsz => ?_
    exact h h'.objs.size c' _ ctv H _ (I.kept (t' := tk) fun b o e => Heap.get?_push_of_some _ (hx b o e)) (.inl rfl) ⟨ps, hP, ht, ha⟩ (Heap.get?_push_size _ rfl) (I.hok.fresh hsz) (nofr _ hsz) hco
  | none =>
    refine PySem.W.kla_makeFunction (mg := X.mg) (c := c) (P := P) (ps := ps) (closure_ok hfree) I.ok.glob (I.mod.glob.keeps I.bk) hcode (TB.code.keeps I.bk) hP' ht hc TB.gP bP fun c' ctv h' tk hx hge hlt hrec htb => ?_
    (refine EV.el4_4 hrec ?_; try clear hrec; intro c2 oc vs t e2 hoc hd hv)
    obtain rfl := PySem.Value.ref.inj e2
    have nC : H c' = none := I.hok.fresh hge
    have hsz : s.heap.objs.size ≤ h'.objs.size := Nat.le_trans hge (Nat.le_of_lt hlt)
    have n1 : h'.objs.size ≠ c' := Nat.ne_of_gt hlt
    have n2 : h'.objs.size ≠ P := Nat.ne_of_gt (Nat.lt_of_lt_of_le (Heap.lt_size hP') hsz)
    refine h h'.objs.size c' _ ctv _ _ (inv_table (t' := tk) (more := #[rawInt pos.line, rawInt pos.col, .ref c']) I hP (fun b o hb e => Heap.get?_push_of_some _ (hx b o hb e)) (Heap.get?_push_of_some _ htb) hge ⟨oc, vs, t, Heap.get?_push_of_some _ hoc, hd, hv⟩)
      (.inr ⟨ps, _, hP, nC, rfl⟩) ?_ (Heap.get?_push_size _ rfl) (by rw [upd_ne n1, upd_ne n2]; exact I.hok.fresh hsz) (nofr _ hsz) upd_same
    have eL : (ps ++ #[rawInt pos.line, rawInt pos.col, .ref c']).toList = ps.toList ++ [rawInt pos.line, rawInt pos.col, .ref c'] := by simp
    refine EV.in1_3 _ (by rw [upd_ne (ne_of_none hP nC), upd_same]) (by rw [eL]; exact PySem.TriplesOk_snoc _ _ _ _ ht) (fun p' cv hcv => ?_)
    rw [eL] at hcv
    rcases among_app _ ht hcv with z | z
    · refine EV.el1_2 (ha p' cv z) fun c0 e1 e2 => ?_
      refine EV.in1_2 c0 e1 ?_
      rw [upd_ne (ne_of_none e2 nC), upd_ne (fun y => by
        rw [y, hP] at e2
        exact codeO_ne ps (Option.some.inj e2).symm)]
      exact e2
    · exact EV.in1_2 c' z upd_same
end
noncomputable def tLam3 (P : Addr) (q : Str) (TT : (XK → Hp → VK → Prop) → Hp → VK → Prop) (t : XK → TE) : TE := fun σ H Q => TabS H P q ∧ ∀ c' H1, LamH P q c' H H1 → TabS H1 P q → TT (fun E H' Q' => t E σ H' Q') H1 Q
section
variable {X : Cx}
/-- x(lambda: body) -/
theorem pe_lam3 {TT : (XK → Hp → VK → Prop) → Hp → VK → Prop} {x a : Str} {g c P : Addr} {k : Nat} {pg : Arguments} {bg : List Stmt} {sg : Scope} {dV kV doc pm cdv ct oc : Value} {an od : Option Addr} {osl : Array (Option Value)} {Ng : List Str}
    {params : Arguments} {body : Expr} {scope : Scope} {t : XK → TE} {p lpos pos : Pos} (hg : Gl X x) (hm : X.mg x = some (.ref g)) (hk : PySem.W.keepIn X.K (.ref g) = true)
    (lk : X.K.lookup g = some ⟨oc, od, .func (PySem.W.fnOf x x pg bg sg dV kV doc pm an cdv ct), osl⟩) (hcg : PySem.W.codeIn X.K cdv x = true) (hb : L2.Binds X.K (PySem.W.fnOf x x pg bg sg dV kV doc pm an cdv ct) [a] []) (Sg : FnScope Ng [a] sg) (hNg : Ng[0]? = some a) (hva : Vis sg a)
    (hG : GivesTo X Ng x sg g cdv bg a (X.env.qual ++ "<lambda>") TT)
    (TB : TabB X.base X.mg c P) (hcode : X.env.code = .ref c) (hr : Room (k + 2) X.A) (L : LamS X.env.scope scope) (hdef : defaultsOf params X.env = ([], []))
    (hbind : ∀ (q : Str) (cl : List (Str × Addr)) (pm cv ctv : Value), bindArgs (PySem.W.kla_fn "<lambda>" q params body scope cl pm cv ctv) ⟨[], []⟩ = pure [])
    (hbody : ∀ (A : Around) (outer : List Env) (s : Shared) (H : Hp) (E : XK) (f c' : Addr), Room k (A.deeper (lamEnv X scope s.heap.objs.size f c')) → PE (lamCx X A outer s H E scope f c') body (t E))
    (hdb : autoParam ((x == ("__debug__" : Str)) = false) EV.tac1) (hd : autoParam ((a == ("__debug__" : Str)) = false) EV.tac1) (hcd : autoParam ((a == ("__classdict__" : Str)) = false) EV.tac1) :
    PE X (.Call (.Name x p) [.Lambda params body scope lpos] [] pos) (tLam3 P (X.env.qual ++ "<lambda>") TT t) := by
  refine ⟨fun pins s σ H Q I h10_ => ?_⟩; (refine EV.el0_2 h10_ ?_; try clear h10_; intro hT h)
  refine wpAny_Call_Name_kw (ld_glob I hg hm ?_ hdb)
  refine PySem.W.callWith_K (h₀ := X.base) I.ok.mod.kin hk ?_ (by rfl) (by rfl)
  show wpAny _ _ (spliced ((false, eval (.Lambda params body scope lpos) X.env) :: backTo pos (starEach [] X.env))) _ _ s
  refine Calls.spliced_cons (lam_make3 I TB hcode hT hdef (L.has I.ok) fun f c' pm' ctv H1 s' I1 eN T1 hf hfn hfr hco => Calls.spliced_nil ⟨I1.kIn, ?_⟩)
  have rc : codeAny (model X.prog X.w) X.A (.call (.ref g) ⟨[.ref f], []⟩) (CR C8.CX0 X.stack X.prog X.w H1 s' Q C8.E0) s' := by
    refine run_ofS (N := Ng) (ps := [a]) (us := [.ref f]) (vs := [.ref f]) lk hcg Sg hr I1.env0 (hb s' [.ref f] I1.kIn rfl) (.cons rfl .nil) rfl fun hr' => ?_
    refine EV.el1_2 (hG f c' s' H1 Q (fun E H' Q' => t E σ H' Q') (fun W pn xe E p1 p2 tk hW => pe_act (i := 0) I1 L hf hfn hfr (hbind _ _ _ _ _) tk hW hr' (fun A outer s H hr2 => hbody A outer s H E f c' hr2) hNg hva hd hcd) hco (h c' H1 eN T1)) fun t' ht' hq' => ?_
    exact EV.in1_2 t' (ht'.nox) hq'
  refine wpAny_call (codeAny_mono rc fun r s2 hq => ?_)
  cases r with
  | error e => exact (show False from hq).elim
  | ok fl =>
    cases fl with
    | ret u => exact I1.after hq
    | next => exact False.elim hq
    | brk => exact False.elim hq
    | cont => exact False.elim hq
end
end EV
set_option maxHeartbeats 2000000
namespace EV
open PySem PySem.Spec PyProof.Rows L2 LamX
/-- the number of an exception's name -/
noncomputable def errIx (x : Str) : Option Nat := (List.range 10).find? fun j => errsL[j]? == some x
theorem errIx_at {x : Str} {j : Nat} (h : errIx x = some j) : j < 10 ∧ errsL[j]? = some x := by
  unfold errIx at h
  have h1 := List.mem_of_find?_eq_some h
  have h2 := List.find?_some h
  exact ⟨List.mem_range.mp h1, by simpa using h2⟩
/-- the def makes lambdas: its code object, the table -/
noncomputable def LamAt (X : Cx) : Prop := ∃ c P, X.env.code = .ref c ∧ TabB X.base X.mg c P ∧ NeedT X.K P ∧ tauK X.K P = X.env.qual ++ "<lambda>"
/-- the slots of values -/
noncomputable def valS : Sl → Sl
  | .val d => .val d
  | _ => .junk
theorem valS_val {Γ : List Sl} {i : Nat} {d : D} (h : (Γ.map valS)[i]? = some (.val d)) : Γ[i]? = some (.val d) := by
  rw [List.getElem?_map] at h
  cases e : Γ[i]? with
  | none => rw [e] at h; exact EV.nnS h
  | some z =>
    rw [e] at h
    cases z <;> cases h
    rfl
theorem valS_not {Γ : List Sl} {i : Nat} {z : Sl} (h : (Γ.map valS)[i]? = some z) (n : ∀ d, z ≠ .val d) : z = .junk := by
  rw [List.getElem?_map] at h
  cases e : Γ[i]? with
  | none => rw [e] at h; exact EV.nnS h
  | some y =>
    rw [e] at h
    cases y <;> cases h <;> first | rfl | exact absurd rfl (n _)
section
variable {K : PySem.W.Frag} {pa : Option Addr} {G0 H0 G H H1 : Hp} {σ : L2.St} {Γ : List Sl} {s : List Int} {P c' : Addr} {q : Str}
/-- the heap behind the making -/
theorem lamH_ext (hs : Same G H) (tk : TabK K H) (nt : NoT G) (hL : LamH P q c' H H1) (hT : TabS H1 P q) (ht : tauK K P = q) : Ext K pa G H G H1 ∧ TabK K H1 := by
  rcases hL with rfl | ⟨ps, more, hP, hc, rfl⟩
  · exact ⟨.refl hs, tk⟩
  · have nPc : P ≠ c' := ne_of_none hP hc
    have at_ : ∀ b, b ≠ P → b ≠ c' → upd (upd H P (.tbl (ps ++ more))) c' (CodeO c' q) b = H b := fun b h1 h2 => by rw [upd_ne h2, upd_ne h1]
    have notP : ∀ b o, H b = some o → (∀ ps, o ≠ .tbl ps) → b ≠ P := fun b o e n z => by
      rw [z, hP] at e
      exact n ps (Option.some.inj e).symm
    have tk' : TabK K (upd (upd H P (.tbl (ps ++ more))) c' (CodeO c' q)) := ⟨fun P' ps' e => by
      by_cases z : P' = P
      · rw [z, ht]
        exact hT
      · by_cases z2 : P' = c'
        · rw [z2, upd_same] at e
          exact absurd (Option.some.inj e) (codeO_ne ps')
        · rw [at_ P' z z2] at e
          refine EV.el1_3 (tk.ok P' ps' e) fun ps2 h1 h2 h3 => ?_
          refine EV.in1_3 ps2 (by rw [at_ P' z z2]; exact h1) h2 (fun pos cv hcv => ?_)
          refine EV.el1_2 (h3 pos cv hcv) fun c0 e1 e2 => ?_
          refine EV.in1_2 c0 e1 ?_
          rw [at_ c0 (notP c0 _ e2 fun ps => codeO_ne ps) (ne_of_none e2 hc)]
          exact e2, fun P' n => by
      by_cases z : P' = P
      · rw [z, upd_ne nPc, upd_same]
        exact EV.in1_1 _ rfl
      · refine EV.el1_1 (tk.on P' n) fun ps2 e => ?_
        rw [at_ P' z (ne_of_none e hc)]
        exact ⟨ps2, e⟩⟩
    refine ⟨⟨Same.refl G, fun a o e _ n => ?_, fun a o e => ?_, fun _ _ _ n => n, fun b o e => ?_, fun _ => tk', fun h => h⟩, tk'⟩
    · rw [at_ a (notP a o e n) (ne_of_none e hc)]
      exact e
    · by_cases z : a = P
      · rw [z, upd_ne nPc, upd_same]
        exact EV.in1_1 _ rfl
      · rw [at_ a z (ne_of_none e hc)]
        exact EV.in1_1 o e
    · have e' := hs b o e
      rw [at_ b (fun z => by
        rw [z] at e e'
        rw [hP] at e'
        obtain rfl := Option.some.inj e'
        exact nt P ps e) (ne_of_none e' hc)]
      exact e'
theorem News.ext {G : Hp} {H H' : Hp} (n : News H H') (hs : Same G H) : Ext K pa G H G H' := ⟨Same.refl G, fun a o e _ _ => n.1 a o e, fun a o e => ⟨o, n.1 a o e⟩, fun _ _ _ h => h, fun b o e => n.1 b o (hs b o e),
  fun h => h.keep n.2 (fun c φ e => n.1 c _ e) fun P ps e => n.1 P _ e, fun h => h⟩
/-- what the lambda sees -/
theorem Nv.lam (E : Nv K pa G0 H0 G H σ Γ s) (hs : Same G H1) (tk : TabK K H1) : Nv K Option.none G H1 G H1 σ (Γ.map valS) [] where
  len := by rw [List.length_map]; exact E.len
  val := fun i d e => E.val i d (valS_val e)
  own := fun i xs e => by cases valS_not e (fun d z => by cases z)
  inj := fun i j p xs ys e => by cases valS_not e (fun d z => by cases z)
  pen := fun i e => by cases valS_not e (fun d z => by cases z)
  scr := fun i ns e => by cases valS_not e (fun d z => by cases z)
  ps := PenOk.none
  ext := .refl hs
  x := NvX.none (fun z m => by
    obtain ⟨i, hi, e⟩ := List.getElem_of_mem m
    have e2 : (Γ.map valS)[i]? = some z := by rw [List.getElem?_eq_getElem hi, e]
    cases z with
    | dic sh xs => cases valS_not e2 (fun d z => by cases z)
    | ro sh xs => cases valS_not e2 (fun d z => by cases z)
    | _ => rfl) tk E.x.nt
end
end EV
set_option maxHeartbeats 2000000
namespace EV
open PySem PySem.Spec PyProof.Rows L2
/-- a slot that holds the instance x, being made -/
noncomputable def insS (x C dx : Addr) (ks : List Str) (xs : List D) : Sl := .dic (.ins x C dx ks) xs
theorem zip_putF {f : Str} {v : V} : ∀ {ks : List Str} {vs : List V}, f ∉ ks → vs.length = ks.length → putF f v (ks.zip vs) = (ks ++ [f]).zip (vs ++ [v])
  | [], [], _, _ => rfl
  | [], _ :: _, _, h => by simp at h
  | _ :: _, [], _, h => by simp at h
  | k :: ks, w :: vs, n, h => by
    have e : (k = f) = False := eq_false fun z => n (by rw [z]; exact List.mem_cons_self)
    show putF f v ((k, w) :: ks.zip vs) = _
    unfold putF
    rw [if_neg (by rw [e]; exact not_false), zip_putF (fun m => n (List.mem_cons_of_mem _ m)) (by simpa using h)]
    rfl
theorem zip_lookup {f : Str} : ∀ {ks : List Str} {vs : List V} {j : Nat} {v : V}, ks[j]? = some f → (∀ i, i < j → ks[i]? ≠ some f) → vs[j]? = some v → (ks.zip vs).lookup f = some v := by
  intro ks
  induction ks with
  | nil =>
    intro vs j v h _ _
    cases h
  | cons k ks ih =>
    intro vs j v h n e
    cases vs with
    | nil => cases e
    | cons w vs =>
      cases j with
      | zero =>
        obtain rfl : k = f := Option.some.inj h
        obtain rfl : w = v := Option.some.inj e
        show (match k == k with | true => some w | false => _) = some w
        rw [beq_self_eq_true]
      | succ j =>
        have nk : (f == k) = false := beq_eq_false_iff_ne.mpr fun z => n 0 (Nat.succ_pos _) (by rw [z]; rfl)
        show (match f == k with | true => some w | false => (ks.zip vs).lookup f) = some v
        rw [nk]
        exact ih h (fun i hi => n (i + 1) (Nat.succ_lt_succ hi)) e
theorem upd_comm {H : Hp} {a b : Addr} {u v : HO} (h : a ≠ b) : upd (upd H a u) b v = upd (upd H b v) a u := funext fun c => by
  by_cases ha : c = a
  · subst ha
    rw [upd_ne h, upd_same, upd_same]
  · by_cases hb : c = b
    · subst hb
      rw [upd_same, upd_ne ha, upd_same]
    · rw [upd_ne hb, upd_ne ha, upd_ne ha, upd_ne hb]
section
variable {X : Cx} {W : WX} {pa : Option Addr} {Γ : List Sl} {k : Nat} {pos : Pos} {α : Type} {out : α → Out} {rest : List Stmt}
/-- self.f = e, a new attribute -/
theorem sv_fldNew (i : Nat) {x f : Str} {e : Expr} {o Cl dx : Addr} {ks : List Str} {xs : List D} {me : PM D} {kk : D → PM α} {p1 p2 : Pos} (hc : Cls X.K Cl) (hn : NoAttr X.K Cl f) (hΓ : Γ[i]? = some (insS o Cl dx ks xs)) (hf : f ∉ ks) (hl : ks.length < 900) (he : EV X W pa Γ e me)
    (hr : ∀ d, SV X W pa (Γ.set i (insS o Cl dx (ks ++ [f]) (xs ++ [d]))) out rest (kk d))
    (hN : autoParam (X.N[i]? = some x) EV.tac2) (hv : autoParam (Vis X.env.scope x) EV.tac7) (hd : autoParam ((x == ("__debug__" : Str)) = false) EV.tac1) (hcd : autoParam ((x == ("__classdict__" : Str)) = false) EV.tac1)
    (hs : autoParam (swapsWith e (some (.Attribute (.Name x p1) f p2)) pos.line X.env = pure false) EV.tac2) :
    SV X W pa Γ out (.Assign [.Attribute (.Name x p1) f p2] e pos :: rest) (me >>= fun d => kk d) := by
  unfold SV
  rw [bind_assoc]
  have hrest : PSs X rest (fun Dn σ H => ∃ d : D, svT X W pa (Γ.set i (insS o Cl dx (ks ++ [f]) (xs ++ [d]))) (kk d >>= fun a => pure (out a)) Dn σ H) := pss_ex (ι := D) fun d => hr d
  refine pss_imp (pss_cons (ps_fld (pe_var hN hv hd hcd) he hs) hrest) fun Dn σ H h_ => EV.ex4 h_ fun G0 H0 G s E P => ⟨G0, H0, G, s, E, (P.bind E).imp fun G1 H1 d s1 x1 p1 P1 v r => ?_⟩
  have E1 := E.step x1 p1
  refine EV.el2_6 (E1.x.dic i _ _ hΓ) fun p vs q1 q2 q3 q4 q5 q6 => ?_
  have lk : vs.length = ks.length := by rw [q4.1]; exact q5.symm
  refine ⟨.ref p, q1, p, Cl, dx, ks.zip vs, rfl, q2, hc, hn, by rw [List.length_zip]; omega, d, G0, H0, G1, s1, ?_, P1⟩
  rw [zip_putF hf lk]
  exact E1.mutDic (sh' := .ins o Cl dx (ks ++ [f])) (ys := xs ++ [d]) hΓ q1 (q4.app (.cons r .nil)) (by
    show (ks ++ [f]).length = _
    have q5 : ks.length = xs.length := q5
    simp [q5]) (fun z => z)
/-- self.f, an attribute that is there -/
theorem ev_fldOwn (i j : Nat) {x f : Str} {o Cl dx : Addr} {ks : List Str} {xs : List D} {d : D} {p1 : Pos} (hc : Cls X.K Cl) (hn : NoAttr X.K Cl f) (hΓ : Γ[i]? = some (insS o Cl dx ks xs)) (hj : ks[j]? = some f) (hb : ∀ i, i < j → ks[i]? ≠ some f) (hx : xs[j]? = some d)
    (hN : autoParam (X.N[i]? = some x) EV.tac2) (hv : autoParam (Vis X.env.scope x) EV.tac7) (hd : autoParam ((x == ("__debug__" : Str)) = false) EV.tac1) (hcd : autoParam ((x == ("__classdict__" : Str)) = false) EV.tac1)
    (ha : autoParam (attributeBase (.Name x p1) f X.env (eval (.Name x p1) X.env) = eval (.Name x p1) X.env) EV.tac2) : EV X W pa Γ (.Attribute (.Name x p1) f pos) (pure d) :=
  pe_imp (pe_fld (pe_var hN hv hd hcd) ha) fun σ H Q h_ => EV.ex4 h_ fun G0 H0 G s E P => by
    refine EV.el2_6 (E.x.dic i _ _ hΓ) fun p vs q1 q2 q3 q4 q5 q6 => ?_
    refine EV.el1_2 (q4.get hx) fun v v1 v2 => ?_
    exact ⟨.ref p, q1, p, Cl, dx, ks.zip vs, v, rfl, q2, hc, hn, zip_lookup hj hb v1, P.now E.sub E.ps v v2⟩
/-- e.f of an instance that stands -/
noncomputable def fldD (Cl : Addr) (f : Str) : D → PM D
  | .obj C fs => if C = Cl then (match fs.lookup f with
    | some d => pure d
    | none => bad) else bad
  | _ => bad
theorem fvs_lookup {K : PySem.W.Frag} {G : Hp} {f : Str} : ∀ {fvs : List (Str × V)} {fs : List (Str × D)} {d : D}, fvs.map (·.1) = fs.map (·.1) → (∀ (i : Nat) (v : Str × V) (d : Str × D), fvs[i]? = some v → fs[i]? = some d → Rp K G v.2 d.2) → fs.lookup f = some d → ∃ v, fvs.lookup f = some v ∧ Rp K G v d := by
  intro fvs
  induction fvs with
  | nil =>
    intro fs d h _ q
    cases fs with
    | nil => cases q
    | cons _ _ => cases h
  | cons p fvs ih =>
    intro fs d h r q
    cases fs with
    | nil => cases h
    | cons p2 fs =>
      obtain ⟨a, v⟩ := p
      obtain ⟨b, e⟩ := p2
      have h1 : a = b ∧ fvs.map (·.1) = fs.map (·.1) := List.cons.inj h
      obtain ⟨rfl, h2⟩ := h1
      have q : (match f == a with | true => some e | false => fs.lookup f) = some d := q
      show ∃ w, (match f == a with | true => some v | false => fvs.lookup f) = some w ∧ _
      cases z : (f == a) with
      | true =>
        rw [z] at q
        cases q
        exact ⟨v, rfl, r 0 _ _ rfl rfl⟩
      | false =>
        rw [z] at q
        exact ih h2 (fun i v d e1 e2 => r (i + 1) v d e1 e2) q
theorem ev_fldO {e : Expr} {f : Str} {Cl : Addr} {m : PM D} (hn : NoAttr X.K Cl f) (he : EV X W pa Γ e m) (ha : autoParam (attributeBase e f X.env (eval e X.env) = eval e X.env) EV.tac2) : EV X W pa Γ (.Attribute e f pos) (m >>= fldD Cl f) :=
  pe_imp (pe_fld he ha) fun σ H Q h_ => EV.ex4 h_ fun G0 H0 G s E P => ⟨G0, H0, G, s, E, P.bind.imp fun G1 H1 d s1 x1 p1 P1 v r => by
    cases r with
    | @obj a C dx fvs fs h hc hk rr =>
      have P1 : Pst X.K W X.mg pa σ (FD X.K Q) G1 H1 ((if C = Cl then (match fs.lookup f with | some d => pure d | none => bad) else bad : PM D) s1) := P1
      by_cases z : C = Cl
      · subst z
        rw [if_pos rfl] at P1
        cases q : fs.lookup f with
        | none => rw [q] at P1; exact P1.elim
        | some d =>
          rw [q] at P1
          refine EV.el1_2 (fvs_lookup hk rr q) fun w w1 w2 => ?_
          exact ⟨a, C, dx, fvs, w, rfl, x1.sub _ _ h, hc.cl, hn, w1, P1.now x1.sub p1 w w2⟩
      · rw [if_neg z] at P1
        exact P1.elim
    | _ => exact P1.elim⟩
/-- isinstance(e, C), C an own class; tab: the classes of the instances that may come, and whether they are below it -/
noncomputable def isC (tab : List (Addr × Bool)) : D → PM D
  | .obj C _ => match tab.lookup C with
    | some b => pure (.bl b)
    | none => bad
  | .cls _ => bad
  | _ => pure (.bl false)
structure IsCl (K : PySem.W.Frag) (mg : Str → Option Value) (x : Str) (tab : List (Addr × Bool)) : Prop where
  ex : ∃ C : Addr, mg x = some (.ref C) ∧ (∀ D b, tab.lookup D = some b → PySem.W.kitOne K (.ref D) (.ref C) = some b) ∧ ∀ T ∈ ["NoneType", "bool", "int", "str", "tuple", "list", "dict"], PySem.W.kitOne K (.type T) (.ref C) = some false
  cv : ∀ C : Addr, mg x = some (.ref C) → ClsV (.ref C) (.ref C)
theorem ev_isC {e : Expr} {x : Str} {tab : List (Addr × Bool)} {m : PM D} {p p2 : Pos} (h : EV X W pa Γ e m) (I : IsCl X.K X.mg x tab) (hg : Gl X "isinstance") (hm : X.mg "isinstance" = none) (hg2 : Gl X x) (hdb : autoParam ((x == ("__debug__" : Str)) = false) EV.tac1)
    (hs : autoParam (starEach [e, .Name x p2] X.env = (false, eval e X.env) :: starEach [.Name x p2] X.env) EV.tac2) (hs2 : autoParam (starEach [.Name x p2] X.env = (false, eval (.Name x p2) X.env) :: starEach [] X.env) EV.tac2)
    (hpl : autoParam ((backTo pos (starEach [.Name x p2] X.env)).any (·.1) = false) EV.tac2) :
    EV X W pa Γ (.Call (.Name "isinstance" p) [e, .Name x p2] [] pos) (m >>= isC tab) := by
  refine EV.el1_3 (I.ex) fun C c1 c2 c3 => ?_
  have hb : PE X (.Name x p2) (tC (.ref C)) := pe_glob hg2 c1 rfl hdb
  refine pe_imp (pe_callB call_isi hg hm (by decide +kernel) (pa_cons h (pa_cons hb pa_nil hs2) hs) (by decide) (by decide) hs hpl) fun σ H Q h_ => EV.ex4 h_ fun G0 H0 G s E P =>
    ⟨G0, H0, G, s, E, P.bind.imp fun G1 H1 d s1 x1 p1 P1 v r => ?_⟩
  by_cases ho : ∃ c fs, d = .obj c fs
  · (refine EV.el2_1 ho ?_; try clear ho; intro c fs q145_; obtain rfl := q145_)
    cases r with
    | @obj a D dx fvs fs h hc hk rr =>
      have P1 : Pst X.K W X.mg pa σ (FD X.K Q) G1 H1 ((match tab.lookup c with | some b => pure (.bl b) | none => bad : PM D) s1) := P1
      cases q : tab.lookup c with
      | none => rw [q] at P1; exact P1.elim
      | some b =>
        rw [q] at P1
        exact ⟨.ref a, .ref C, _, _, b, rfl, I.cv C c1, .base (.ins (x1.sub _ _ h) hc.cl hc.ha hc.hn hc.htk hc.hm), c2 c b q, P1.now x1.sub p1 _ (.bl _)⟩
  · by_cases hq : ∃ c, d = .cls c
    · (refine EV.el1_1 hq ?_; try clear hq; intro c q146_; obtain rfl := q146_)
      exact P1.elim
    have e : isC tab d = pure (.bl false) := by
      cases d <;> first | rfl | exact absurd ⟨_, _, rfl⟩ ho | exact absurd ⟨_, rfl⟩ hq
    rw [e] at P1
    exact ⟨v, .ref C, _, _, false, rfl, I.cv C c1, r.ty x1.sub (fun c fs z => ho ⟨c, fs, z⟩) (fun c z => hq ⟨c, z⟩), c3 _ (by cases d <;> first | (simp [tyName]; done) | exact absurd ⟨_, _, rfl⟩ ho | exact absurd ⟨_, rfl⟩ hq), P1.now x1.sub p1 _ (.bl _)⟩
end
/-- what an __init__ makes of its arguments: the values of the attributes ks -/
noncomputable def spI (K : PySem.W.Frag) (mg : Str → Option Value) (Cl : Addr) (ks : List Str) (n : Nat) (F : List D → PM (List D)) : Sp := fun vs H Q E => ∃ (x dx : Addr) (G H1 : Hp) (vs' : List V) (ds : List D),
  vs = .ref x :: vs' ∧ H x = some (.ins Cl dx []) ∧ H1 x = none ∧ G x = none ∧ Ext K none G H1 G H ∧ TabK K H1 ∧ NoT G ∧ RpL K G vs' ds ∧ ds.length = n ∧
    Pst K (fun cls d _ H' => E cls d H') mg none [] (fun G' H' fs _ => ∀ us, H' x = some (.ins Cl dx (ks.zip us)) → G' x = none → RpL K G' us fs → us.length = ks.length → Q .non H') G H1 (F ds [])
noncomputable def slotsI (N : List Str) (x Cl dx : Addr) (ds : List D) : List Sl := (insS x Cl dx [] [] :: ds.map .val) ++ List.replicate (N.length - (ds.length + 1)) .junk
section
variable {K : PySem.W.Frag} {mg : Str → Option Value} {G H H1 : Hp} {s : List Int} {N : List Str} {vs : List V} {ds : List D} {x Cl dx : Addr}
theorem nv_startI (hx : H x = some (.ins Cl dx [])) (h1 : H1 x = none) (hg : G x = none) (E : Ext K none G H1 G H) (tk : TabK K H1) (nt : NoT G) (r : RpL K G vs ds) (hn : vs.length + 1 ≤ N.length) : Nv K none G H1 G H (start N (.ref x :: vs)) (slotsI N x Cl dx ds) s where
  len := by
    rw [start_len (by simpa using hn)]
    unfold slotsI
    have := r.1
    simp
    omega
  val := fun i d e => by
    have e := get_vals e (fun z => by cases z)
    cases i with
    | zero => cases e
    | succ i =>
      rw [List.getElem?_cons_succ, List.getElem?_map] at e
      cases q : ds[i]? with
      | none => rw [q] at e; exact EV.nnS e
      | some d' =>
        rw [q] at e
        cases e
        refine EV.el1_2 (r.get q) fun v h1 h2 => ?_
        exact EV.in1_2 v (start_get (by simpa using h1)) h2
  own := fun i xs e => by
    have e := get_vals e (fun z => by cases z)
    cases i with
    | zero => cases e
    | succ i =>
      rw [List.getElem?_cons_succ, List.getElem?_map] at e
      cases q : ds[i]? <;> rw [q] at e <;> cases e
  inj := fun i j p xs ys e => by
    have e := get_vals e (fun z => by cases z)
    cases i with
    | zero => cases e
    | succ i =>
      rw [List.getElem?_cons_succ, List.getElem?_map] at e
      cases q : ds[i]? <;> rw [q] at e <;> cases e
  pen := fun i e => by
    have e := get_vals e (fun z => by cases z)
    cases i with
    | zero => cases e
    | succ i =>
      rw [List.getElem?_cons_succ, List.getElem?_map] at e
      cases q : ds[i]? <;> rw [q] at e <;> cases e
  scr := fun i ns e => by
    have e := get_vals e (fun z => by cases z)
    cases i with
    | zero => cases e
    | succ i =>
      rw [List.getElem?_cons_succ, List.getElem?_map] at e
      cases q : ds[i]? <;> rw [q] at e <;> cases e
  ps := PenOk.none
  ext := E
  x := by
    have only : ∀ {i : Nat} {z : Sl}, (slotsI N x Cl dx ds)[i]? = some z → plainS z = false → i = 0 := fun {i z} e hz => by
      have e := get_vals e (fun y => by rw [y] at hz; exact EV.nnB (Eq.symm hz))
      cases i with
      | zero => rfl
      | succ i =>
        rw [List.getElem?_cons_succ, List.getElem?_map] at e
        cases q : ds[i]? with
        | none => rw [q] at e; exact EV.nnS e
        | some d =>
          rw [q] at e
          obtain rfl := Option.some.inj e
          exact EV.nnB (Eq.symm hz)
    have at0 : ∀ {z : Sl}, (slotsI N x Cl dx ds)[0]? = some z → z = insS x Cl dx [] [] := fun {z} e => (Option.some.inj (show some (insS x Cl dx [] []) = some z from e)).symm
    refine ⟨fun i sh xs e => ?_, fun i j p sh xs sh' ys e1 e2 => ?_, fun i sh xs e => ?_, tk, nt⟩
    · have i0 := only e rfl
      subst i0
      cases at0 e
      exact EV.in2_7 x ([]) (start_get rfl) hx hg (.nil) rfl h1 rfl
    · rw [only e1 rfl, only e2 rfl]
      exact fun _ _ => rfl
    · have i0 := only e rfl
      subst i0
      cases at0 e
end
section
variable {P : Program} {w : World} {K : PySem.W.Frag} {mg : Str → Option Value} {base : Heap} {Cl : Addr} {f : Addr} {N ps : List Str} {k n : Nat} {name qual : Str} {params : Arguments} {body : List Stmt} {scope : Scope} {ks : List Str}
/-- the body of an __init__ -/
structure InitB (P : Program) (w : World) (K : PySem.W.Frag) (mg : Str → Option Value) (base : Heap) (Cl : Addr) (f : Addr) (N : List Str) (k n : Nat) (qual : Str) (body : List Stmt) (scope : Scope) (ks : List Str) (F : List D → PM (List D)) : Prop where
  bd : ∀ (cdv : Value) (A : Around) (outer : List PySem.Env) (s : Shared) (H : Hp) (E : XK), Cok (cxOf (L2.CX P w) P w K mg base N qual scope f cdv A outer s H E) (fun cls d _ H => E cls d H) k → ∀ (x dx : Addr) (ds : List D), ds.length = n →
    ∃ Γ' : List D → List Sl, (∀ fs, (Γ' fs)[0]? = some (insS x Cl dx ks fs)) ∧ SV (cxOf (L2.CX P w) P w K mg base N qual scope f cdv A outer s H E) (fun cls d _ H => E cls d H) none (slotsI N x Cl dx ds) (fun fs => Out.fall (Γ' fs)) body (F ds)
theorem InitB.run {F : List D → PM (List D)} (B : InitB P w K mg base Cl f N k n qual body scope ks F) (nd : N.Nodup) (hk : k < 32) (hN : n + 1 ≤ N.length) (cdv : Value) (A : Around) (outer : List PySem.Env) (s : Shared) (H : Hp) (vs : List V) (Q : VK) (E : XK)
    (hr : Room k (A.deeper (envOfC qual scope s.heap.objs.size f cdv))) (h : spI K mg Cl ks n F vs H Q E) :
    ∃ t, PSs (cxOf (L2.CX P w) P w K mg base N qual scope f cdv A outer s H E) body t ∧ t { nx := fun _ H' => Q .non H', rt := Q } (start N vs) H := by
  (refine EV.el6_2 h ?_; try clear h; intro x dx G H1 vs' ds q147_ q148_; obtain rfl := q147_; (refine EV.el0_5 q148_ ?_; try clear q148_; intro hx h1 hg ext q149_; refine EV.el0_5 q149_ ?_; try clear q149_; intro tk nt r hn hP))
  refine EV.el1_2 (B.bd cdv A outer s H E (cok_fn nd (fun z => absurd hk (by omega)) hr) x dx ds hn) fun Γ' g0 sv => ?_
  refine ⟨_, sv, G, H1, G, [], nv_startI hx h1 hg ext tk nt r (by rw [r.1, hn]; exact hN), ?_⟩
  rw [PM.bind_def]
  cases e : F ds [] with
  | bad => rw [e] at hP; exact hP.elim
  | exc z =>
    rw [e] at hP
    exact fun cls d _ G' H' y q => hP cls d G' H' y q
  | ok fs s' =>
    rw [e] at hP
    show ∀ σ' G' H', Nv K none G H1 G' H' σ' (Γ' fs) s' → Q .non H'
    intro σ' G' H' N'
    (refine EV.el2_4 (N'.x.dic 0 _ _ (g0 fs)) fun p us q1 q2 q3 q150_ => ?_; refine EV.el0_4 q150_ ?_; try clear q150_; intro q4 q5 q6 q7)
    have q7 : p = x := q7
    subst q7
    exact hP G' H' N'.ext PenOk.none us q2 q3 q4 (by rw [q4.1]; exact q5.symm)
/-- the instance is made, and public -/
theorem made_pub {W : WX} {pa : Option Addr} {σ : L2.St} {G1 H1 G2 H2 : Hp} {s : List Int} {Q : VK} {x dx : Addr} {us : List V} {fs : List D} (oc : ObjC K Cl) (nx : H1 x = none) (hp1 : PenOk pa G1 H1 s) (y : Ext K pa G1 H1 G2 H2) (p2 : PenOk pa G2 H2 s) (hx : H2 x = some (.ins Cl dx (ks.zip us))) (gx : G2 x = none)
    (r : RpL K G2 us fs) (hl : us.length = ks.length) (P : Pst K W mg pa σ (FD K Q) G1 H1 ((pure (.obj Cl (ks.zip fs)) : PM D) s)) : Q (.ref x) H2 := by
  have sg : Same G2 (upd G2 x (.ins Cl dx (ks.zip us))) := fun a o e => by
    rw [upd_ne (ne_of_none e gx)]
    exact e
  have y' : Ext K pa G1 H1 (upd G2 x (.ins Cl dx (ks.zip us))) H2 := by
    refine ⟨y.g.trans sg, y.hh, y.t, fun a o e n => ?_, fun a o e => ?_, y.tk, fun h => (y.gt h).upd (fun _ z => by cases z)⟩
    · rw [upd_ne (ne_of_none e nx)]
      exact y.n a o e n
    · by_cases h : a = x
      · subst h
        rw [upd_same] at e
        rw [← e]
        exact hx
      · rw [upd_ne h] at e
        exact y.sub a o e
  refine P _ _ y' (fun q e => ?_) _ (.obj upd_same oc ?_ fun i v d e1 e2 => ?_)
  · refine EV.el0_2 (p2 q e) fun q1 q2 => ?_
    refine ⟨?_, q2⟩
    rw [upd_ne (ne_of_none (hp1 q e).2 nx)]
    exact q1
  · have l2 := r.1
    rw [List.map_fst_zip (by omega), List.map_fst_zip (by omega)]
  · have hz : ∀ {α : Type} {zs : List α} {i : Nat} {v : Str × α}, (ks.zip zs)[i]? = some v → zs[i]? = some v.2 := fun {α zs i v} e => by
      rw [List.getElem?_zip_eq_some] at e
      exact e.2
    exact (r.2 i v.2 d.2 (hz e1) (hz e2)).mono sg
end
section
variable {X : Cx} {W : WX} {pa : Option Addr} {Γ : List Sl} {k j : Nat} {pos : Pos}
/-- what an own class makes -/
noncomputable def newO (Cl : Addr) (ks : List Str) (F : List D → PM (List D)) (ds : List D) : PM D := run0 (F ds) >>= fun fs => pure (.obj Cl (ks.zip fs))
theorem made_ext {K : PySem.W.Frag} {G H : Hp} {x dx : Addr} {u : HO} (hs : Same G H) (nx : H x = none) (nd : H dx = none) (ne : dx ≠ x) (hu : ∀ ps, u ≠ .tbl ps) : Ext K pa G H G (upd (upd H dx (.own x)) x u) :=
  (Ext.newH hs nd (.own x)).trans (Ext.newH (fun a o e => by rw [upd_ne (ne_of_none (hs a o e) nd)]; exact hs a o e) (by rw [upd_ne ne.symm]; exact nx) u hu)
/-- the promise of an __init__, at the call -/
theorem spI_at {K : PySem.W.Frag} {mg : Str → Option Value} {Cl : Addr} {ks : List Str} {n : Nat} {F : List D → PM (List D)} {σ : L2.St} {G1 H1 H2 : Hp} {s : List Int} {Q : VK} {x dx : Addr} {vs : List V} {ds : List D} (oc : ObjC K Cl) (hs : Same G1 H1) (nx : H1 x = none) (tk : TabK K H1) (nt : NoT G1) (hp : PenOk pa G1 H1 s)
    (hx : H2 x = some (.ins Cl dx [])) (e2 : Ext K none G1 H1 G1 H2) (r : RpL K G1 vs ds) (hn : ds.length = n) (P : Pst K W mg pa σ (FD K Q) G1 H1 (newO Cl ks F ds s)) :
    spI K mg Cl ks n F (.ref x :: vs) H2 (fun v H3 => v = .non ∧ Q (.ref x) H3) fun cls d H' => W cls d σ H' := by
  refine ⟨x, dx, G1, H1, vs, ds, rfl, hx, nx, hs.free nx, e2, tk, nt, r, hn, ?_⟩
  unfold newO at P
  rw [PM.bind_def] at P
  unfold run0 at P
  cases e : F ds [] with
  | bad => rw [e] at P; exact P.elim
  | exc z =>
    rw [e] at P
    exact fun cls d G' H' y q => P cls d G' H' y.any q
  | ok fs s' =>
    rw [e] at P
    exact fun G' H' y _ us hx' gx' r' hl => ⟨rfl, made_pub oc nx hp y.any (hp.ext y) hx' gx' r' hl P⟩
/-- an own class called with values -/
theorem runMk {pins : List (Addr × Obj)} {σ : L2.St} {H : Hp} {s : Shared} {Q : VK} {us : List Value} {vs : List V} {Cl f : Addr} {sp : Sp} (C : Cok X W (j + 1)) (M : Mk X.K Cl f) (F : FnR X.prog X.w X.K X.mg X.base (L2.CX X.prog X.w) j f sp) (I : Inv X pins σ H s) (r : Vals vs us)
    (h : ∀ x dx, H x = none → H dx = none → dx ≠ x → sp (V.ref x :: vs) (upd (upd H dx (.own x)) x (.ins Cl dx [])) (fun v H2 => v = .non ∧ Q (.ref x) H2) fun cls d H' => W cls d σ H') : wpAny (model X.prog X.w) X.A (PySem.call (.ref Cl) us) (EP X pins σ Q) X.xe s := by
  have J := Inv.made (C := Cl) I
  have hq := h _ _ (I.hok.fresh (Nat.le_succ s.heap.objs.size)) (I.hok.fresh (Nat.le_refl _)) (Nat.ne_of_lt (Nat.lt_succ_self _))
  have rr : Vals (V.ref (s.heap.objs.size + 1) :: vs) (Value.ref (s.heap.objs.size + 1) :: us) := .cons rfl r
  have key := F _ X.stack _ _ _ _ _ _ (C.room.make Cl us []) (J.env0.make Cl us []) rr hq
  refine wpAny_call (make_map (f := f) I.kIn M.makes M.init (beq_iff_eq.mp M.fn) (codeAny_mono key fun res s' z => ?_))
  match res, z with
  | .error e, z => exact C.takes e s' (XE.of_call J (fun _ _ _ q => q) z)
  | .ok (.ret u), z =>
    refine EV.el2_4 (J.after z) fun v H3 I3 rv ev q3 => ?_
    subst ev
    exact ⟨rv, V.ref (s.heap.objs.size + 1), H3, I3, rfl, q3⟩
theorem pe_mk {x : Str} {Cl f : Addr} {sp : Sp} {e : Expr} {es : List Expr} {t : TA} {p : Pos} (C : Cok X W (j + 1)) (M : Mk X.K Cl f) (F : FnR X.prog X.w X.K X.mg X.base (L2.CX X.prog X.w) j f sp) (hg : Gl X x) (hm : X.mg x = some (.ref Cl)) (ha : PA X (e :: es) t)
    (hdb : autoParam ((x == ("__debug__" : Str)) = false) EV.tac1) (he : autoParam (starEach (e :: es) X.env = (false, eval e X.env) :: starEach es X.env) EV.tac2) (hpl : autoParam ((backTo pos (starEach es X.env)).any (·.1) = false) EV.tac2) :
    PE X (.Call (.Name x p) (e :: es) [] pos) (fun σ H Q => t σ H fun vs H1 => ∀ x dx, H1 x = none → H1 dx = none → dx ≠ x → sp (V.ref x :: vs) (upd (upd H1 dx (.own x)) x (.ins Cl dx [])) (fun v H2 => v = .non ∧ Q (.ref x) H2) fun cls d H' => W cls d σ H') :=
  ⟨fun pins s σ H Q I h => wpAny_Call_Name_kw (ld_glob I hg hm (PySem.W.callWith_K (h₀ := X.base) I.ok.mod.kin M.kp (thn (ha.run pos pins s σ H _ I h) fun us s1 h11_ => by (refine EV.el2_3 h11_ ?_; try clear h11_; intro vs H1 I1 r q); exact ⟨I1.kIn, runMk C M F I1 r q⟩) he hpl) hdb)⟩
/-- C(e, ..), the __init__ takes *needs -/
noncomputable def spStar (sp : Sp) : Sp := fun vs H Q E => ∃ ws rest, vs = ws ++ rest ∧ ws.length = 1 ∧ rest.length ≤ sizeLine ∧ ∀ p, H p = Option.none → sp (ws ++ [V.ref p]) (upd H p (.tup rest)) Q E
theorem ev_makeS {x : Str} {Cl f : Addr} {ks : List Str} {F : List D → PM (List D)} {e : Expr} {es : List Expr} {ml : PM (List D)} {p : Pos} (C : Cok X W (j + 1)) (M : Mk X.K Cl f) (oc : ObjC X.K Cl) (FR : FnR X.prog X.w X.K X.mg X.base (L2.CX X.prog X.w) j f (spStar (spI X.K X.mg Cl ks 1 F)))
    (hg : Gl X x) (hm : X.mg x = some (.ref Cl)) (ha : EL X W pa Γ (e :: es) ml) (hdb : autoParam ((x == ("__debug__" : Str)) = false) EV.tac1) (he : autoParam (starEach (e :: es) X.env = (false, eval e X.env) :: starEach es X.env) EV.tac2) (hpl : autoParam ((backTo pos (starEach es X.env)).any (·.1) = false) EV.tac2) :
    EV X W pa Γ (.Call (.Name x p) (e :: es) [] pos) (ml >>= fun ds => mkT ds >>= fun t => newO Cl ks F [t]) :=
  pe_imp (pe_mk C M FR hg hm ha hdb he hpl) fun σ H Q h_ => EV.ex4 h_ fun G0 H0 G s E R => ⟨G0, H0, G, s, E, R.bind.imp fun G1 H1 ds s1 x1 p1 P1 vs r x dx nx nd ne => by
    by_cases hl : ds.length ≤ lim
    · rw [mkT_ok hl, pure_bind] at P1
      refine EV.in2_4 ([V.ref x]) vs rfl rfl (by rw [r.1]; exact lim_le hl) (fun q nq => ?_)
      have qx : q ≠ x := fun z => by rw [z, upd_same] at nq; exact EV.nnS (Eq.symm nq)
      have qd : q ≠ dx := fun z => by rw [z, upd_ne ne, upd_same] at nq; exact EV.nnS (Eq.symm nq)
      have nq1 : H1 q = none := by rw [upd_ne qx, upd_ne qd] at nq; exact nq
      have y1 := Ext.new (K := X.K) (pa := pa) x1.sub nq1 (.tup vs)
      have hs2 : Same (upd G1 q (.tup vs)) (upd H1 q (.tup vs)) := y1.sub
      have y2 : Ext X.K none (upd G1 q (.tup vs)) (upd H1 q (.tup vs)) (upd G1 q (.tup vs)) (upd (upd (upd H1 q (.tup vs)) dx (.own x)) x (.ins Cl dx [])) :=
        made_ext hs2 (by rw [upd_ne (Ne.symm qx)]; exact nx) (by rw [upd_ne (Ne.symm qd)]; exact nd) ne (fun _ z => by cases z)
      have ec : upd (upd (upd H1 dx (.own x)) x (.ins Cl dx [])) q (.tup vs) = upd (upd (upd H1 q (.tup vs)) dx (.own x)) x (.ins Cl dx []) := by
        rw [upd_comm (H := upd H1 dx (.own x)) (Ne.symm qx), upd_comm (H := H1) (Ne.symm qd)]
      rw [ec]
      refine spI_at oc hs2 (by rw [upd_ne (Ne.symm qx)]; exact nx) (y1.tk (x1.tk E.tk)) (y1.gt (x1.gt E.x.nt)) (p1.upd nq1 _) upd_same y2 (.cons (.mkT (SqT.of upd_same) (r.mono y1.g)) .nil) rfl (P1.mono y1)
    · rw [show mkT ds = bad from if_neg hl] at P1
      exact P1.elim⟩
/-- C(e, ..), the __init__ has defaults -/
theorem ev_makeD {x : Str} {Cl f : Addr} {ks : List Str} {n : Nat} {F : List D → PM (List D)} {dvs : List V} {dd : List D} {e : Expr} {es : List Expr} {ml : PM (List D)} {p : Pos} (C : Cok X W (j + 1)) (M : Mk X.K Cl f) (oc : ObjC X.K Cl) (FR : FnR X.prog X.w X.K X.mg X.base (L2.CX X.prog X.w) j f (fun vs H Q E => spI X.K X.mg Cl ks n F (vs ++ dvs) H Q E))
    (rd : ∀ G, RpL X.K G dvs dd) (ar : ∀ ds, ds.length ≠ n → F ds [] = .bad) (hg : Gl X x) (hm : X.mg x = some (.ref Cl)) (ha : EL X W pa Γ (e :: es) ml) (hdb : autoParam ((x == ("__debug__" : Str)) = false) EV.tac1) (he : autoParam (starEach (e :: es) X.env = (false, eval e X.env) :: starEach es X.env) EV.tac2) (hpl : autoParam ((backTo pos (starEach es X.env)).any (·.1) = false) EV.tac2) :
    EV X W pa Γ (.Call (.Name x p) (e :: es) [] pos) (ml >>= fun ds => newO Cl ks F (ds ++ dd)) :=
  pe_imp (pe_mk C M FR hg hm ha hdb he hpl) fun σ H Q h_ => EV.ex4 h_ fun G0 H0 G s E R => ⟨G0, H0, G, s, E, R.bind.imp fun G1 H1 ds s1 x1 p1 P1 vs r x dx nx nd ne => by
    have hl : (ds ++ dd).length = n := by
      by_cases h : (ds ++ dd).length = n
      · exact h
      · exfalso
        unfold newO at P1
        rw [PM.bind_def] at P1
        unfold run0 at P1
        rw [ar _ h] at P1
        exact P1.elim
    exact spI_at oc x1.sub nx (x1.tk E.tk) (x1.gt E.x.nt) p1 upd_same (made_ext x1.sub nx nd ne (fun _ z => by cases z)) (r.app (rd G1)) hl P1⟩
end
end EV
set_option maxHeartbeats 2000000
namespace EV
open PySem PySem.Spec PyProof.Rows L2 PySem.W
section
variable {X : Cx} {W : WX} {pa : Option Addr} {Γ : List Sl} {k j : Nat} {pos : Pos} {α : Type} {out : α → Out} {rest : List Stmt}
/-- {} -/
theorem ev_dict0 : EV X W pa Γ (.Dict [] [] pos) (pure (.dct [])) := pe_imp pe_dnewK fun σ H Q ⟨G0, H0, G, s, E, R⟩ d nd => by
  have y := Ext.new (K := X.K) (pa := pa) E.sub nd (.dK [])
  exact R _ _ y (E.ps.upd nd _) _ (.dct (sh := .k []) (vs := []) upd_same rfl rfl fun i v d e => by simp at e)
end
noncomputable def btB (K : Frag) (C : Addr) : Bool := ["int", "bool", "tuple", "str", "list"].all fun T => kitOne K (.ref C) (.type T) == some false
structure ClsAt (K : Frag) (mg : Str → Option Value) (x : Str) (Cl : Addr) (q : Str) (st : Stmt) (dvs : List V) : Prop where
  mgx : mg x = some (.ref Cl)
  oc : ObjC K Cl
  ex : ∃ f fd, Mk K Cl f ∧ FunD K "__init__" q (defArgs st) (defBody st) (defScope st) dvs [] f fd
theorem objC_mk {K : Frag} {C : Addr} (h1 : plainGet K C Str.empty = true) (h2 : hasDictIn K C = true) (h3 : plainOver K C = true) (h4 : findIn K (.ref C) "__setattr__" = some (some (.builtin "object.__setattr__")))
    (h5 : findIn K (.ref C) "__class__" = some (some (.builtin "object.__class__"))) (h6 : specialIn K (.builtin "object.__class__") "__get__" = some (some (.builtin "getset_descriptor.__get__")))
    (h7 : takesIn K (.builtin "object.__class__") = some true) (h8 : mroIn K C (.type "object") = some true) (h9 : btB K C = true) : ObjC K C :=
  ⟨⟨h1, h2, h3, h4⟩, h5, h6, h7, h8, fun T m => by simpa using List.all_eq_true.mp h9 T m⟩
theorem clsAt0 {K : Frag} {h : Heap} {mg : Str → Option Value} {x q : Str} {st : Stmt} {Cl f : Addr} {oc : Value} {od an : Option Addr} {osl : Array (Option Value)} {kV doc pm cdv ct : Value} (X : K.In h) (G : h.Ns mainGlobals mg)
    (a : nsIn K mainGlobals x = some (some (.ref Cl))) (o : ObjC K Cl) (m1 : makesIn K Cl = true) (m2 : findIn K (.ref Cl) "__init__" = some (some (.ref f))) (m3 : isFn K (.ref f) = true) (m4 : keepIn K (.ref Cl) = true)
    (l : K.lookup f = some ⟨oc, od, .func (fnOf "__init__" q (defArgs st) (defBody st) (defScope st) .none kV doc pm an cdv ct), osl⟩) (c : codeIn K cdv q = true) (k : keepIn K (.ref f) = true) : ClsAt K mg x Cl q st [] :=
  ⟨mg_of X G a, o, f, _, ⟨m1, m2, m3, m4⟩, ⟨⟨oc, od, .none, kV, doc, pm, an, cdv, ct, osl, rfl, l, c, .inl ⟨rfl, rfl⟩, .inl rfl⟩, k⟩⟩
/-- one default, None -/
theorem clsAt1 {K : Frag} {h : Heap} {mg : Str → Option Value} {x q : Str} {st : Stmt} {Cl f T : Addr} {oc oc2 : Value} {od od2 an : Option Addr} {osl osl2 : Array (Option Value)} {kV doc pm cdv ct : Value} {n : Nat} (X : K.In h) (G : h.Ns mainGlobals mg)
    (a : nsIn K mainGlobals x = some (some (.ref Cl))) (o : ObjC K Cl) (m1 : makesIn K Cl = true) (m2 : findIn K (.ref Cl) "__init__" = some (some (.ref f))) (m3 : isFn K (.ref f) = true) (m4 : keepIn K (.ref Cl) = true)
    (l : K.lookup f = some ⟨oc, od, .func (fnOf "__init__" q (defArgs st) (defBody st) (defScope st) (.ref T) kV doc pm an cdv ct), osl⟩) (c : codeIn K cdv q = true) (k : keepIn K (.ref f) = true)
    (lT : K.lookup T = some ⟨oc2, od2, .seq #[Value.none] n, osl2⟩) : ClsAt K mg x Cl q st [.non] :=
  ⟨mg_of X G a, o, f, _, ⟨m1, m2, m3, m4⟩, ⟨⟨oc, od, .ref T, kV, doc, pm, an, cdv, ct, osl, rfl, l, c, .inr ⟨by simp, T, _, [Value.none], n, rfl, lT, rfl, .cons rfl .nil⟩, .inl rfl⟩, k⟩⟩
theorem tab_mem {a : Addr} {b : Bool} : ∀ {l : List (Addr × Bool)}, l.lookup a = some b → (a, b) ∈ l
  | [], h => by exact EV.nnS h
  | (c, d) :: r, h => by
    have h : (match a == c with | true => some d | false => r.lookup a) = some b := h
    cases q : (a == c) with
    | true =>
      rw [q] at h
      obtain rfl := Option.some.inj h
      rw [beq_iff_eq.mp q]
      exact List.mem_cons_self
    | false =>
      rw [q] at h
      exact List.mem_cons_of_mem _ (tab_mem h)
/-- isinstance of an own class -/
theorem isCl_mk {K : Frag} {h : Heap} {mg : Str → Option Value} {x : Str} {C : Addr} {tab : List (Addr × Bool)} (X : K.In h) (G : h.Ns mainGlobals mg) (a : nsIn K mainGlobals x = some (some (.ref C))) (cv : ClsV (.ref C) (.ref C)) (t : (tab.all fun p => kitOne K (.ref p.1) (.ref C) == some p.2) = true)
    (b : (["NoneType", "bool", "int", "str", "tuple", "list", "dict"].all fun T => kitOne K (.type T) (.ref C) == some false) = true) : IsCl K mg x tab :=
  ⟨⟨C, mg_of X G a, fun D v e => by
    have m : (D, v) ∈ tab := tab_mem e
    simpa using List.all_eq_true.mp t (D, v) m, fun T m => by simpa using List.all_eq_true.mp b T m⟩, fun C' e => by
    rw [mg_of X G a] at e
    cases e
    exact cv⟩
structure MkC (P : Program) (w : World) (K : Frag) (mg : Str → Option Value) (base : Heap) (j : Nat) (x : Str) (Cl : Addr) (sp : Sp) : Prop where
  ex : ∃ f, mg x = some (.ref Cl) ∧ ObjC K Cl ∧ Mk K Cl f ∧ FnR P w K mg base (L2.CX P w) j f sp
section
variable {P : Program} {w : World} {K : Frag} {mg : Str → Option Value} {base : Heap} {x q : Str} {Cl : Addr} {st : Stmt} {N : List Str} {k : Nat} {ks : List Str}
/-- class C: def __init__(self, *needs) -/
theorem mkS {s pv : Str} {F : List D → PM (List D)} (CA : ClsAt K mg x Cl q st []) (S : FnScope N [s, pv] (defScope st)) (hk : k < 32)
    (hb : ∀ (kV doc pm : Value) (an : Option Addr) (cdv ct : Value) (us rest : List Value), us.length = [s].length → bindArgs (fnOf "__init__" q (defArgs st) (defBody st) (defScope st) .none kV doc pm an cdv ct) ⟨us ++ rest, []⟩ = (newTuple rest >>= fun t => pure ([s].zip us ++ [(pv, t)])))
    (B : ∀ f, InitB P w K mg base Cl f N k 1 q (defBody st) (defScope st) ks F) : MkC P w K mg base (k + 1) x Cl (spStar (spI K mg Cl ks 1 F)) := by
  refine EV.el2_2 (CA.ex) fun f fd M FD => ?_
  (refine EV.el4_1 (FD.ex) fun oc od dV kV q153_ => ?_; refine EV.el6_2 q153_ ?_; try clear q153_; intro doc pm an cdv ct osl q151_ q152_; obtain rfl := q151_; (refine EV.el0_4 q152_ ?_; try clear q152_; intro lk hcd hD _))
  have e : dV = .none := by
    rcases hD with ⟨_, e⟩ | ⟨e, _⟩
    · exact e
    · exact absurd rfl e
  subst e
  have hN : 1 + 1 ≤ N.length := scope_le S
  exact ⟨f, CA.mgx, CA.oc, M, StX.fn_star (ps := [s]) lk hcd S StX.cxUp (fun us rest hl => hb kV doc pm an cdv ct us rest hl) fun A outer s H vs Q E hr h => (B f).run S.nd hk hN cdv A outer s H vs Q E hr h⟩
end
section
variable {X : Cx} {W : WX} {pa : Option Addr} {Γ : List Sl} {k j : Nat} {pos : Pos} {α : Type} {out : α → Out} {rest : List Stmt}
theorem newS {x : Str} {Cl : Addr} {ks : List Str} {F : List D → PM (List D)} {e : Expr} {es : List Expr} {ml : PM (List D)} {p : Pos} (C : Cok X W k) (M : MkC X.prog X.w X.K X.mg X.base j x Cl (spStar (spI X.K X.mg Cl ks 1 F))) (ha : EL X W pa Γ (e :: es) ml) (hj : autoParam (j + 1 ≤ k) EV.tac1) (hg : autoParam (Gl X x) EV.tac2)
    (hdb : autoParam ((x == ("__debug__" : Str)) = false) EV.tac1) (he : autoParam (starEach (e :: es) X.env = (false, eval e X.env) :: starEach es X.env) EV.tac2) (hpl : autoParam ((backTo pos (starEach es X.env)).any (·.1) = false) EV.tac2) :
    EV X W pa Γ (.Call (.Name x p) (e :: es) [] pos) (ml >>= fun ds => mkT ds >>= fun t => newO Cl ks F [t]) := by
  refine EV.el1_4 (M.ex) fun f m1 m2 m3 m4 => ?_
  exact ev_makeS (C.mono hj) m3 m2 m4 hg m1 ha hdb he hpl
theorem newD1 {x : Str} {Cl : Addr} {ks : List Str} {F : List D → PM (List D)} {e : Expr} {es : List Expr} {ml : PM (List D)} {p : Pos} (C : Cok X W k) (M : MkC X.prog X.w X.K X.mg X.base j x Cl (fun vs H Q E => spI X.K X.mg Cl ks 2 F (vs ++ [.non]) H Q E)) (ar : ∀ ds, ds.length ≠ 2 → F ds [] = .bad) (ha : EL X W pa Γ (e :: es) ml) (hj : autoParam (j + 1 ≤ k) EV.tac1) (hg : autoParam (Gl X x) EV.tac2)
    (hdb : autoParam ((x == ("__debug__" : Str)) = false) EV.tac1) (he : autoParam (starEach (e :: es) X.env = (false, eval e X.env) :: starEach es X.env) EV.tac2) (hpl : autoParam ((backTo pos (starEach es X.env)).any (·.1) = false) EV.tac2) :
    EV X W pa Γ (.Call (.Name x p) (e :: es) [] pos) (ml >>= fun ds => newO Cl ks F (ds ++ [.non])) := by
  refine EV.el1_4 (M.ex) fun f m1 m2 m3 m4 => ?_
  exact ev_makeD (C.mono hj) m3 m2 m4 (fun G => .cons .non .nil) ar hg m1 ha hdb he hpl
structure FitC (P : Program) (w : World) (K : Frag) (mg : Str → Option Value) (base : Heap) (j : Nat) (Cl : Addr) (m : Str) : Prop where
  ex : ∃ f fd ps, Meth K Cl m f ∧ FnOk P w K mg base (L2.CX P w) j f fd ps (fun vs H Q _ => vs.length = 2 ∧ Q .non H) ∧ L2.Binds K fd ps []
theorem zip_lookup_none {f : Str} : ∀ {ks : List Str} {vs : List V}, f ∉ ks → (ks.zip vs).lookup f = none
  | [], _, _ => rfl
  | _ :: _, [], _ => rfl
  | k :: ks, v :: vs, n => by
    have nk : (f == k) = false := beq_eq_false_iff_ne.mpr fun z => n (by rw [z]; exact List.mem_cons_self)
    show (match f == k with | true => some v | false => (ks.zip vs).lookup f) = none
    rw [nk]
    exact zip_lookup_none fun m => n (List.mem_cons_of_mem _ m)
theorem sv_fit (i : Nat) {x m : Str} {e : Expr} {o Cl dx : Addr} {ks : List Str} {xs : List D} {me : PM D} {kk : PM α} {p1 p2 p3 : Pos} (C : Cok X W k) (hc : Cls X.K Cl) (F : FitC X.prog X.w X.K X.mg X.base j Cl m) (hΓ : Γ[i]? = some (insS o Cl dx ks xs)) (hm : m ∉ ks) (he : EV X W pa Γ e me) (hr : SV X W pa Γ out rest kk)
    (hj : autoParam (j ≤ k) EV.tac1) (hN : autoParam (X.N[i]? = some x) EV.tac2) (hv : autoParam (Vis X.env.scope x) EV.tac7) (hd : autoParam ((x == ("__debug__" : Str)) = false) EV.tac1) (hcd : autoParam ((x == ("__classdict__" : Str)) = false) EV.tac1)
    (hs : autoParam (swapsWith (.Call (.Attribute (.Name x p1) m p2) [e] [] p3) none pos.line X.env = pure false) EV.tac2) (hst : autoParam (starEach [e] X.env = (false, eval e X.env) :: starEach [] X.env) EV.tac2) (hpl : autoParam ((backTo p3 (starEach [] X.env)).any (·.1) = false) EV.tac2)
    {pl : Sem Bool} (ht : autoParam (eval (.Call (.Attribute (.Name x p1) m p2) [e] [] p3) X.env = (do
      let ov ← eval (.Name x p1) X.env
      standAt p2.atName
      let (f, first) ← holding [ov] (getMethod ov m pl)
      callWith p3 f first (backTo p3 (starEach [e] X.env)) (backToKw p3 (keywordEach [] X.env)))) EV.tac2) :
    SV X W pa Γ out (.Expr (.Call (.Attribute (.Name x p1) m p2) [e] [] p3) pos :: rest) (me >>= fun _ => kk) := by
  refine EV.el3_3 (F.ex) fun f fd ps f1 f2 f3 => ?_
  unfold SV
  rw [bind_assoc]
  refine pss_imp (pss_cons (ps_expr (pe_meth (E := fun _ _ _ => False) (pl := pl) (pe_var hN hv hd hcd) hc f1 f2 (C.mono hj).room f3 .nil (passes_call C.takes fun _ _ _ _ z => z.elim) (pa_cons he pa_nil hst) hst hpl ht) hs) hr) fun Dn σ H h_ => EV.ex4 h_ fun G0 H0 G s E R => ?_
  refine EV.el2_6 (E.x.dic i _ _ hΓ) fun p vs q1 q2 q3 q4 q5 q6 => ?_
  exact ⟨.ref p, q1, p, dx, ks.zip vs, rfl, q2, zip_lookup_none hm, G0, H0, G, s, E, (R.bind E).imp fun G1 H1 d s1 x1 p1 P1 v r => ⟨rfl, G0, H0, G1, s1, E.step x1 p1, P1⟩⟩
end
section
variable {P : Program} {w : World} {K : Frag} {mg : Str → Option Value} {base : Heap}
/-- the method's promise: its body is «return None» -/
structure MethAt (K : Frag) (Cl : Addr) (m q : Str) (st : Stmt) : Prop where
  ex : ∃ f fd, Meth K Cl m f ∧ Fun K m q st f fd
theorem methAt {Cl f : Addr} {m q : Str} {st : Stmt} {oc : Value} {od an : Option Addr} {osl : Array (Option Value)} {kV doc pm cdv ct : Value} (m2 : findIn K (.ref Cl) m = some (some (.ref f))) (m3 : isFn K (.ref f) = true)
    (l : K.lookup f = some ⟨oc, od, .func (fnOf m q (defArgs st) (defBody st) (defScope st) .none kV doc pm an cdv ct), osl⟩) (c : codeIn K cdv q = true) (k : keepIn K (.ref f) = true) : MethAt K Cl m q st := ⟨f, _, ⟨m2, m3, k⟩, fun_mk l c k⟩
theorem fit_of {Cl : Addr} {m q s r : Str} {st : Stmt} {k : Nat} (MA : MethAt K Cl m q st) (S : FnScope [s, r] [s, r] (defScope st)) (hb : ∀ fd f, Fun K m q st f fd → L2.Binds K fd [s, r] []) {j : Nat} {p1 p2 : Pos} (hB : defBody st = [.Return (some (.Constant .none j p1)) p2]) : FitC P w K mg base (k + 1) Cl m := by
  refine EV.el2_2 (MA.ex) fun f fd M F => ?_
  refine ⟨f, fd, [s, r], M, ?_, hb fd f F⟩
  (refine EV.el4_1 (F.ex) fun oc od kV doc q156_ => ?_; refine EV.el5_2 q156_ ?_; try clear q156_; intro pm an cdv ct osl q154_ q155_; obtain rfl := q154_; (refine EV.el0_2 q155_ ?_; try clear q155_; intro lk hcd))
  refine fn_of lk hcd S (fun vs H Q E h => h.1) fun A outer s H vs Q E hr h => ?_
  rw [hB]
  exact EV.in1_2 _ (pss_one (ps_ret pe_non)) (h.2)
end
end EV
set_option maxHeartbeats 2000000
namespace EV
open PySem PySem.Spec PyProof.Rows L2 PySem.W LamX
structure FunL (K : Frag) (mg : Str → Option Value) (base : Heap) (x : Str) (st : Stmt) : Prop where
  ex : ∃ f fd c P, Fun K x x st f fd ∧ mg x = some (.ref f) ∧ fd.code = .ref c ∧ TabB base mg c P ∧ NeedT K P ∧ tauK K P = (x ++ ".<locals>.") ++ "<lambda>"
section
variable {P : Program} {w : World} {K : Frag} {mg : Str → Option Value} {base : Heap} {x : Str} {st : Stmt} {N ps : List Str} {k n : Nat}
theorem lamAt_of {fd : FuncData} {c T : Addr} {cdv : Value} {f : Addr} {A : Around} {outer : List PySem.Env} {s : Shared} {H : Hp} {E : XK} (h1 : fd.code = .ref c) (h2 : TabB base mg c T) (h3 : NeedT K T) (h4 : tauK K T = (x ++ ".<locals>.") ++ "<lambda>") (e : fd.code = cdv) :
    LamAt (cxOf (L2.CX P w) P w K mg base N x (defScope st) f cdv A outer s H E) := by
  refine EV.in2_4 c T ?_ ?_ ?_ ?_
  · exact (show cdv = Value.ref c from e.symm.trans h1)
  · exact h2
  · exact h3
  · exact h4
theorem fn_scrL {F : List Int → List D → PM D} {f : Addr} {fd : FuncData} {c T : Addr} (FU : Fun K x x st f fd) (l1 : fd.code = .ref c) (l2 : TabB base mg c T) (l3 : NeedT K T) (l4 : tauK K T = (x ++ ".<locals>.") ++ "<lambda>") (S : FnScope N ps (defScope st)) (hps : ps.length = n + 1)
    (hb : ∀ (cdv : Value) (A : Around) (outer : List PySem.Env) (s : Shared) (H : Hp) (E : XK), Cok (cxOf (L2.CX P w) P w K mg base N x (defScope st) f cdv A outer s H E) (fun cls d _ H => E cls d H) k → LamAt (cxOf (L2.CX P w) P w K mg base N x (defScope st) f cdv A outer s H E) → ∀ (ns : List Int) (ds : List D), ds.length = n →
      ∃ (α : Type) (out : α → Out) (m : PM α), SV (cxOf (L2.CX P w) P w K mg base N x (defScope st) f cdv A outer s H E) (fun cls d _ H => E cls d H) none (slotsS N ns ds) out (defBody st) m ∧ F ns ds = (m >>= fun a => outD (out a))) :
    FnG P w K mg base (k + 1) f fd ps (spS K mg n F) := by
  refine fnG_of FU S (fun vs H Q E h => ?_) fun cdv ec A outer s H vs Q E hg hr h => ?_
  · (refine EV.el5_2 h ?_; try clear h; intro a ns G vs' ds q157_ q158_; obtain rfl := q157_; (refine EV.el0_5 q158_ ?_; try clear q158_; intro _ _ r hn _))
    show vs'.length + 1 = ps.length
    rw [r.1, hn, hps]
  · (refine EV.el5_2 h ?_; try clear h; intro a ns G vs' ds q159_ q160_; obtain rfl := q159_; (refine EV.el0_5 q160_ ?_; try clear q160_; intro hs hq r hn hP))
    obtain ⟨α, out, m, sv, e⟩ := hb cdv A outer s H E (cok_fn S.nd hg hr) (lamAt_of l1 l2 l3 l4 ec) ns ds hn
    rw [e] at hP
    have hlen : vs'.length + 1 ≤ N.length := by
      rw [r.1, hn, ← hps]
      exact scope_le S
    exact ⟨_, sv, G, H, G, [], nv_startS hs hq r hlen, spost_fn hP⟩
end
theorem mem_of_look {K : Frag} {c : Addr} {o : Obj} (h : K.lookup c = some o) : (c, o) ∈ K := by
  induction K with
  | nil => exact EV.nnS h
  | cons p r ih =>
    obtain ⟨b, u⟩ := p
    have h : (match c == b with | true => some u | false => r.lookup c) = some o := h
    cases q : (c == b) with
    | true =>
      rw [q] at h
      obtain rfl := Option.some.inj h
      rw [beq_iff_eq.mp q]
      exact List.mem_cons_self
    | false =>
      rw [q] at h
      exact List.mem_cons_of_mem _ (ih h)
noncomputable def strO : Option Value → Option Str
  | some (.str n _) => some n
  | _ => none
noncomputable def refO : Option Value → Option Addr
  | some (.ref P) => some P
  | _ => none
theorem strO_of {o : Option Value} {n : Str} (h : strO o = some n) : ∃ t, o = some (.str n t) := by
  cases o with
  | none => cases h
  | some v =>
    cases v with
    | str m t => exact ⟨t, by rw [show m = n from Option.some.inj h]⟩
    | _ => cases h
theorem refO_of {o : Option Value} {P : Addr} (h : refO o = some P) : o = some (.ref P) := by
  cases o with
  | none => cases h
  | some v =>
    cases v with
    | ref m => rw [show m = P from Option.some.inj h]
    | _ => cases h
noncomputable def codeF (vs : Array Value) : Option (Str × Addr) := (strO (vs[1]? : Option Value)).bind fun n => (refO (vs[11]? : Option Value)).map fun P => (n, P)
noncomputable def codeOf (o : Obj) : Option (Str × Addr) := match o.data with
  | .fields vs => codeF vs
  | _ => none
theorem codeOf_eq {o : Obj} {vs : Array Value} {n : Str} {t : Tok} {P : Addr} (h1 : o.data = .fields vs) (h2 : vs[1]? = some (.str n t)) (h3 : vs[11]? = some (.ref P)) : codeOf o = some (n, P) := by
  obtain ⟨a, b, d, e⟩ := o
  have h1 : d = .fields vs := h1
  subst h1
  show codeF vs = _
  unfold codeF
  rw [h2, h3]
  rfl
set_option tactic.hygienic true in
theorem codeOf_inv {o : Obj} {n : Str} {P : Addr} (h : codeOf o = some (n, P)) : ∃ vs t, o.data = .fields vs ∧ vs[1]? = some (.str n t) ∧ vs[11]? = some (.ref P) := by
  obtain ⟨a, b, d, e⟩ := o
  cases d with
  | fields vs =>
    have h : codeF vs = some (n, P) := h
    unfold codeF at h
    cases e1 : strO (vs[1]? : Option Value) with
    | none => rw [e1] at h; cases h
    | some m =>
      cases e2 : refO (vs[11]? : Option Value) with
      | none => rw [e1, e2] at h; cases h
      | some p =>
        rw [e1, e2] at h
        have h : (m, p) = (n, P) := Option.some.inj h
        cases h
        obtain ⟨t, e3⟩ := strO_of e1
        exact ⟨vs, t, rfl, e3, refO_of e2⟩
  | _ => cases h
/-- no other code object of another name has this table -/
noncomputable def uniqB (K : Frag) (x : Str) (P : Addr) : Bool := K.all fun p => match codeOf p.2 with
  | some (n, P') => !(P' == P) || n == x
  | none => true
/-- the tables of these names are among cs -/
noncomputable def needB (K : Frag) (cs : List (Addr × Addr)) : Bool := K.all fun p => match codeOf p.2 with
  | some (n, P') => !(lamNames.contains n) || cs.any fun q => q.2 == P'
  | none => true
theorem need_of {K : Frag} {cs : List (Addr × Addr)} (h : needB K cs = true) (P : Addr) (n : NeedT K P) : ∃ p ∈ cs, p.2 = P := by
  (refine EV.el4_1 n ?_; try clear n; intro c o vs x q161_; refine EV.el1_5 q161_ ?_; try clear q161_; intro t h1 h2 h3 h4 h5)
  have z := List.all_eq_true.mp h _ (mem_of_look h1)
  dsimp only at z
  rw [codeOf_eq h2 h3 h4] at z
  have z : (!(lamNames.contains x) || cs.any fun q => q.2 == P) = true := z
  rw [List.contains_iff_mem.mpr h5] at z
  refine EV.el1_2 (List.any_eq_true.mp (by simpa using z : (cs.any fun q => q.2 == P) = true)) fun p hp e => ?_
  exact EV.in1_2 p hp (beq_iff_eq.mp e)
noncomputable def lookB (K : Frag) (c : Addr) (x : Str) (P : Addr) : Bool := match K.lookup c with
  | some o => codeOf o == some (x, P)
  | none => false
theorem tau_of {K : Frag} {c P : Addr} {x : Str} (h : lookB K c x P = true) (u : uniqB K x P = true) : tauK K P = (x ++ ".<locals>.") ++ "<lambda>" := by
  unfold lookB at h
  cases e : K.lookup c with
  | none => rw [e] at h; exact EV.nnB h
  | some o =>
    rw [e] at h
    refine EV.el2_3 (codeOf_inv (beq_iff_eq.mp (show (codeOf o == some (x, P)) = true from h))) fun vs t h1 h2 h3 => ?_
    refine tauK_of ⟨c, o, vs, x, t, e, h1, h2, h3, rfl⟩ fun q' h13_ => ?_; (refine EV.el4_1 h13_ ?_; try clear h13_; intro c' o' vs' n' q162_; refine EV.el1_5 q162_ ?_; try clear q162_; intro t' e' d1 d2 d3 d4)
    have z := List.all_eq_true.mp u _ (mem_of_look e')
    dsimp only at z
    rw [codeOf_eq d1 d2 d3] at z
    have z : (!(P == P) || n' == x) = true := z
    rw [beq_self_eq_true] at z
    rw [d4, beq_iff_eq.mp (show (n' == x) = true from z)]
theorem needT_of {K : Frag} {c P : Addr} {x : Str} (h : lookB K c x P = true) (m : lamNames.contains x = true) : NeedT K P := by
  unfold lookB at h
  cases e : K.lookup c with
  | none => rw [e] at h; exact EV.nnB h
  | some o =>
    rw [e] at h
    refine EV.el2_3 (codeOf_inv (beq_iff_eq.mp (show (codeOf o == some (x, P)) = true from h))) fun vs t h1 h2 h3 => ?_
    exact ⟨c, o, vs, x, t, e, h1, h2, h3, List.contains_iff_mem.mp m⟩
theorem funL {K : Frag} {h base : Heap} {mg : Str → Option Value} {x : Str} {st : Stmt} {f c T : Addr} {oc : Value} {od an : Option Addr} {osl : Array (Option Value)} {kV doc pm ct : Value} (X : K.In h) (G : h.Ns mainGlobals mg) (TB : TabB base mg c T) (a : nsIn K mainGlobals x = some (some (.ref f)))
    (l : K.lookup f = some ⟨oc, od, .func (fnOf x x (defArgs st) (defBody st) (defScope st) .none kV doc pm an (.ref c) ct), osl⟩) (cd : codeIn K (.ref c) x = true) (k : keepIn K (.ref f) = true) (lb : lookB K c x T = true) (u : uniqB K x T = true) (m : lamNames.contains x = true) : FunL K mg base x st :=
  ⟨f, _, c, T, fun_mk l cd k, mg_of X G a, rfl, TB, needT_of lb m, tau_of lb u⟩
/-- the class at D among the classes Ds, asked by isinstance -/
noncomputable def errB (K : Frag) (Ds : List Addr) (CA D : Addr) (j : Nat) : Bool :=
  exmOne K (.ref D) (.ref CA) == some true && kitOne K (.ref D) (.type "ValueError") == some true && (List.range 10).all fun i => match Ds[i]? with
    | some C => kitOne K (.ref D) (.ref C) == some (i == j)
    | none => false
noncomputable def excB (K : Frag) (D : Addr) : Bool := findIn K (.ref D) "__getattribute__" == some (some (.builtin "BaseException.__getattribute__")) && findIn K (.ref D) "__getattr__" == some none && subIn K (.ref D) (.type "BaseException") == some true && hasDictIn K D &&
  findIn K (.ref D) "__class__" == some (some (.builtin "object.__class__")) && specialIn K (.builtin "object.__class__") "__get__" == some (some (.builtin "getset_descriptor.__get__")) && takesIn K (.builtin "object.__class__") == some true && mroIn K D (.type "object") == some true
theorem excC_of {K : Frag} {D : Addr} (h : excB K D = true) : ExcC K D := by
  unfold excB at h
  simp only [Bool.and_eq_true, beq_iff_eq] at h
  (refine EV.el0_2 h ?_; try clear h; intro q163_ h8; (refine EV.el0_2 q163_ ?_; try clear q163_; intro q164_ h7; (refine EV.el0_2 q164_ ?_; try clear q164_; intro q165_ h6; (refine EV.el0_2 q165_ ?_; try clear q165_; intro q166_ h5; (refine EV.el0_2 q166_ ?_; try clear q166_; intro q167_ h4; (refine EV.el0_2 q167_ ?_; try clear q167_; intro q168_ h3; (refine EV.el0_2 q168_ ?_; try clear q168_; intro h1 h2)))))))
  exact ⟨h1, h2, h3, h4, h5, h6, h7, h8⟩
/-- all ten at once -/
theorem errs_of {K : Frag} {h : Heap} {mg : Str → Option Value} {CA : Addr} {Ds : List Addr} (X : K.In h) (G : h.Ns mainGlobals mg) (hl : Ds.length = 10) (hn : ((List.range 10).all fun i => match errsL[i]?, Ds[i]? with
    | some y, some C => nsIn K mainGlobals y == some (some (.ref C))
    | _, _ => false) = true) (hx : (Ds.all fun D => excB K D) = true) (hB : ((List.range 10).all fun j => match Ds[j]? with
    | some D => errB K Ds CA D j
    | none => false) = true) : ∀ j y, errsL[j]? = some y → ∃ D, mg y = some (.ref D) ∧ ErrJ K mg CA D j := by
  have nm : ∀ i y, errsL[i]? = some y → ∃ C, Ds[i]? = some C ∧ mg y = some (.ref C) := fun i y e => by
    have hi : i < 10 := (List.getElem?_eq_some_iff.mp e).1
    have z := List.all_eq_true.mp hn i (List.mem_range.mpr hi)
    rw [e] at z
    cases q : Ds[i]? with
    | none => rw [q] at z; exact EV.nnB z
    | some C =>
      rw [q] at z
      exact EV.in1_2 C q (mg_of X G (beq_iff_eq.mp (show (nsIn K mainGlobals y == some (some (.ref C))) = true from z)))
  intro j y e
  have hj : j < 10 := (List.getElem?_eq_some_iff.mp e).1
  refine EV.el1_2 (nm j y e) fun D d1 d2 => ?_
  have z := List.all_eq_true.mp hB j (List.mem_range.mpr hj)
  rw [d1] at z
  have z : errB K Ds CA D j = true := z
  unfold errB at z
  simp only [Bool.and_eq_true, beq_iff_eq] at z
  (refine EV.el0_2 z ?_; try clear z; intro q169_ z3; (refine EV.el0_2 q169_ ?_; try clear q169_; intro z1 z2))
  refine ⟨D, d2, excC_of (List.all_eq_true.mp hx D (List.mem_of_getElem? d1)), z1, z2, fun i x' ei => ?_⟩
  have hi : i < 10 := (List.getElem?_eq_some_iff.mp ei).1
  refine EV.el1_2 (nm i x' ei) fun C c1 c2 => ?_
  have y := List.all_eq_true.mp z3 i (List.mem_range.mpr hi)
  rw [c1] at y
  exact EV.in1_2 C c2 (beq_iff_eq.mp (show (kitOne K (.ref D) (.ref C) == some (i == j)) = true from y))
/-- raise X(..): X's facts -/
theorem errC_of {K : Frag} {h : Heap} {mg : Str → Option Value} {x : Str} {C : Addr} (X : K.In h) (G : h.Ns mainGlobals mg) (a : nsIn K mainGlobals x = some (some (.ref C)))
    (b : (excIn K C [.type "ValueError", .type "Exception", .type "BaseException", .type "object"] "ValueError.__new__" && keepIn K (.ref C) && subIn K (.ref C) (.type "BaseException") == some true && typeIn K (.ref C) == some (.type "type")) = true) : ErrC K mg x := by
  simp only [Bool.and_eq_true, beq_iff_eq] at b
  (refine EV.el0_2 b ?_; try clear b; intro q170_ b4; (refine EV.el0_2 q170_ ?_; try clear q170_; intro q171_ b3; (refine EV.el0_2 q171_ ?_; try clear q171_; intro b1 b2)))
  exact ⟨C, mg_of X G a, b1, b2, b3, b4⟩
noncomputable def clsBody : Stmt → List Stmt
  | .ClassDef _ _ _ b _ _ _ _ _ _ _ => b
  | _ => []
end EV
set_option maxHeartbeats 2000000
namespace EV
open PySem PySem.Spec PyProof.Rows L2 PySem.W
/-- a method's promise -/
structure CalM (P : Program) (w : World) (K : Frag) (mg : Str → Option Value) (base : Heap) (k : Nat) (Cl : Addr) (m : Str) (ps : List Str) (sp : Sp) : Prop where
  ex : ∃ f fd, FnG P w K mg base k f fd ps sp ∧ Meth K Cl m f ∧ fnIn K f = true ∧ L2.Binds K fd ps []
/-- a call of it on an instance: d, the arguments -/
noncomputable def methD (Cl : Addr) (F : List D → PM D) : D → List D → PM D
  | .obj C fs, ds => if C = Cl then run0 (F (.obj C fs :: ds)) else bad
  | _, _ => bad
section
variable {X : Cx} {W : WX} {pa : Option Addr} {Γ : List Sl} {k j n : Nat} {pos : Pos} {pins : List (Addr × Obj)} {σ : L2.St} {H : Hp} {s : Shared}
theorem fr_of (I : Inv X pins σ H s) : ∃ m, Fr X.base X.env.locals s.heap m := by
  refine EV.el1_2 (I.loc) fun m h _ => ?_
  exact ⟨m, h, I.bk, Nat.le_trans I.ok.bsz I.ok.above⟩
theorem inst_of {a C dx : Addr} {fs : List (Str × V)} (I : Inv X pins σ H s) (h : H a = some (.ins C dx fs)) : ∃ ox od, InstAt s.heap a ox C od ∧ ox.data = .plain := StX.insC_at I (.inr ⟨dx, fs, h⟩)
theorem runA {A : Around} {f : Addr} {fd : FuncData} {ps : List Str} {sp : Sp} {Q : VK} {us : List Value} {vs : List V} (tk : Takes X W) (hf : A.frames = X.A.frames) (hr : Room j A) (hj : j < 32) (F : FnG X.prog X.w X.K X.mg X.base j f fd ps sp) (hb : L2.Binds X.K fd ps []) (I : Inv X pins σ H s) (r : Vals vs us)
    (h : sp vs H Q fun cls d H' => W cls d σ H') : wpAny (model X.prog X.w) A (PySem.call (.ref f) us) (EP X pins σ Q) X.xe s := by
  have hl : us.length = ps.length := by
    rw [← r.length]
    exact F.len _ _ _ _ h
  have hbd := hb s us I.kIn (by rw [List.append_nil]; exact hl)
  rw [List.append_nil] at hbd
  have e0 := I.env0
  have e1 : Env0 X.prog X.w X.K X.mg X.base A X.stack s H := ⟨hf.trans e0.frames, e0.mod, e0.bs, e0.bsz, e0.funs, e0.frf, e0.hok, e0.bare⟩
  refine wpAny_call (codeAny_mono (F.run A X.stack s H ⟨us, []⟩ us vs Q _ (fun z => absurd z (by omega)) hr e1 hbd r h) fun res s' hq => ?_)
  match res, hq with
  | .error e, hq => exact tk e s' (XE.of_call I (fun _ _ _ q => q) hq)
  | .ok (.ret u), hq => exact I.after hq
/-- at the trees: what spF wants of a method's call -/
theorem spF_at {K : Frag} {mg : Str → Option Value} {F : List D → PM D} {G1 H1 : Hp} {s1 : List Int} {Q : VK} {vs : List V} {d : D} {ds : List D} {Cl : Addr} (hs : Same G1 H1) (tk : TabK K H1) (nt : NoT G1) (hp : PenOk pa G1 H1 s1) (ar : Arity n F) (r : RpL K G1 vs (d :: ds))
    (P : Pst K W mg pa σ (FD K Q) G1 H1 (methD Cl F d ds s1)) : spF K mg false n F vs H1 Q fun cls dx H' => W cls dx σ H' := by
  cases d with
  | obj C fs =>
    have P : Pst K W mg pa σ (FD K Q) G1 H1 ((if C = Cl then run0 (F (.obj C fs :: ds)) else bad : PM D) s1) := P
    by_cases z : C = Cl
    · rw [if_pos z] at P
      exact ⟨none, G1, [], vs, _, rfl, rfl, ⟨hs, tk, nt⟩, PenOk.none, r, run0_len ar P, pst_run0 hp P⟩
    · rw [if_neg z] at P
      exact P.elim
  | _ => exact P.elim
/-- the instance, told of the tree -/
theorem methD_obj {K : Frag} {mg : Str → Option Value} {F : List D → PM D} {G1 H1 : Hp} {s1 : List Int} {Q : VK} {v : V} {d : D} {ds : List D} {Cl : Addr} (r : Rp K G1 v d) (P : Pst K W mg pa σ (FD K Q) G1 H1 (methD Cl F d ds s1)) :
    ∃ a dx fvs, v = .ref a ∧ G1 a = some (.ins Cl dx fvs) ∧ ObjC K Cl := by
  cases r with
  | @obj a C dx fvs fs h hc hk rr =>
    have P : Pst K W mg pa σ (FD K Q) G1 H1 ((if C = Cl then run0 (F (.obj C fs :: ds)) else bad : PM D) s1) := P
    by_cases z : C = Cl
    · subst z
      exact EV.in3_3 a dx fvs rfl h hc
    · rw [if_neg z] at P
      exact P.elim
  | _ => exact P.elim
/-- o.p -/
theorem ev_prop {e : Expr} {x : Str} {p g Cl : Addr} {fd : FuncData} {ps : List Str} {F : List D → PM D} {m : PM D} (C : Cok X W k) (hp : PropOf X.K Cl x p g) (FG : FnG X.prog X.w X.K X.mg X.base j g fd ps (spF X.K X.mg false 1 F)) (hb : L2.Binds X.K fd ps []) (ar : Arity 1 F) (hj : j + 1 ≤ k) (hj2 : j < 32) (he : EV X W pa Γ e m)
    (hab : autoParam (attributeBase e x X.env (eval e X.env) = eval e X.env) EV.tac2) : EV X W pa Γ (.Attribute e x pos) (m >>= fun d => noExc (methD Cl F d [])) := by
  refine ⟨fun pins s σ H Q I h => ?_⟩
  have h1 : evT X W pa Γ m σ H (fun v H1 => ∃ a dx fvs, v = .ref a ∧ H1 a = some (.ins Cl dx fvs) ∧ ObjC X.K Cl ∧ spF X.K X.mg false 1 F [.ref a] H1 Q fun _ _ _ => False) := by
    (refine EV.el4_2 h ?_; try clear h; intro G0 H0 G s E R)
    refine EV.in4_2 G0 H0 G s E (R.bind.imp fun G1 H1 d s1 x1 p1 P1 v r => ?_)
    have P2 : Pst X.K W0 X.mg pa σ (FD X.K Q) G1 H1 (methD Cl F d [] s1) := P1.noExc
    (refine EV.el3_2 (methD_obj r P2) fun a dx fvs q172_ q173_ => ?_; obtain rfl := q172_; (refine EV.el0_2 q173_ ?_; try clear q173_; intro g1 oc))
    exact EV.in3_4 a dx fvs rfl (x1.sub _ _ g1) oc (spF_at x1.sub (x1.tk E.tk) (x1.gt E.x.nt) p1 ar (.cons r .nil) P2)
  refine attr_of hab (thn (he.run pins s σ H _ I h1) fun u s1 h14_ => ?_); obtain ⟨y, H1, I1, ry, a, dx, fvs, ey, ea, oc, q⟩ := h14_
  subst ey
  obtain rfl : u = Value.ref a := ry
  have FO : FnOk X.prog X.w X.K X.mg X.base (L2.CX X.prog X.w) j g fd ps (spF X.K X.mg false 1 F) := ⟨FG.len, fun A outer s H args us vs Q E hr => FG.run A outer s H args us vs Q E (fun z => absurd z (by omega)) hr⟩
  exact getprop_ok I1 ea oc.cl hp FO (C.room.mono hj) hb .nil (fun _ _ _ _ _ _ _ x => by
    (refine EV.el4_1 x ?_; try clear x; intro _ _ _ _ q174_; refine EV.el1_4 q174_ ?_; try clear q174_; intro _ _ _ _ q175_; refine EV.el0_5 q175_ ?_; try clear q175_; intro _ _ _ _ z)
    exact z.elim) q
noncomputable def At1 (X : Cx) (W : WX) (Cl : Addr) (n : Nat) (F : List D → PM D) (σ : L2.St) (Q : VK) (v : V) (us : List V) (H1 : Hp) : Prop :=
  ∃ a dx fvs, v = .ref a ∧ H1 a = some (.ins Cl dx fvs) ∧ ObjC X.K Cl ∧ spF X.K X.mg false n F (.ref a :: us) H1 Q fun cls d H' => W cls d σ H'
/-- what is made of the answer -/
noncomputable def Goes (X : Cx) (W : WX) (pa : Option Addr) (g : D → PM D) (σ : L2.St) (Q Q' : VK) : Prop :=
  ∀ (G H : Hp) (a : D) (s : List Int) (v : V), Same G H → PenOk pa G H s → Rp X.K G v a → Pst X.K W X.mg pa σ (FD X.K Q) G H (g a s) → Q' v H
theorem goes_pure {Q : VK} : Goes X W pa pure σ Q Q := fun G H a s v hs hp r P => P.now hs hp v r
theorem at1_of {Cl : Addr} {F : List D → PM D} {g : D → PM D} {Q Q' : VK} {G0 H0 G1 H1 : Hp} {Γ' : List Sl} {s1 : List Int} {v : V} {d : D} {us : List V} {ds : List D} (hg : Goes X W pa g σ Q Q') (ar : Arity n F) (hs : Same G1 H1) (tk : TabK X.K H1) (nt : NoT G1) (hp : PenOk pa G1 H1 s1)
    (r : Rp X.K G1 v d) (rs : RpL X.K G1 us ds) (P : Pst X.K W X.mg pa σ (FD X.K Q) G1 H1 ((methD Cl F d ds >>= g) s1)) : At1 X W Cl n F σ Q' v us H1 := by
  have P2 : Pst X.K W X.mg pa σ (FD X.K Q') G1 H1 (methD Cl F d ds s1) := P.bind.imp fun G2 H2 a s2 x2 p2 P2 v2 r2 => hg G2 H2 a s2 v2 x2.sub p2 r2 P2
  (refine EV.el3_2 (methD_obj r P2) fun a dx fvs q176_ q177_ => ?_; obtain rfl := q176_; (refine EV.el0_2 q177_ ?_; try clear q177_; intro g1 oc))
  exact EV.in3_4 a dx fvs rfl (hs _ _ g1) oc (spF_at hs tk nt hp ar (.cons r rs) P2)
section
variable {Cl : Addr} {F : List D → PM D} {g : D → PM D} {Q Q' : VK}
theorem evT1 {m : PM D} (hg : Goes X W pa g σ Q Q') (ar : Arity 1 F) (h : evT X W pa Γ (m >>= fun d => methD Cl F d [] >>= g) σ H Q) : evT X W pa Γ m σ H fun v H1 => At1 X W Cl 1 F σ Q' v [] H1 := by
  (refine EV.el4_2 h ?_; try clear h; intro G0 H0 G s E R)
  exact EV.in4_2 G0 H0 G s E (R.bind.imp fun G1 H1 d s1 x1 p1 P1 v r => at1_of (G0 := G0) (H0 := H0) (Γ' := Γ) hg ar x1.sub (x1.tk E.tk) (x1.gt E.x.nt) p1 r .nil P1)
theorem evT2 {ma mb : PM D} (hg : Goes X W pa g σ Q Q') (ar : Arity 2 F) (h : evT X W pa Γ (ma >>= fun x => mb >>= fun y => methD Cl F x [y] >>= g) σ H Q) : evT X W pa Γ ma σ H fun v H1 => evT X W pa Γ mb σ H1 fun u H2 => At1 X W Cl 2 F σ Q' v [u] H2 := by
  (refine EV.el4_2 h ?_; try clear h; intro G0 H0 G s E R)
  exact EV.in4_2 G0 H0 G s E (R.bind.imp fun G1 H1 d s1 x1 p1 P1 v r => ⟨G0, H0, G1, s1, E.step x1 p1, P1.bind.imp fun G2 H2 d2 s2 x2 p2 P2 v2 r2 => at1_of (G0 := G0) (H0 := H0) (Γ' := Γ) hg ar x2.sub (x2.tk (x1.tk E.tk)) (x2.gt (x1.gt E.x.nt)) p2 (r.mono x2.g) (.cons r2 .nil) P2⟩)
variable {ps : List Str} {Mn : Str}
/-- o[e] -/
theorem ev_subO {o e : Expr} {ma mb : PM D} (C : Cok X W k) (M : CalM X.prog X.w X.K X.mg X.base j Cl "__getitem__" ps (spF X.K X.mg false 2 F)) (ar : Arity 2 F) (ho : EV X W pa Γ o ma) (he : EV X W pa Γ e mb)
    (hj : autoParam (j + 1 ≤ k) EV.tac1) (hj2 : autoParam (j < 32) EV.tac1) (hsl : autoParam (∀ v u, subscripted e true v u = runValue (.builtin "lifetime.subscript" ⟨[v, u], []⟩)) EV.tac9) :
    EV X W pa Γ (.Subscript o e pos) (ma >>= fun x => mb >>= fun y => methD Cl F x [y]) := by
  refine EV.el2_4 (M.ex) fun f fd FG Me fi hb => ?_
  refine ⟨fun pins s σ H Q I h => ?_⟩
  have h : evT X W pa Γ (ma >>= fun x => mb >>= fun y => methD Cl F x [y] >>= pure) σ H Q := by simpa using h
  refine Subscript_ (binT ho he I (evT2 goes_pure ar h) fun v u s2 x y H2 I2 rx ry h15_ => ?_); (refine EV.el3_4 h15_ ?_; try clear h15_; intro a dx fvs ea h1 oc q)
  subst ea
  obtain rfl : v = Value.ref a := rx
  refine EV.el1_1 (fr_of I2) fun mm fr => ?_
  refine EV.el2_2 (inst_of I2 h1) fun ox od J _ => ?_
  exact sub_K fr I2.ok.mod.kin J Me.at_ fi Me.fn (runA C.takes rfl (C.room.mono hj).in1 hj2 FG hb I2 (.cons (show RelV (.ref a) (.ref a) from rfl) (.cons ry .nil)) q) (hsl _ _)
/-- d is an instance that stands, without a field of that name -/
noncomputable def objD (Cl : Addr) (nm : Str) : D → PM Unit
  | .obj C fs => if C = Cl ∧ nm ∉ fs.map (·.1) then pure () else bad
  | _ => bad
theorem look_no {nm : Str} : ∀ {l : List (Str × V)}, nm ∉ l.map (·.1) → l.lookup nm = none
  | [], _ => rfl
  | (k, v) :: l, h => by
    have h1 : (nm == k) = false := beq_eq_false_iff_ne.mpr fun z => h (by rw [z]; exact List.mem_cons_self)
    show (match nm == k with | true => some v | false => l.lookup nm) = none
    rw [h1]
    exact look_no fun z => h (List.mem_cons_of_mem _ z)
theorem objD_at {β : Type} {K : Frag} {mg : Str → Option Value} {FF : Hp → Hp → β → List Int → Prop} {nm : Str} {h : PM β} {G1 H1 : Hp} {s1 : List Int} {v : V} {d : D} (hs : Same G1 H1) (r : Rp K G1 v d) (P : Pst K W mg pa σ FF G1 H1 ((objD Cl nm d >>= fun _ => h) s1)) :
    (∃ a dx fvs, v = .ref a ∧ H1 a = some (.ins Cl dx fvs) ∧ ObjC K Cl ∧ fvs.lookup nm = none) ∧ Pst K W mg pa σ FF G1 H1 (h s1) := by
  cases r with
  | @obj a C dx fvs fs g hc hk rr =>
    have P2 : Pst K W mg pa σ FF G1 H1 (((if C = Cl ∧ nm ∉ fs.map (·.1) then pure () else bad : PM Unit) >>= fun _ => h) s1) := P
    clear P
    by_cases z : C = Cl ∧ nm ∉ fs.map (·.1)
    · rw [if_pos z] at P2
      (refine EV.el0_2 z ?_; try clear z; intro z1 z2)
      subst z1
      exact ⟨⟨a, dx, fvs, rfl, hs _ _ g, hc, look_no (by rw [hk]; exact z2)⟩, P2⟩
    · rw [if_neg z] at P2
      exact P2.elim
  | _ => exact P.elim
/-- o.m() -/
theorem ev_methO0 {o : Expr} {nm : Str} {m : PM D} {apos : Pos} {pl : Sem Bool} (C : Cok X W k) (M : CalM X.prog X.w X.K X.mg X.base j Cl nm ps (spF X.K X.mg false 1 F)) (ar : Arity 1 F) (ho : EV X W pa Γ o m)
    (hj : autoParam (j ≤ k) EV.tac1) (hj2 : autoParam (j < 32) EV.tac1)
    (ht : autoParam (eval (.Call (.Attribute o nm apos) [] [] pos) X.env = (do
      let ov ← eval o X.env
      standAt apos.atName
      let (f, first) ← holding [ov] (getMethod ov nm pl)
      callWith pos f first (backTo pos (starEach [] X.env)) (backToKw pos (keywordEach [] X.env)))) EV.tac2) :
    EV X W pa Γ (.Call (.Attribute o nm apos) [] [] pos) (m >>= fun d => objD Cl nm d >>= fun _ => methD Cl F d []) := by
  refine EV.el2_4 (M.ex) fun f fd FG Me fi hb => ?_
  refine ⟨fun pins s σ H Q I h => ?_⟩
  have h : evT X W pa Γ (m >>= fun d => objD Cl nm d >>= fun _ => (pure [] : PM (List D)) >>= fun ds => methD Cl F d ds) σ H Q := h
  have h2 : evT X W pa Γ m σ H fun v H1 => ∃ a, v = .ref a ∧ (∃ dx fvs, H1 a = some (.ins Cl dx fvs) ∧ ObjC X.K Cl ∧ fvs.lookup nm = none) ∧ At1 X W Cl 1 F σ Q v [] H1 := by
    (refine EV.el4_2 h ?_; try clear h; intro G0 H0 G s E R)
    refine EV.in4_2 G0 H0 G s E (R.bind.imp fun G1 H1 d s1 x1 p1 P1 v r => ?_)
    (refine EV.el0_2 (objD_at x1.sub r P1) fun q178_ P2 => ?_; (refine EV.el3_4 q178_ ?_; try clear q178_; intro a dx fvs ea h1 oc hl))
    refine EV.in1_3 a ea (⟨dx, fvs, h1, oc, hl⟩) ?_
    have P3 : Pst X.K W X.mg pa σ (FD X.K Q) G1 H1 ((methD Cl F d [] >>= pure) s1) := by simpa using P2
    exact at1_of (G0 := G0) (H0 := H0) (Γ' := Γ) goes_pure ar x1.sub (x1.tk E.tk) (x1.gt E.x.nt) p1 r .nil P3
  refine PySem.W.methodCall_KW (pl := pl) (thn (ho.run pins s σ H _ I h2) fun u s1 h16_ => ?_) ht; obtain ⟨y, H1, I1, ry, a, ey, ⟨dx, fvs, h1, oc, hl⟩, q1⟩ := h16_
  subst ey
  obtain rfl : u = Value.ref a := ry
  refine getmeth_ok I1 h1 oc.cl Me hl ?_
  refine PySem.W.callWith_K0 (first := [.ref a]) I1.kIn Me.kp ?_
  (refine EV.el3_4 q1 ?_; try clear q1; intro a' dx' fvs' ea h2 _ q)
  obtain rfl := L2.V.ref.inj ea
  exact runA (us := [.ref a]) C.takes rfl (C.room.mono hj) hj2 FG hb I1 (.cons (show RelV (.ref a) (.ref a) from rfl) .nil) q
noncomputable def nbD : D → PM D
  | .bl b => pure (.bl (!b))
  | _ => bad
theorem goes_nb : Goes X W pa nbD σ Q (fun v H => ∃ b, v = .bl b ∧ Q (.bl (!b)) H) := fun G H a s v hs hp r P => by
  cases r with
  | bl b => exact EV.in1_2 b rfl (P.now hs hp _ (.bl (!b)))
  | _ => exact P.elim
/-- len(o) -/
noncomputable def lnD : D → PM D
  | .int n => if 0 ≤ n ∧ n < 2 ^ 62 then pure (.int n) else bad
  | _ => bad
theorem goes_ln : Goes X W pa lnD σ Q (fun v H => ∃ n : Int, v = .int n ∧ 0 ≤ n ∧ n < 2 ^ 62 ∧ Q (.int n) H) := fun G H a s v hs hp r P => by
  cases r with
  | int n =>
    have P : Pst X.K W X.mg pa σ (FD X.K Q) G H ((if 0 ≤ n ∧ n < 2 ^ 62 then pure (.int n) else bad : PM D) s) := P
    split at P
    · rename_i z
      exact EV.in1_4 n rfl (z.1) (z.2) (P.now hs hp _ (.int n))
    · exact P.elim
  | _ => exact P.elim
theorem ev_lenO {e : Expr} {m : PM D} {p : Pos} (C : Cok X W k) (M : CalM X.prog X.w X.K X.mg X.base j Cl "__len__" ps (spF X.K X.mg false 1 F)) (ar : Arity 1 F) (he : EV X W pa Γ e m) (hg : Gl X "len") (hm : X.mg "len" = none) (hj : autoParam (j + 1 ≤ k) EV.tac1) (hj2 : autoParam (j < 32) EV.tac1)
    (hs : autoParam (starEach [e] X.env = (false, eval e X.env) :: starEach [] X.env) EV.tac2) :
    EV X W pa Γ (.Call (.Name "len" p) [e] [] pos) (m >>= fun d => methD Cl F d [] >>= lnD) := by
  refine EV.el2_4 (M.ex) fun f fd FG Me fi hb => ?_
  refine ⟨fun pins s σ H Q I h => ?_⟩
  refine wpAny_Call_Name_kw (ld_blt I hg hm (show bootBuiltins "len" = some (.builtin "len") by decide +kernel) ?_ (by decide) (by decide))
  refine PyProof.Rows.callWith_builtin1 (thn ((pa_cons he pa_nil hs).run pos pins s σ H (fun vs H1 => ∃ v, vs = [v] ∧ At1 X W Cl 1 F σ (fun v H => ∃ n : Int, v = .int n ∧ 0 ≤ n ∧ n < 2 ^ 62 ∧ Q (.int n) H) v [] H1) I ?_) fun us s1 h17_ => ?_) hs rfl
  · refine EV.el4_2 (evT1 goes_ln ar h) fun G0 H0 G s E R => ?_
    exact EV.in4_2 G0 H0 G s E (R.imp fun G' H' d s1 x1 p1 P1 v r => ⟨v, rfl, P1 v r⟩)
  obtain ⟨vs, H1, I1, r1, v, ev, a, dx, fvs, ea, h1, oc, q⟩ := h17_
  subst ev ea
  obtain ⟨u, rfl, hu⟩ : ∃ u, us = [u] ∧ RelV (.ref a) u := by
    cases r1 with
    | cons h t => cases t; exact EV.in1_2 _ rfl h
  obtain rfl : u = Value.ref a := hu
  refine EV.el1_1 (fr_of I1) fun mm fr => ?_
  refine EV.el2_2 (inst_of I1 h1) fun ox od J _ => ?_
  refine len_K fr I1.ok.mod.kin J Me.at_ Me.fn (thn (runA C.takes rfl (C.room.mono hj).in1 hj2 FG hb I1 (.cons (show RelV (.ref a) (.ref a) from rfl) .nil) q) fun z s3 h18_ => ?_); obtain ⟨w, H3, I3, rw', n, ew, n0, n1, q3⟩ := h18_
  subst ew
  (refine EV.el1_1 rw' ?_; try clear rw'; intro t q180_; obtain rfl := q180_)
  exact ⟨⟨n0, by exact EV.w_ile (by assumption) (by decide)⟩, .int n, H3, I3.tok _, ⟨_, rfl⟩, q3⟩
end
end
end EV
set_option maxHeartbeats 2000000
namespace EV
open PySem PySem.Spec PyProof.Rows L2
/-- what the clauses wish, one after the other; each with its name's slot -/
noncomputable def wManyA (K : PySem.W.Frag) (Wout : WX) (D : Ends) : List (Value × Nat × (Addr → Value → Option Addr → TS)) → WX
  | [] => Wout
  | (c, i, ts) :: r => fun cls d σ H => ∃ b, PySem.W.exmOne K cls c = some b ∧
    (b = true → ∀ a, H a = none → ts a cls d { nx := fun σ' H' => D.nx (σ'.set i none) H', rt := D.rt, bk := fun σ' H' => D.bk (σ'.set i none) H', ct := fun σ' H' => D.ct (σ'.set i none) H' } (σ.set i (some (.ref a))) H) ∧ (b = false → wManyA K Wout D r cls d σ H)
inductive HdsA (X : Cx) : List ExceptHandler → List (Value × Nat × (Addr → Value → Option Addr → TS)) → Prop
  | nil : HdsA X [] []
  | cons {x n : Str} {c : Value} {i : Nat} {ts : Addr → Value → Option Addr → TS} {b₀ : Stmt} {suite : List Stmt} {np pos' : Pos} {hds : List ExceptHandler} {l : List (Value × Nat × (Addr → Value → Option Addr → TS))} (hc : Names X x c)
      (hi : X.N[i]? = some n) (hln : X.env.kindOf n = some .local)
      (hsu : ∀ (a : Addr) (oe : Obj) (cls : Value) (d : Option Addr) (pn : List (Addr × Obj)), Zc cls d oe → (∃ vs, oe.data = .fields vs) → PSs (X.suite a ((a, oe) :: pn)) (b₀ :: suite) (ts a cls d)) (r : HdsA X hds l) :
      HdsA X (.ExceptHandler (some (.Name x np)) (some n) (b₀ :: suite) pos' :: hds) ((c, i, ts) :: l)
section
variable {X : Cx} {body : List Stmt} {h₀ : ExceptHandler} {hds : List ExceptHandler} {l : List (Value × Nat × (Addr → Value → Option Addr → TS))} {pos : Pos} {tb : WX → TS} {Wout : WX}
theorem ps_try_manyA (hs : X.stack = X.env :: X.outer) (hf : X.env.frame = some X.env.locals) (hN : X.N.Nodup) (tk : Takes X Wout)
    (hb : ∀ (W : WX) (pn : List (Addr × Obj)) (xe : Value → Shared → Prop), Takes (X.tr pn xe) W → PassesOwn (model X.prog X.w) X.A X.env xe → PSs (X.tr pn xe) body (tb W))
    (hh : HdsA X (h₀ :: hds) l) : PS X (.Try body (h₀ :: hds) [] [] pos) (fun D σ H => tb (wManyA X.K Wout D l) D σ H) := by
  refine ⟨fun pins s σ H D I h => ?_⟩
  have ok := I.ok
  have hfr : X.A.frames = some (X.env :: X.outer) := by rw [ok.frames, hs]
  refine wpAny_Try_except ?_
  refine wpAny_mono ((hb (wManyA X.K Wout D l) (X.pn ++ pins) (fun e s₁ => wpAny (model X.prog X.w) X.A (noteFrame e X.env) (fun _ s₂ => wpAny (model X.prog X.w) X.A (setFlight e none) (fun _ s₃ =>
    wpAny (model X.prog X.w) X.A (handleBy e X.env (h₀ :: hds)) (SP X pins D) X.xe s₃) X.xe s₂) X.xe s₁) (fun u s' xx => ?_) PassesOwn.looking).run [] s σ H D (I.toTry _) h) (fun f s1 hsp => ?_) (fun e s1 he => he)
  · -- the catch
    (refine EV.el4_1 xx ?_; try clear xx; intro a B sI pins' q183_; refine EV.el4_2 q183_ ?_; try clear q183_; intro σ' H' cls d q181_ q182_; obtain rfl := q181_; (refine EV.el0_8 q182_ ?_; try clear q182_; intro J' nb up sky na os ag w))
    have J : Inv X pins σ' H' sI := J'.ofTry ok
    have sky' : Sky B (X.env :: X.outer) a (Zc cls d) X.env.locals s'.heap := by rw [← hs]; exact sky
    show wpAny (model X.prog X.w) X.A (noteFrame (.ref a) X.env) _ _ _
    refine Sky.land Zc.steady hfr hf sky' fun h3 fl3 up3 => ?_
    have J3 : Inv X pins σ' H' { s' with heap := h3 } := J.landed nb fl3.1 (up.trans up3) os ag
    refine EV.el2_3 (fl3.there) fun oe3 vs3 he3 hz3 hd3 => ?_
    have notFr : ∀ {h : Heap} {o : Obj} {vs : Array Value}, h.FunFrames B (X.env :: X.outer) → h.get? a = some o → o.data = .fields vs → a ∉ frs (X.env :: X.outer) := fun {h o vs} ff e dd hm => by
      obtain ⟨_, o', e', hnf⟩ := ff.mem hm
      rw [e] at e'; obtain rfl := Option.some.inj e'
      exact hnf _ dd
    have nfr := notFr fl3.2.2.1 he3 hd3
    have nL : a ≠ X.env.locals := fun z => nfr (List.mem_filterMap.mpr ⟨X.env, List.mem_cons_self, by rw [hf, z]⟩)
    have nF : a ∉ X.fs := fun hm => by
      refine EV.el1_2 (List.mem_filterMap.mp hm) fun e he q => ?_
      exact nfr (List.mem_filterMap.mpr ⟨e, List.mem_cons_of_mem _ he, q⟩)
    have S3 := J3.suite he3 hd3 na nL nF
    have go : ∀ {hds' : List ExceptHandler} {l' : List (Value × Nat × (Addr → Value → Option Addr → TS))}, HdsA X hds' l' → wManyA X.K Wout D l' cls d σ' H' →
        wpAny (model X.prog X.w) X.A (handleBy (.ref a) X.env hds') (SP X pins D) X.xe { s' with heap := h3 } := by
      intro hds' l' hk
      induction hk with
      | nil =>
        intro w
        refine wpAny_handleBy_nil ?_
        obtain ⟨k1, k2, k3, oe, vs, T, oT, ts', he, hz, hd, h1, hr⟩ := id fl3
        unfold PySem.passOn
        refine wpAny_bind (wpAny_field he hd h1 ?_)
        rw [if_neg (show ¬ ((Value.ref T == Value.none) = true) from by simp)]
        have fin : wpAny (model X.prog X.w) X.A (setFlight (.ref a) X.env.frame) (fun _ s4 => wpAny (model X.prog X.w) X.A (throw (.ref a) : Sem Flow) (SP X pins D) X.xe s4) X.xe { s' with heap := h3 } := by
          rw [hf]
          refine HandSPX.setFlight_upZ fl3 fun h4 hh4 up4 => wpAny_throw (tk _ _ ?_)
          exact ⟨a, B, sI, pins, σ', H', cls, d, rfl, J, nb, (up.trans up3).trans up4, .inr (.inr (by rw [hs]; exact hh4)), na, os, ag, w⟩
        first
          | exact wpAny_bind (wpAny_pure (wpAny_bind fin))
          | exact wpAny_bind fin
      | @cons x n c i ts b₀ suite np pos' hds2 l2 hc hi hln hsu r ih =>
        intro w
        (refine EV.el1_3 w ?_; try clear w; intro b hb1 hyes hno)
        have hloc : Loc X.env.scope n := .inl hln
        refine wpAny_handleBy_cons (codeAny_handlers_test ?_) (by intro q; cases q)
        have LT : PySem.W.Looks (model X.prog X.w) h3 (typeOf (.ref a)) cls := fun A Q E s k q => wpAny_typeOf_ref (k _ _ he3) (by rw [hz3.1]; exact q)
        have LM := PySem.W.exm_one (M := model X.prog X.w) (J3.kIn) LT hb1
        have test : ∀ {Q : Value → Shared → Prop} {E : Value → Shared → Prop}, Q c { s' with heap := h3 } → wpAny (model X.prog X.w) (X.A.mark (some (.ref a))) (eval (.Name x np) X.env) Q E { s' with heap := h3 } := fun {Q E} q => by
          obtain ⟨hg, hdbg, hm | ⟨hm, hv, hnn⟩⟩ := hc
          · exact ld_glob (X := X.suite a ((a, oe3) :: (X.pn ++ pins))) S3 hg hm q hdbg
          · exact ld_blt (X := X.suite a ((a, oe3) :: (X.pn ++ pins))) S3 hg hm hv q hnn hdbg
        refine test (LM.here ?_)
        cases b with
        | true =>
          refine codeAny_handlers_suite_as ?_
          refine HandSPX.lands_againZ fl3 fun h4 fl4 up4 => ?_
          have J4 : Inv X pins σ' H' { s' with heap := h4 } := J.landed nb fl4.1 ((up.trans up3).trans up4) os ag
          refine EV.el2_3 (fl4.there) fun oe4 vs4 he4 hz4 hd4 => ?_
          have S4 := J4.suite he4 hd4 na nL nF
          refine store_ok (X := X.suite a ((a, oe4) :: (X.pn ++ pins))) (v := .ref a) S4 hN hi hloc rfl (fun s5 S5 => ?_) (.inr hln)
          refine wpAny_mono ((hsu a oe4 cls d (X.pn ++ pins) hz4 ⟨_, hd4⟩).run [] s5 _ H' _ S5 (hyes rfl a na)) (fun f s6 hsp => ?_) (fun _ _ z => False.elim z)
          have end_ : ∀ {σ6 : L2.St} {H6 : Hp} {Q : Shared → Prop}, Inv (X.suite a ((a, oe4) :: (X.pn ++ pins))) [] σ6 H6 s6 → (∀ s7, Inv X pins (σ6.set i none) H6 s7 → Q s7) →
              wpAny (model X.prog X.w) X.A (do bindName X.env n .none; unbindBehindTheSuite X.env n pos') (fun _ s7 => Q s7) X.xe s6 := fun {σ6 H6 Q} S6 hq => gone_ok (S6.unsuite ok) hN hi hln hq
          cases f with
          | next =>
            (refine EV.el2_2 hsp ?_; try clear hsp; intro σ6 H6 S6 q6)
            exact end_ S6 fun s7 J7 => ⟨_, _, J7, q6⟩
          | brk =>
            (refine EV.el2_2 hsp ?_; try clear hsp; intro σ6 H6 S6 q6)
            exact end_ S6 fun s7 J7 => ⟨_, _, J7, q6⟩
          | cont =>
            (refine EV.el2_2 hsp ?_; try clear hsp; intro σ6 H6 S6 q6)
            exact end_ S6 fun s7 J7 => ⟨_, _, J7, q6⟩
          | ret u =>
            (refine EV.el3_3 hsp ?_; try clear hsp; intro v6 σ6 H6 S6 r6 q6)
            exact end_ S6 fun s7 J7 => ⟨_, _, _, J7, r6, q6⟩
        | false =>
          show wpAny _ X.A (handleBy (.ref a) X.env hds2) _ _ _
          exact ih (hno rfl)
    exact go hh w
  · cases f with
    | next =>
      (refine EV.el2_2 hsp ?_; try clear hsp; intro σ' H' J' q)
      exact wpAny_execs_nil ⟨σ', H', J'.ofTry ok, q⟩
    | brk =>
      (refine EV.el2_2 hsp ?_; try clear hsp; intro σ' H' J' q)
      exact EV.in2_2 σ' H' (J'.ofTry ok) q
    | cont =>
      (refine EV.el2_2 hsp ?_; try clear hsp; intro σ' H' J' q)
      exact EV.in2_2 σ' H' (J'.ofTry ok) q
    | ret u =>
      (refine EV.el3_3 hsp ?_; try clear hsp; intro v σ' H' J' r q)
      exact EV.in3_3 v σ' H' (J'.ofTry ok) r q
end
section
variable {X : Cx} {a D : Addr} {oe : Obj}
/-- isinstance of what slot i holds -/
noncomputable def tIsI (i : Nat) (a : Addr) (b : Bool) : TE := fun σ H Q => σ[i]? = some (some (.ref a)) ∧ Q (.bl b) H
theorem pe_isiI {i : Nat} {e c : Str} {C : Addr} {b : Bool} {p p1 p2 p3 : Pos} (hpin : (a, oe) ∈ X.pn) (hcls : ExcC X.K D) (hzc : Zc (.ref D) none oe) (hfld : ∃ vs, oe.data = .fields vs) (hN : X.N[i]? = some e) (hv : Vis X.env.scope e) (hgi : Gl X "isinstance") (hmi : X.mg "isinstance" = none) (hg : Gl X c) (hm : X.mg c = some (.ref C)) (hk : PySem.W.kitOne X.K (.ref D) (.ref C) = some b)
    (hd : autoParam ((e == ("__debug__" : Str)) = false) EV.tac1) (hcd : autoParam ((e == ("__classdict__" : Str)) = false) EV.tac1) (hdc : autoParam ((c == ("__debug__" : Str)) = false) EV.tac1)
    (h1 : autoParam (starEach [.Name e p1, .Name c p2] X.env = (false, eval (.Name e p1) X.env) :: starEach [.Name c p2] X.env) EV.tac2) (h2 : autoParam (starEach [.Name c p2] X.env = (false, eval (.Name c p2) X.env) :: starEach [] X.env) EV.tac2)
    (hpl : autoParam ((backTo p3 (starEach [.Name c p2] X.env)).any (·.1) = false) EV.tac2) : PE X (.Call (.Name "isinstance" p) [.Name e p1, .Name c p2] [] p3) (tIsI i a b) :=
  pe_imp (pe_callB (call_isP hpin hcls hzc hfld) hgi hmi (by decide +kernel) (pa_cons (pe_var hN hv hd hcd) (pa_cons (pe_glob (v := .ref C) hg hm rfl hdc) pa_nil h2) h1) (by decide) (by decide) h1 hpl) fun σ H Q ⟨s, q⟩ =>
    ⟨.ref a, s, ⟨.ref C, .ref C, b, rfl, fun u r => r, hk, q⟩⟩
theorem pe_isl2 {i : Nat} {i1 i2 : Expr} {b1 b2 : Bool} {p : Pos} (h1 : PE X i1 (tIsI i a b1)) (h2 : PE X i2 (tIsI i a b2))
    (e1 : autoParam (starEach [i1, i2] X.env = (false, eval i1 X.env) :: starEach [i2] X.env) EV.tac2) (e2 : autoParam (starEach [i2] X.env = (false, eval i2 X.env) :: starEach [] X.env) EV.tac2) :
    PE X (.List [i1, i2] p) (fun σ H Q => σ[i]? = some (some (.ref a)) ∧ ∀ l, H l = none → Q (.ref l) (upd H l (.lst [.bl b1, .bl b2]))) :=
  pe_imp (L2.pe_lst (pa_cons h1 (pa_cons h2 pa_nil e2) e1)) fun σ H Q h20_ => by (refine EV.el0_2 h20_ ?_; try clear h20_; intro s q); exact ⟨s, s, by show 2 ≤ sizeLine; rw [sizeLine_eq]; decide, fun p np => q p np⟩
theorem pe_isl1 {i : Nat} {i1 : Expr} {b1 : Bool} {p : Pos} (h1 : PE X i1 (tIsI i a b1)) (e1 : autoParam (starEach [i1] X.env = (false, eval i1 X.env) :: starEach [] X.env) EV.tac2) :
    PE X (.List [i1] p) (fun σ H Q => σ[i]? = some (some (.ref a)) ∧ ∀ l, H l = none → Q (.ref l) (upd H l (.lst [.bl b1]))) :=
  pe_imp (L2.pe_lst (pa_cons h1 pa_nil e1)) fun σ H Q h21_ => by (refine EV.el0_2 h21_ ?_; try clear h21_; intro s q); exact ⟨s, by show 1 ≤ sizeLine; rw [sizeLine_eq]; decide, fun p np => q p np⟩
end
end EV
set_option maxHeartbeats 2000000
namespace EV
open PySem PySem.Spec PyProof.Rows L2
noncomputable def words8 : List Str := ["net", "component", "set", "report", "word", "number", "text", "nothing"]
section
/-- the eight marks -/
noncomputable def AllB (P : Nat → Prop) : Nat → Prop
  | 0 => True
  | n + 1 => AllB P n ∧ P n
theorem allB_at {P : Nat → Prop} {n : Nat} (h : AllB P n) {k : Nat} (hk : k < n) : P k := by
  induction n with
  | zero => exact absurd hk (Nat.not_lt_zero k)
  | succ n ih =>
    rcases Nat.lt_succ_iff_lt_or_eq.mp hk with q | q
    · exact ih h.1 q
    · rw [q]
      exact h.2
theorem k8_count {j : Nat} (hj : j < 8) : ([0 == j, 1 == j, 2 == j, 3 == j, 4 == j, 5 == j, 6 == j, 7 == j].map PyData.bool).countP (fun z => PyData.eqv z (.bool true)) = 1 :=
  allB_at (P := fun j => ([0 == j, 1 == j, 2 == j, 3 == j, 4 == j, 5 == j, 6 == j, 7 == j].map PyData.bool).countP (fun z => PyData.eqv z (.bool true)) = 1) (n := 8) ⟨⟨⟨⟨⟨⟨⟨⟨trivial, rfl⟩, rfl⟩, rfl⟩, rfl⟩, rfl⟩, rfl⟩, rfl⟩, rfl⟩ hj
theorem k8_at {j : Nat} (hj : j < 8) : (List.map PyData.bool [0 == j, 1 == j, 2 == j, 3 == j, 4 == j, 5 == j, 6 == j, 7 == j])[j]? = some (PyData.bool true) :=
  allB_at (P := fun j => (List.map PyData.bool [0 == j, 1 == j, 2 == j, 3 == j, 4 == j, 5 == j, 6 == j, 7 == j])[j]? = some (PyData.bool true)) (n := 8) ⟨⟨⟨⟨⟨⟨⟨⟨trivial, rfl⟩, rfl⟩, rfl⟩, rfl⟩, rfl⟩, rfl⟩, rfl⟩, rfl⟩ hj
theorem k8_firstB : ∀ j < 8, ∀ m < j, (([0 == j, 1 == j, 2 == j, 3 == j, 4 == j, 5 == j, 6 == j, 7 == j] : List Bool)[m]?) = some false := by decide
theorem k8_first {j : Nat} (hj : j < 8) : ∀ (m : Nat) (z' : PyData), m < j → (List.map PyData.bool [0 == j, 1 == j, 2 == j, 3 == j, 4 == j, 5 == j, 6 == j, 7 == j])[m]? = some z' → z'.eqv (PyData.bool true) = false := fun m z' hm e => by
  rw [List.getElem?_map, k8_firstB j hj m hm] at e
  obtain rfl := Option.some.inj e
  rfl
theorem k8_word {j : Nat} (hj : j < 8) : atI (words8.map V.str) (j : Int) = some (V.str (words8.getD j "")) :=
  allB_at (P := fun j => atI (words8.map V.str) (j : Int) = some (V.str (words8.getD j ""))) (n := 8) ⟨⟨⟨⟨⟨⟨⟨⟨trivial, rfl⟩, rfl⟩, rfl⟩, rfl⟩, rfl⟩, rfl⟩, rfl⟩, rfl⟩ hj
variable {X : Cx} {a D : Addr} {oe : Obj}
/-- the frame behind the marks: slot 1 the exception, slot 2 the list of the marks; new things alone since H0 -/
noncomputable def KSt (a : Addr) (H0 : Hp) (bs : List Bool) (σ : L2.St) (H : Hp) : Prop :=
  σ[1]? = some (some (.ref a)) ∧ σ.length = 4 ∧ (∃ l, σ[2]? = some (some (.ref l)) ∧ H l = some (.lst (bs.map V.bl))) ∧ News H0 H
theorem k_nt (xs : List V) : ∀ ps, HO.lst xs ≠ .tbl ps := fun _ z => by cases z
theorem k_ln {n : Nat} (h : n ≤ 100) : n ≤ sizeLine := by rw [sizeLine_eq]; exact EV.w_le (by assumption) (by decide)
theorem k_set {H0 H : Hp} {σ : L2.St} {bs : List Bool} {l : Addr} (e1 : σ[1]? = some (some (.ref a))) (e2 : σ.length = 4) (n : News H0 H) (n3 : H l = none) :
    KSt a H0 bs (σ.set 2 (some (.ref l))) (upd H l (.lst (bs.map V.bl))) :=
  ⟨by rw [List.getElem?_set_ne (by decide)]; exact e1, by rw [List.length_set]; exact e2, ⟨l, List.getElem?_set_self (by omega), upd_same⟩, n.upd n3 (k_nt _)⟩
noncomputable def tK (a : Addr) (bs bs' : List Bool) : TS := fun D σ H => ∃ H0, KSt a H0 bs σ H ∧ ∀ σ' H', KSt a H0 bs' σ' H' → D.nx σ' H'
theorem k_cat {H0 H : Hp} {bs cs : List Bool} {l : Addr} {Q : VK} (n : News H0 H) (e : H l = some (.lst (bs.map V.bl))) (hl : (bs ++ cs).length ≤ 100)
    (q : ∀ H1, News H0 H1 → ∀ l3, H1 l3 = none → Q (.ref l3) (upd H1 l3 (.lst ((bs ++ cs).map V.bl)))) : ∀ l2, H l2 = none → rCat (.ref l) (.ref l2) (upd H l2 (.lst (cs.map V.bl))) Q := fun l2 n2 => by
  rw [List.length_append] at hl
  refine ⟨l, l2, bs.map V.bl, cs.map V.bl, rfl, rfl, by rw [upd_ne (ne_of_none e n2)]; exact e, upd_same, by rw [List.length_map, List.length_map]; exact k_ln hl, fun l3 n3 => ?_⟩
  rw [← List.map_append]
  exact q _ (n.upd n2 (k_nt _)) l3 n3
variable {m : Str} {bs : List Bool} {p1 p2 p3 p4 p5 : Pos}
theorem k_add1 {i : Expr} {b : Bool} (nd : X.N.Nodup) (hm : X.N[2]? = some m) (lm : Loc X.env.scope m) (vm : Vis X.env.scope m) (h : PE X i (tIsI 1 a b)) (s : starEach [i] X.env = (false, eval i X.env) :: starEach [] X.env)
    (w : swapsWith (.BinOp (.Name m p1) .Add (.List [i] p2) p3) (some (.Name m p4)) p5.line X.env = pure false) (dm : (m == ("__debug__" : Str)) = false) (cm : (m == ("__classdict__" : Str)) = false) (lo : X.fn m = true ∨ X.env.scope.names.lookup m = some .local)
    (hl : (bs ++ [b]).length ≤ 100) : PS X (.Assign [.Name m p4] (.BinOp (.Name m p1) .Add (.List [i] p2) p3) p5) (tK a bs (bs ++ [b])) :=
  ps_imp (ps_set (i := 2) nd hm lm (pe_op op_cat (pe_var hm vm dm cm) (pe_isl1 h s)) w lo) fun D σ H hh => by
    (refine EV.el1_2 hh ?_; try clear hh; intro H0 q184_ q; (refine EV.el0_4 q184_ ?_; try clear q184_; intro e1 e2 q185_ n; (refine EV.el1_2 q185_ ?_; try clear q185_; intro l e3 e4)))
    exact EV.in1_3 (.ref l) e3 e1 (k_cat n e4 hl fun H1 n1 l3 n3 => q _ _ (k_set e1 e2 n1 n3))
theorem k_add2 {i i' : Expr} {b b' : Bool} (nd : X.N.Nodup) (hm : X.N[2]? = some m) (lm : Loc X.env.scope m) (vm : Vis X.env.scope m) (h : PE X i (tIsI 1 a b)) (h' : PE X i' (tIsI 1 a b')) (s : starEach [i, i'] X.env = (false, eval i X.env) :: starEach [i'] X.env) (s' : starEach [i'] X.env = (false, eval i' X.env) :: starEach [] X.env)
    (w : swapsWith (.BinOp (.Name m p1) .Add (.List [i, i'] p2) p3) (some (.Name m p4)) p5.line X.env = pure false) (dm : (m == ("__debug__" : Str)) = false) (cm : (m == ("__classdict__" : Str)) = false) (lo : X.fn m = true ∨ X.env.scope.names.lookup m = some .local)
    (hl : (bs ++ [b, b']).length ≤ 100) : PS X (.Assign [.Name m p4] (.BinOp (.Name m p1) .Add (.List [i, i'] p2) p3) p5) (tK a bs (bs ++ [b, b'])) :=
  ps_imp (ps_set (i := 2) nd hm lm (pe_op op_cat (pe_var hm vm dm cm) (pe_isl2 h h' s s')) w lo) fun D σ H hh => by
    (refine EV.el1_2 hh ?_; try clear hh; intro H0 q186_ q; (refine EV.el0_4 q186_ ?_; try clear q186_; intro e1 e2 q187_ n; (refine EV.el1_2 q187_ ?_; try clear q187_; intro l e3 e4)))
    exact EV.in1_3 (.ref l) e3 e1 (k_cat n e4 hl fun H1 n1 l3 n3 => q _ _ (k_set e1 e2 n1 n3))
theorem k_new2 {i i' : Expr} {b b' : Bool} (nd : X.N.Nodup) (hm : X.N[2]? = some m) (lm : Loc X.env.scope m) (h : PE X i (tIsI 1 a b)) (h' : PE X i' (tIsI 1 a b')) (s : starEach [i, i'] X.env = (false, eval i X.env) :: starEach [i'] X.env) (s' : starEach [i'] X.env = (false, eval i' X.env) :: starEach [] X.env)
    (w : swapsWith (.List [i, i'] p1) (some (.Name m p4)) p5.line X.env = pure false) (lo : X.fn m = true ∨ X.env.scope.names.lookup m = some .local) :
    PS X (.Assign [.Name m p4] (.List [i, i'] p1) p5) (fun D σ H => (σ[1]? = some (some (.ref a)) ∧ σ.length = 4) ∧ ∀ σ' H', KSt a H [b, b'] σ' H' → D.nx σ' H') :=
  ps_imp (ps_set (i := 2) nd hm lm (pe_isl2 h h' s s') w lo) fun D σ H hh => ⟨hh.1.1, fun l n => hh.2 _ _ (k_set (bs := [b, b']) hh.1.1 hh.1.2 (News.refl H) n)⟩
/-- the answer -/
theorem k_ret {w : Str} {ws : List Str} {n : Nat} {u : Str} {k11 c1 c2 c3 : Nat} {q35 q36 q37 q38 q39 q40 q41 q42 q43 z1 z2 z3 z5 z8 z9 : Pos} (hu : X.A.units + 65 < cLine) (hm : X.N[2]? = some m) (hw : X.N[3]? = some w) (vm : Vis X.env.scope m) (vw : Vis X.env.scope w)
    (b2 : attributeBase (.Name m q35) "count" X.env (eval (.Name m q35) X.env) = eval (.Name m q35) X.env) (b3 : attributeBase (.Name m q38) "index" X.env (eval (.Name m q38) X.env) = eval (.Name m q38) X.env)
    (l2 : (q36.endLine == q37.line) = true) (l3 : (q39.endLine == q40.line) = true) (dm : (m == ("__debug__" : Str)) = false) (cm : (m == ("__classdict__" : Str)) = false) (dw : (w == ("__debug__" : Str)) = false) (cw : (w == ("__classdict__" : Str)) = false)
    (hc : (bs.map PyData.bool).countP (fun z => PyData.eqv z (.bool true)) = 1) (ha : (bs.map PyData.bool)[n]? = some (.bool true)) (hf : ∀ (k : Nat) (z' : PyData), k < n → (bs.map PyData.bool)[k]? = some z' → z'.eqv (.bool true) = false) (hx : atI (ws.map V.str) (n : Int) = some (V.str u)) (hs : SeqAt.shaped (PyData.list (bs.map PyData.bool)) = true) :
    PS X (.Return (some (.IfExp (.Compare (.Call (.Attribute (.Name m q35) "count" q36) [.Constant (.bool true) c1 z8] [] q37) [.Eq] [.Constant (.int 1) c2 z1] z2)
        (.Subscript (.Name w q41) (.Call (.Attribute (.Name m q38) "index" q39) [.Constant (.bool true) c3 z3] [] q40) z9) (.Constant (.str "other") k11 z5) q42)) q43)
      (fun D σ H => ∃ l l', σ[2]? = some (some (.ref l)) ∧ H l = some (.lst (bs.map V.bl)) ∧ σ[3]? = some (some (.ref l')) ∧ H l' = some (.lst (ws.map V.str)) ∧ D.rt (.str u) H) := by
  have cnt := pe_bm (cpos := q37) PySem.F.plainAttrs_list PySem.F.slot_list_count PySem.F.type_list_count (mt_countD hu) (pe_var (pos := q35) hm vm dm cm) (pa_cons (pe_bl (b := true) (j := c1) (pos := z8)) pa_nil rfl) b2 rfl l2 rfl rfl
  have ind := pe_bm (cpos := q40) PySem.F.plainAttrs_list PySem.F.slot_list_index PySem.F.type_list_index (mt_indexD hu) (pe_var (pos := q38) hm vm dm cm) (pa_cons (pe_bl (b := true) (j := c3) (pos := z3)) pa_nil rfl) b3 rfl l3 rfl rfl
  refine ps_imp (ps_ret (pe_ifExp (pt_cmp (pc_eqI cnt pe_int)) (pe_ix ix_list (pe_var hw vw dw cw) ind (fun _ _ => rfl)) pe_str)) fun D σ H hh => ?_
  (refine EV.el2_5 hh ?_; try clear hh; intro l l' e1 e2 e3 e4 q)
  have ty : tyV X.K "list" (.ref l) H := .inl ⟨rfl, _, SqL.of e2⟩
  have dp : Dp X.K H (.ref l) (.list (bs.map PyData.bool)) := dp_bls (K := X.K) bs e2
  refine ⟨.ref l, e1, ty, l, .bl true, .bool true, _, rfl, rfl, dp, .bl true, hs, by rfl, 1, 1, by rw [hc]; rfl, rfl, true, rfl, ?_⟩
  show tOp (rIxL X.K) (tVar 3) (tBM X.K "list" (rIndexD X.K) (tVar 2) (tCons (tC (V.bl true)) tNil)) _ _ D.rt
  exact ⟨.ref l', e3, .ref l, e1, ty, l, .bl true, .bool true, _, n, .bool true, rfl, rfl, dp, .bl true, hs, by rfl, ha, rfl, hf, l', ws.map V.str, n, .str u, rfl, rfl, SqL.of e4, hx, q⟩
theorem pss_kind8 {m w : Str} {j : Nat} (hj : j < 8) {i0 i1 i2 i3 i4 i5 i6 i7 : Expr} {q1 q2 q3 q4 q5 q6 q7 q8 q9 q10 q11 q12 q13 q14 q15 q16 q17 q18 q19 q20 q21 q22 q23 q24 q25 q26 q27 q28 q29 q30 q31 q32 q33 q34 q35 q36 q37 q38 q39 q40 q41 q42 q43 : Pos}
    {k1 k2 k3 k4 k5 k6 k7 k8 k11 c1 c2 c3 : Nat} {z1 z2 z3 z5 z8 z9 : Pos} (hu : X.A.units + 65 < cLine) (nd : X.N.Nodup)
    (hm : X.N[2]? = some m) (hw : X.N[3]? = some w) (lm : Loc X.env.scope m) (lw : Loc X.env.scope w) (vm : Vis X.env.scope m) (vw : Vis X.env.scope w)
    (h0 : PE X i0 (tIsI 1 a (0 == j))) (h1 : PE X i1 (tIsI 1 a (1 == j))) (h2 : PE X i2 (tIsI 1 a (2 == j))) (h3 : PE X i3 (tIsI 1 a (3 == j))) (h4 : PE X i4 (tIsI 1 a (4 == j))) (h5 : PE X i5 (tIsI 1 a (5 == j))) (h6 : PE X i6 (tIsI 1 a (6 == j))) (h7 : PE X i7 (tIsI 1 a (7 == j)))
    (s0 : autoParam (starEach [i0, i1] X.env = (false, eval i0 X.env) :: starEach [i1] X.env) EV.tac2) (s1 : autoParam (starEach [i1] X.env = (false, eval i1 X.env) :: starEach [] X.env) EV.tac2)
    (s2 : autoParam (starEach [i2] X.env = (false, eval i2 X.env) :: starEach [] X.env) EV.tac2)
    (s3 : autoParam (starEach [i3, i4] X.env = (false, eval i3 X.env) :: starEach [i4] X.env) EV.tac2) (s4 : autoParam (starEach [i4] X.env = (false, eval i4 X.env) :: starEach [] X.env) EV.tac2)
    (s5 : autoParam (starEach [i5] X.env = (false, eval i5 X.env) :: starEach [] X.env) EV.tac2)
    (s6 : autoParam (starEach [i6, i7] X.env = (false, eval i6 X.env) :: starEach [i7] X.env) EV.tac2) (s7 : autoParam (starEach [i7] X.env = (false, eval i7 X.env) :: starEach [] X.env) EV.tac2)
    (w1 : autoParam (swapsWith (.List [i0, i1] q1) (some (.Name m q2)) q3.line X.env = pure false) EV.tac2)
    (w2 : autoParam (swapsWith (.BinOp (.Name m q4) .Add (.List [i2] q5) q6) (some (.Name m q7)) q8.line X.env = pure false) EV.tac2)
    (w3 : autoParam (swapsWith (.BinOp (.Name m q9) .Add (.List [i3, i4] q10) q11) (some (.Name m q12)) q13.line X.env = pure false) EV.tac2)
    (w4 : autoParam (swapsWith (.BinOp (.Name m q14) .Add (.List [i5] q15) q16) (some (.Name m q17)) q18.line X.env = pure false) EV.tac2)
    (w5 : autoParam (swapsWith (.BinOp (.Name m q19) .Add (.List [i6, i7] q20) q21) (some (.Name m q22)) q23.line X.env = pure false) EV.tac2)
    (w6 : autoParam (swapsWith (.List [.Constant (.str "net") k1 q24, .Constant (.str "component") k2 q25, .Constant (.str "set") k3 q26, .Constant (.str "report") k4 q27, .Constant (.str "word") k5 q28, .Constant (.str "number") k6 q29, .Constant (.str "text") k7 q30, .Constant (.str "nothing") k8 q31] q32) (some (.Name w q33)) q34.line X.env = pure false) EV.tac2)
    (b2 : autoParam (attributeBase (.Name m q35) "count" X.env (eval (.Name m q35) X.env) = eval (.Name m q35) X.env) EV.tac2) (b3 : autoParam (attributeBase (.Name m q38) "index" X.env (eval (.Name m q38) X.env) = eval (.Name m q38) X.env) EV.tac2)
    (l2 : autoParam ((q36.endLine == q37.line) = true) EV.tac2) (l3 : autoParam ((q39.endLine == q40.line) = true) EV.tac2)
    (dm : autoParam ((m == ("__debug__" : Str)) = false) EV.tac1) (cm : autoParam ((m == ("__classdict__" : Str)) = false) EV.tac1) (dw : autoParam ((w == ("__debug__" : Str)) = false) EV.tac1) (cw : autoParam ((w == ("__classdict__" : Str)) = false) EV.tac1)
    (lo1 : autoParam (X.fn m = true ∨ X.env.scope.names.lookup m = some .local) EV.tac6) (lo2 : autoParam (X.fn w = true ∨ X.env.scope.names.lookup w = some .local) EV.tac6) :
    PSs X [.Assign [.Name m q2] (.List [i0, i1] q1) q3,
      .Assign [.Name m q7] (.BinOp (.Name m q4) .Add (.List [i2] q5) q6) q8,
      .Assign [.Name m q12] (.BinOp (.Name m q9) .Add (.List [i3, i4] q10) q11) q13,
      .Assign [.Name m q17] (.BinOp (.Name m q14) .Add (.List [i5] q15) q16) q18,
      .Assign [.Name m q22] (.BinOp (.Name m q19) .Add (.List [i6, i7] q20) q21) q23,
      .Assign [.Name w q33] (.List [.Constant (.str "net") k1 q24, .Constant (.str "component") k2 q25, .Constant (.str "set") k3 q26, .Constant (.str "report") k4 q27, .Constant (.str "word") k5 q28, .Constant (.str "number") k6 q29, .Constant (.str "text") k7 q30, .Constant (.str "nothing") k8 q31] q32) q34,
      .Return (some (.IfExp (.Compare (.Call (.Attribute (.Name m q35) "count" q36) [.Constant (.bool true) c1 z8] [] q37) [.Eq] [.Constant (.int 1) c2 z1] z2)
        (.Subscript (.Name w q41) (.Call (.Attribute (.Name m q38) "index" q39) [.Constant (.bool true) c3 z3] [] q40) z9) (.Constant (.str "other") k11 z5) q42)) q43]
      (fun Dn σ H => (σ.length = 4 ∧ σ[1]? = some (some (.ref a))) ∧ ∀ H', News H H' → Dn.rt (.str (words8.getD j "")) H') := by
  have wl := L2.pe_lst (X := X) (pos := q32) (pa_cons (pe_str (x := "net") (j := k1) (pos := q24)) (pa_cons (pe_str (x := "component") (j := k2) (pos := q25)) (pa_cons (pe_str (x := "set") (j := k3) (pos := q26)) (pa_cons (pe_str (x := "report") (j := k4) (pos := q27)) (pa_cons (pe_str (x := "word") (j := k5) (pos := q28)) (pa_cons (pe_str (x := "number") (j := k6) (pos := q29)) (pa_cons (pe_str (x := "text") (j := k7) (pos := q30)) (pa_cons (pe_str (x := "nothing") (j := k8) (pos := q31)) pa_nil rfl) rfl) rfl) rfl) rfl) rfl) rfl) rfl)
  refine pss_imp (pss_cons (k_new2 nd hm lm h0 h1 s0 s1 w1 lo1) (pss_cons (k_add1 (bs := [0 == j, 1 == j]) nd hm lm vm h2 s2 w2 dm cm lo1 (Nat.le_of_ble_eq_true rfl)) (pss_cons (k_add2 (bs := [0 == j, 1 == j, 2 == j]) nd hm lm vm h3 h4 s3 s4 w3 dm cm lo1 (Nat.le_of_ble_eq_true rfl))
    (pss_cons (k_add1 (bs := [0 == j, 1 == j, 2 == j, 3 == j, 4 == j]) nd hm lm vm h5 s5 w4 dm cm lo1 (Nat.le_of_ble_eq_true rfl)) (pss_cons (k_add2 (bs := [0 == j, 1 == j, 2 == j, 3 == j, 4 == j, 5 == j]) nd hm lm vm h6 h7 s6 s7 w5 dm cm lo1 (Nat.le_of_ble_eq_true rfl)) (pss_cons (ps_set (i := 3) nd hw lw wl w6 lo2)
    (pss_one (k_ret (bs := [0 == j, 1 == j, 2 == j, 3 == j, 4 == j, 5 == j, 6 == j, 7 == j]) (ws := words8) hu hm hw vm vw b2 b3 l2 l3 dm cm dw cw (k8_count hj) (k8_at hj) (k8_first hj) (k8_word hj) rfl)))))))) fun Dn σ H hh => ?_
  refine ⟨⟨hh.1.2, hh.1.1⟩, fun σ1 H1 z1 => ⟨H, z1, fun σ2 H2 z2 => ⟨H, z2, fun σ3 H3 z3 => ⟨H, z3, fun σ4 H4 z4 => ⟨H, z4, fun σ5 H5 z5 => ⟨k_ln (by decide), fun l n => ?_⟩⟩⟩⟩⟩⟩
  (refine EV.el0_4 z5 ?_; try clear z5; intro e1 e2 q188_ n5; (refine EV.el1_2 q188_ ?_; try clear q188_; intro k e3 e4))
  exact EV.in2_5 k l (by rw [List.getElem?_set_ne (by decide)]; exact e3) (by rw [upd_ne (ne_of_none e4 n)]; exact e4) (List.getElem?_set_self (by omega)) upd_same (hh.2 _ (n5.upd n (k_nt _)))
end
end EV
set_option maxHeartbeats 2000000
namespace EV
open PySem PySem.Spec PyProof.Rows L2 LamX
/-- .. and the two classes that have fields -/
structure ErrX (K : PySem.W.Frag) (mg : Str → Option Value) (CA CL CU D : Addr) (j : Nat) : Prop where
  ej : ErrJ K mg CA D j
  lim : PySem.W.exmOne K (.ref D) (.ref CL) = some (9 == j)
  une : PySem.W.exmOne K (.ref D) (.ref CU) = some (8 == j)
/-- .. whose instances' fields are read -/
structure ErrY (K : PySem.W.Frag) (CL CU : Addr) : Prop where
  xl : XfC K CL
  xu : XfC K CU
  l1 : PySem.W.findIn K (.ref CL) "amount" = some none
  l2 : PySem.W.findIn K (.ref CL) "limit" = some none
  u1 : PySem.W.findIn K (.ref CU) "alarm" = some none
  u2 : PySem.W.findIn K (.ref CU) "quiets" = some none
  ll : PySem.W.exmOne K (.ref CL) (.ref CL) = some true
  ul : PySem.W.exmOne K (.ref CU) (.ref CL) = some false
  uu : PySem.W.exmOne K (.ref CU) (.ref CU) = some true
theorem errY_by {K : PySem.W.Frag} {CL CU : Addr} (h : (xfB K CL && xfB K CU && decide (PySem.W.findIn K (.ref CL) "amount" = some none) && decide (PySem.W.findIn K (.ref CL) "limit" = some none) && decide (PySem.W.findIn K (.ref CU) "alarm" = some none) && decide (PySem.W.findIn K (.ref CU) "quiets" = some none) &&
    decide (PySem.W.exmOne K (.ref CL) (.ref CL) = some true) && decide (PySem.W.exmOne K (.ref CU) (.ref CL) = some false) && decide (PySem.W.exmOne K (.ref CU) (.ref CU) = some true)) = true) : ErrY K CL CU := by
  simp only [Bool.and_eq_true, decide_eq_true_eq] at h
  (refine EV.el0_2 h ?_; try clear h; intro q189_ h9; (refine EV.el0_2 q189_ ?_; try clear q189_; intro q190_ h8; (refine EV.el0_2 q190_ ?_; try clear q190_; intro q191_ h7; (refine EV.el0_2 q191_ ?_; try clear q191_; intro q192_ h6; (refine EV.el0_2 q192_ ?_; try clear q192_; intro q193_ h5; (refine EV.el0_2 q193_ ?_; try clear q193_; intro q194_ h4; (refine EV.el0_2 q194_ ?_; try clear q194_; intro q195_ h3; (refine EV.el0_2 q195_ ?_; try clear q195_; intro h1 h2))))))))
  exact ⟨xfB_ok h1, xfB_ok h2, h3, h4, h5, h6, h7, h8, h9⟩
/-- its two fields, as data; the word of them -/
noncomputable def XW (K : PySem.W.Frag) (C : Addr) (f1 f2 wd : Str) (cls : Value) (d : Option Addr) (H : Hp) (Q : VK) : Prop :=
  cls = .ref C ∧ ∃ (dd : Addr) (fs : List (Str × V)) (x y : V) (a b : D) (G : Hp), d = some dd ∧ H dd = some (.xd fs) ∧ fs.lookup f1 = some x ∧ fs.lookup f2 = some y ∧ Same G H ∧ Rp K G x a ∧ Rp K G y b ∧
    okD (.tup [a, b]) = true ∧ (toPy (.tup [a, b])).depth ≤ 60 ∧ wd.length + (shown (.tup [a, b])).length ≤ lim ∧ ∀ H'', News H H'' → Q (.str (wd ++ shown (.tup [a, b]))) H''
theorem call_reprU {X : Cx} (hu : X.A.units + 200 < cLine) (hg : X.A.guards = some []) : CallR X (.builtin "repr") (rRepr X.K) := by
  intro pins s σ H xs us Q I r h
  (refine EV.el2_2 h ?_; try clear h; intro x d q196_ q197_; obtain rfl := q196_; (refine EV.el0_6 q197_ ?_; try clear q197_; intro dp h1 h2 h3 h4 q))
  (refine EV.el1_2 (vals1 r) fun u q198_ ru => ?_; obtain rfl := q198_)
  refine EV.el1_1 (Dp.reads I d x u dp ru) fun as rd => ?_
  cases rd with
  | none => exact PySem.P.repr_of_none ⟨.str _, H, I.tok _, ⟨_, rfl⟩, q⟩
  | bool b => exact PySem.P.repr_of_bool ⟨.str _, H, I.tok _, ⟨_, rfl⟩, by cases b <;> exact q⟩
  | int i t => exact PySem.P.repr_of_int (by simpa [PyData.showable] using h1) ⟨.str _, H, I.tok _, ⟨_, rfl⟩, q⟩
  | str z t => exact PySem.P.repr_of_str ⟨.str _, H, I.tok _, ⟨_, rfl⟩, q⟩ h4
  | list a1 a2 a3 a4 => exact repr_of_reads' (.list a1 a2 a3 a4) h1 (fun e => by rw [h2] at e; exact EV.nnB e) hg (by omega) (fun _ _ e => e) (fun h' u tk hk => ⟨.str _, H, I.kept (t' := tk) hk, ⟨_, rfl⟩, q⟩) h4
  | tuple a1 a2 a3 a4 => exact repr_of_reads' (.tuple a1 a2 a3 a4) h1 (fun e => by rw [h2] at e; exact EV.nnB e) hg (by omega) (fun _ _ e => e) (fun h' u tk hk => ⟨.str _, H, I.kept (t' := tk) hk, ⟨_, rfl⟩, q⟩) h4
  | dict a1 a2 a3 a4 a5 => simp [PyData.hasDict] at h2
/-- return wd + repr((e.f1, e.f2)) -/
theorem el_two {α β : Type} {P : α → β → Prop} {x y : α} {a b : β} (h1 : P x a) (h2 : P y b) (i : Nat) (v : α) (d : β) (e1 : [x, y][i]? = some v) (e2 : [a, b][i]? = some d) : P v d := by
  cases i with
  | zero =>
    obtain rfl := Option.some.inj e1
    obtain rfl := Option.some.inj e2
    exact h1
  | succ i => cases i with
    | zero =>
      obtain rfl := Option.some.inj e1
      obtain rfl := Option.some.inj e2
      exact h2
    | succ i => exact EV.nnS e1
theorem pss_xf {X : Cx} {a C : Addr} {oe : Obj} {cls : Value} {d : Option Addr} {pn : List (Addr × Obj)} {e f1 f2 wd : Str} {k1 : Nat} {p1 p2 p3 p4 p5 p6 p7 p8 p9 p10 : Pos} {x7} (T : XfC X.K C) (n1 : PySem.W.findIn X.K (.ref C) f1 = some none) (n2 : PySem.W.findIn X.K (.ref C) f2 = some none)
    (hz : Zc cls d oe) (hf : ∃ vs, oe.data = .fields vs) (hN : X.N[1]? = some e) (hv : Vis X.env.scope e) (hg : Gl X "repr") (hm : X.mg "repr" = none) (hu : (X.suite a ((a, oe) :: pn)).A.units + 200 < cLine) (hgu : (X.suite a ((a, oe) :: pn)).A.guards = some [])
    (hd : (e == ("__debug__" : Str)) = false) (hcd : (e == ("__classdict__" : Str)) = false)
    (b1 : ∀ env : Env, attributeBase (.Name e p3) f1 env (eval (.Name e p3) env) = eval (.Name e p3) env) (b2 : ∀ env : Env, attributeBase (.Name e p5) f2 env (eval (.Name e p5) env) = eval (.Name e p5) env) :
    PSs (X.suite a ((a, oe) :: pn)) [.Return (some (.BinOp (.Constant (.str wd) k1 p1) .Add (.Call (.Name "repr" p2) [.Tuple [.Attribute (.Name e p3) f1 p4, .Attribute (.Name e p5) f2 p6] x7 p7] [] p8) p9)) p10]
      (fun Dn σ H => σ[1]? = some (some (.ref a)) ∧ XW X.K C f1 f2 wd cls d H Dn.rt) := by
  have x1 := pe_xf (X := X) (pn := pn) (pos := p4) T n1 hz hf (pe_var (X := X.suite a ((a, oe) :: pn)) (i := 1) (pos := p3) hN hv hd hcd) (b1 _)
  have x2 := pe_xf (X := X) (pn := pn) (pos := p6) T n2 hz hf (pe_var (X := X.suite a ((a, oe) :: pn)) (i := 1) (pos := p5) hN hv hd hcd) (b2 _)
  refine pss_imp (pss_one (ps_ret (pe_op (pos := p9) op_add_str (pe_str (X := X.suite a ((a, oe) :: pn)) (x := wd) (j := k1) (pos := p1)) (pe_callB (p := p2) (pos := p8) (call_reprU hu hgu) hg hm (by decide +kernel) (pa_cons (pe_tup (x1 := x7) (pos := p7) (pa_cons x1 (pa_cons x2 pa_nil rfl) rfl)) pa_nil rfl) (by decide) (by decide) rfl rfl)))) fun Dn σ H hh => ?_
  obtain ⟨eσ, ec, dd, fs, x, y, da, db, G, ed, eH, l1, l2, hs, r1, r2, ok, dep, len, q⟩ := hh
  refine ⟨_, eσ, rfl, ec, dd, fs, x, ed, eH, l1, _, eσ, rfl, ec, dd, fs, y, ed, eH, l2, ⟨by show 2 ≤ sizeLine; rw [sizeLine_eq]; decide, fun p np => ?_⟩⟩
  have nw : News H (upd H p (.tup [x, y])) := (News.refl H).upd np (fun ps z => by cases z)
  have hs2 : Same G (upd H p (.tup [x, y])) := fun b o z => nw.1 b o (hs b o z)
  have rt : Rp X.K (upd H p (.tup [x, y])) (.ref p) (.tup [da, db]) := .tup (SqT.of upd_same) rfl (el_two (r1.mono hs2) (r2.mono hs2))
  have z := okD_py _ ok
  have l2 : (toPy (.tup [da, db])).shown.length ≤ sizeLine := lim_le (by
    have : (shown (.tup [da, db])).length ≤ lim := by omega
    exact this)
  exact ⟨.ref p, toPy (.tup [da, db]), rfl, rt.dp z.2, z.1, z.2, dep, l2, wd, shown (.tup [da, db]), rfl, rfl, lim_le len, q _ nw⟩
noncomputable def TSaid8 (K : PySem.W.Frag) (mg : Str → Option Value) (CA CL CU : Addr) : (XK → Hp → VK → Prop) → Hp → VK → Prop := fun tl H Q =>
  tl (fun cls d H' => (∃ (D : Addr) (j : Nat), j < 8 ∧ cls = .ref D ∧ d = none ∧ ErrX K mg CA CL CU D j ∧ ∀ H'', News H' H'' → Q (.str (words8.getD j "")) H'') ∨ XW K CL "amount" "limit" "limit " cls d H' Q ∨ XW K CU "alarm" "quiets" "unexplained " cls d H' Q) H fun v H' => Q (.str "") H'
theorem said8_gives {X : Cx} {x a e m w q er1 er2 er3 : Str} {sg : Scope} {g CA CL CU : Addr} {cdg : Value} {j1 : Nat} {b1 b2 b3 : Stmt} {suite : List Stmt} {p2 p3 p5 p6 p7 p8 p9 p10 p11 p14 p15 p16 : Pos}
    (g1 : sg.names.lookup er1 = some .globalImplicit) (m1 : X.mg er1 = some (.ref CL)) (g2 : sg.names.lookup er2 = some .globalImplicit) (m2 : X.mg er2 = some (.ref CU)) (g3 : sg.names.lookup er3 = some .globalImplicit) (m3 : X.mg er3 = some (.ref CA))
    (le : sg.names.lookup e = some .local) (nd : [a, e, m, w].Nodup) (d1 : (er1 == ("__debug__" : Str)) = false) (d2 : (er2 == ("__debug__" : Str)) = false) (d3 : (er3 == ("__debug__" : Str)) = false) (ey : ErrY X.K CL CU)
    (hsw : ∀ env : Env, swapsWith (.Call (.Name a p2) [] [] p3) none p5.line env = pure false)
    (hsL : ∀ (s : Shared) (H : Hp) (a' : Addr) (oe : Obj) (cls : Value) (d : Option Addr) (pn : List (Addr × Obj)), Zc cls d oe → (∃ vs, oe.data = .fields vs) →
      PSs (Cx.suite (cxOf C8.CX0 X.prog X.w X.K X.mg X.base [a, e, m, w] x sg g cdg X.A X.stack s H C8.E0).nox a' ((a', oe) :: pn)) [b1] (fun Dn σ H => σ[1]? = some (some (.ref a')) ∧ XW X.K CL "amount" "limit" "limit " cls d H Dn.rt))
    (hsU : ∀ (s : Shared) (H : Hp) (a' : Addr) (oe : Obj) (cls : Value) (d : Option Addr) (pn : List (Addr × Obj)), Zc cls d oe → (∃ vs, oe.data = .fields vs) →
      PSs (Cx.suite (cxOf C8.CX0 X.prog X.w X.K X.mg X.base [a, e, m, w] x sg g cdg X.A X.stack s H C8.E0).nox a' ((a', oe) :: pn)) [b2] (fun Dn σ H => σ[1]? = some (some (.ref a')) ∧ XW X.K CU "alarm" "quiets" "unexplained " cls d H Dn.rt))
    (hsu : ∀ (s : Shared) (H : Hp) (a' : Addr) (oe : Obj) (D : Addr) (j : Nat) (pn : List (Addr × Obj)), j < 8 → Zc (.ref D) none oe → (∃ vs, oe.data = .fields vs) → ErrJ X.K X.mg CA D j →
      PSs (Cx.suite (cxOf C8.CX0 X.prog X.w X.K X.mg X.base [a, e, m, w] x sg g cdg X.A X.stack s H C8.E0).nox a' ((a', oe) :: pn)) (b3 :: suite) (fun Dn σ H => (σ.length = 4 ∧ σ[1]? = some (some (.ref a'))) ∧ ∀ H', News H H' → Dn.rt (.str (words8.getD j "")) H')) :
    LamX.GivesTo X [a, e, m, w] x sg g cdg [.Try [.Expr (.Call (.Name a p2) [] [] p3) p5]
      [.ExceptHandler (some (.Name er1 p6)) (some e) [b1] p7, .ExceptHandler (some (.Name er2 p8)) (some e) [b2] p9, .ExceptHandler (some (.Name er3 p10)) (some e) (b3 :: suite) p11] [] [] p14, .Return (some (.Constant (.str "") j1 p15)) p16] a q (TSaid8 X.K X.mg CA CL CU) := by
  intro f c' s H Q tl act hc h
  refine ⟨_, pss_cons (ps_try_manyA (X := (cxOf C8.CX0 X.prog X.w X.K X.mg X.base [a, e, m, w] x sg g cdg X.A X.stack s H C8.E0).nox)
      (l := [(.ref CL, 1, fun a' cls d Dn σ H => σ.length = 4 → σ[1]? = some (some (.ref a')) ∧ XW X.K CL "amount" "limit" "limit " cls d H Dn.rt), (.ref CU, 1, fun a' cls d Dn σ H => σ.length = 4 → σ[1]? = some (some (.ref a')) ∧ XW X.K CU "alarm" "quiets" "unexplained " cls d H Dn.rt),
        (.ref CA, 1, fun a' cls d Dn σ H => ∃ z : Addr × Nat, (z.2 < 8 ∧ cls = .ref z.1 ∧ d = none ∧ ErrJ X.K X.mg CA z.1 z.2) ∧ (σ.length = 4 → σ[1]? = some (some (.ref a')) ∧ ∀ H'', News H H'' → Dn.rt (.str (words8.getD z.2 "")) H''))])
      (tb := fun W D σ H => ∃ Ech : XK, (∀ cls d σ' H', Ech cls d H' → W cls d σ' H') ∧ σ[0]? = some (some (.ref f)) ∧ H c' = some (LamX.CodeO c' q) ∧ tl Ech H fun v H' => D.nx σ H')
      rfl rfl nd L2.takes0 (fun W pn xe tk _ => ?_)
      (.cons ⟨g1, d1, .inl m1⟩ rfl le (fun a' oe cls d pn hz hf => pss_imp (pss_len (hsL s H a' oe cls d _ hz hf)) fun Dn σ H y hl => y hl) (.cons ⟨g2, d2, .inl m2⟩ rfl le (fun a' oe cls d pn hz hf => pss_imp (pss_len (hsU s H a' oe cls d _ hz hf)) fun Dn σ H y hl => y hl) (.cons ⟨g3, d3, .inl m3⟩ rfl le (fun a' oe cls d pn hz hf => ?_) .nil)))) (pss_one (ps_ret pe_str)), ?_⟩
  · refine ⟨fun pins s' σ H' D I h' => ?_⟩
    (refine EV.el1_4 h' ?_; try clear h'; intro Ech hW h1 h2 h3)
    have hp := act W pn xe Ech p2 p3 tk hW
    have hq := pss_one (ps_expr (pos := p5) hp (hsw _))
    exact hq.run pins s' σ H' D I ⟨h1, h2, h3⟩
  · refine pss_ex fun z => pss_and fun h22_ => ?_; (refine EV.el0_4 h22_ ?_; try clear h22_; intro hj e1 e2 ej)
    subst e1 e2
    exact pss_imp (pss_len (hsu s H a' oe z.1 z.2 _ hj hz hf ej)) fun Dn σ H y hl => ⟨⟨hl, (y hl).1⟩, (y hl).2⟩
  · refine EV.in1_4 _ (fun cls d σ' H' y => ?_) rfl hc h
    have set1 : ∀ {a' : Addr} {σ' : L2.St}, (σ'.set 1 (some (.ref a'))).length = 4 → (σ'.set 1 (some (V.ref a')))[1]? = some (some (.ref a')) := fun {a' σ'} hl => List.getElem?_set_self (by rw [List.length_set] at hl; omega)
    rcases y with ⟨D, j, hj, e1, e2, ej, y⟩ | y | y
    · subst e1 e2
      have n9 : (9 == j) = false := beq_eq_false_iff_ne.mpr (by omega)
      have n8 : (8 == j) = false := beq_eq_false_iff_ne.mpr (by exact Nat.ne_of_gt (by assumption))
      exact EV.in1_3 false (by rw [← n9]; exact ej.lim) ((fun z => by exact EV.nnB z)) (fun _ => ⟨false, by rw [← n8]; exact ej.une, (fun z => by exact EV.nnB z), fun _ => ⟨true, ej.ej.all, fun _ a' _ => ⟨(D, j), ⟨hj, rfl, rfl, ej.ej⟩, fun hl => ⟨set1 hl, y⟩⟩, fun z => by exact EV.nnB (Eq.symm z)⟩⟩)
    · have y2 := y
      (refine EV.el0_2 y2 ?_; try clear y2; intro e1 _)
      subst e1
      exact EV.in1_3 true (ey.ll) (fun _ a' _ hl => ⟨set1 hl, y⟩) (fun z => by exact EV.nnB (Eq.symm z))
    · have y2 := y
      (refine EV.el0_2 y2 ?_; try clear y2; intro e1 _)
      subst e1
      exact EV.in1_3 false (ey.ul) ((fun z => by exact EV.nnB z)) (fun _ => ⟨true, ey.uu, fun _ a' _ hl => ⟨set1 hl, y⟩, fun z => by exact EV.nnB (Eq.symm z)⟩)
/-- the word of an exception with two fields -/
noncomputable def xword : Ex → PM D
  | ⟨n, [(g2, b), (g1, a)]⟩ =>
    if n = "LimitError" ∧ g1 = "amount" ∧ g2 = "limit" then (if okD (.tup [a, b]) = true ∧ (toPy (.tup [a, b])).depth ≤ 60 ∧ ("limit " : Str).length + (shown (.tup [a, b])).length ≤ lim then pure (.str ("limit " ++ shown (.tup [a, b]))) else bad)
    else if n = "Unexplained" ∧ g1 = "alarm" ∧ g2 = "quiets" then (if okD (.tup [a, b]) = true ∧ (toPy (.tup [a, b])).depth ≤ 60 ∧ ("unexplained " : Str).length + (shown (.tup [a, b])).length ≤ lim then pure (.str ("unexplained " ++ shown (.tup [a, b]))) else bad)
    else bad
  | _ => bad
noncomputable def saidM8 (m : PM D) : PM D := fun s => match m [] with
  | .ok _ _ => .ok (.str "") s
  | .exc e => if e.fs = [] then (match errIx e.name with
      | some j => if j < 8 then .ok (.str (words8.getD j "")) s else .bad
      | none => .bad) else xword e s
  | .bad => .bad
/-- what an exception with two fields is, as seen from outside -/
theorem fv_two {fv : List (Str × V)} {f g : Str} (en : fv.map (·.1) = [f, g]) : ∃ y x, fv = [(f, y), (g, x)] := by
  cases fv with
  | nil => exact EV.nnL en
  | cons p r => cases r with
    | nil => cases en
    | cons p2 r => cases r with
      | nil =>
        obtain ⟨p1, y⟩ := p
        obtain ⟨p3, x⟩ := p2
        cases en
        exact EV.in2_1 y x rfl
      | cons _ _ => cases en
theorem xw_one {K : PySem.W.Frag} {C : Addr} {f1 f2 wd : Str} {d : Addr} {fv : List (Str × V)} {a b : D} {G H : Hp} {Q : VK} (ne : f1 ≠ f2) (eH : H d = some (.xd fv)) (en : fv.map (·.1) = [f2, f1]) (er : RpL K G (fv.map (·.2)) [b, a]) (hs : Same G H)
    (c : okD (.tup [a, b]) = true ∧ (toPy (.tup [a, b])).depth ≤ 60 ∧ wd.length + (shown (.tup [a, b])).length ≤ lim) (q : ∀ H'', News H H'' → Q (.str (wd ++ shown (.tup [a, b]))) H'') : XW K C f1 f2 wd (.ref C) (some d) H Q := by
  (refine EV.el2_1 (fv_two en) fun y x q199_ => ?_; obtain rfl := q199_)
  exact ⟨rfl, d, _, x, y, a, b, G, rfl, eH, by rw [lookup_put, if_neg ne, lookup_put, if_pos rfl], by rw [lookup_put, if_pos rfl], hs, er.2 1 _ _ rfl rfl, er.2 0 _ _ rfl rfl, c.1, c.2.1, c.2.2, q⟩
theorem fs_two {n : Str} {fs : List (Str × D)} {s : List Int} (R : xword ⟨n, fs⟩ s ≠ .bad) : ∃ g2 b g1 a, fs = [(g2, b), (g1, a)] := by
  cases fs with
  | nil => exact absurd rfl R
  | cons p r => cases r with
    | nil => exact absurd rfl R
    | cons p2 r => cases r with
      | nil =>
        obtain ⟨g2, b⟩ := p
        obtain ⟨g1, a⟩ := p2
        exact EV.in4_1 g2 b g1 a rfl
      | cons _ _ => exact absurd rfl R
noncomputable abbrev xwC (wd : Str) (a b : D) : Prop := okD (.tup [a, b]) = true ∧ (toPy (.tup [a, b])).depth ≤ 60 ∧ wd.length + (shown (.tup [a, b])).length ≤ lim
theorem xw_if {c : Prop} [Decidable c] {m : PM D} {s : List Int} (h : (if c then m else bad) s ≠ .bad) : c ∧ (if c then m else bad) s = m s := by
  by_cases z : c
  · rw [if_pos z]
    exact ⟨z, rfl⟩
  · rw [if_neg z] at h
    exact absurd rfl h
theorem xw_cases {ex : Ex} {s : List Int} (R : xword ex s ≠ .bad) : ∃ a b, (ex = ⟨"LimitError", [("limit", b), ("amount", a)]⟩ ∧ xwC "limit " a b ∧ xword ex s = .ok (.str ("limit " ++ shown (.tup [a, b]))) s) ∨
    (ex = ⟨"Unexplained", [("quiets", b), ("alarm", a)]⟩ ∧ xwC "unexplained " a b ∧ xword ex s = .ok (.str ("unexplained " ++ shown (.tup [a, b]))) s) := by
  obtain ⟨n, fs⟩ := ex
  (refine EV.el4_1 (fs_two R) fun g2 b g1 a q200_ => ?_; obtain rfl := q200_)
  refine EV.in2_1 a b ?_
  unfold xword at R ⊢
  dsimp only at R ⊢
  by_cases c1 : n = "LimitError" ∧ g1 = "amount" ∧ g2 = "limit"
  · rw [if_pos c1] at R ⊢
    (refine EV.el0_2 c1 ?_; try clear c1; intro q201_ q202_; obtain rfl := q201_; (refine EV.el0_2 q202_ ?_; try clear q202_; intro q203_ q204_; obtain rfl := q203_; obtain rfl := q204_))
    exact .inl ⟨rfl, xw_if R⟩
  · rw [if_neg c1] at R ⊢
    have c3 := (xw_if R).1
    rw [if_pos c3] at R ⊢
    (refine EV.el0_2 c3 ?_; try clear c3; intro q205_ q206_; obtain rfl := q205_; (refine EV.el0_2 q206_ ?_; try clear q206_; intro q207_ q208_; obtain rfl := q207_; obtain rfl := q208_))
    exact .inr ⟨rfl, xw_if R⟩
theorem xw_of {K : PySem.W.Frag} {mg : Str → Option Value} {CL CU : Addr} (hL : mg "LimitError" = some (.ref CL)) (hU : mg "Unexplained" = some (.ref CU)) {G2 H2 : Hp} {ex : Ex} {s : List Int} {cls : Value} {dx : Option Addr} {Q : VK}
    (R : xword ex s ≠ .bad) (hs : Same G2 H2) (ei : ExcIs K mg G2 H2 ex cls dx) (hq : ∀ z, (∀ H'', News H2 H'' → xword ex s = .ok (.str z) s → Q (.str z) H'')) :
    XW K CL "amount" "limit" "limit " cls dx H2 Q ∨ XW K CU "alarm" "quiets" "unexplained " cls dx H2 Q := by
  obtain ⟨a, b, ⟨rfl, c, e⟩ | ⟨rfl, c, e⟩⟩ := xw_cases R
  · (refine EV.el0_3 ei ?_; try clear ei; intro e1 _ e3)
    (refine EV.el2_2 (e3 (fun z => by exact EV.nnL (Eq.symm z))) fun d fv q209_ q210_ => ?_; obtain rfl := q209_; (refine EV.el0_3 q210_ ?_; try clear q210_; intro eH en er))
    cases hL.symm.trans e1
    exact .inl (xw_one (by decide) eH en er hs c fun H'' nw => hq _ H'' nw e)
  · (refine EV.el0_3 ei ?_; try clear ei; intro e1 _ e3)
    (refine EV.el2_2 (e3 (fun z => by exact EV.nnL (Eq.symm z))) fun d fv q211_ q212_ => ?_; obtain rfl := q211_; (refine EV.el0_3 q212_ ?_; try clear q212_; intro eH en er))
    cases hU.symm.trans e1
    exact .inr (xw_one (by decide) eH en er hs c fun H'' nw => hq _ H'' nw e)
structure SaidC8 (P : Program) (w : World) (K : PySem.W.Frag) (mg : Str → Option Value) (base : Heap) (k : Nat) (x : Str) : Prop where
  ex : ∃ (g CA CL CU : Addr) (pg : Arguments) (bg : List Stmt) (sg : Scope) (kV doc pm cdv ct oc : Value) (an od : Option Addr) (osl : Array (Option Value)) (a : Str) (Ng : List Str),
    mg x = some (.ref g) ∧ PySem.W.keepIn K (.ref g) = true ∧ K.lookup g = some ⟨oc, od, .func (PySem.W.fnOf x x pg bg sg .none kV doc pm an cdv ct), osl⟩ ∧ PySem.W.codeIn K cdv x = true ∧
    L2.Binds K (PySem.W.fnOf x x pg bg sg .none kV doc pm an cdv ct) [a] [] ∧ FnScope Ng [a] sg ∧ Ng[0]? = some a ∧ Vis sg a ∧ (a == ("__debug__" : Str)) = false ∧ (a == ("__classdict__" : Str)) = false ∧
    (∀ j y, errsL[j]? = some y → ∃ D, mg y = some (.ref D) ∧ ErrX K mg CA CL CU D j) ∧ mg "LimitError" = some (.ref CL) ∧ mg "Unexplained" = some (.ref CU) ∧
    ∀ X : Cx, X.prog = P → X.w = w → X.K = K → X.mg = mg → X.base = base → Room (k + 1) X.A → X.A.guards = some [] → ∀ q, GivesTo X Ng x sg g cdv bg a q (TSaid8 K mg CA CL CU)
section
variable {X : Cx} {W : WX} {pa : Option Addr} {Γ : List Sl} {k : Nat} {pos : Pos}
theorem ev_said8 {x : Str} {m : PM D} {params : Arguments} {body : Expr} {scope : Scope} {p lpos : Pos} (C : Cok X W (k + 33)) (S : SaidC8 X.prog X.w X.K X.mg X.base (k + 31) x) (LA : LamAt X) (L : LamS X.env.scope scope) (hg : Gl X x) (hdef : defaultsOf params X.env = ([], []))
    (hbind : ∀ (q : Str) (cl : List (Str × Addr)) (pm cv ctv : Value), bindArgs (PySem.W.kla_fn "<lambda>" q params body scope cl pm cv ctv) ⟨[], []⟩ = pure [])
    (hb : ∀ (A : Around) (outer : List Env) (s : Shared) (H : Hp) (E : XK) (f c' : Addr), Cok (lamCx X A outer s H E scope f c') (fun cls d _ H' => E cls d H') 31 → EV (lamCx X A outer s H E scope f c') (fun cls d _ H' => E cls d H') none (Γ.map valS) body m)
    (hdb : autoParam ((x == ("__debug__" : Str)) = false) EV.tac1) : EV X W pa Γ (.Call (.Name x p) [.Lambda params body scope lpos] [] pos) (saidM8 m) := by
  (refine EV.el4_1 (S.ex) fun g CA CL CU q213_ => ?_; refine EV.el4_1 q213_ ?_; try clear q213_; intro pg bg sg kV q214_; refine EV.el4_1 q214_ ?_; try clear q214_; intro doc pm cdv ct q215_; refine EV.el4_1 q215_ ?_; try clear q215_; intro oc an od osl q216_; refine EV.el2_4 q216_ ?_; try clear q216_; intro a Ng s1 s2 s3 q217_; refine EV.el0_5 q217_ ?_; try clear q217_; intro s4 s5 s6 s7 q218_; refine EV.el0_7 q218_ ?_; try clear q218_; intro s8 s9 s10 s11 sL sU s12)
  (refine EV.el2_4 LA ?_; try clear LA; intro c P l1 l2 l3 l4)
  refine pe_imp (pe_lam3 (k := k + 31) (t := fun E => evT X (fun cls d _ H' => E cls d H') none (Γ.map valS) m) hg s1 s2 s3 s4 s5 s6 s7 s8 (s12 X rfl rfl rfl rfl rfl (C.room.mono (by exact Nat.le_succ _)) (C.guards (by exact Nat.le_add_left _ _)) _) l2 l1 C.room L hdef hbind
    (fun A outer s H E f c' hr => hb A outer s H E f c' ⟨rfl, C.nd, takes_of rfl rfl rfl rfl, hr.mono (by exact Nat.le_add_left _ _), fun z => absurd z (by decide), passes_of rfl⟩) hdb s9 s10) fun σ H Q h_ => EV.ex4 h_ fun G0 H0 G s E R => ?_
  have tk := E.tk
  refine EV.el1_1 (tk.on P l3) fun ps hP => ?_
  have hTS : TabS H P (X.env.qual ++ "<lambda>") := by
    rw [← l4]
    exact tk.ok P ps hP
  refine ⟨hTS, fun c' H1 hL hT1 => ?_⟩
  refine EV.el0_2 (lamH_ext (pa := pa) E.sub tk E.x.nt hL hT1 l4) fun x1 tk1 => ?_
  have p1 : PenOk pa G H1 s := fun q e => by
    refine EV.el0_2 (E.ps q e) fun a1 a2 => ?_
    refine ⟨a1, ?_⟩
    rcases hL with rfl | ⟨ps2, more, hP2, hc, rfl⟩
    · exact a2
    · rw [upd_ne (ne_of_none a2 hc), upd_ne (fun z => by rw [z, hP2] at a2; cases a2)]
      exact a2
  refine EV.in4_2 G H1 G ([]) (E.lam x1.sub tk1) ?_
  have R : Pst X.K W X.mg pa σ (FD X.K Q) G H (saidM8 m s) := R
  unfold saidM8 at R
  cases e : m [] with
  | bad => rw [e] at R; exact R.elim
  | ok d s' =>
    rw [e] at R
    intro G2 H2 y _ v rv
    have yx : Ext X.K pa G H1 G2 H2 := y.any
    have R2 := R.mono (x1.trans yx)
    exact R2 G2 H2 (Ext.refl yx.sub) (p1.ext y) _ (.str "")
  | exc ex =>
    rw [e] at R
    intro cls dx G2 H2 y ei
    have R : Pst X.K W X.mg pa σ (FD X.K Q) G H (if ex.fs = [] then (match errIx ex.name with
      | some j => if j < 8 then EV.R.ok (D.str (words8.getD j "")) s else EV.R.bad
      | none => EV.R.bad) else xword ex s) := R
    by_cases hf : ex.fs = []
    · rw [if_pos hf] at R
      cases hj : errIx ex.name with
      | none => rw [hj] at R; exact R.elim
      | some j =>
        rw [hj] at R
        have R : Pst X.K W X.mg pa σ (FD X.K Q) G H (if j < 8 then EV.R.ok (D.str (words8.getD j "")) s else EV.R.bad) := R
        by_cases h8 : j < 8
        · rw [if_pos h8] at R
          refine EV.el0_2 (errIx_at hj) fun hj1 hj2 => ?_
          refine EV.el1_2 (s11 j ex.name hj2) fun Dc d1 d2 => ?_
          (refine EV.el0_3 ei ?_; try clear ei; intro e1 e2 _)
          rw [d1] at e1
          obtain rfl := Option.some.inj e1
          refine .inl ⟨Dc, j, h8, rfl, e2 hf, d2, fun H3 nw => ?_⟩
          have yx : Ext X.K pa G H1 G2 H2 := y.any
          have z : Ext X.K pa G H G2 H3 := (x1.trans yx).trans (nw.ext y.sub)
          exact R G2 H3 z ((p1.ext y).ext (nw.ext (K := X.K) y.sub)) _ (.str _)
        · rw [if_neg h8] at R
          exact R.elim
    · rw [if_neg hf] at R
      refine .inr (xw_of sL sU (fun z => by rw [z] at R; exact R.elim) y.sub ei fun z H3 nw ez => ?_)
      rw [ez] at R
      have yx : Ext X.K pa G H1 G2 H2 := y.any
      have z2 : Ext X.K pa G H G2 H3 := (x1.trans yx).trans (nw.ext y.sub)
      exact R G2 H3 z2 ((p1.ext y).ext (nw.ext (K := X.K) y.sub)) _ (.str _)
theorem ev_saidC8 {x : Str} {m : PM D} {params : Arguments} {body : Expr} {scope : Scope} {p lpos : Pos} (C : Cok X W k) (S : SaidC8 X.prog X.w X.K X.mg X.base 31 x) (LA : LamAt X)
    (hb : ∀ (A : Around) (outer : List Env) (s : Shared) (H : Hp) (E : XK) (f c' : Addr), Cok (lamCx X A outer s H E scope f c') (fun cls d _ H' => E cls d H') 31 → EV (lamCx X A outer s H E scope f c') (fun cls d _ H' => E cls d H') none (Γ.map valS) body m)
    (hk : autoParam (33 ≤ k) EV.tac1) (L : autoParam (LamS X.env.scope scope) EV.tac10) (hg : autoParam (Gl X x) EV.tac2) (hdef : autoParam (defaultsOf params X.env = ([], [])) EV.tac2)
    (hbind : autoParam (∀ (q : Str) (cl : List (Str × Addr)) (pm cv ctv : Value), bindArgs (PySem.W.kla_fn "<lambda>" q params body scope cl pm cv ctv) ⟨[], []⟩ = pure []) EV.tac11) (hdb : autoParam ((x == ("__debug__" : Str)) = false) EV.tac1) :
    EV X W pa Γ (.Call (.Name x p) [.Lambda params body scope lpos] [] pos) (saidM8 m) := ev_said8 (k := 0) (C.mono hk) S LA L hg hdef hbind hb hdb
end
end EV
set_option maxHeartbeats 2000000
namespace EV
open PySem PySem.Spec PyProof.Rows L2 PySem.W
section
variable {P : Program} {w : World} {K : Frag} {mg : Str → Option Value} {base : Heap}
structure MethF (K : Frag) (Cl : Addr) (m q : Str) (st : Stmt) : Prop where
  ex : ∃ f fd, Meth K Cl m f ∧ Fun K m q st f fd ∧ fnIn K f = true
theorem methF {h : Heap} {Cl f : Addr} {m q : Str} {st : Stmt} {oc : Value} {od an : Option Addr} {osl : Array (Option Value)} {kV doc pm cdv ct : Value} (_ : K.In h) (m2 : findIn K (.ref Cl) m = some (some (.ref f))) (m3 : isFn K (.ref f) = true)
    (l : K.lookup f = some ⟨oc, od, .func (fnOf m q (defArgs st) (defBody st) (defScope st) .none kV doc pm an cdv ct), osl⟩) (c : codeIn K cdv q = true) (k : keepIn K (.ref f) = true) (fi : fnIn K f = true) : MethF K Cl m q st := ⟨f, _, ⟨m2, m3, k⟩, fun_mk l c k, fi⟩
structure PropF (K : Frag) (Cl : Addr) (m q : Str) (st : Stmt) : Prop where
  ex : ∃ p f fd, PropOf K Cl m p f ∧ Fun K m q st f fd
theorem propF {h : Heap} {Cl p f : Addr} {m q : Str} {st : Stmt} {oc : Value} {od an : Option Addr} {osl : Array (Option Value)} {kV doc pm cdv ct : Value} {rest : List Value} (_ : K.In h) (a1 : findIn K (.ref Cl) m = some (some (.ref p))) (a2 : specialIn K (.ref p) "__get__" = some (some (.builtin "property.__get__")))
    (a3 : takesIn K (.ref p) = some true) (a4 : recIn K p "property" = some (.ref f :: rest)) (l : K.lookup f = some ⟨oc, od, .func (fnOf m q (defArgs st) (defBody st) (defScope st) .none kV doc pm an cdv ct), osl⟩) (c : codeIn K cdv q = true) (k : keepIn K (.ref f) = true) : PropF K Cl m q st :=
  ⟨p, f, _, ⟨a1, a2, a3, rest, a4⟩, fun_mk l c k⟩
structure CalPr (P : Program) (w : World) (K : Frag) (mg : Str → Option Value) (base : Heap) (k : Nat) (Cl : Addr) (m : Str) (ps : List Str) (sp : Sp) : Prop where
  ex : ∃ p f fd, PropOf K Cl m p f ∧ FnG P w K mg base k f fd ps sp ∧ L2.Binds K fd ps []
variable {x q : Str} {st : Stmt} {N ps : List Str} {n k : Nat}
theorem fn_pureQ {f : Addr} {fd : FuncData} {F : List D → PM D} (FU : Fun K x q st f fd) (S : FnScope N ps (defScope st)) (hps : ps.length = n)
    (hb : ∀ (cdv : Value) (A : Around) (outer : List PySem.Env) (s : Shared) (H : Hp) (E : XK), Cok (cxOf (L2.CX P w) P w K mg base N q (defScope st) f cdv A outer s H E) (fun cls d _ H => E cls d H) k → ∀ ds : List D, ds.length = n →
      ∃ (α : Type) (out : α → Out) (m : PM α), SV (cxOf (L2.CX P w) P w K mg base N q (defScope st) f cdv A outer s H E) (fun cls d _ H => E cls d H) none (slots0 N ds) out (defBody st) m ∧ F ds = (m >>= fun a => outD (out a))) :
    FnG P w K mg base (k + 1) f fd ps (spF K mg false n F) := by
  refine fnG_of FU S (fun vs H Q E h => ?_) fun cdv ec A outer s H vs Q E hg hr h => ?_
  · (refine EV.el5_3 h ?_; try clear h; intro pa G s vs' ds hpa q219_ q220_; obtain rfl := q219_; (refine EV.el0_5 q220_ ?_; try clear q220_; intro _ _ r hn _))
    cases pa with
    | some _ => exact EV.nnB (Eq.symm hpa)
    | none =>
      show vs'.length = _
      rw [r.1, hn, hps]
  · (refine EV.el5_3 h ?_; try clear h; intro pa G s' vs' ds hpa q221_ q222_; obtain rfl := q221_; (refine EV.el0_5 q222_ ?_; try clear q222_; intro hs hp r hn hP))
    cases pa with
    | some _ => exact EV.nnB (Eq.symm hpa)
    | none =>
      obtain ⟨α, out, m, sv, e⟩ := hb cdv A outer s H E (cok_fn S.nd hg hr) ds hn
      rw [e] at hP
      have hlen : vs'.length ≤ N.length := by
        rw [r.1, hn, ← hps]
        exact scope_le S
      exact ⟨_, sv, G, H, G, s', nv_start0 hs r hlen, spost_fn hP⟩
theorem mk_meth {Cl : Addr} {F : List D → PM D} (FA : MethF K Cl x q st) (S : FnScope N ps (defScope st)) (hps : ps.length = n)
    (hbd : ∀ (kV doc pm : Value) (an : Option Addr) (cdv ct : Value) (us : List Value), us.length = ps.length → bindArgs (PySem.W.fnOf x q (defArgs st) (defBody st) (defScope st) .none kV doc pm an cdv ct) ⟨us, []⟩ = pure (ps.zip us))
    (hb : ∀ (f : Addr) (cdv : Value) (A : Around) (outer : List PySem.Env) (s : Shared) (H : Hp) (E : XK), Cok (cxOf (L2.CX P w) P w K mg base N q (defScope st) f cdv A outer s H E) (fun cls d _ H => E cls d H) k → ∀ ds : List D, ds.length = n →
      ∃ (α : Type) (out : α → Out) (m : PM α), SV (cxOf (L2.CX P w) P w K mg base N q (defScope st) f cdv A outer s H E) (fun cls d _ H => E cls d H) none (slots0 N ds) out (defBody st) m ∧ F ds = (m >>= fun a => outD (out a))) :
    CalM P w K mg base (k + 1) Cl x ps (spF K mg false n F) := by
  refine EV.el2_3 (FA.ex) fun f fd Me FU fi => ?_
  exact ⟨f, fd, fn_pureQ FU S hps (hb f), Me, fi, FU.binds hbd⟩
theorem mk_prop {Cl : Addr} {F : List D → PM D} (FA : PropF K Cl x q st) (S : FnScope N ps (defScope st)) (hps : ps.length = n)
    (hbd : ∀ (kV doc pm : Value) (an : Option Addr) (cdv ct : Value) (us : List Value), us.length = ps.length → bindArgs (PySem.W.fnOf x q (defArgs st) (defBody st) (defScope st) .none kV doc pm an cdv ct) ⟨us, []⟩ = pure (ps.zip us))
    (hb : ∀ (f : Addr) (cdv : Value) (A : Around) (outer : List PySem.Env) (s : Shared) (H : Hp) (E : XK), Cok (cxOf (L2.CX P w) P w K mg base N q (defScope st) f cdv A outer s H E) (fun cls d _ H => E cls d H) k → ∀ ds : List D, ds.length = n →
      ∃ (α : Type) (out : α → Out) (m : PM α), SV (cxOf (L2.CX P w) P w K mg base N q (defScope st) f cdv A outer s H E) (fun cls d _ H => E cls d H) none (slots0 N ds) out (defBody st) m ∧ F ds = (m >>= fun a => outD (out a))) :
    CalPr P w K mg base (k + 1) Cl x ps (spF K mg false n F) := by
  refine EV.el3_2 (FA.ex) fun p f fd hp FU => ?_
  exact ⟨p, f, fd, hp, fn_pureQ FU S hps (hb f), FU.binds hbd⟩
end
section
variable {X : Cx} {W : WX} {pa : Option Addr} {Γ : List Sl} {k j : Nat} {pos : Pos}
theorem ev_propC {e : Expr} {x : Str} {Cl : Addr} {ps : List Str} {F : List D → PM D} {m : PM D} (C : Cok X W k) (M : CalPr X.prog X.w X.K X.mg X.base j Cl x ps (spF X.K X.mg false 1 F)) (ar : Arity 1 F) (he : EV X W pa Γ e m) (hj : autoParam (j + 1 ≤ k) EV.tac1) (hj2 : autoParam (j < 32) EV.tac1)
    (hab : autoParam (attributeBase e x X.env (eval e X.env) = eval e X.env) EV.tac2) : EV X W pa Γ (.Attribute e x pos) (m >>= fun d => noExc (methD Cl F d [])) := by
  refine EV.el3_3 (M.ex) fun p f fd hp FG hb => ?_
  exact ev_prop C hp FG hb ar hj hj2 he hab
end
section
variable {K : Frag} {h : Heap} {mg : Str → Option Value} {CA CL CU : Addr} {Ds : List Addr}
theorem errs8_of (h0 : ∀ j y, errsL[j]? = some y → ∃ D, mg y = some (.ref D) ∧ ErrJ K mg CA D j) (X : K.In h) (G : h.Ns mainGlobals mg) (hn : ((List.range 10).all fun i => match errsL[i]?, Ds[i]? with
    | some y, some C => nsIn K mainGlobals y == some (some (.ref C))
    | _, _ => false) = true) (hB : ((List.range 10).all fun j => match Ds[j]? with
    | some D => (exmOne K (.ref D) (.ref CL) == some (9 == j)) && (exmOne K (.ref D) (.ref CU) == some (8 == j))
    | none => false) = true) : ∀ j y, errsL[j]? = some y → ∃ D, mg y = some (.ref D) ∧ ErrX K mg CA CL CU D j := by
  intro j y e
  refine EV.el1_2 (h0 j y e) fun D hD ej => ?_
  have hj : j < 10 := (List.getElem?_eq_some_iff.mp e).1
  have z := List.all_eq_true.mp hn j (List.mem_range.mpr hj)
  have b := List.all_eq_true.mp hB j (List.mem_range.mpr hj)
  rw [e] at z
  cases q : Ds[j]? with
  | none => rw [q] at z; exact EV.nnB z
  | some C =>
    rw [q] at z b
    have hC : mg y = some (.ref C) := mg_of X G (beq_iff_eq.mp (show (nsIn K mainGlobals y == some (some (.ref C))) = true from z))
    rw [hC] at hD
    cases hD
    refine EV.el0_2 (Bool.and_eq_true_iff.mp b) fun b1 b2 => ?_
    exact ⟨_, hC, ej, beq_iff_eq.mp b1, beq_iff_eq.mp b2⟩
end
end EV
set_option maxHeartbeats 2000000
namespace EV
open PySem PySem.Spec PyProof.Rows L2 PySem.W
noncomputable def optS : Option D → Sl
  | some d => .val d
  | none => .junk
noncomputable def optK {β : Type} (c : Option D) (kk : D → PM β) : PM β := match c with
  | some d => kk d
  | none => bad
section
variable {X : Cx} {W : WX} {pa : Option Addr} {Γ : List Sl} {α : Type} {out : α → Out} {rest : List Stmt}
theorem sv_opt (i : Nat) {c : Option D} {kk : D → PM α} (h : Γ[i]? = some (optS c)) (hr : ∀ d, SV X W pa (Γ.set i (.val d)) out rest (kk d)) : SV X W pa Γ out rest (optK c kk) := by
  cases c with
  | none => exact sv_bad
  | some d =>
    have e : Γ.set i (.val d) = Γ := by
      refine List.ext_getElem? fun j => ?_
      by_cases z : i = j
      · subst z
        rw [List.getElem?_set_self (List.getElem?_eq_some_iff.mp h).1, h]
        rfl
      · rw [List.getElem?_set_ne z]
    have q := hr d
    rw [e] at q
    exact q
end
end EV
set_option maxHeartbeats 2000000
namespace EV
open PySem PySem.Spec PyProof.Rows L2
noncomputable def numS (i : Int) : Str := Str.ofString (toString i)
/-- {x} -/
noncomputable def fmtD : D → PM D
  | .str y => if y.length ≤ lim then pure (.str y) else bad
  | .int i => if i.natAbs.log2 < 1920 then pure (.str (numS i)) else bad
  | _ => bad
/-- the parts of f'..' -/
noncomputable def fsD : List (PM D) → Str → PM D
  | [], acc => pure (.str acc)
  | m :: ms, acc => m >>= fun d => match d with
    | .str y => if (acc ++ y).length ≤ lim then fsD ms (acc ++ y) else bad
    | _ => bad
noncomputable def strF : List D → PM D
  | [.int i] => if i.natAbs.log2 < 1920 then pure (.str (numS i)) else bad
  | [.str x] => pure (.str x)
  | _ => bad
section
variable {X : Cx} {W : WX} {pa : Option Addr} {Γ : List Sl} {k j : Nat} {pos : Pos}
theorem ev_fmt {e : Expr} {m : PM D} (he : EV X W pa Γ e m) : EV X W pa Γ (.FormattedValue e (-1) none pos) (m >>= fmtD) :=
  pe_imp (pe_fmt he) fun σ H Q h_ => EV.ex4 h_ fun G0 H0 G s E P => ⟨G0, H0, G, s, E, P.bind.imp fun G1 H1 d s1 x1 p1 P1 v rv => by
    cases rv with
    | str y =>
      have P1 : Pst X.K W X.mg pa σ (FD X.K Q) G1 H1 ((if y.length ≤ lim then pure (.str y) else bad : PM D) s1) := P1
      split at P1
      · rename_i z
        exact .inl ⟨y, rfl, lim_le z, P1.now x1.sub p1 _ (.str _)⟩
      · exact P1.elim
    | int i =>
      have P1 : Pst X.K W X.mg pa σ (FD X.K Q) G1 H1 ((if i.natAbs.log2 < 1920 then pure (.str (numS i)) else bad : PM D) s1) := P1
      split at P1
      · rename_i z
        exact .inr ⟨i, rfl, z, P1.now x1.sub p1 _ (.str _)⟩
      · exact P1.elim
    | _ => exact P1.elim⟩
inductive EVs (X : Cx) (W : WX) (pa : Option Addr) (Γ : List Sl) : List Expr → List (PM D) → Prop
  | nil : EVs X W pa Γ [] []
  | cons {e : Expr} {m : PM D} {es : List Expr} {ms : List (PM D)} (h : EV X W pa Γ e m) (r : EVs X W pa Γ es ms) : EVs X W pa Γ (e :: es) (m :: ms)
theorem EVs.pj {es : List Expr} {ms : List (PM D)} (h : EVs X W pa Γ es ms) : PJ X es (ms.map (evT X W pa Γ)) := by
  induction h with
  | nil => exact .nil
  | cons h _ ih => exact .cons h ih
theorem fs_go {σ : L2.St} {Q : VK} {ms : List (PM D)} : ∀ {acc : Str} {G0 H0 G H : Hp} {s : List Int}, Nv X.K pa G0 H0 G H σ Γ s → Pst X.K W X.mg pa σ (FD X.K Q) G H (fsD ms acc s) → tJs (ms.map (evT X W pa Γ)) acc σ H fun out H1 => Q (.str out) H1 := by
  induction ms with
  | nil =>
    intro acc G0 H0 G H s E P
    exact P.now E.sub E.ps _ (.str acc)
  | cons m ms ih =>
    intro acc G0 H0 G H s E P
    refine ⟨G0, H0, G, s, E, Pst.imp (Pst.bind P) fun G1 H1 d s1 x1 p1 P1 v rv => ?_⟩
    cases rv with
    | str y =>
      have P1 : Pst X.K W X.mg pa σ (FD X.K Q) G1 H1 ((if (acc ++ y).length ≤ lim then fsD ms (acc ++ y) else bad : PM D) s1) := P1
      by_cases z : (acc ++ y).length ≤ lim
      · rw [if_pos z] at P1
        exact ⟨y, rfl, lim_le z, ih (E.step x1 p1) P1⟩
      · rw [if_neg z] at P1
        exact P1.elim
    | _ => exact P1.elim
theorem ev_fstr {v1 v2 : Expr} {rest : List Expr} {ms : List (PM D)} (h : EVs X W pa Γ (v1 :: v2 :: rest) ms) : EV X W pa Γ (.JoinedStr (v1 :: v2 :: rest) pos) (fsD ms Str.empty) :=
  pe_imp (pe_joined h.pj) fun σ H Q h_ => EV.ex4 h_ fun G0 H0 G s E P => fs_go E P
theorem cd_str : CallD X (.type "str") strF := by
  refine EV.in1_2 _ ((call_str_int (X := X)).or (SkE.call_str_str (X := X))) (fun W pa σ G H s xs ds Q hs hp rs P => ?_)
  match ds, rs, P with
  | [d], rs, P =>
    (refine EV.el1_2 (rp1 rs) fun v q223_ r => ?_; obtain rfl := q223_)
    cases r with
    | int i =>
      have P : Pst X.K W X.mg pa σ (FD X.K Q) G H ((if i.natAbs.log2 < 1920 then pure (.str (numS i)) else bad : PM D) s) := P
      split at P
      · rename_i z
        exact .inl ⟨i, rfl, z, P.now hs hp _ (.str _)⟩
      · exact P.elim
    | str x => exact .inr ⟨x, rfl, P.now hs hp _ (.str _)⟩
    | _ => exact P.elim
  | [], _, P => exact P.elim
  | a :: _ :: _, _, P => cases a <;> exact P.elim
noncomputable def strsOf : List D → Option (List Str)
  | [] => some []
  | .str x :: ds => (strsOf ds).map (x :: ·)
  | _ :: _ => none
theorem strsOf_at {ds : List D} : ∀ {ys : List Str}, strsOf ds = some ys → ds = ys.map D.str := by
  induction ds with
  | nil =>
    intro ys h
    cases h
    rfl
  | cons d ds ih =>
    intro ys h
    cases d with
    | str x =>
      cases e : strsOf ds with
      | none => simp [strsOf, e] at h
      | some zs =>
        simp [strsOf, e] at h
        subst h
        rw [ih e]
        rfl
    | _ => cases h
noncomputable def joinD (a : Str) (ds : List D) : PM D := match strsOf ds with
  | some ys => if (ys.map (·.length)).sum + ys.length * a.length ≤ lim then pure (.str (Txt.join a ys)) else bad
  | none => bad
noncomputable def strOf : D → PM Str
  | .str x => pure x
  | _ => bad
theorem rp_strs {K : PySem.W.Frag} {G : Hp} : ∀ {vs : List V} {ys : List Str}, RpL K G vs (ys.map D.str) → vs = ys.map V.str := fun {vs ys} r => by
  refine List.ext_getElem? fun i => ?_
  have hl := r.1
  rw [List.length_map] at hl
  by_cases h : i < ys.length
  · obtain ⟨w, e1⟩ : ∃ w, vs[i]? = some w := ⟨_, List.getElem?_eq_getElem (by omega)⟩
    have z := r.2 i w (.str ys[i]) e1 (by rw [List.getElem?_map, List.getElem?_eq_getElem h]; rfl)
    rw [e1, List.getElem?_map, List.getElem?_eq_getElem h]
    cases z
    rfl
  · rw [List.getElem?_eq_none (by omega), List.getElem?_eq_none (by rw [List.length_map]; exact Nat.not_lt.mp (by assumption))]
theorem ev_join {o e : Expr} {mo me : PM D} {apos cpos : Pos} (ho : EV X W pa Γ o mo) (he : EV X W pa Γ e me)
    (hbase : autoParam (attributeBase o "join" X.env (eval o X.env) = eval o X.env) EV.tac2)
    (hfew : autoParam (((backTo cpos (starEach [e] X.env)).all (fun x => !x.1) && (backToKw cpos (keywordEach [] X.env)).all (fun x => x.1.isSome)
      && decide ([e].length + ([] : List Keyword).length + (if ([] : List Keyword).isEmpty then 0 else 1) < 30)) = true) EV.tac2)
    (hline : autoParam ((apos.endLine == cpos.line) = true) EV.tac2) (hs : autoParam (starEach [e] X.env = (false, eval e X.env) :: starEach [] X.env) EV.tac2) (hplain : autoParam ((backTo cpos (starEach [] X.env)).any (·.1) = false) EV.tac2) :
    EV X W pa Γ (.Call (.Attribute o "join" apos) [e] [] cpos) (mo >>= fun a => strOf a >>= fun x => me >>= fun d => itemsD d >>= joinD x) :=
  pe_imp (pe_bm PySem.F.plainAttrs_str PySem.F.slot_str_join PySem.F.type_str_join mt_join ho (pa_cons he pa_nil hs) hbase hfew hline hs hplain) fun σ H Q h_ => EV.ex4 h_ fun G0 H0 G s E P =>
    ⟨G0, H0, G, s, E, P.bind.imp fun G1 H1 a s1 x1 p1 P1 v rv => by
      cases rv with
      | str x =>
        have P1 : Pst X.K W X.mg pa σ (FD X.K Q) G1 H1 ((me >>= fun d => itemsD d >>= joinD x) s1) := P1
        refine ⟨rfl, G0, H0, G1, s1, E.step x1 p1, P1.bind.imp fun G2 H2 d s2 x2 p2 P2 w rw => ?_⟩
        have go : ∀ (vs : List V) (ds : List D) (p : Addr), RpL X.K G2 vs ds → (SqL X.K H2 p vs ∨ SqT X.K H2 p vs) → Pst X.K W X.mg pa σ (FD X.K Q) G2 H2 (joinD x ds s2) → ∃ a q, ∃ ys : List Str, V.str x = .str a ∧ [V.ref p] = [.ref q] ∧ (SqL X.K H2 q (ys.map V.str) ∨ SqT X.K H2 q (ys.map V.str)) ∧
            (ys.map (·.length)).sum + ys.length * a.length ≤ 16777216 ∧ Q (.str (Txt.join a ys)) H2 := fun vs ds p r hv P3 => by
          unfold joinD at P3
          cases e : strsOf ds with
          | none => rw [e] at P3; exact P3.elim
          | some ys =>
            rw [e] at P3
            have P3 : Pst X.K W X.mg pa σ (FD X.K Q) G2 H2 ((if (ys.map (·.length)).sum + ys.length * x.length ≤ lim then pure (.str (Txt.join x ys)) else bad : PM D) s2) := P3
            split at P3
            · rename_i z
              rw [strsOf_at e] at r
              have ev := rp_strs r
              subst ev
              exact EV.in3_5 x p ys rfl rfl hv (Nat.le_trans z (by decide)) (P3.now x2.sub p2 _ (.str _))
            · exact P3.elim
        cases rw with
        | @lst a xs ds h n rr => exact go xs ds a ⟨n, rr⟩ (.inl (SqL.of (x2.sub _ _ h))) P2
        | @tup a xs ds h n rr => exact go xs ds a ⟨n, rr⟩ (.inr (sameT x2.sub h)) P2
        | _ => exact P2.elim
      | _ => exact P1.elim⟩
end
end EV
set_option maxHeartbeats 2000000
namespace EV
open PySem PySem.Spec PyProof.Rows L2 PySem.W
section
variable {X : Cx} {W : WX} {pa : Option Addr} {Γ : List Sl} {k j n : Nat} {pos : Pos} {pins : List (Addr × Obj)} {σ : L2.St} {H : Hp} {s : Shared} {Cl : Addr} {F : List D → PM D} {g : D → PM D} {Q Q' : VK} {ps : List Str}
/-- repr(o) -/
noncomputable def stD : D → PM D
  | .str x => pure (.str x)
  | _ => bad
theorem goes_st : Goes X W pa stD σ Q (fun v H => ∃ x, v = .str x ∧ Q (.str x) H) := fun G H a s v hs hp r P => by
  cases r with
  | str x => exact EV.in1_2 x rfl (P.now hs hp _ (.str x))
  | _ => exact P.elim
theorem ev_reprO {e : Expr} {m : PM D} {p : Pos} (C : Cok X W k) (M : CalM X.prog X.w X.K X.mg X.base j Cl "__repr__" ps (spF X.K X.mg false 1 F)) (ar : Arity 1 F) (he : EV X W pa Γ e m) (hg : Gl X "repr") (hm : X.mg "repr" = none) (hj : autoParam (j + 1 ≤ k) EV.tac1) (hj2 : autoParam (j < 32) EV.tac1)
    (hs : autoParam (starEach [e] X.env = (false, eval e X.env) :: starEach [] X.env) EV.tac2) :
    EV X W pa Γ (.Call (.Name "repr" p) [e] [] pos) (m >>= fun d => methD Cl F d [] >>= stD) := by
  refine EV.el2_4 (M.ex) fun f fd FG Me fi hb => ?_
  refine ⟨fun pins s σ H Q I h => ?_⟩
  refine wpAny_Call_Name_kw (ld_blt I hg hm (show bootBuiltins "repr" = some (.builtin "repr") by decide +kernel) ?_ (by decide) (by decide))
  refine PyProof.Rows.callWith_builtin1 (thn ((pa_cons he pa_nil hs).run pos pins s σ H (fun vs H1 => ∃ v, vs = [v] ∧ At1 X W Cl 1 F σ (fun v H => ∃ x, v = .str x ∧ Q (.str x) H) v [] H1) I ?_) fun us s1 h23_ => ?_) hs rfl
  · refine EV.el4_2 (evT1 goes_st ar h) fun G0 H0 G s E R => ?_
    exact EV.in4_2 G0 H0 G s E (R.imp fun G' H' d s1 x1 p1 P1 v r => ⟨v, rfl, P1 v r⟩)
  obtain ⟨vs, H1, I1, r1, v, ev, a, dx, fvs, ea, h1, oc, q⟩ := h23_
  subst ev ea
  obtain ⟨u, rfl, hu⟩ : ∃ u, us = [u] ∧ RelV (.ref a) u := by
    cases r1 with
    | cons h t => cases t; exact EV.in1_2 _ rfl h
  obtain rfl : u = Value.ref a := hu
  refine EV.el1_1 (fr_of I1) fun mm fr => ?_
  refine EV.el2_2 (inst_of I1 h1) fun ox od J _ => ?_
  have rm := (C.room.mono hj).in1
  refine repr_K rm.units0 fr I1.ok.mod.kin J Me.at_ Me.fn (thn (runA C.takes rfl rm hj2 FG hb I1 (.cons (show RelV (.ref a) (.ref a) from rfl) .nil) q) fun z s3 h24_ => ?_); obtain ⟨w, H3, I3, rw', x, ew, q3⟩ := h24_
  subst ew
  (refine EV.el1_1 rw' ?_; try clear rw'; intro t q224_; obtain rfl := q224_)
  exact EV.in2_3 (.str x) H3 I3 (⟨t, rfl⟩) q3
end
end EV
set_option maxHeartbeats 2000000
namespace EV
open PySem PySem.Spec PyProof.Rows L2 PySem.W
end EV
set_option maxHeartbeats 2000000
namespace EV
open PySem PySem.Spec PyProof.Rows L2 PySem.W
section
variable {prog : Program} {w : World} {A : Around} {E : Value → Shared → Prop} {s : Shared} {K : Frag} {x C L f : Addr} {h₀ : Heap} {m : Str → Option Value} {ox : Obj} {od : Option Obj} {b tb : Value}
theorem check_slot_K {id owner n : String} {rest : List Value} {Q : Unit → Shared → Prop} (X : K.In s.heap) (I : InstAt s.heap x ox C od) (hk : builtinKind id = some .slot) (hs : splitId id = some (owner, n)) (ha : argsOk id ⟨.ref x :: rest, []⟩)
    (ho : subIn K (.ref C) (.type owner) = some true) (hq : Q () s) : wpAny (model prog w) A (checkBuiltinCall id ⟨.ref x :: rest, []⟩) Q E s := by
  simp only [checkBuiltinCall, hk, hs]
  refine wpAny_bind ?_
  unfold isInstance
  refine wpAny_bind (I.type.here ((looks_subIn X ho).here ?_))
  repeat (first | wp_step)
  cases hsig : Manifest.signature? id with
  | none => exact wpAny_pure hq
  | some sig =>
    simp only [argsOk, hsig] at ha
    have h2 : Bind.checkArgs id sig ⟨.ref x :: rest, []⟩ = pure () := ha
    show wpAny _ A (Bind.checkArgs id sig ⟨.ref x :: rest, []⟩) Q E _
    rw [h2]
    exact wpAny_pure hq
theorem ne_K {Q : Value → Shared → Prop} (hu : A.units + 1 < cLine) (F : Fr h₀ L s.heap m) (X₀ : K.In h₀) (I : InstAt s.heap x ox C od) (hb : Looks (model prog w) s.heap (typeOf b) tb) (hn : notFirst K C tb = true)
    (hne : findIn K (.ref C) "__ne__" = some (some (.builtin "object.__ne__"))) (ho : subIn K (.ref C) (.type "object") = some true) (hs : findIn K (.ref C) "__eq__" = some (some (.ref f))) (hf : isFn K (.ref f) = true)
    (h : wpAny (model prog w) A.in1 (PySem.call (.ref f) [.ref x, b]) (fun v s' => ∃ r, v = .bool r ∧ Q (.bool (!r)) s') E s) : wpAny (model prog w) A (richCompare .NotEq (.ref x) b) Q E s := by
  have X := X₀.keeps F.keep
  have inner : wpAny (model prog w) A (PySem.call (.builtin "object.__ne__") [.ref x, b]) (fun v s' => v ≠ .notImplemented ∧ Q v s') E s := by
    refine wpAny_call (codeAny_call_builtin PySem.F.cmp_object.ne.plain PySem.F.cmpEntry_ne (check_slot_K X I PySem.F.cmpKind_ne PySem.F.cmpSplit_ne (PySem.F.cmpArgs_ne _ _) ho ?_))
    have hu1 : A.in1.units < cLine := hu
    unfold Builtin.«object.__ne__»
    repeat (first
      | with_reducible refine wpAny_cRoomFor hu1 ?_
      | (refine wpAny_bind (m := callSpecialIfBound? (.ref x) (Str.ofString "__eq__") [b]) (ifBound_K X I hs hf (wpAny_mono h (fun r s' hr => ?_) fun _ _ e => e)))
      | wp_step)
    (refine EV.el1_2 hr ?_; try clear hr; intro r q225_ hq; obtain rfl := q225_)
    exact wpAny_bind (wpAny_truthy_bool (wpAny_pure (show _ ∧ _ from ⟨by simp, hq⟩)))
  have asked : wpAny (model prog w) A (callSpecialIfBound? (.ref x) "__ne__" [b]) (fun r s' => ∃ v, r = some v ∧ v ≠ .notImplemented ∧ Q v s') E s := by
    simp only [callSpecialIfBound?, bindSpecialIfBound?]
    refine wpAny_holding (wpAny_bind (wpAny_bind (wpAny_bind (I.type.here ((looks_findIn X hne).here ?_)))))
    refine wpAny_bind (wpAny_askSetting (wpAny_ite ?_))
    have fin : wpAny (model prog w) A (PySem.call (.builtin "object.__ne__") ([.ref x] ++ [b]) >>= fun v => pure (some v)) (fun r s' => ∃ v, r = some v ∧ v ≠ .notImplemented ∧ Q v s') E s := wpAny_bind (wpAny_mono inner (fun v s' h' => wpAny_pure ⟨v, rfl, h'⟩) fun _ _ h' => h')
    have bd : ∀ self : Value, bindSpecial (.builtin "object.__ne__") self = pure (.builtin "object.__ne__", [self]) := PySem.F.cmp_object.ne.bind
    split
    · rw [bd]
      exact wpAny_bind (wpAny_pure (wpAny_pure fin))
    · rw [bd]
      exact wpAny_tryCatch (wpAny_bind (wpAny_pure (wpAny_pure fin)))
  have one : wpAny (model prog w) A (tryCompare (.ref x) "__ne__" b) (fun r s' => ∃ v, r = some v ∧ Q v s') E s := by
    unfold tryCompare
    refine wpAny_bind (wpAny_mono asked (fun r s' hr => ?_) fun _ _ e => e)
    (refine EV.el1_2 hr ?_; try clear hr; intro v q226_ q227_; obtain rfl := q226_; (refine EV.el0_2 q227_ ?_; try clear q227_; intro nv hq))
    cases v <;> first | exact absurd rfl nv | exact wpAny_pure ⟨_, rfl, hq⟩
  unfold richCompare
  simp only [oneThing_ref]
  refine wpAny_holding (wpAny_bind (wpAny_cRoomFor (Nat.lt_of_succ_lt hu) ?_))
  rw [cmpInfo_NotEq]
  dsimp only
  refine wpAny_bind (I.type.here (wpAny_bind (hb.here ?_)))
  split
  · rename_i q
    have e : subIn K tb (.ref C) = some false := by
      rcases Bool.or_eq_true_iff.mp hn with e | e
      · rw [beq_iff_eq.mp e] at q; simp at q
      · exact beq_iff_eq.mp e
    refine wpAny_bind ((looks_subIn X e).here ?_)
    simp only [Bool.false_eq_true, if_false]
    refine wpAny_bind (wpAny_mono one (fun r s' z => ?_) fun _ _ e => e)
    (refine EV.el1_2 z ?_; try clear z; intro v q228_ hq; obtain rfl := q228_)
    exact wpAny_pure hq
  · refine wpAny_bind (wpAny_pure ?_)
    simp only [Bool.false_eq_true, if_false]
    refine wpAny_bind (wpAny_mono one (fun r s' z => ?_) fun _ _ e => e)
    (refine EV.el1_2 z ?_; try clear z; intro v q229_ hq; obtain rfl := q229_)
    exact wpAny_pure hq
end
/-- the type of a value -/
noncomputable def tyD : D → Value
  | .non => .type "NoneType"
  | .bl _ => .type "bool"
  | .int _ => .type "int"
  | .str _ => .type "str"
  | .lst _ => .type "list"
  | .tup _ => .type "tuple"
  | .dct _ => .type "dict"
  | .obj C _ => .ref C
  | .cls _ => .type "type"
section
variable {X : Cx} {W : WX} {pa : Option Addr} {Γ : List Sl} {k j n : Nat} {pos : Pos} {pins : List (Addr × Obj)} {σ : L2.St} {H : Hp} {s : Shared}
theorem looksD {v : V} {d : D} {u : Value} (I : Inv X pins σ H s) (r : Rp X.K H v d) (rv : RelV v u) (hq : ∀ C, d ≠ .cls C) : PySem.W.Looks (model X.prog X.w) s.heap (typeOf u) (tyD d) := by
  cases r with
  | non => cases (show u = Value.none from rv); exact Looks.of_pure rfl
  | bl b => cases (show u = Value.bool b from rv); exact Looks.of_pure rfl
  | int i => (refine EV.el1_1 ((show ∃ t, u = Value.int i t from rv)) fun t q230_ => ?_; obtain rfl := q230_); exact Looks.of_pure rfl
  | str x => (refine EV.el1_1 ((show ∃ t, u = Value.str x t from rv)) fun t q231_ => ?_; obtain rfl := q231_); exact Looks.of_pure rfl
  | @lst a xs ds h n rr =>
    cases (show u = Value.ref a from rv)
    (refine EV.el1_3 (I.list (SqL.of h)) fun _ _ q232_ _ => ?_; (refine EV.el2_4 q232_ ?_; try clear q232_; intro o n ho hc _ hd))
    exact fun A Q E s k q => wpAny_typeOf_ref (k _ _ ho) (by rw [hc]; exact q)
  | @tup a xs ds h n rr =>
    cases (show u = Value.ref a from rv)
    (refine EV.el1_3 (I.tuple h) fun _ _ q233_ _ => ?_; (refine EV.el1_3 q233_ ?_; try clear q233_; intro o ho hc _))
    exact fun A Q E s k q => wpAny_typeOf_ref (k _ _ ho) (by rw [hc]; exact q)
  | @dct a sh vs kvs h hk n rr =>
    cases (show u = Value.ref a from rv)
    cases sh with
    | t ks =>
      obtain ⟨_, _, xs, _, o, es, ep, h1, h2, _⟩ := (show ObjOk X.prog X.w H s.heap a (.dT ((ks.map fun r => r.map Sum.inl).zip vs)) from I.hok a _ h)
      exact fun A Q E s k q => wpAny_typeOf_ref (k _ _ h1) (by rw [h2.1]; exact q)
    | k ks =>
      obtain ⟨_, _, vs', _, o, es, ep, h1, h2, _⟩ := (show ObjOk X.prog X.w H s.heap a (.dK ((ks.map Sum.inl).zip vs)) from I.hok a _ h)
      exact fun A Q E s k q => wpAny_typeOf_ref (k _ _ h1) (by rw [h2.1]; exact q)
    | _ => exact EV.nnS hk
  | @obj a C dx fvs fs h hc hk rr =>
    cases (show u = Value.ref a from rv)
    refine EV.el2_2 (inst_of I h) fun ox od J _ => ?_
    exact J.type
  | cls _ => exact absurd rfl (hq _)
/-- what == and != of the class lean on -/
structure EqC (K : Frag) (Cl : Addr) : Prop where
  ne : findIn K (.ref Cl) "__ne__" = some (some (.builtin "object.__ne__"))
  ob : subIn K (.ref Cl) (.type "object") = some true
  nf : ∀ T ∈ ["NoneType", "bool", "int", "str", "list", "tuple", "dict"], notFirst K Cl (.type T) = true
/-- the other one is of a type that is known -/
noncomputable def knD (Cl : Addr) : D → PM Unit
  | .obj C _ => if C = Cl then pure () else bad
  | .cls _ => bad
  | _ => pure ()
theorem knD_at {β : Type} {K : Frag} {mg : Str → Option Value} {FF : Hp → Hp → β → List Int → Prop} {Cl : Addr} {h : PM β} {G1 H1 : Hp} {s1 : List Int} {d : D} (P : Pst K W mg pa σ FF G1 H1 ((knD Cl d >>= fun _ => h) s1)) (E : EqC K Cl) : (notFirst K Cl (tyD d) = true ∧ ∀ C, d ≠ .cls C) ∧ Pst K W mg pa σ FF G1 H1 (h s1) := by
  cases d with
  | obj C fs =>
    have P2 : Pst K W mg pa σ FF G1 H1 (((if C = Cl then pure () else bad : PM Unit) >>= fun _ => h) s1) := P
    clear P
    by_cases z : C = Cl
    · rw [if_pos z] at P2
      subst z
      exact ⟨⟨by simp [notFirst, tyD], fun _ z => nomatch z⟩, P2⟩
    · rw [if_neg z] at P2
      exact P2.elim
  | cls _ => exact P.elim
  | _ => exact ⟨⟨E.nf _ (by simp), fun _ z => nomatch z⟩, P⟩
theorem evTE {Cl : Addr} {F : List D → PM D} {g : D → PM D} {Q Q' : VK} {ma mb : PM D} (hg : Goes X W pa g σ Q Q') (ar : Arity 2 F) (Ec : EqC X.K Cl) (h : evT X W pa Γ (ma >>= fun x => mb >>= fun y => knD Cl y >>= fun _ => methD Cl F x [y] >>= g) σ H Q) :
    evT X W pa Γ ma σ H fun v H1 => evT X W pa Γ mb σ H1 fun u H2 => (∃ d, Rp X.K H2 u d ∧ notFirst X.K Cl (tyD d) = true ∧ ∀ C, d ≠ .cls C) ∧ At1 X W Cl 2 F σ Q' v [u] H2 := by
  (refine EV.el4_2 h ?_; try clear h; intro G0 H0 G s E R)
  refine EV.in4_2 G0 H0 G s E (R.bind.imp fun G1 H1 d s1 x1 p1 P1 v r => ⟨G0, H0, G1, s1, E.step x1 p1, P1.bind.imp fun G2 H2 d2 s2 x2 p2 P2 v2 r2 => ?_⟩)
  (refine EV.el0_2 (knD_at P2 Ec) fun q234_ P3 => ?_; (refine EV.el0_2 q234_ ?_; try clear q234_; intro nf nq))
  exact ⟨⟨d2, r2.mono x2.sub, nf, nq⟩, at1_of (G0 := G0) (H0 := H0) (Γ' := Γ) hg ar x2.sub (x2.tk (x1.tk E.tk)) (x2.gt (x1.gt E.x.nt)) p2 (r.mono x2.g) (.cons r2 .nil) P3⟩
end
end EV
set_option maxHeartbeats 2000000
namespace EV
open PySem PySem.Spec PyProof.Rows L2 PySem.W
end EV
set_option maxHeartbeats 2000000
namespace EV
open PySem PySem.Spec PyProof.Rows L2 PySem.W
structure EqR (K : Frag) (Cl : Addr) : Prop where
  sub : ∀ T ∈ ["NoneType", "bool", "int", "str", "list", "tuple", "dict"], subIn K (.ref Cl) (.type T) = some false
end EV
set_option maxHeartbeats 2000000
namespace EV
open PySem PySem.Spec PyProof.Rows L2 PySem.W
end EV
set_option maxHeartbeats 2000000
namespace EV
open PySem PySem.Spec PyProof.Rows L2 LamX
end EV
set_option maxHeartbeats 2000000
namespace EV
open PySem PySem.Spec PyProof.Rows L2 PySem.W
section
variable {X : Cx} {W : WX} {pa : Option Addr} {Γ : List Sl} {k j n : Nat} {pos : Pos} {pins : List (Addr × Obj)} {σ : L2.St} {H : Hp} {s : Shared}
theorem pc_neO {Cl : Addr} {F : List D → PM D} {ps : List Str} {a b : Expr} {ma mb : PM D} (C : Cok X W k) (M : CalM X.prog X.w X.K X.mg X.base j Cl "__eq__" ps (spF X.K X.mg false 2 F)) (Ec : EqC X.K Cl) (ar : Arity 2 F) (ha : EV X W pa Γ a ma) (hb' : EV X W pa Γ b mb)
    (hj : autoParam (j + 1 ≤ k) EV.tac1) (hj2 : autoParam (j < 32) EV.tac1) : PC X .NotEq a b (evT X W pa Γ (ma >>= fun x => mb >>= fun y => knD Cl y >>= fun _ => methD Cl F x [y] >>= nbD)) := by
  refine EV.el2_4 (M.ex) fun f fd FG Me fi hb => ?_
  refine ⟨fun pins s σ H Q I h => ?_⟩
  refine binT ha hb' I (evTE goes_nb ar Ec h) fun v u s2 x y H2 I2 rx ry h25_ => ?_; obtain ⟨⟨d, rd, nf, nq⟩, a, dx, fvs, ea, h1, oc, q⟩ := h25_
  subst ea
  obtain rfl : v = Value.ref a := rx
  obtain ⟨mm, fr⟩ := fr_of I2
  refine EV.el2_2 (inst_of I2 h1) fun ox od J _ => ?_
  have rm := C.room.mono hj
  unfold compareOp
  refine ne_K (by have := rm.un; omega) fr I2.ok.mod.kin J (looksD I2 rd ry nq) nf Ec.ne Ec.ob Me.at_ Me.fn (thn (runA C.takes rfl rm.in1 hj2 FG hb I2 (.cons (show RelV (.ref a) (.ref a) from rfl) (.cons ry .nil)) q) fun z s3 h26_ => ?_); obtain ⟨w, H3, I3, rw', b, ew, q3⟩ := h26_
  subst ew
  cases rw'
  exact ⟨b, rfl, .bl (!b), H3, I3, rfl, q3⟩
theorem eb_pc {op : CmpOp} {a b : Expr} {m : PM D} (h : PC X op a b (evT X W pa Γ m)) (hm : behindInMarks op b = false) : EB X W pa Γ (.Compare a [op] [b] pos) (m >>= asB) :=
  pt_imp (pt_cmp h hm) fun σ H Q h_ => EV.ex4 h_ fun G0 H0 G s E P => ⟨G0, H0, G, s, E, P.bind.imp fun G1 H1 d s1 x1 p1 P1 v r => by
    cases r with
    | bl c => exact EV.in1_2 c rfl (P1.now x1.sub p1)
    | _ => exact P1.elim⟩
end
end EV
set_option maxHeartbeats 2000000
namespace EV
open PySem PySem.Spec PyProof.Rows L2
end EV
set_option maxHeartbeats 2000000
namespace EV
open PySem PySem.Spec PyProof.Rows L2
/-- raise x(a, b) -/
noncomputable def raiseF {α : Type} (x f1 f2 : Str) (okD : D → D → Bool) : List D → PM α
  | [a, b] => if okD a b = true then raiseP ⟨x, [(f2, b), (f1, a)]⟩ else bad
  | _ => bad
section
variable {X : Cx} {W : WX} {pa : Option Addr} {Γ : List Sl} {k : Nat} {pos : Pos} {α : Type} {out : α → Out} {rest : List Stmt}
theorem nf_raiseF {x f1 f2 : Str} {okD : D → D → Bool} {ds : List D} : NF out (raiseF x f1 f2 okD ds : PM α) := by
  unfold raiseF
  split
  · split
    · exact nf_raise
    · exact nf_bad
  · exact nf_bad
end
end EV
set_option maxHeartbeats 2000000
namespace EV
open PySem PySem.W PySem.Spec PyProof.Rows L2
theorem x_ey {K : Frag} {h : Heap} {CL CU : Addr} (_ : K.In h) (b : (xfB K CL && xfB K CU && decide (findIn K (.ref CL) "amount" = some none) && decide (findIn K (.ref CL) "limit" = some none) && decide (findIn K (.ref CU) "alarm" = some none) && decide (findIn K (.ref CU) "quiets" = some none) &&
    decide (exmOne K (.ref CL) (.ref CL) = some true) && decide (exmOne K (.ref CU) (.ref CL) = some false) && decide (exmOne K (.ref CU) (.ref CU) = some true)) = true) : ErrY K CL CU := errY_by b
end EV
set_option maxHeartbeats 2000000
namespace EV
open PySem PySem.Spec PyProof.Rows L2 PySem.W
end EV
set_option maxHeartbeats 2000000
namespace EV
open PySem PySem.Spec PyProof.Rows L2 PySem.W
section
variable {X : Cx} {W : WX} {pa : Option Addr} {Γ : List Sl} {k j n : Nat} {pos : Pos}
/-- o.F, a text of the class -/
structure ConC (K : Frag) (Cl : Addr) (f z : Str) : Prop where
  ex : ∃ u, Con K Cl f (.str z) u
theorem con_mk {K : Frag} {h : Heap} {Cl : Addr} {f z : Str} {tk : Tok} (_ : K.In h) (a : findIn K (.ref Cl) f = some (some (.str z tk))) (g : specialIn K (.str z tk) "__get__" = some none) (c : copiedNames.contains f = false) : ConC K Cl f z := ⟨_, a, ⟨tk, rfl⟩, g, c⟩
theorem ev_conO {e : Expr} {f z : Str} {Cl : Addr} {m : PM D} (hc : ConC X.K Cl f z) (he : EV X W pa Γ e m) (ha : autoParam (attributeBase e f X.env (eval e X.env) = eval e X.env) EV.tac2) :
    EV X W pa Γ (.Attribute e f pos) (m >>= fun d => objD Cl f d >>= fun _ => pure (.str z)) := by
  refine EV.el1_1 (hc.ex) fun u hc => ?_
  exact pe_imp (pe_con he ha) fun σ H Q h_ => EV.ex4 h_ fun G0 H0 G s E P => ⟨G0, H0, G, s, E, P.bind.imp fun G1 H1 d s1 x1 p1 P1 v r => by
    (refine EV.el0_2 (objD_at x1.sub r P1) fun q236_ P2 => ?_; (refine EV.el3_4 q236_ ?_; try clear q236_; intro a dx fvs ev h1 oc l))
    exact ⟨a, Cl, dx, fvs, _, _, ev, h1, oc.cl, hc, l, P2 G1 H1 (Ext.refl x1.sub) p1 _ (.str z)⟩⟩
/-- the promise of a call with keywords -/
noncomputable def FnRK (P : Program) (w : World) (K : Frag) (mg : Str → Option Value) (base : Heap) (CX : CXT) (j : Nat) (f : Addr) (n : Nat) (ks : List Str) (sp : Sp) : Prop :=
  ∀ (A : Around) (outer : List PySem.Env) (s : Shared) (H : Hp) (us ws : List Value) (vs zs : List V) (Q : VK) (E : XK), Room j A → Env0 P w K mg base A outer s H → Vals vs us → Vals zs ws → vs.length = n → zs.length = ks.length → sp (vs ++ zs) H Q E →
    codeAny (model P w) A (.call (.ref f) ⟨us, ks.zip ws⟩) (CR CX outer P w H s Q E) s
theorem fnOk_rawK {P : Program} {w : World} {K : Frag} {mg : Str → Option Value} {base : Heap} {CX : CXT} {f : Addr} {fd : FuncData} {ps ks : List Str} {sp : Sp} (F : FnOk P w K mg base CX j f fd ps sp) (hb : KBn K fd ps n ks (fun us ws => us ++ ws) (fun vs zs => vs ++ zs)) : FnRK P w K mg base CX j f n ks sp := by
  intro A outer s H us ws vs zs Q E hr e0 r rz l1 l2 hs
  exact F.run A outer s H ⟨us, ks.zip ws⟩ (us ++ ws) (vs ++ zs) Q E hr e0 (hb.to s us ws (e0.mod.kin.keeps fun b o e => (e0.bs b o e).1) (r.length.symm.trans l1) (rz.length.symm.trans l2)) (hb.rel r rz) hs
/-- such a class -/
structure MkD2 (P : Program) (w : World) (K : Frag) (mg : Str → Option Value) (base : Heap) (j : Nat) (x : Str) (Cl : Addr) (ks : List Str) (F : List D → PM (List D)) (b : Str) : Prop where
  ex : ∃ f, mg x = some (.ref Cl) ∧ ObjC K Cl ∧ Mk K Cl f ∧ FnR P w K mg base (L2.CX P w) j f (fun vs H Q E => spI K mg Cl ks 2 F (vs ++ [.non]) H Q E) ∧ FnR P w K mg base (L2.CX P w) j f (fun vs H Q E => spI K mg Cl ks 2 F (vs ++ []) H Q E) ∧
    FnRK P w K mg base (L2.CX P w) j f 2 [b] (spI K mg Cl ks 2 F)
theorem MkD2.one {P : Program} {w : World} {K : Frag} {mg : Str → Option Value} {base : Heap} {x b : Str} {Cl : Addr} {ks : List Str} {F : List D → PM (List D)} (M : MkD2 P w K mg base j x Cl ks F b) : MkC P w K mg base j x Cl (fun vs H Q E => spI K mg Cl ks 2 F (vs ++ [.non]) H Q E) := by
  refine EV.el1_5 (M.ex) fun f m1 m2 m3 m4 _ => ?_
  exact ⟨f, m1, m2, m3, m4⟩
theorem mkD2 {P : Program} {w : World} {K : Frag} {mg : Str → Option Value} {base : Heap} {x q s a b : Str} {Cl : Addr} {st : Stmt} {N ks : List Str} {F : List D → PM (List D)} (CA : ClsAt K mg x Cl q st [.non]) (S : FnScope N [s, a, b] (defScope st)) (hk : k < 32)
    (hb : ∀ (T : Addr) (kV doc pm : Value) (an : Option Addr) (cdv ct : Value) (us its : List Value), us.length = 2 → its.length = [V.non].length →
      ∃ k, bindArgs (fnOf "__init__" q (defArgs st) (defBody st) (defScope st) (.ref T) kV doc pm an cdv ct) ⟨us, []⟩ = seqItems? (.ref T) >>= k ∧ k (some its.toArray) = pure ([s, a, b].zip (us ++ its.drop 0)))
    (hb3 : ∀ (T : Addr) (kV doc pm : Value) (an : Option Addr) (cdv ct : Value) (us its : List Value), us.length = 3 → its.length = [V.non].length →
      ∃ k, bindArgs (fnOf "__init__" q (defArgs st) (defBody st) (defScope st) (.ref T) kV doc pm an cdv ct) ⟨us, []⟩ = seqItems? (.ref T) >>= k ∧ k (some its.toArray) = pure ([s, a, b].zip (us ++ its.drop 1)))
    (hbk : ∀ (T : Addr) (kV doc pm : Value) (an : Option Addr) (cdv ct : Value) (us its ws : List Value), us.length = 2 → its.length = [V.non].length → ws.length = [b].length →
      ∃ k, bindArgs (fnOf "__init__" q (defArgs st) (defBody st) (defScope st) (.ref T) kV doc pm an cdv ct) ⟨us, [b].zip ws⟩ = seqItems? (.ref T) >>= k ∧ k (some its.toArray) = pure ([s, a, b].zip (us ++ ws)))
    (B : ∀ f, InitB P w K mg base Cl f N k 2 q (defBody st) (defScope st) ks F) : MkD2 P w K mg base (k + 1) x Cl ks F b := by
  refine EV.el2_2 (CA.ex) fun f fd M FD => ?_
  refine EV.el1_2 (FD.binds1 (ps := [s, a, b]) 2 0 (by simp) rfl hb) fun ds r bd => ?_
  refine EV.el1_2 (FD.binds1 (ps := [s, a, b]) 3 1 (by simp) rfl hb3) fun ds3 r3 bd3 => ?_
  refine EV.el1_1 (FD.kbindsD (ps := [s, a, b]) 2 [b] (fun us _ ws => us ++ ws) (by simp) (fun r1 _ r2 => r1.append r2) hbk) fun its kb => ?_
  have hN : 2 + 1 ≤ N.length := scope_le S
  have ok : FnOk P w K mg base (L2.CX P w) (k + 1) f fd [s, a, b] (spI K mg Cl ks 2 F) := FD.ok S (fun vs H Q E h => by
    (refine EV.el6_2 h ?_; try clear h; intro y dx G H1 vs' ds' q237_ q238_; obtain rfl := q237_; (refine EV.el0_5 q238_ ?_; try clear q238_; intro _ _ _ _ q239_; refine EV.el0_5 q239_ ?_; try clear q239_; intro _ _ r' hn _))
    show vs'.length + 1 = 3
    rw [r'.1, hn]) fun cdv A outer s H vs Q E hr h => (B f).run S.nd hk hN cdv A outer s H vs Q E hr h
  exact ⟨f, CA.mgx, CA.oc, M, ok.raw bd r, ok.raw bd3 r3, fnOk_rawK ok kb⟩
/-- C(a, b) -/
theorem newD2 {x b : Str} {Cl : Addr} {ks : List Str} {F : List D → PM (List D)} {e : Expr} {es : List Expr} {ml : PM (List D)} {p : Pos} (C : Cok X W k) (M : MkD2 X.prog X.w X.K X.mg X.base j x Cl ks F b) (ar : ∀ ds, ds.length ≠ 2 → F ds [] = .bad) (ha : EL X W pa Γ (e :: es) ml) (hj : autoParam (j + 1 ≤ k) EV.tac1) (hg : autoParam (Gl X x) EV.tac2)
    (hdb : autoParam ((x == ("__debug__" : Str)) = false) EV.tac1) (he : autoParam (starEach (e :: es) X.env = (false, eval e X.env) :: starEach es X.env) EV.tac2) (hpl : autoParam ((backTo pos (starEach es X.env)).any (·.1) = false) EV.tac2) :
    EV X W pa Γ (.Call (.Name x p) (e :: es) [] pos) (ml >>= fun ds => newO Cl ks F (ds ++ [])) := by
  refine EV.el1_6 (M.ex) fun f m1 m2 m3 _ m5 _ => ?_
  exact ev_makeD (C.mono hj) m3 m2 m5 (fun G => .nil) ar hg m1 ha hdb he hpl
theorem runMkK {pins : List (Addr × Obj)} {σ : L2.St} {H : Hp} {s : Shared} {Q : VK} {us ws : List Value} {vs zs : List V} {Cl f : Addr} {sp : Sp} {ks : List Str} (C : Cok X W (j + 1)) (M : Mk X.K Cl f) (F : FnRK X.prog X.w X.K X.mg X.base (L2.CX X.prog X.w) j f (n + 1) ks sp) (I : Inv X pins σ H s) (r : Vals vs us) (rz : Vals zs ws) (l1 : vs.length = n) (l2 : zs.length = ks.length)
    (h : ∀ x dx, H x = none → H dx = none → dx ≠ x → sp (V.ref x :: (vs ++ zs)) (upd (upd H dx (.own x)) x (.ins Cl dx [])) (fun v H2 => v = .non ∧ Q (.ref x) H2) fun cls d H' => W cls d σ H') : wpAny (model X.prog X.w) X.A (PySem.call (.ref Cl) us (ks.zip ws)) (EP X pins σ Q) X.xe s := by
  have J := Inv.made (C := Cl) I
  have hq := h _ _ (I.hok.fresh (Nat.le_succ s.heap.objs.size)) (I.hok.fresh (Nat.le_refl _)) (Nat.ne_of_lt (Nat.lt_succ_self _))
  have rr : Vals (V.ref (s.heap.objs.size + 1) :: vs) (Value.ref (s.heap.objs.size + 1) :: us) := .cons rfl r
  have key := F _ X.stack _ _ _ _ _ _ _ _ (C.room.make Cl us (ks.zip ws)) (J.env0.make Cl us (ks.zip ws)) rr rz (congrArg Nat.succ l1) l2 hq
  refine wpAny_call (make_map (f := f) I.kIn M.makes M.init (beq_iff_eq.mp M.fn) (codeAny_mono key fun res s' z => ?_))
  match res, z with
  | .error e, z => exact C.takes e s' (XE.of_call J (fun _ _ _ q => q) z)
  | .ok (.ret u), z =>
    refine EV.el2_4 (J.after z) fun v H3 I3 rv ev q3 => ?_
    subst ev
    exact ⟨rv, V.ref (s.heap.objs.size + 1), H3, I3, rfl, q3⟩
/-- C(a, name=b) -/
theorem newDK {x b : Str} {Cl : Addr} {ks : List Str} {F : List D → PM (List D)} {e e2 : Expr} {m1 m2 : PM D} {p kpos : Pos} (C : Cok X W k) (M : MkD2 X.prog X.w X.K X.mg X.base j x Cl ks F b) (h1 : EV X W pa Γ e m1) (h2 : EV X W pa Γ e2 m2) (hj : autoParam (j + 1 ≤ k) EV.tac1) (hg : autoParam (Gl X x) EV.tac2)
    (hdb : autoParam ((x == ("__debug__" : Str)) = false) EV.tac1) (hall : autoParam ((backToKw pos (keywordEach [⟨some b, e2, kpos⟩] X.env)).all (·.1.isSome) = true) EV.tac2) (hks : autoParam ((backToKw pos (keywordEach [⟨some b, e2, kpos⟩] X.env)).filterMap (·.1) = [b]) EV.tac2)
    (he : autoParam (starEach [e] X.env = (false, eval e X.env) :: starEach [] X.env) EV.tac2) (hpl : autoParam (((backTo pos (starEach [e] X.env)).any (·.1) || (backToKw pos (keywordEach [⟨some b, e2, kpos⟩] X.env)).any (·.1.isNone)) = false) EV.tac2) :
    EV X W pa Γ (.Call (.Name x p) [e] [⟨some b, e2, kpos⟩] pos) (m1 >>= fun d1 => m2 >>= fun d2 => newO Cl ks F [d1, d2]) := by
  refine EV.el1_6 (M.ex) fun f q1 oc Mf _ _ FK => ?_
  refine ⟨fun pins s σ H Q I h => ?_⟩
  have h0 : evT X W pa Γ m1 σ H fun v H1 => [v].length = 1 ∧ evT X W pa Γ m2 σ H1 fun v2 H2 => [v2].length = [b].length ∧ ∀ x dx, H2 x = none → H2 dx = none → dx ≠ x → spI X.K X.mg Cl ks 2 F (V.ref x :: ([v] ++ [v2])) (upd (upd H2 dx (.own x)) x (.ins Cl dx [])) (fun v H3 => v = .non ∧ Q (.ref x) H3) fun cls d H' => W cls d σ H' := by
    (refine EV.el4_2 h ?_; try clear h; intro G0 H0 G s0 E R)
    exact ⟨G0, H0, G, s0, E, R.bind.imp fun G1 H1 d1 s1 x1 p1 P1 v r => ⟨rfl, G0, H0, G1, s1, E.step x1 p1, P1.bind.imp fun G2 H2 d2 s2 x2 p2 P2 v2 r2 => ⟨rfl, fun x dx nx nd ne =>
      spI_at oc x2.sub nx (x2.tk (x1.tk E.tk)) (x2.gt (x1.gt E.x.nt)) p2 upd_same (made_ext x2.sub nx nd ne (fun _ z => by cases z)) (.cons (r.mono x2.g) (.cons r2 .nil)) rfl P2⟩⟩⟩
  have ha := pa_cons (X := X) h1 pa_nil he
  have hkw := pk_cons (X := X) (nm := some b) (kpos := kpos) h2 pk_nil
  refine wpAny_Call_Name_kw (ld_glob I hg q1 ?_ hdb)
  refine callWith_KW (h₀ := X.base) I.ok.mod.kin Mf.kp hall (thn (ha.run pos pins s σ H (fun vs H1 => vs.length = 1 ∧ evT X W pa Γ m2 σ H1 fun v2 H2 => [v2].length = [b].length ∧ ∀ x dx, H2 x = none → H2 dx = none → dx ≠ x → spI X.K X.mg Cl ks 2 F (V.ref x :: (vs ++ [v2])) (upd (upd H2 dx (.own x)) x (.ins Cl dx [])) (fun v H3 => v = .non ∧ Q (.ref x) H3) fun cls d H' => W cls d σ H') I h0) fun us s1 h27_ => ?_) hpl he; (refine EV.el2_4 h27_ ?_; try clear h27_; intro vs H1 I1 r l1 q)
  refine thn (hkw.run pos pins s1 σ H1 (fun zs H2 => zs.length = [b].length ∧ ∀ x dx, H2 x = none → H2 dx = none → dx ≠ x → spI X.K X.mg Cl ks 2 F (V.ref x :: (vs ++ zs)) (upd (upd H2 dx (.own x)) x (.ins Cl dx [])) (fun v H3 => v = .non ∧ Q (.ref x) H3) fun cls d H' => W cls d σ H') I1 q) fun wsv s2 ⟨zs, H2, I2, rz, l2, q2⟩ => ⟨I2.kIn, ?_⟩
  rw [hks]
  exact runMkK (n := 1) (C.mono hj) Mf FK I2 r rz l1 l2 q2
/-- a class whose __init__ is (self, a) -/
theorem mkP {P : Program} {w : World} {K : Frag} {mg : Str → Option Value} {base : Heap} {x q s a : Str} {Cl : Addr} {st : Stmt} {N ks : List Str} {F : List D → PM (List D)} (CA : ClsAt K mg x Cl q st []) (S : FnScope N [s, a] (defScope st)) (hk : k < 32)
    (hb : ∀ (kV doc pm : Value) (an : Option Addr) (cdv ct : Value) (us : List Value), us.length = 2 → bindArgs (fnOf "__init__" q (defArgs st) (defBody st) (defScope st) .none kV doc pm an cdv ct) ⟨us, []⟩ = pure ([s, a].zip us))
    (B : ∀ f, InitB P w K mg base Cl f N k 1 q (defBody st) (defScope st) ks F) : MkC P w K mg base (k + 1) x Cl (fun vs H Q E => spI K mg Cl ks 1 F (vs ++ []) H Q E) := by
  refine EV.el2_2 (CA.ex) fun f fd M FD => ?_
  have hN : 1 + 1 ≤ N.length := scope_le S
  have ok : FnOk P w K mg base (L2.CX P w) (k + 1) f fd [s, a] (spI K mg Cl ks 1 F) := FD.ok S (fun vs H Q E h => by
    (refine EV.el6_2 h ?_; try clear h; intro y dx G H1 vs' ds' q240_ q241_; obtain rfl := q240_; (refine EV.el0_5 q241_ ?_; try clear q241_; intro _ _ _ _ q242_; refine EV.el0_5 q242_ ?_; try clear q242_; intro _ _ r' hn _))
    show vs'.length + 1 = 2
    rw [r'.1, hn]) fun cdv A outer s H vs Q E hr h => (B f).run S.nd hk hN cdv A outer s H vs Q E hr h
  have bd : Binds K fd [s, a] [] := by
    (refine EV.el4_1 (FD.ex) fun oc od dV kV q245_ => ?_; refine EV.el6_2 q245_ ?_; try clear q245_; intro doc pm an cdv ct osl q243_ q244_; obtain rfl := q243_; (refine EV.el0_4 q244_ ?_; try clear q244_; intro lk hcd hD _))
    have e : dV = .none := by
      rcases hD with ⟨_, e⟩ | ⟨e, _⟩
      · exact e
      · exact absurd rfl e
    subst e
    exact Binds.all fun us hl => hb kV doc pm an cdv ct us hl
  exact ⟨f, CA.mgx, CA.oc, M, ok.raw bd .nil⟩
theorem newP {x : Str} {Cl : Addr} {ks : List Str} {F : List D → PM (List D)} {e : Expr} {es : List Expr} {ml : PM (List D)} {p : Pos} (C : Cok X W k) (M : MkC X.prog X.w X.K X.mg X.base j x Cl (fun vs H Q E => spI X.K X.mg Cl ks 1 F (vs ++ []) H Q E)) (ar : ∀ ds, ds.length ≠ 1 → F ds [] = .bad) (ha : EL X W pa Γ (e :: es) ml) (hj : autoParam (j + 1 ≤ k) EV.tac1) (hg : autoParam (Gl X x) EV.tac2)
    (hdb : autoParam ((x == ("__debug__" : Str)) = false) EV.tac1) (he : autoParam (starEach (e :: es) X.env = (false, eval e X.env) :: starEach es X.env) EV.tac2) (hpl : autoParam ((backTo pos (starEach es X.env)).any (·.1) = false) EV.tac2) :
    EV X W pa Γ (.Call (.Name x p) (e :: es) [] pos) (ml >>= fun ds => newO Cl ks F (ds ++ [])) := by
  refine EV.el1_4 (M.ex) fun f m1 m2 m3 m5 => ?_
  exact ev_makeD (C.mono hj) m3 m2 m5 (fun G => .nil) ar hg m1 ha hdb he hpl
end
theorem arL1 {g} : ∀ ds, ds.length ≠ 1 → fnL1 g ds [] = .bad := fun ds h => by
  match ds, h with
  | [_], h => exact absurd rfl h
  | [], _ => rfl
  | _ :: _ :: _, _ => rfl
end EV
set_option maxHeartbeats 2000000
namespace EV
open PySem PySem.Spec PyProof.Rows L2 PySem.W
noncomputable def ers (p : Addr) (G : Hp) : Hp := fun a => if a = p then none else G a
theorem ers_ne {p a : Addr} {G : Hp} (h : a ≠ p) : ers p G a = G a := if_neg h
end EV
set_option maxHeartbeats 2000000
namespace EV
open PySem PySem.Spec PyProof.Rows L2 PySem.W
section
variable {K : PySem.W.Frag} {pa : Option Addr} {G0 H0 G H G' H' : Hp} {σ : L2.St} {Γ : List Sl} {s s' : List Int} {x Cl dx : Addr} {fvs : List (Str × V)}
theorem ers_self : ers x H x = none := if_pos rfl
theorem ers_some {a : Addr} {o : HO} (e : ers x H a = some o) : a ≠ x ∧ H a = some o := by
  by_cases z : a = x
  · rw [z, ers_self] at e
    exact EV.nnS e
  · rw [ers_ne z] at e
    exact ⟨z, e⟩
end
/-- the end of such a method: the new fields, all else as it was; or an exception, and nothing has changed -/
noncomputable def OEnd (K : PySem.W.Frag) (W : WX) (mg : Str → Option Value) (x Cl dx : Addr) (ks : List Str) (us0 : List V) (G0 H0 : Hp) (Qn : L2.St → Hp → Prop) : R (List D) → Prop
  | .ok fs _ => ∀ σ' G' H' us, Ext K none G0 (ers x H0) G' H' → H' x = some (.ins Cl dx (ks.zip us)) → G' x = none → RpL K G' us fs → us.length = ks.length → Qn σ' H'
  | .exc e => ∀ cls d σ' G' H', Ext K none (upd G0 x (.ins Cl dx (ks.zip us0))) H0 G' H' → ExcIs K mg G' H' e cls d → W cls d σ' H'
  | .bad => False
theorem OEnd.bind {K : PySem.W.Frag} {W : WX} {mg : Str → Option Value} {x Cl dx : Addr} {ks : List Str} {us0 : List V} {G0 H0 G H : Hp} {Qn : L2.St → Hp → Prop} {σ : L2.St} {α : Type} {m : PM α} {f : α → PM (List D)} {s : List Int}
    (E : Ext K none (upd G0 x (.ins Cl dx (ks.zip us0))) H0 G H) (h : OEnd K W mg x Cl dx ks us0 G0 H0 Qn ((m >>= f) s)) : Pst K W mg none σ (fun _ _ a s' => OEnd K W mg x Cl dx ks us0 G0 H0 Qn (f a s')) G H (m s) := by
  rw [PM.bind_def] at h
  cases e : m s with
  | ok a s1 =>
    rw [e] at h
    exact fun _ _ _ _ => h
  | exc z =>
    rw [e] at h
    exact fun cls dx G' H' y q => h cls dx σ G' H' (E.trans y) q
  | bad => rw [e] at h; exact h
/-- while nothing has changed: x is a value that stands; the base of the frame holds it -/
structure MvS (X : Cx) (x Cl dx : Addr) (ks : List Str) (xs : List D) (Γ : List Sl) (us0 : List V) (G0 H0 G H : Hp) (σ : L2.St) (s : List Int) : Prop where
  g0 : G0 x = none
  h0 : H0 x = some (.ins Cl dx (ks.zip us0))
  l0 : us0.length = ks.length
  r0 : RpL X.K G0 us0 xs
  nv : Nv X.K none (upd G0 x (.ins Cl dx (ks.zip us0))) H0 G H σ Γ s
  me : σ[0]? = some (some (.ref x))
  ar : ∀ (i : Nat) d, i ≠ 0 → Γ[i]? = some (.val d) → ∃ v, σ[i]? = some (some v) ∧ Rp X.K G0 v d
  no : ∀ (i : Nat) z, i ≠ 0 → Γ[i]? = some z → (∃ d, z = .val d) ∨ z = .junk
  t0 : TabK X.K H0
  n0 : NoT G0
  sm : Same G0 H0
section
variable {X : Cx} {W : WX} {Γ : List Sl} {x Cl dx : Addr} {ks : List Str} {xs : List D} {pos : Pos} {rest : List Stmt}
theorem MvS.step {us0 : List V} {G0 H0 G H G' H' : Hp} {σ : L2.St} {s s' : List Int} (M : MvS X x Cl dx ks xs Γ us0 G0 H0 G H σ s) (e : Ext X.K none G H G' H') : MvS X x Cl dx ks xs Γ us0 G0 H0 G' H' σ s' :=
  ⟨M.g0, M.h0, M.l0, M.r0, M.nv.step e (fun _ z => by exact EV.nnS z), M.me, M.ar, M.no, M.t0, M.n0, M.sm⟩
end
end EV
set_option maxHeartbeats 2000000
namespace EV
open PySem PySem.Spec PyProof.Rows L2 PySem.W
section
variable {X : Cx} {W : WX} {Γ : List Sl} {x Cl dx : Addr} {ks : List Str} {xs : List D} {pos : Pos} {rest : List Stmt} {us0 : List V} {G0 H0 G H : Hp} {σ : L2.St} {s : List Int}
theorem MvS.ne (M : MvS X x Cl dx ks xs Γ us0 G0 H0 G H σ s) : NoT (ers x G) := fun P ps e => M.nv.x.nt P ps (ers_some e).2
end
/-- F: from the fields of the instance and the arguments to its new fields -/
noncomputable def spO (K : PySem.W.Frag) (mg : Str → Option Value) (Cl : Addr) (ks : List Str) (n : Nat) (F : List D → List D → PM (List D)) : Sp := fun vs H Q E => ∃ (x dx : Addr) (G : Hp) (us0 : List V) (xs : List D) (vs' : List V) (ds : List D),
  vs = .ref x :: vs' ∧ H x = some (.ins Cl dx (ks.zip us0)) ∧ us0.length = ks.length ∧ RpL K G us0 xs ∧ G x = none ∧ Same G H ∧ TabK K H ∧ NoT G ∧ RpL K G vs' ds ∧ ds.length = n ∧
    OEnd K (fun cls d _ H' => E cls d H') mg x Cl dx ks us0 G H (fun _ H' => Q .non H') (F xs ds [])
structure CalO (P : Program) (w : World) (K : Frag) (mg : Str → Option Value) (base : Heap) (j : Nat) (Cl : Addr) (m : Str) (ks : List Str) (n : Nat) (F : List D → List D → PM (List D)) : Prop where
  ex : ∃ f fd ps, Meth K Cl m f ∧ FnOk P w K mg base (L2.CX P w) j f fd ps (spO K mg Cl ks n F) ∧ L2.Binds K fd ps []
end EV
set_option maxHeartbeats 2000000
namespace EV
open PySem PySem.Spec PyProof.Rows L2 PySem.W
end EV
set_option maxHeartbeats 2000000
namespace EV
open PySem PySem.Spec PyProof.Rows L2 LamX PySem.W
end EV
set_option maxHeartbeats 2000000
namespace EV
open PySem PySem.Spec PyProof.Rows L2 LamX PySem.W
end EV
set_option maxHeartbeats 2000000
namespace EV
open PySem PySem.Spec PyProof.Rows L2 LamX PySem.W
section
variable {P : Program} {w : World} {K : Frag} {mg : Str → Option Value} {base : Heap} {Cl : Addr} {m q : Str} {st : Stmt} {N ps : List Str} {k n : Nat} {ks : List Str} {F : List D → List D → PM (List D)}
structure CalOC (P : Program) (w : World) (K : Frag) (mg : Str → Option Value) (base : Heap) (j : Nat) (Cl : Addr) (m : Str) (ks : List Str) (n : Nat) (F : List D → List D → PM (List D)) : Prop where
  ex : ∃ f fd ps, Meth K Cl m f ∧ fnIn K f = true ∧ FnOk P w K mg base (L2.CX P w) j f fd ps (spO K mg Cl ks n F) ∧ L2.Binds K fd ps []
theorem CalOC.co {j : Nat} (C : CalOC P w K mg base j Cl m ks n F) : CalO P w K mg base j Cl m ks n F := by
  refine EV.el3_4 (C.ex) fun f fd ps a _ b c => ?_
  exact ⟨f, fd, ps, a, b, c⟩
end
end EV
set_option maxHeartbeats 1000000
namespace EV
open PySem PySem.Spec PyProof.Rows L2
end EV
set_option maxHeartbeats 2000000
namespace EV
open PySem PySem.Spec PyProof.Rows L2 LamX PySem.W
end EV
set_option maxHeartbeats 2000000
namespace EV
open PySem PySem.Spec PyProof.Rows L2 PySem.W
end EV
set_option maxHeartbeats 2000000
namespace EV
open PySem PySem.Spec PyProof.Rows L2 PySem.W
/-- a method with the cell __class__, as it stands: its class is D -/
structure FunN (P : Program) (K : Frag) (mg : Str → Option Value) (D : Addr) (m q : Str) (st : Stmt) (dvs : List V) (f : Addr) (fd : FuncData) : Prop where
  ex : ∃ (cc cda : Addr) (oc : Value) (od : Option Addr) (dV kV doc pm : Value) (an : Option Addr) (ct : Value) (osl : Array (Option Value)) (ccl : Value) (cdd : Option Addr) (vs : Array Value) (ccs : Array (Option Value)) (file : Str) (tf : Tok) (cl : Value) (cld : Option Addr) (csl : Array (Option Value)) (cdD : ClassData) (ar : Arg),
    fd = fnX m q (defArgs st) (defBody st) (defScope st) [("__class__", cc)] dV kV doc pm an (.ref cda) ct ∧ K.lookup f = some ⟨oc, od, .func fd, osl⟩ ∧ codeIn K (.ref cda) q = true ∧ L2.DflV K dV dvs ∧
    K.lookup cda = some ⟨ccl, cdd, .fields vs, ccs⟩ ∧ vs[2]? = some (.str file tf) ∧ ((P.main.file : Str) == file) = true ∧ K.lookup cc = some ⟨cl, cld, .cell (some (.ref D)), csl⟩ ∧ clsIn K D = some cdD ∧
    ((defArgs st).posonlyargs ++ (defArgs st).args).head? = some ar ∧ (defScope st).names.lookup ar.arg = some .local
  sup : mg "super" = none
  top : (P.main.scope.names.lookup ("super" : Str)).isSome = false
  any : nsIn K cStatics "thirdparty.any" = some none
  gs : (defScope st).names.lookup ("super" : Str) = some .globalImplicit
  gc : (defScope st).names.lookup ("__class__" : Str) = some .free
  kp : keepIn K (.ref f) = true
theorem FnG.ok {P : Program} {w : World} {K : Frag} {mg : Str → Option Value} {base : Heap} {j : Nat} {f : Addr} {fd : FuncData} {ps : List Str} {sp : Sp} (F : FnG P w K mg base j f fd ps sp) (h : j < 32) : FnOk P w K mg base (L2.CX P w) j f fd ps sp :=
  ⟨F.len, fun A outer s H args us vs Q E hr => F.run A outer s H args us vs Q E (fun z => absurd z (by omega)) hr⟩
end EV
set_option maxHeartbeats 2000000
namespace EV
open PySem PySem.Spec PyProof.Rows L2 PySem.W
section
variable {P : Program} {w : World} {K : Frag} {mg : Str → Option Value} {base : Heap} {Cl D : Addr} {x q : Str} {st : Stmt} {N ps : List Str} {n k : Nat} {ks0 ks : List Str}
theorem FunN.binds1 {m : Str} {dvs : List V} {f : Addr} {fd : FuncData} (F : FunN P K mg D m q st dvs f fd) (n j : Nat) (hd : dvs ≠ []) (hn : n + (dvs.length - j) = ps.length)
    (h : ∀ (cc cda T : Addr) (kV doc pm : Value) (an : Option Addr) (ct : Value) (us its : List Value), us.length = n → its.length = dvs.length →
      ∃ k, bindArgs (fnX m q (defArgs st) (defBody st) (defScope st) [("__class__", cc)] (.ref T) kV doc pm an (.ref cda) ct) ⟨us, []⟩ = seqItems? (.ref T) >>= k ∧ k (some its.toArray) = pure (ps.zip (us ++ its.drop j))) : ∃ ds, Vals (dvs.drop j) ds ∧ L2.Binds K fd ps ds := by
  (refine EV.el4_1 (F.ex) fun cc cda oc od q248_ => ?_; refine EV.el4_1 q248_ ?_; try clear q248_; intro dV kV doc pm q249_; refine EV.el4_1 q249_ ?_; try clear q249_; intro an ct osl ccl q250_; refine EV.el4_1 q250_ ?_; try clear q250_; intro cdd vs0 ccs file q251_; refine EV.el6_2 q251_ ?_; try clear q251_; intro tf cl cld csl cdD ar q246_ q247_; obtain rfl := q246_; (refine EV.el0_4 q247_ ?_; try clear q247_; intro lk hcd hD _))
  rcases hD with ⟨e, _⟩ | ⟨_, T, o, its, m, rfl, lT, oT, rT⟩
  · exact absurd e hd
  · refine EV.in1_2 (its.drop j) (rT.drop j) (fun s us X hlen => ?_)
    have l1 : its.length = dvs.length := rT.length.symm
    have l2 : us.length = n := by
      rw [List.length_append, List.length_drop, l1] at hlen
      omega
    refine EV.el1_2 (h cc cda T kV doc pm an ct us its l2 l1) fun k e1 e2 => ?_
    refine BindsTo.of_looks fun M => ?_
    rw [e1]
    exact looks_items X lT oT (.of_pure e2)
end
end EV
set_option maxHeartbeats 2000000
namespace EV
open PySem PySem.Spec PyProof.Rows L2 PySem.W
end EV
set_option maxHeartbeats 2000000
namespace EV
open PySem PySem.Spec PyProof.Rows L2 LamX PySem.W
end EV
set_option maxHeartbeats 2000000
namespace EV
open PySem PySem.Spec PyProof.Rows L2 PySem.W
end EV
set_option maxHeartbeats 2000000
namespace EV
open PySem PySem.Spec PyProof.Rows L2 LamX PySem.W
end EV
set_option maxHeartbeats 2000000
namespace EV
open PySem PySem.Spec PyProof.Rows L2 LamX PySem.W
theorem nf_unp2 {α : Type} {out : α → Out} {kk : D → D → PM α} {d : D} (h : ∀ a b, NF out (kk a b)) : NF out (unp2 kk d) := by
  unfold unp2
  cases dec2 d with
  | none => exact nf_bad
  | some z => exact h _ _
end EV
namespace EV
open PySem PyProof.Rows L2
inductive Sm : Nat → Nat → D → Prop
  | non {h b : Nat} : Sm h b .non
  | bl {h b : Nat} (x : Bool) : Sm h b (.bl x)
  | int {h b : Nat} {i : Int} (h1 : -2 ≤ i) (h2 : i < 300) : Sm h b (.int i)
  | str {h b : Nat} {x : Str} (h1 : PyData.strOk x = true) (h2 : x.cps.size ≤ b) : Sm h b (.str x)
  | tup {h b c : Nat} {xs : List D} (h1 : ∀ x, x ∈ xs → Sm h c x) (h2 : xs.length * (c + 1) ≤ b) : Sm (h + 1) b (.tup xs)
  | lst {h b c : Nat} {xs : List D} (h1 : ∀ x, x ∈ xs → Sm h c x) (h2 : xs.length * (c + 1) ≤ b) : Sm (h + 1) b (.lst xs)
theorem all_lay : ∀ {xs : List D}, (∀ x ∈ xs, (toPy x).canLay0 = true) → PyData.canLayAll0 (toPyL xs) = true
  | [], _ => by simp only [toPyL, PyData.canLayAll0]
  | x :: xs, h => by
    simp only [toPyL, PyData.canLayAll0, h x List.mem_cons_self, all_lay (fun y m => h y (List.mem_cons_of_mem _ m)), Bool.and_self]
theorem all_short : ∀ {xs : List D}, (∀ x ∈ xs, (toPy x).leavesShort 13 = true) → PyData.leavesShortAll 13 (toPyL xs) = true
  | [], _ => by simp only [toPyL, PyData.leavesShortAll]
  | x :: xs, h => by
    simp only [toPyL, PyData.leavesShortAll, h x List.mem_cons_self, all_short (fun y m => h y (List.mem_cons_of_mem _ m)), Bool.and_self]
theorem all_ok : ∀ {xs : List D}, (∀ x ∈ xs, okD x = true) → okDL xs = true
  | [], _ => by simp only [okDL]
  | x :: xs, h => by
    simp only [okDL, h x List.mem_cons_self, all_ok (fun y m => h y (List.mem_cons_of_mem _ m)), Bool.and_self]
theorem all_deep {k : Nat} : ∀ {xs : List D}, (∀ x ∈ xs, (toPy x).depth ≤ k) → PyData.depthAll (toPyL xs) ≤ k
  | [], _ => by simp only [toPyL, PyData.depthAll]; exact Nat.zero_le _
  | x :: xs, h => by
    have h1 := h x List.mem_cons_self
    have h2 := all_deep (xs := xs) (fun y m => h y (List.mem_cons_of_mem _ m))
    simp only [toPyL, PyData.depthAll]
    omega
theorem all_bulk {k : Nat} : ∀ {xs : List D}, (∀ x ∈ xs, (toPy x).bulk ≤ k) → PyData.bulkAll (toPyL xs) ≤ xs.length * (k + 1)
  | [], _ => by simp only [toPyL, PyData.bulkAll]; exact Nat.zero_le _
  | x :: xs, h => by
    have h1 := h x List.mem_cons_self
    have h2 := all_bulk (xs := xs) (fun y m => h y (List.mem_cons_of_mem _ m))
    simp only [toPyL, PyData.bulkAll, List.length_cons, Nat.succ_mul]
    omega
theorem shortI : ∀ n : Fin 302, (PyData.shown (.int ((n.val : Int) - 2))).length ≤ 13 := by decide +kernel
theorem logI : ∀ n : Fin 302, decide ((((n.val : Int) - 2).natAbs).log2 < 1920) = true := by decide +kernel
theorem Sm.facts {h b : Nat} {d : D} (s : Sm h b d) : (toPy d).canLay0 = true ∧ (toPy d).leavesShort 13 = true ∧ okD d = true ∧ (toPy d).depth ≤ h ∧ (toPy d).bulk ≤ b := by
  induction s with
  | non => simp [toPy, PyData.canLay0, PyData.leavesShort, okD, PyData.depth, PyData.bulk]
  | bl => simp [toPy, PyData.canLay0, PyData.leavesShort, okD, PyData.depth, PyData.bulk]
  | @int h b i h1 h2 =>
    have e : i = (((⟨(i + 2).toNat, by omega⟩ : Fin 302).val : Nat) : Int) - 2 := by
      show i = (((i + 2).toNat : Nat) : Int) - 2
      omega
    refine ⟨by simp [toPy, PyData.canLay0], ?_, ?_, by simp [toPy, PyData.depth], by simp [toPy, PyData.bulk]⟩
    · simp only [toPy, PyData.leavesShort, decide_eq_true_eq]
      rw [e]
      exact shortI _
    · simp only [okD]
      rw [e]
      exact logI _
  | @str h b x h1 h2 =>
    refine ⟨by simpa [toPy, PyData.canLay0] using h1, ?_, by simp [okD], by simp [toPy, PyData.depth], by simpa [toPy, PyData.bulk] using h2⟩
    simp only [toPy, PyData.leavesShort, List.all_eq_true, decide_eq_true_eq]
    intro c hc
    unfold PyData.strOk at h1
    have z := Array.all_eq_true'.mp h1 c (by simpa using hc)
    have z : c < 0x110000 := by simpa using z
    exact EV.w_le (by assumption) (by decide)
  | @tup h b c xs h1 h2 ih =>
    simp only [toPy, PyData.canLay0, PyData.leavesShort, okD, PyData.depth, PyData.bulk]
    have z := all_deep fun x m => (ih x m).2.2.2.1
    have y := all_bulk fun x m => (ih x m).2.2.2.2
    exact ⟨all_lay fun x m => (ih x m).1, all_short fun x m => (ih x m).2.1, all_ok fun x m => (ih x m).2.2.1, by exact Nat.lt_succ_of_le (by assumption), by exact Nat.le_trans (by assumption) (by assumption)⟩
  | @lst h b c xs h1 h2 ih =>
    simp only [toPy, PyData.canLay0, PyData.leavesShort, okD, PyData.depth, PyData.bulk]
    have z := all_deep fun x m => (ih x m).2.2.2.1
    have y := all_bulk fun x m => (ih x m).2.2.2.2
    exact ⟨all_lay fun x m => (ih x m).1, all_short fun x m => (ih x m).2.1, all_ok fun x m => (ih x m).2.2.1, by exact Nat.lt_succ_of_le (by assumption), by exact Nat.le_trans (by assumption) (by assumption)⟩
theorem Sm.mono {h b h' b' : Nat} {d : D} (s : Sm h b d) (e1 : h ≤ h') (e2 : b ≤ b') : Sm h' b' d := by
  induction s generalizing h' b' with
  | non => exact .non
  | bl x => exact .bl x
  | int h1 h2 => exact .int h1 h2
  | str h1 h2 => exact .str h1 (by exact Nat.le_trans (by assumption) (by assumption))
  | @tup h b c xs h1 h2 ih =>
    obtain ⟨k, rfl⟩ : ∃ k, h' = k + 1 := ⟨h' - 1, by omega⟩
    exact .tup (c := c) (fun x m => ih x m (by exact Nat.le_of_lt_succ (by assumption)) (Nat.le_refl _)) (by exact Nat.le_trans (by assumption) (by assumption))
  | @lst h b c xs h1 h2 ih =>
    obtain ⟨k, rfl⟩ : ∃ k, h' = k + 1 := ⟨h' - 1, by omega⟩
    exact .lst (c := c) (fun x m => ih x m (by exact Nat.le_of_lt_succ (by assumption)) (Nat.le_refl _)) (by exact Nat.le_trans (by assumption) (by assumption))
theorem Sm.shp {h b : Nat} {d : D} (s : Sm h b d) (e : autoParam (h ≤ 64) EV.tac12) : shp d = true := by
  have f := s.facts
  unfold EV.shp SeqAt.shaped
  rw [Bool.and_eq_true, decide_eq_true_eq]
  exact ⟨f.1, by omega⟩
theorem Sm.repr {h b : Nat} {d : D} (s : Sm h b d) (e1 : autoParam (h ≤ 60) EV.tac12) (e2 : autoParam (b ≤ 60000) EV.tac12) : reprF [d] = pure (.str (shown d)) := by
  have f := s.facts
  have l := PyData.shown_le_bulk 13 (by decide) (toPy d) f.2.1
  show (if okD d = true ∧ (toPy d).depth ≤ 60 ∧ (shown d).length ≤ lim then pure (.str (shown d)) else bad : PM D) = _
  exact if_pos ⟨f.2.2.1, by omega, by show (toPy d).shown.length ≤ 1000000; omega⟩
noncomputable def iota (n : Nat) : List Int := (List.range n).map fun (i : Nat) => (i : Int)
theorem mem_iota {n : Nat} {x : Int} : x ∈ iota n ↔ 0 ≤ x ∧ x < n := by
  unfold iota
  rw [List.mem_map]
  constructor
  · rintro ⟨i, h, rfl⟩
    rw [List.mem_range] at h
    omega
  · rintro ⟨h1, h2⟩
    exact EV.in1_2 (x.toNat) (List.mem_range.mpr (by omega)) (by omega)
theorem len_iota (n : Nat) : (iota n).length = n := by simp [iota]
theorem iota_asc (n : Nat) : (iota n).Pairwise (· < ·) := by
  unfold iota
  rw [List.pairwise_map]
  exact List.pairwise_lt_range.imp fun h => by exact Int.ofNat_lt.mpr (by assumption)
theorem iota_get {n i : Nat} (h : i < n) : (iota n)[i]? = some (i : Int) := by
  simp [iota, h]
theorem rangeL_iota (n : Nat) : rangeL 0 n = (iota n).map D.int := by
  unfold rangeL iota
  rw [List.map_map]
  exact List.map_congr_left fun i _ => by simp
noncomputable abbrev tI (ns : List Int) : D := .tup (ns.map .int)
noncomputable abbrev lI (ns : List Int) : D := .lst (ns.map .int)
theorem range1 {n : Nat} (h : autoParam (n ≤ lim) EV.tac12) : rangeF1 [.int n] = pure ((iota n).map D.int) := by
  have h : n ≤ 1000000 := h
  unfold rangeF1 rangeF
  dsimp only
  rw [if_pos ⟨by exact Int.natCast_nonneg _, by omega⟩, Int.toNat_natCast, rangeL_iota]
theorem sortedI {ns : List Int} (h : ns.length ≤ lim) : sortedG [lI ns] = pure (lI (sortI ns)) := by
  have e : intsQ [lI ns] = true := by
    show (intsOf (ns.map D.int)).isSome = true
    rw [intsOf_map]
    rfl
  unfold sortedG
  rw [if_pos e]
  show (match intsOf (ns.map D.int) with | some ns => mkL ((sortI ns).map D.int) | none => bad : PM D) = _
  rw [intsOf_map]
  exact mkL_ok (by rw [List.length_map, (sortI_perm ns).length_eq]; exact h)
theorem tupleL {xs : List D} (h : xs.length ≤ lim) : tupleF [.lst xs] = pure (.tup xs) := mkT_ok h
theorem asc_of_sorted {l : List Int} (h1 : l.Pairwise (· ≤ ·)) (h2 : l.Nodup) : l.Pairwise (· < ·) := by
  have h2 : l.Pairwise (· ≠ ·) := h2
  exact (h1.and h2).imp fun h => by omega
theorem asc_nodup {l : List Int} (h : l.Pairwise (· < ·)) : l.Nodup := h.imp fun h => by exact Int.ne_of_lt (by assumption)
theorem sortI_nodup {l : List Int} (h : l.Nodup) : (sortI l).Pairwise (· < ·) := asc_of_sorted (sortI_sorted l) ((sortI_perm l).nodup_iff.mpr h)
noncomputable def ix {α : Type} [Inhabited α] (l : List α) (i : Int) : α := l.getD i.toNat default
theorem ix_get {α : Type} [Inhabited α] {l : List α} {i : Int} (h0 : 0 ≤ i) (h1 : i < l.length) : l[i.toNat]? = some (ix l i) := by
  unfold ix
  rw [List.getD_eq_getElem?_getD, List.getElem?_eq_getElem (by omega)]
  rfl
theorem ix_mem {α : Type} [Inhabited α] {l : List α} {i : Int} (h0 : 0 ≤ i) (h1 : i < l.length) : ix l i ∈ l := List.mem_of_getElem? (ix_get h0 h1)
theorem atI_ix {α : Type} [Inhabited α] {l : List α} {i : Int} (h0 : 0 ≤ i) (h1 : i < l.length) : atI l i = some (ix l i) := by
  unfold atI ixN
  rw [if_pos h0, if_pos h1]
  exact ix_get h0 h1
theorem getT {α : Type} [Inhabited α] {l : List α} {f : α → D} {i : Int} (h0 : 0 ≤ i) (h1 : i < l.length) : getD (.tup (l.map f)) (.int i) = pure (f (ix l i)) := by
  show (match atI (l.map f) i with | some d => pure d | none => bad : PM D) = _
  rw [atI_map, atI_ix h0 h1]
  rfl
theorem getL {α : Type} [Inhabited α] {l : List α} {f : α → D} {i : Int} (h0 : 0 ≤ i) (h1 : i < l.length) : getD (.lst (l.map f)) (.int i) = pure (f (ix l i)) := by
  show (match atI (l.map f) i with | some d => pure d | none => bad : PM D) = _
  rw [atI_map, atI_ix h0 h1]
  rfl
theorem ix_iota {n : Nat} {i : Int} (h0 : 0 ≤ i) (h1 : i < n) : ix (iota n) i = i := by
  have z := ix_get (l := iota n) h0 (by rw [len_iota]; exact h1)
  rw [iota_get (by omega)] at z
  have z := Option.some.inj z
  omega
theorem eqv_int {a b : Int} : eqvD (.int a) (.int b) = (a == b) := rfl
theorem any_int {x : Int} {ns : List Int} : ((ns.map D.int).any fun z => eqvD z (.int x)) = decide (x ∈ ns) := by
  rw [Bool.eq_iff_iff, List.any_eq_true, decide_eq_true_eq]
  constructor
  · rintro ⟨z, hz, e⟩
    (refine EV.el1_2 (List.mem_map.mp hz) fun n hn q252_ => ?_; obtain rfl := q252_)
    rw [eqv_int, beq_iff_eq] at e
    exact e ▸ hn
  · intro h
    exact EV.in1_2 (.int x) (List.mem_map.mpr (EV.in1_2 x h rfl)) (by rw [eqv_int, beq_iff_eq])
/-- all of them small -/
noncomputable def SmI (ns : List Int) : Prop := ∀ n ∈ ns, -2 ≤ n ∧ n < 300
theorem SmI.smT {ns : List Int} (h : SmI ns) : Sm 1 ns.length (tI ns) := .tup (c := 0) (fun x m => by
  (refine EV.el1_2 (List.mem_map.mp m) fun n hn q253_ => ?_; obtain rfl := q253_)
  exact .int (h n hn).1 (h n hn).2) (by rw [List.length_map]; omega)
theorem shpI {x : Int} : shp (.int x) = true := by
  unfold EV.shp SeqAt.shaped
  simp [toPy, PyData.canLay0, PyData.depth]
theorem allI_lay : ∀ ns : List Int, PyData.canLayAll0 (toPyL (ns.map D.int)) = true := fun ns => all_lay fun x m => by
  (refine EV.el1_2 (List.mem_map.mp m) fun n hn q254_ => ?_; obtain rfl := q254_)
  simp [toPy, PyData.canLay0]
theorem allI_deep (ns : List Int) : PyData.depthAll (toPyL (ns.map D.int)) ≤ 0 := all_deep fun x m => by
  (refine EV.el1_2 (List.mem_map.mp m) fun n hn q255_ => ?_; obtain rfl := q255_)
  simp [toPy, PyData.depth]
theorem shpTI (ns : List Int) : shp (tI ns) = true := by
  unfold EV.shp SeqAt.shaped
  have z := allI_deep ns
  simp only [toPy, PyData.canLay0, PyData.depth, allI_lay, Bool.true_and, decide_eq_true_eq]
  omega
theorem shpLI (ns : List Int) : shp (lI ns) = true := by
  unfold EV.shp SeqAt.shaped
  have z := allI_deep ns
  simp only [toPy, PyData.canLay0, PyData.depth, allI_lay, Bool.true_and, decide_eq_true_eq]
  omega
theorem inT (x : Int) (ns : List Int) : inD (.int x) (tI ns) = pure (.bl (decide (x ∈ ns))) := by
  show (if shp (.int x) = true ∧ shp (tI ns) = true then pure (.bl ((ns.map D.int).any fun z => eqvD z (.int x))) else bad : PM D) = _
  rw [if_pos ⟨shpI, shpTI ns⟩, any_int]
theorem ninT (x : Int) (ns : List Int) : notInD (.int x) (tI ns) = pure (.bl (!decide (x ∈ ns))) := by
  show (if shp (.int x) = true ∧ shp (tI ns) = true then pure (.bl (!(ns.map D.int).any fun z => eqvD z (.int x))) else bad : PM D) = _
  rw [if_pos ⟨shpI, shpTI ns⟩, any_int]
theorem ninL (x : Int) (ns : List Int) : notInD (.int x) (lI ns) = pure (.bl (!decide (x ∈ ns))) := by
  show (if shp (.int x) = true ∧ shp (lI ns) = true then pure (.bl (!(ns.map D.int).any fun z => eqvD z (.int x))) else bad : PM D) = _
  rw [if_pos ⟨shpI, shpLI ns⟩, any_int]
theorem neInt (a b : Int) : neD (.int a) (.int b) = pure (.bl (decide (a ≠ b))) := by
  show (if shp (.int a) = true ∧ shp (.int b) = true then pure (.bl (!eqvD (.int a) (.int b))) else bad : PM D) = _
  rw [if_pos ⟨shpI, shpI⟩, eqv_int, show (a == b) = decide (a = b) from by rw [Bool.eq_iff_iff, beq_iff_eq, decide_eq_true_eq]]
  by_cases h : a = b <;> simp [h]
theorem eqInt (a b : Int) : eqD (.int a) (.int b) = pure (.bl (decide (a = b))) := by
  show (if shp (.int a) = true ∧ shp (.int b) = true then pure (.bl (eqvD (.int a) (.int b))) else bad : PM D) = _
  rw [if_pos ⟨shpI, shpI⟩, eqv_int, show (a == b) = decide (a = b) from by rw [Bool.eq_iff_iff, beq_iff_eq, decide_eq_true_eq]]
/-- over ints -/
theorem compI {c : D → PM Bool} {e : D → PM D} (b : Int → Bool) (f : Int → D) {ns : List Int} (hl : ns.length ≤ lim) (hc : ∀ n ∈ ns, c (.int n) = pure (b n)) (he : ∀ n ∈ ns, b n = true → e (.int n) = pure (f n)) :
    compL dec1 c e (ns.map D.int) = pure ((ns.filter b).map f) := by
  unfold compL
  rw [if_pos (by rw [List.length_map]; exact hl)]
  clear hl
  induction ns with
  | nil => rfl
  | cons n ns ih =>
    have ih := ih (fun y m => hc y (List.mem_cons_of_mem _ m)) (fun y m => he y (List.mem_cons_of_mem _ m))
    rw [List.map_cons]
    unfold compG
    show (noExc (c (.int n)) >>= _) = _
    rw [hc n List.mem_cons_self, noExc_pure, pure_bind]
    by_cases q : b n = true
    · rw [if_pos q, he n List.mem_cons_self q, noExc_pure, pure_bind, ih, pure_bind, List.filter_cons_of_pos q, List.map_cons]
    · rw [if_neg q, ih, List.filter_cons_of_neg q]
/-- no test -/
theorem compIm {c : D → PM Bool} {e : D → PM D} (f : Int → D) {ns : List Int} (hl : ns.length ≤ lim) (hc : ∀ z, c z = pure true) (he : ∀ n ∈ ns, e (.int n) = pure (f n)) :
    compL dec1 c e (ns.map D.int) = pure (ns.map f) := by
  rw [compI (fun _ => true) f hl (fun n _ => hc _) (fun n m _ => he n m), List.filter_eq_self.mpr fun _ _ => rfl]
theorem compPm {ι κ : Type} {dec : D → Option ι} {c : ι → PM Bool} {e : ι → PM D} (g : κ → ι) (f : κ → D) {ds : List D} {zs : List κ} (h : ds.map dec = zs.map fun z => some (g z)) (hl : ds.length ≤ lim) (hc : ∀ z, c z = pure true) (he : ∀ z ∈ zs, e (g z) = pure (f z)) :
    compL dec c e ds = pure (zs.map f) := by
  unfold compL
  rw [if_pos hl]
  clear hl
  induction zs generalizing ds with
  | nil =>
    cases ds with
    | nil => rfl
    | cons _ _ => simp at h
  | cons z zs ih =>
    cases ds with
    | nil => simp at h
    | cons d ds =>
      rw [List.map_cons, List.map_cons] at h
      injection h with h1 h2
      have ih := ih h2 (fun y m => he y (List.mem_cons_of_mem _ m))
      unfold compG
      rw [h1]
      show (noExc (c (g z)) >>= _) = _
      rw [hc, noExc_pure, pure_bind, if_pos rfl, he z List.mem_cons_self, noExc_pure, pure_bind, ih, pure_bind, List.map_cons]
/-- pairs, with a test -/
theorem compPf {ι κ : Type} {dec : D → Option ι} {c : ι → PM Bool} {e : ι → PM D} (g : κ → ι) (b : κ → Bool) (f : κ → D) {ds : List D} {zs : List κ} (h : ds.map dec = zs.map fun z => some (g z)) (hl : ds.length ≤ lim) (hc : ∀ z ∈ zs, c (g z) = pure (b z)) (he : ∀ z ∈ zs, b z = true → e (g z) = pure (f z)) :
    compL dec c e ds = pure ((zs.filter b).map f) := by
  unfold compL
  rw [if_pos hl]
  clear hl
  induction zs generalizing ds with
  | nil =>
    cases ds with
    | nil => rfl
    | cons _ _ => simp at h
  | cons z zs ih =>
    cases ds with
    | nil => simp at h
    | cons d ds =>
      rw [List.map_cons, List.map_cons] at h
      injection h with h1 h2
      have ih := ih h2 (fun y m => hc y (List.mem_cons_of_mem _ m)) (fun y m => he y (List.mem_cons_of_mem _ m))
      unfold compG
      rw [h1]
      show (noExc (c (g z)) >>= _) = _
      rw [hc z List.mem_cons_self, noExc_pure, pure_bind]
      by_cases q : b z = true
      · rw [if_pos q, he z List.mem_cons_self q, noExc_pure, pure_bind, ih, pure_bind, List.filter_cons_of_pos q, List.map_cons]
      · rw [if_neg q, ih, List.filter_cons_of_neg q]
theorem forL_goP {ι κ : Type} {dec : D → Option ι} {body : Unit → ι → PM (Lp Unit)} (g : κ → ι) {ds : List D} {zs : List κ} (h : ds.map dec = zs.map fun z => some (g z)) (hb : ∀ z ∈ zs, body () (g z) = pure (.go ())) : forL dec body ds () = pure (.go ()) := by
  induction zs generalizing ds with
  | nil =>
    cases ds with
    | nil => rfl
    | cons _ _ => simp at h
  | cons z zs ih =>
    cases ds with
    | nil => simp at h
    | cons d ds =>
      rw [List.map_cons, List.map_cons] at h
      injection h with h1 h2
      unfold forL
      rw [h1]
      show (body () (g z) >>= _) = _
      rw [hb z List.mem_cons_self, pure_bind]
      exact ih h2 fun y m => hb y (List.mem_cons_of_mem _ m)
theorem while_ok {C : Type} {mc : C → PM Bool} {mb : C → PM C} (I : C → Prop) (μ : C → Nat) (Q : C → Prop)
    (h : ∀ c, I c → (mc c = pure false ∧ Q c) ∨ (mc c = pure true ∧ ∃ c', mb c = pure c' ∧ I c' ∧ μ c' < μ c)) : ∀ n c, I c → μ c < n → ∃ c', whileS mc mb n c = pure c' ∧ Q c'
  | 0, c, _, hn => absurd hn (by exact absurd (by assumption) (Nat.not_lt_zero _))
  | n + 1, c, hi, hn => by
    rcases h c hi with ⟨e, q⟩ | ⟨e, c', e2, i2, lt⟩
    · exact EV.in1_2 c (by unfold whileS; rw [e, pure_bind]; rfl) q
    · refine EV.el1_2 (while_ok I μ Q h n c' i2 (by omega)) fun c2 e3 q => ?_
      exact EV.in1_2 c2 (by unfold whileS; rw [e, pure_bind, if_pos rfl, e2, pure_bind, e3]) q
theorem while_then {C β : Type} {mc : C → PM Bool} {mb : C → PM C} {kk : C → PM β} {v : PM β} {n : Nat} {c : C} (I : C → Prop) (μ : C → Nat) (Q : C → Prop)
    (h : ∀ c, I c → (mc c = pure false ∧ Q c) ∨ (mc c = pure true ∧ ∃ c', mb c = pure c' ∧ I c' ∧ μ c' < μ c)) (hi : I c) (hn : μ c < n) (hk : ∀ c, Q c → kk c = v) : (whileS mc mb n c >>= kk) = v := by
  refine EV.el1_2 (while_ok I μ Q h n c hi hn) fun c' e q => ?_
  rw [e, pure_bind, hk c' q]
/-- pairs of an enumerate -/
theorem pairs_dec : ∀ (k : Nat) (xs : List D), (pairsFrom k xs).map dec2 = (xs.zipIdx k).map fun z => some (D.int z.2, z.1)
  | _, [] => rfl
  | k, x :: xs => by
    unfold pairsFrom
    rw [List.map_cons, pairs_dec (k + 1) xs, List.zipIdx_cons, List.map_cons]
    rfl
theorem pairs_len : ∀ (k : Nat) (xs : List D), (pairsFrom k xs).length = xs.length
  | _, [] => rfl
  | k, x :: xs => by
    unfold pairsFrom
    rw [List.length_cons, pairs_len (k + 1) xs, List.length_cons]
theorem asc_len : ∀ {l : List Int} {a b : Int}, l.Pairwise (· < ·) → (∀ x ∈ l, a ≤ x ∧ x < b) → l.length ≤ (b - a).toNat
  | [], _, _, _, _ => Nat.zero_le _
  | x :: r, a, b, h, hb => by
    have q := List.pairwise_cons.mp h
    have z := hb x List.mem_cons_self
    have ih := asc_len (l := r) (a := x + 1) (b := b) q.2 fun y m => ⟨by have := q.1 y m; assumption, (hb y (List.mem_cons_of_mem _ m)).2⟩
    rw [List.length_cons]
    omega
theorem nodup_len {l : List Int} {n : Nat} (h : l.Nodup) (hb : ∀ x ∈ l, 0 ≤ x ∧ x < n) : l.length ≤ n := by
  have z := asc_len (a := 0) (b := n) (sortI_nodup h) fun x m => hb x ((sortI_perm l).mem_iff.mp m)
  rw [(sortI_perm l).length_eq] at z
  assumption
theorem scal_ints (ns : List Int) : scalL (lI ns) = pure (ns.map D.int) := by
  show (if (ns.map D.int).all scalD = true then pure (ns.map D.int) else bad : PM (List D)) = _
  exact if_pos (List.all_eq_true.mpr fun x m => by
    (refine EV.el1_2 (List.mem_map.mp m) fun n _ q256_ => ?_; obtain rfl := q256_)
    rfl)
theorem forS_inv {C : Type} {body : C → D → PM C} (P : Nat → C → Prop) : ∀ {ns : List Int} {k : Nat} {c : C}, P k c → (∀ i n c, ns[i]? = some n → P (k + i) c → ∃ c', body c (.int n) = pure c' ∧ P (k + i + 1) c') → ∃ c', forS dec1 body (ns.map D.int) c = pure c' ∧ P (k + ns.length) c' := by
  intro ns
  induction ns with
  | nil => intro k c h _; exact ⟨c, rfl, h⟩
  | cons n ns ih =>
    intro k c h hb
    obtain ⟨c1, e1, h1⟩ := hb 0 n c rfl h
    obtain ⟨c2, e2, h2⟩ := ih (k := k + 1) (c := c1) h1 fun i m c hi hp => by
      have z := hb (i + 1) m c hi (by rw [show k + (i + 1) = k + 1 + i from Nat.add_right_comm k i 1]; exact hp)
      rw [show k + (i + 1) = k + 1 + i from Nat.add_right_comm k i 1] at z
      exact z
    refine ⟨c2, ?_, by rw [List.length_cons, show k + (ns.length + 1) = k + 1 + ns.length from Nat.add_right_comm k ns.length 1]; exact h2⟩
    rw [List.map_cons]
    show (body c (.int n) >>= forS dec1 body (ns.map D.int)) = _
    rw [e1, pure_bind, e2]
theorem forS_then {C β : Type} {body : C → D → PM C} {kk : C → PM β} {v : PM β} {ns : List Int} {c : C} (P : Nat → C → Prop) (h0 : P 0 c) (hb : ∀ i n c, ns[i]? = some n → P i c → ∃ c', body c (.int n) = pure c' ∧ P (i + 1) c') (hk : ∀ c, P ns.length c → kk c = v) :
    (forS dec1 body (ns.map D.int) c >>= kk) = v := by
  obtain ⟨c', e, q⟩ := forS_inv P (k := 0) h0 fun i n c e h => by
    rw [Nat.zero_add] at h ⊢
    exact hb i n c e h
  rw [Nat.zero_add] at q
  rw [e, pure_bind, hk c' q]
theorem forS_ex {C β : Type} {body : C → D → PM C} {kk : C → PM β} {ns : List Int} {c : C} (R : PM β → Prop) (P : Nat → C → Prop) (h0 : P 0 c) (hb : ∀ i n c, ns[i]? = some n → P i c → ∃ c', body c (.int n) = pure c' ∧ P (i + 1) c') (hk : ∀ c, P ns.length c → R (kk c)) :
    R (forS dec1 body (ns.map D.int) c >>= kk) := by
  obtain ⟨c', e, q⟩ := forS_inv P (k := 0) h0 fun i n c e h => by
    rw [Nat.zero_add] at h ⊢
    exact hb i n c e h
  rw [Nat.zero_add] at q
  rw [e, pure_bind]
  exact hk c' q
theorem enum_tup (xs : List D) : enumF [.tup xs] = pure (pairsFrom 0 xs) := rfl
noncomputable def Ok {α : Type} (m : PM α) (s : List Int) (Q : α → List Int → Prop) : Prop := ∃ a s', m s = .ok a s' ∧ Q a s'
section
variable {α β : Type} {m : PM α} {s : List Int} {Q : α → List Int → Prop}
theorem Ok.pure {a : α} (h : Q a s) : Ok (Pure.pure a) s Q := (EV.in2_2 a s rfl h)
theorem Ok.bind {f : α → PM β} {Q : β → List Int → Prop} (h : Ok m s fun a s' => Ok (f a) s' Q) : Ok (m >>= f) s Q := by
  obtain ⟨a, s1, e, b, s2, e2, q⟩ := h
  exact EV.in2_2 b s2 (by rw [PM.bind_def, e]; exact e2) q
theorem Ok.imp {Q' : α → List Int → Prop} (h : Ok m s Q) (i : ∀ a s', Q a s' → Q' a s') : Ok m s Q' := by
  (refine EV.el2_2 h ?_; try clear h; intro a s1 e q)
  exact EV.in2_2 a s1 e (i _ _ q)
theorem Ok.noExc (h : Ok m s Q) : Ok (noExc m) s Q := by
  (refine EV.el2_2 h ?_; try clear h; intro a s1 e q)
  exact EV.in2_2 a s1 (by unfold EV.noExc; rw [e]) q
end
end EV
namespace EV
open PySem
def cNet : Addr := 408
def cWatch : Addr := 639
def cTrying : Addr := 443
def cSmall : Addr := 700
def cCareful : Addr := 662
def tab_Net : List (Addr × Bool) := [(cNet, true), (cWatch, false), (cTrying, false), (cSmall, false), (cCareful, false)]
def tab_Small : List (Addr × Bool) := [(cNet, false), (cWatch, false), (cTrying, false), (cSmall, true), (cCareful, false)]
def tab_Careful : List (Addr × Bool) := [(cNet, false), (cWatch, false), (cTrying, false), (cSmall, false), (cCareful, true)]
end EV
namespace Lw
open PySem EV
noncomputable def d_WORDS : D := .tup ((["alarm", "quiet", "unseen"] : List Str).map .str)
noncomputable def f_Net_eq (a0 a1 : D) : PM D := ((((((pure a1) >>= isC tab_Net)) >>= fun d3 => asB d3 >>= fun b4 => if b4 = true then ((((pure a0) >>= fldD cNet "own_needs")) >>= fun x1 => (((pure a1) >>= fldD cNet "own_needs")) >>= fun x2 => eqD x1 x2) else pure (D.bl false))) >>= fun d5 => pure (id d5))
noncomputable def f_is_word (a0 : D) : PM D := ((((((pure a0) >>= isF "str")) >>= fun d3 => asB d3 >>= fun b4 => if b4 = true then ((pure a0) >>= fun x1 => (pure d_WORDS) >>= fun x2 => inD x1 x2) else pure (D.bl false))) >>= fun d5 => pure (id d5))
noncomputable def f_is_report (a0 a1 : D) : PM D := ((((((pure a1) >>= isF "tuple")) >>= fun d17 => asB d17 >>= fun b18 => if b18 = true then (((((((pure a1) >>= fun d1 => (pure []) >>= fun s2 => pure (d1 :: s2)) >>= lenF)) >>= fun x5 => ((((pure a0) >>= fun d3 => (pure []) >>= fun s4 => pure (d3 :: s4)) >>= lenF)) >>= fun x6 => eqD x5 x6)) >>= fun d15 => asB d15 >>= fun b16 => if b16 = true then ((((((pure a1) >>= itemsD) >>= fun l11 => compL dec1 (fun z7 => pure true) (fun z7 => (((pure z7) >>= fun d8 => (pure []) >>= fun s9 => pure (d8 :: s9)) >>= fun s10 => run0 (fn1 f_is_word s10))) l11 >>= fun r12 => pure (D.lst r12))) >>= fun d13 => (pure []) >>= fun s14 => pure (d13 :: s14)) >>= allF) else pure (D.bl false)) else pure (D.bl false))) >>= fun d19 => pure (id d19))
noncomputable def g_need_start (a0 a1 : D) : PM Unit := ((((((((pure a0) >>= isC tab_Net)) >>= asB)) >>= fun b1 => pure (!b1))) >>= fun b2 => if b2 = true then raiseP ⟨"NetError", []⟩ else ((((((pure a1) >>= fun x3 => (pure D.non) >>= fun x4 => notND x3 x4 >>= asB)) >>= fun b11 => if b11 = true then (((((((((pure a0) >>= fldD cNet "own_needs")) >>= fun d7 => ((pure a1) >>= fun d5 => (pure []) >>= fun s6 => pure (d5 :: s6)) >>= fun s8 => pure (d7 :: s8)) >>= fun s9 => run0 (fn2 f_is_report s9))) >>= asB)) >>= fun b10 => pure (!b10)) else pure false)) >>= fun b12 => if b12 = true then raiseP ⟨"ReportError", []⟩ else pure ()))
noncomputable def f_need_start (a0 a1 : D) : PM D := g_need_start a0 a1 >>= fun _ => pure D.non
noncomputable def f_Watch_init (a0 a1 : D) : PM (List D) := (((((pure a0) >>= fun d3 => ((pure a1) >>= fun d1 => (pure []) >>= fun s2 => pure (d1 :: s2)) >>= fun s4 => pure (d3 :: s4)) >>= fun s5 => run0 (fn2 f_need_start s5))) >>= fun _ => ((pure a0) >>= fun d6 => ((((((pure a1) >>= fun x7 => (pure D.non) >>= fun x8 => isND x7 x8 >>= asB)) >>= fun b15 => if b15 = true then (((((pure (D.str "unseen")) >>= fun d9 => (pure []) >>= fun s10 => pure (d9 :: s10)) >>= mkT)) >>= fun x13 => ((((((pure a0) >>= fldD cNet "own_needs")) >>= fun d11 => (pure []) >>= fun s12 => pure (d11 :: s12)) >>= lenF)) >>= fun x14 => mulG x13 x14) else pure a1)) >>= fun d16 => ((((pure []) >>= mkT)) >>= fun d17 => ((pure d16) >>= fun _ => pure (((([] : List D) ++ [d6]) ++ [d16]) ++ [d17]))))))
noncomputable def f_Watch_net (a0 : D) : PM D := ((((pure a0) >>= fldD cWatch "own_net")) >>= fun d1 => pure (id d1))
noncomputable def f_Trying_init (a0 : D) : PM (List D) := ((pure a0) >>= fun d1 => ((((pure a0) >>= fldD cWatch "kept")) >>= fun d2 => ((((pure a0) >>= fldD cWatch "past")) >>= fun d3 => pure (((([] : List D) ++ [d1]) ++ [d2]) ++ [d3]))))
noncomputable def f_Watch_trying (a0 : D) : PM D := (((((pure a0) >>= fun d1 => (pure []) >>= fun s2 => pure (d1 :: s2)) >>= fun s3 => newO cTrying ["watch", "kept", "before"] (fnL1 f_Trying_init) (s3 ++ []))) >>= fun d5 => pure (id d5))
noncomputable def f_law_cell (ns : List Int) (a0 : D) : PM D := ((((pure a0) >>= fun x1 => (pure (D.int ns.length)) >>= fun x2 => ltD x1 x2 >>= asB)) >>= fun b3 => if b3 = true then ((((pure a0) >>= scrGet ns)) >>= fun d4 => pure (id d4)) else ((pure (D.int 0)) >>= fun d5 => pure (id d5)))
noncomputable def f_law_reach (a0 a1 : D) : PM D := (((((pure a1) >>= fun d2 => (pure []) >>= fun s3 => pure (d2 :: s3)) >>= mkL)) >>= fun v1 => (((((((pure a0) >>= fun d4 => (pure []) >>= fun s5 => pure (d4 :: s5)) >>= lenF)) >>= fun d6 => (pure []) >>= fun s7 => pure (d6 :: s7)) >>= rangeF1) >>= fun l10 => forS dec1 (fun (c8 : D) z9 => ((((pure []) >>= okL) >>= fun xs11 => (((pure c8) >>= itemsD) >>= fun l14 => forS dec1 (fun (c12 : List D) z13 => ((noExc ((((((pure a0) >>= fun x15 => (pure z13) >>= fun x16 => getD x15 x16)) >>= itemsD) >>= fun l22 => compL dec1 (fun z17 => ((pure z17) >>= fun x20 => (((pure c8) >>= fun x18 => (pure (D.lst c12)) >>= fun x19 => addD x18 x19)) >>= fun x21 => notInD x20 x21 >>= asB)) (fun z17 => pure z17) l22 >>= fun r23 => pure (D.lst r23))) >>= scalL >>= fun ys24 => okLen (c12 ++ ys24) >>= fun _ => pure (c12 ++ ys24)) : PM (List D))) l14 xs11 >>= fun c12 => ((((pure c8) >>= fun x26 => (pure (D.lst c12)) >>= fun x27 => addD x26 x27)) >>= fun v25 => pure v25))) : PM (D))) l10 v1 >>= fun c8 => ((((((((pure c8) >>= fun d28 => (pure []) >>= fun s29 => pure (d28 :: s29)) >>= sortedG)) >>= fun d30 => (pure []) >>= fun s31 => pure (d30 :: s31)) >>= tupleF)) >>= fun d32 => pure (id d32))))
noncomputable def f_law_candidates (a0 a1 : D) : PM D := (((((((pure a0) >>= fun d2 => (pure []) >>= fun s3 => pure (d2 :: s3)) >>= lenF)) >>= fun d4 => rg1 d4 >>= mkL)) >>= fun v1 => ((((pure a1) >>= fun d5 => (pure []) >>= fun s6 => pure (d5 :: s6)) >>= enumF) >>= fun l9 => forS dec2 (fun (c7 : D) z8 => (((((pure z8.2) >>= fun x10 => (pure (D.str "quiet")) >>= fun x11 => eqD x10 x11 >>= asB)) >>= fun b13 => (if b13 = true then (((((pure c7) >>= itemsD) >>= fun l24 => compL dec1 (fun z16 => ((pure z16) >>= fun x22 => ((((pure a0) >>= fun d19 => ((pure z8.1) >>= fun d17 => (pure []) >>= fun s18 => pure (d17 :: s18)) >>= fun s20 => pure (d19 :: s20)) >>= fun s21 => run0 (fn2 f_law_reach s21))) >>= fun x23 => notInD x22 x23 >>= asB)) (fun z16 => pure z16) l24 >>= fun r25 => pure (D.lst r25)) >>= fun v15 => pure v15) : PM (D)) else pure c7) >>= fun j14 => pure j14) : PM (D))) l9 v1 >>= fun c7 => (((((pure c7) >>= fun d26 => (pure []) >>= fun s27 => pure (d26 :: s27)) >>= tupleF)) >>= fun d28 => pure (id d28))))
noncomputable def f_law_clash (a0 a1 : D) : PM D := (((((pure a0) >>= fun d4 => ((pure a1) >>= fun d2 => (pure []) >>= fun s3 => pure (d2 :: s3)) >>= fun s5 => pure (d4 :: s5)) >>= fun s6 => run0 (fn2 f_law_candidates s6))) >>= fun v1 => ((((pure a1) >>= fun d7 => (pure []) >>= fun s8 => pure (d7 :: s8)) >>= enumF) >>= fun l11 => forL dec2 (fun (c9 : Unit) z10 => ((((((pure a0) >>= fun d15 => ((pure z10.1) >>= fun d13 => (pure []) >>= fun s14 => pure (d13 :: s14)) >>= fun s16 => pure (d15 :: s16)) >>= fun s17 => run0 (fn2 f_law_reach s17))) >>= fun v12 => ((((((pure z10.2) >>= fun x18 => (pure (D.str "alarm")) >>= fun x19 => eqD x18 x19 >>= asB)) >>= fun b27 => if b27 = true then (((((pure v12) >>= itemsD) >>= fun l23 => compL dec1 (fun z20 => ((pure z20) >>= fun x21 => (pure v1) >>= fun x22 => inD x21 x22 >>= asB)) (fun z20 => pure (D.int 1)) l23 >>= fun r24 => pure (D.lst r24))) >>= fun x25 => (((pure []) >>= mkL)) >>= fun x26 => eqD x25 x26 >>= asB) else pure false)) >>= fun b28 => if b28 = true then (((pure []) >>= okL) >>= fun xs29 => (((pure v12) >>= itemsD) >>= fun l32 => forS dec1 (fun (c30 : List D) z31 => (((((((((pure a0) >>= fun d34 => (pure []) >>= fun s35 => pure (d34 :: s35)) >>= lenF)) >>= fun d36 => (pure []) >>= fun s37 => pure (d36 :: s37)) >>= rangeF1) >>= fun l51 => compL dec1 (fun z38 => ((((((pure a1) >>= fun x39 => (pure z38) >>= fun x40 => getD x39 x40)) >>= fun x41 => (pure (D.str "quiet")) >>= fun x42 => eqD x41 x42 >>= asB)) >>= fun b50 => if b50 = true then ((pure z31) >>= fun x48 => ((((pure a0) >>= fun d45 => ((pure z38) >>= fun d43 => (pure []) >>= fun s44 => pure (d43 :: s44)) >>= fun s46 => pure (d45 :: s46)) >>= fun s47 => run0 (fn2 f_law_reach s47))) >>= fun x49 => inD x48 x49 >>= asB) else pure false)) (fun z38 => pure z38) l51 >>= fun r52 => pure (D.lst r52)) >>= fun v33 => ((((pure v33) >>= fun x53 => (pure (D.int 0)) >>= fun x54 => getD x53 x54)) >>= fun d55 => okLen (c30 ++ [d55]) >>= fun _ => pure (c30 ++ [d55]))) : PM (List D))) l32 xs29 >>= fun c30 => (((((pure z10.1) >>= fun d60 => (((((pure (D.lst c30)) >>= fun d56 => (pure []) >>= fun s57 => pure (d56 :: s57)) >>= tupleF)) >>= fun d58 => (pure []) >>= fun s59 => pure (d58 :: s59)) >>= fun s61 => pure (d60 :: s61)) >>= mkL)) >>= fun d62 => pure (Lp.ret d62)))) else pure (.go ()))) : PM (Lp (Unit)))) l11 () >>= lpK id fun c9 => ((((pure []) >>= mkL)) >>= fun d63 => pure (id d63))))
noncomputable def f_law_due (a0 a1 a2 a3 : D) : PM D := ((((((pure a1) >>= fun d14 => ((pure a2) >>= fun d12 => (pure []) >>= fun s13 => pure (d12 :: s13)) >>= fun s15 => pure (d14 :: s15)) >>= fun s16 => run0 (fn2 f_law_candidates s16))) >>= fun d17 => ((((((((pure a2) >>= itemsD) >>= fun l6 => compL dec1 (fun z3 => ((pure z3) >>= fun x4 => (pure (D.str "unseen")) >>= fun x5 => neD x4 x5 >>= asB)) (fun z3 => pure z3) l6 >>= fun r7 => pure (D.lst r7))) >>= fun d8 => (pure []) >>= fun s9 => pure (d8 :: s9)) >>= lenF)) >>= fun d10 => (pure []) >>= fun s11 => pure (d10 :: s11)) >>= fun s18 => pure (d17 :: s18)) >>= two fun v1 v2 => ((((((((((((pure a0) >>= fun x20 => (pure (D.str "(")) >>= fun x21 => addD x20 x21)) >>= fun x24 => ((((pure v2) >>= fun d22 => (pure []) >>= fun s23 => pure (d22 :: s23)) >>= strF)) >>= fun x25 => addD x24 x25)) >>= fun x26 => (pure (D.str " watched, ")) >>= fun x27 => addD x26 x27)) >>= fun x32 => (((((((pure v1) >>= fun d28 => (pure []) >>= fun s29 => pure (d28 :: s29)) >>= lenF)) >>= fun d30 => (pure []) >>= fun s31 => pure (d30 :: s31)) >>= strF)) >>= fun x33 => addD x32 x33)) >>= fun x34 => (pure (D.str " candidates)")) >>= fun x35 => addD x34 x35)) >>= fun v19 => (((((pure a1) >>= fun d57 => ((pure a2) >>= fun d55 => ((pure v1) >>= fun d53 => (((((((pure a1) >>= fun d46 => ((pure a2) >>= fun d44 => (pure []) >>= fun s45 => pure (d44 :: s45)) >>= fun s47 => pure (d46 :: s47)) >>= fun s48 => run0 (fn2 f_law_clash s48))) >>= fun x49 => (((pure []) >>= mkL)) >>= fun x50 => eqD x49 x50)) >>= fun d51 => ((pure a3) >>= fun d42 => ((pure v2) >>= fun d40 => ((pure v19) >>= fun d38 => ((pure a2) >>= fun d36 => (pure []) >>= fun s37 => pure (d36 :: s37)) >>= fun s39 => pure (d38 :: s39)) >>= fun s41 => pure (d40 :: s41)) >>= fun s43 => pure (d42 :: s43)) >>= fun s52 => pure (d51 :: s52)) >>= fun s54 => pure (d53 :: s54)) >>= fun s56 => pure (d55 :: s56)) >>= fun s58 => pure (d57 :: s58)) >>= mkT)) >>= fun d59 => pure (id d59))))
noncomputable def f_law_is_same_step (rec : D → D → PM D) (a0 a1 : D) : PM D := ((((((pure a1) >>= isF "tuple")) >>= asB)) >>= fun b1 => if b1 = true then ((((((((((pure a0) >>= isF "tuple")) >>= asB)) >>= fun b2 => pure (!b2))) >>= fun b9 => if b9 = true then pure true else (((((pure a0) >>= fun d3 => (pure []) >>= fun s4 => pure (d3 :: s4)) >>= lenF)) >>= fun x7 => ((((pure a1) >>= fun d5 => (pure []) >>= fun s6 => pure (d5 :: s6)) >>= lenF)) >>= fun x8 => neD x7 x8 >>= asB))) >>= fun b10 => if b10 = true then ((pure (D.bl false)) >>= fun d11 => pure (id d11)) else ((((((((((((pure a1) >>= fun d12 => (pure []) >>= fun s13 => pure (d12 :: s13)) >>= lenF)) >>= fun d14 => (pure []) >>= fun s15 => pure (d14 :: s15)) >>= rangeF1) >>= fun l26 => compL dec1 (fun z16 => pure true) (fun z16 => (((((pure a0) >>= fun x21 => (pure z16) >>= fun x22 => getD x21 x22)) >>= fun d23 => ((((pure a1) >>= fun x17 => (pure z16) >>= fun x18 => getD x17 x18)) >>= fun d19 => (pure []) >>= fun s20 => pure (d19 :: s20)) >>= fun s24 => pure (d23 :: s24)) >>= fun s25 => run0 (fn2 rec s25))) l26 >>= fun r27 => pure (D.lst r27))) >>= fun d28 => (pure []) >>= fun s29 => pure (d28 :: s29)) >>= allF)) >>= fun d30 => pure (id d30))) else ((((pure a1) >>= fun x31 => (pure D.non) >>= fun x32 => isND x31 x32 >>= asB)) >>= fun b33 => if b33 = true then ((((pure a0) >>= fun x34 => (pure D.non) >>= fun x35 => isND x34 x35)) >>= fun d36 => pure (id d36)) else ((((((pure a1) >>= isF "str")) >>= asB)) >>= fun b37 => if b37 = true then ((((((pure a0) >>= isF "str")) >>= fun d40 => asB d40 >>= fun b41 => if b41 = true then ((pure a0) >>= fun x38 => (pure a1) >>= fun x39 => eqD x38 x39) else pure (D.bl false))) >>= fun d42 => pure (id d42)) else ((((((((((pure a0) >>= isF "int")) >>= asB)) >>= fun b43 => pure (!b43))) >>= fun b46 => if b46 = true then pure true else ((((pure a0) >>= isF "bool")) >>= fun x44 => (((pure a1) >>= isF "bool")) >>= fun x45 => neD x44 x45 >>= asB))) >>= fun b47 => if b47 = true then ((pure (D.bl false)) >>= fun d48 => pure (id d48)) else ((((pure a0) >>= fun x49 => (pure a1) >>= fun x50 => eqD x49 x50)) >>= fun d51 => pure (id d51))))))
noncomputable def f_law_is_same : Nat → D → D → PM D
  | 0 => fun _ _ => bad
  | n + 1 => f_law_is_same_step (f_law_is_same n)
noncomputable def f_is_between (a0 a1 a2 : D) : PM D := ((((((pure a0) >>= isF "int")) >>= fun d10 => asB d10 >>= fun b11 => if b11 = true then ((((((pure a0) >>= isF "bool")) >>= fun d1 => asB d1 >>= fun b2 => pure (D.bl (!b2)))) >>= fun d8 => asB d8 >>= fun b9 => if b9 = true then ((pure a1) >>= fun x3 => (pure a0) >>= fun x4 => leD x3 x4 >>= fun x5 => asB x5 >>= fun x6 => if x6 = true then (pure a2) >>= fun x7 => leD x4 x7 else pure (D.bl false)) else pure (D.bl false)) else pure (D.bl false))) >>= fun d12 => pure (id d12))
noncomputable def f_is_rising (a0 a1 : D) : PM D := ((((((((((pure a1) >>= isF "tuple")) >>= asB)) >>= fun b1 => pure (!b1))) >>= fun b17 => if b17 = true then pure true else ((((((((((pure a1) >>= itemsD) >>= fun l12 => compL dec1 (fun z2 => pure true) (fun z2 => (((pure z2) >>= fun d9 => ((pure (D.int 0)) >>= fun d7 => ((((pure a0) >>= fun x3 => (pure (D.int 1)) >>= fun x4 => subD x3 x4)) >>= fun d5 => (pure []) >>= fun s6 => pure (d5 :: s6)) >>= fun s8 => pure (d7 :: s8)) >>= fun s10 => pure (d9 :: s10)) >>= fun s11 => run0 (fn3 f_is_between s11))) l12 >>= fun r13 => pure (D.lst r13))) >>= fun d14 => (pure []) >>= fun s15 => pure (d14 :: s15)) >>= allF)) >>= asB)) >>= fun b16 => pure (!b16)))) >>= fun b18 => if b18 = true then ((pure (D.bl false)) >>= fun d19 => pure (id d19)) else (((((((((pure a1) >>= fun d25 => ((((pure a1) >>= fun x20 => (((pure (D.int 1)) >>= asI)) >>= fun x21 => (pure none) >>= fun x22 => sliceD x20 x21 x22)) >>= fun d23 => (pure []) >>= fun s24 => pure (d23 :: s24)) >>= fun s26 => pure (d25 :: s26)) >>= zipF) >>= fun l30 => compL dec2 (fun z27 => pure true) (fun z27 => ((pure z27.1) >>= fun x28 => (pure z27.2) >>= fun x29 => ltD x28 x29)) l30 >>= fun r31 => pure (D.lst r31))) >>= fun d32 => (pure []) >>= fun s33 => pure (d32 :: s33)) >>= allF)) >>= fun d34 => pure (id d34)))
noncomputable def f_is_net (a0 : D) : PM D := ((((((((((pure a0) >>= isF "tuple")) >>= asB)) >>= fun b1 => pure (!b1))) >>= fun b10 => if b10 = true then pure true else ((((pure (D.int 1)) >>= fun x4 => ((((pure a0) >>= fun d2 => (pure []) >>= fun s3 => pure (d2 :: s3)) >>= lenF)) >>= fun x5 => leD x4 x5 >>= fun x6 => asB x6 >>= fun x7 => if x7 = true then (pure (D.int 8)) >>= fun x8 => leD x5 x8 >>= asB else pure false)) >>= fun b9 => pure (!b9)))) >>= fun b11 => if b11 = true then ((pure (D.bl false)) >>= fun d12 => pure (id d12)) else ((((pure a0) >>= fun d13 => (pure []) >>= fun s14 => pure (d13 :: s14)) >>= enumF) >>= fun l17 => forL dec2 (fun (c15 : Unit) z16 => (((((((((((((((pure a0) >>= fun d20 => (pure []) >>= fun s21 => pure (d20 :: s21)) >>= lenF)) >>= fun d22 => ((pure z16.2) >>= fun d18 => (pure []) >>= fun s19 => pure (d18 :: s19)) >>= fun s23 => pure (d22 :: s23)) >>= fun s24 => run0 (fn2 f_is_rising s24))) >>= asB)) >>= fun b25 => pure (!b25))) >>= fun b28 => if b28 = true then pure true else ((pure z16.1) >>= fun x26 => (pure z16.2) >>= fun x27 => inD x26 x27 >>= asB))) >>= fun b29 => if b29 = true then ((pure (D.bl false)) >>= fun d30 => pure (Lp.ret d30)) else pure (.go ())) : PM (Lp (Unit)))) l17 () >>= lpK id fun c15 => ((pure (D.bl true)) >>= fun d31 => pure (id d31))))
noncomputable def f_Net_init (a0 : D) : PM (List D) := (((((((((pure a0) >>= fun d1 => (pure []) >>= fun s2 => pure (d1 :: s2)) >>= fun s3 => run0 (fn1 f_is_net s3))) >>= asB)) >>= fun b4 => pure (!b4))) >>= fun b5 => if b5 = true then raiseP ⟨"NetError", []⟩ else ((pure a0) >>= fun d6 => pure (([] : List D) ++ [d6])))
noncomputable def f_law_made (a0 : D) : PM D := (((((((pure a0) >>= fun d1 => (pure []) >>= fun s2 => pure (d1 :: s2)) >>= lenF)) >>= fun x3 => (pure (D.int 1)) >>= fun x4 => eqD x3 x4 >>= asB)) >>= fun b5 => if b5 = true then (((((((pure a0) >>= fun x6 => (pure (D.int 0)) >>= fun x7 => getD x6 x7)) >>= fun d8 => (pure []) >>= fun s9 => pure (d8 :: s9)) >>= fun s10 => mkT s10 >>= fun t11 => newO cNet ["own_needs"] (fnL1 f_Net_init) [t11])) >>= fun d12 => pure (id d12)) else (((((((pure a0) >>= fun d13 => (pure []) >>= fun s14 => pure (d13 :: s14)) >>= lenF)) >>= fun x15 => (pure (D.int 2)) >>= fun x16 => eqD x15 x16 >>= asB)) >>= fun b17 => if b17 = true then (((((((pure a0) >>= fun x22 => (pure (D.int 0)) >>= fun x23 => getD x22 x23)) >>= fun d24 => ((((pure a0) >>= fun x18 => (pure (D.int 1)) >>= fun x19 => getD x18 x19)) >>= fun d20 => (pure []) >>= fun s21 => pure (d20 :: s21)) >>= fun s25 => pure (d24 :: s25)) >>= fun s26 => mkT s26 >>= fun t27 => newO cNet ["own_needs"] (fnL1 f_Net_init) [t27])) >>= fun d28 => pure (id d28)) else (((((((pure a0) >>= fun d29 => (pure []) >>= fun s30 => pure (d29 :: s30)) >>= lenF)) >>= fun x31 => (pure (D.int 3)) >>= fun x32 => eqD x31 x32 >>= asB)) >>= fun b33 => if b33 = true then (((((((pure a0) >>= fun x42 => (pure (D.int 0)) >>= fun x43 => getD x42 x43)) >>= fun d44 => ((((pure a0) >>= fun x38 => (pure (D.int 1)) >>= fun x39 => getD x38 x39)) >>= fun d40 => ((((pure a0) >>= fun x34 => (pure (D.int 2)) >>= fun x35 => getD x34 x35)) >>= fun d36 => (pure []) >>= fun s37 => pure (d36 :: s37)) >>= fun s41 => pure (d40 :: s41)) >>= fun s45 => pure (d44 :: s45)) >>= fun s46 => mkT s46 >>= fun t47 => newO cNet ["own_needs"] (fnL1 f_Net_init) [t47])) >>= fun d48 => pure (id d48)) else (((((((pure a0) >>= fun d49 => (pure []) >>= fun s50 => pure (d49 :: s50)) >>= lenF)) >>= fun x51 => (pure (D.int 4)) >>= fun x52 => eqD x51 x52 >>= asB)) >>= fun b53 => if b53 = true then (((((((pure a0) >>= fun x66 => (pure (D.int 0)) >>= fun x67 => getD x66 x67)) >>= fun d68 => ((((pure a0) >>= fun x62 => (pure (D.int 1)) >>= fun x63 => getD x62 x63)) >>= fun d64 => ((((pure a0) >>= fun x58 => (pure (D.int 2)) >>= fun x59 => getD x58 x59)) >>= fun d60 => ((((pure a0) >>= fun x54 => (pure (D.int 3)) >>= fun x55 => getD x54 x55)) >>= fun d56 => (pure []) >>= fun s57 => pure (d56 :: s57)) >>= fun s61 => pure (d60 :: s61)) >>= fun s65 => pure (d64 :: s65)) >>= fun s69 => pure (d68 :: s69)) >>= fun s70 => mkT s70 >>= fun t71 => newO cNet ["own_needs"] (fnL1 f_Net_init) [t71])) >>= fun d72 => pure (id d72)) else (((((((pure a0) >>= fun d73 => (pure []) >>= fun s74 => pure (d73 :: s74)) >>= lenF)) >>= fun x75 => (pure (D.int 5)) >>= fun x76 => eqD x75 x76 >>= asB)) >>= fun b77 => if b77 = true then (((((((pure a0) >>= fun x94 => (pure (D.int 0)) >>= fun x95 => getD x94 x95)) >>= fun d96 => ((((pure a0) >>= fun x90 => (pure (D.int 1)) >>= fun x91 => getD x90 x91)) >>= fun d92 => ((((pure a0) >>= fun x86 => (pure (D.int 2)) >>= fun x87 => getD x86 x87)) >>= fun d88 => ((((pure a0) >>= fun x82 => (pure (D.int 3)) >>= fun x83 => getD x82 x83)) >>= fun d84 => ((((pure a0) >>= fun x78 => (pure (D.int 4)) >>= fun x79 => getD x78 x79)) >>= fun d80 => (pure []) >>= fun s81 => pure (d80 :: s81)) >>= fun s85 => pure (d84 :: s85)) >>= fun s89 => pure (d88 :: s89)) >>= fun s93 => pure (d92 :: s93)) >>= fun s97 => pure (d96 :: s97)) >>= fun s98 => mkT s98 >>= fun t99 => newO cNet ["own_needs"] (fnL1 f_Net_init) [t99])) >>= fun d100 => pure (id d100)) else (((((((pure a0) >>= fun d101 => (pure []) >>= fun s102 => pure (d101 :: s102)) >>= lenF)) >>= fun x103 => (pure (D.int 6)) >>= fun x104 => eqD x103 x104 >>= asB)) >>= fun b105 => if b105 = true then (((((((pure a0) >>= fun x126 => (pure (D.int 0)) >>= fun x127 => getD x126 x127)) >>= fun d128 => ((((pure a0) >>= fun x122 => (pure (D.int 1)) >>= fun x123 => getD x122 x123)) >>= fun d124 => ((((pure a0) >>= fun x118 => (pure (D.int 2)) >>= fun x119 => getD x118 x119)) >>= fun d120 => ((((pure a0) >>= fun x114 => (pure (D.int 3)) >>= fun x115 => getD x114 x115)) >>= fun d116 => ((((pure a0) >>= fun x110 => (pure (D.int 4)) >>= fun x111 => getD x110 x111)) >>= fun d112 => ((((pure a0) >>= fun x106 => (pure (D.int 5)) >>= fun x107 => getD x106 x107)) >>= fun d108 => (pure []) >>= fun s109 => pure (d108 :: s109)) >>= fun s113 => pure (d112 :: s113)) >>= fun s117 => pure (d116 :: s117)) >>= fun s121 => pure (d120 :: s121)) >>= fun s125 => pure (d124 :: s125)) >>= fun s129 => pure (d128 :: s129)) >>= fun s130 => mkT s130 >>= fun t131 => newO cNet ["own_needs"] (fnL1 f_Net_init) [t131])) >>= fun d132 => pure (id d132)) else (((((((pure a0) >>= fun d133 => (pure []) >>= fun s134 => pure (d133 :: s134)) >>= lenF)) >>= fun x135 => (pure (D.int 7)) >>= fun x136 => eqD x135 x136 >>= asB)) >>= fun b137 => if b137 = true then (((((((pure a0) >>= fun x162 => (pure (D.int 0)) >>= fun x163 => getD x162 x163)) >>= fun d164 => ((((pure a0) >>= fun x158 => (pure (D.int 1)) >>= fun x159 => getD x158 x159)) >>= fun d160 => ((((pure a0) >>= fun x154 => (pure (D.int 2)) >>= fun x155 => getD x154 x155)) >>= fun d156 => ((((pure a0) >>= fun x150 => (pure (D.int 3)) >>= fun x151 => getD x150 x151)) >>= fun d152 => ((((pure a0) >>= fun x146 => (pure (D.int 4)) >>= fun x147 => getD x146 x147)) >>= fun d148 => ((((pure a0) >>= fun x142 => (pure (D.int 5)) >>= fun x143 => getD x142 x143)) >>= fun d144 => ((((pure a0) >>= fun x138 => (pure (D.int 6)) >>= fun x139 => getD x138 x139)) >>= fun d140 => (pure []) >>= fun s141 => pure (d140 :: s141)) >>= fun s145 => pure (d144 :: s145)) >>= fun s149 => pure (d148 :: s149)) >>= fun s153 => pure (d152 :: s153)) >>= fun s157 => pure (d156 :: s157)) >>= fun s161 => pure (d160 :: s161)) >>= fun s165 => pure (d164 :: s165)) >>= fun s166 => mkT s166 >>= fun t167 => newO cNet ["own_needs"] (fnL1 f_Net_init) [t167])) >>= fun d168 => pure (id d168)) else (((((((pure a0) >>= fun x197 => (pure (D.int 0)) >>= fun x198 => getD x197 x198)) >>= fun d199 => ((((pure a0) >>= fun x193 => (pure (D.int 1)) >>= fun x194 => getD x193 x194)) >>= fun d195 => ((((pure a0) >>= fun x189 => (pure (D.int 2)) >>= fun x190 => getD x189 x190)) >>= fun d191 => ((((pure a0) >>= fun x185 => (pure (D.int 3)) >>= fun x186 => getD x185 x186)) >>= fun d187 => ((((pure a0) >>= fun x181 => (pure (D.int 4)) >>= fun x182 => getD x181 x182)) >>= fun d183 => ((((pure a0) >>= fun x177 => (pure (D.int 5)) >>= fun x178 => getD x177 x178)) >>= fun d179 => ((((pure a0) >>= fun x173 => (pure (D.int 6)) >>= fun x174 => getD x173 x174)) >>= fun d175 => ((((pure a0) >>= fun x169 => (pure (D.int 7)) >>= fun x170 => getD x169 x170)) >>= fun d171 => (pure []) >>= fun s172 => pure (d171 :: s172)) >>= fun s176 => pure (d175 :: s176)) >>= fun s180 => pure (d179 :: s180)) >>= fun s184 => pure (d183 :: s184)) >>= fun s188 => pure (d187 :: s188)) >>= fun s192 => pure (d191 :: s192)) >>= fun s196 => pure (d195 :: s196)) >>= fun s200 => pure (d199 :: s200)) >>= fun s201 => mkT s201 >>= fun t202 => newO cNet ["own_needs"] (fnL1 f_Net_init) [t202])) >>= fun d203 => pure (id d203)))))))))
noncomputable def f_law_draws (a0 a1 : D) : PM D := (((pure []) >>= okL) >>= fun xs1 => ((((pure a0) >>= fun x4 => (((pure (D.int 10)) >>= fun x2 => (pure (D.int 18)) >>= fun x3 => powD x2 x3)) >>= fun x5 => geD x4 x5 >>= asB)) >>= fun b6 => if b6 = true then ((((pure a0) >>= fun x10 => (((pure (D.int 10)) >>= fun x8 => (pure (D.int 18)) >>= fun x9 => powD x8 x9)) >>= fun x11 => subD x10 x11)) >>= fun v7 => (((pure a1) >>= itemsD) >>= fun l14 => forS dec1 (fun (c12 : D × List D) z13 => (((((pure c12.1) >>= fun x15 => (pure z13) >>= fun x16 => modD x15 x16)) >>= fun d17 => okLen (c12.2 ++ [d17]) >>= fun _ => ((((pure c12.1) >>= fun x19 => (pure z13) >>= fun x20 => fdivD x19 x20)) >>= fun v18 => pure (v18, (c12.2 ++ [d17])))) : PM (D × List D))) l14 (v7, xs1) >>= fun c12 => ((pure (D.lst c12.2)) >>= fun d21 => pure (id d21)))) else (((((((pure a1) >>= fun d22 => (pure []) >>= fun s23 => pure (d22 :: s23)) >>= lenF)) >>= fun d24 => (pure []) >>= fun s25 => pure (d24 :: s25)) >>= rangeF1) >>= fun l28 => forS dec1 (fun (c26 : List D) z27 => (((((((((((pure a0) >>= fun x30 => (pure (D.int 48271)) >>= fun x31 => mulD x30 x31)) >>= fun x34 => (((pure z27) >>= fun x32 => (pure (D.int 69621)) >>= fun x33 => mulD x32 x33)) >>= fun x35 => addD x34 x35)) >>= fun x36 => (pure (D.int 11)) >>= fun x37 => addD x36 x37)) >>= fun x38 => (pure (D.int 2147483647)) >>= fun x39 => modD x38 x39)) >>= fun v29 => ((((((((pure v29) >>= fun x41 => (pure (D.int 16807)) >>= fun x42 => mulD x41 x42)) >>= fun x43 => (pure z27) >>= fun x44 => addD x43 x44)) >>= fun x45 => (pure (D.int 998244353)) >>= fun x46 => modD x45 x46)) >>= fun v40 => ((((pure v40) >>= fun x49 => (((pure a1) >>= fun x47 => (pure z27) >>= fun x48 => getD x47 x48)) >>= fun x50 => modD x49 x50)) >>= fun d51 => okLen (c26 ++ [d51]) >>= fun _ => pure (c26 ++ [d51])))) : PM (List D))) l28 xs1 >>= fun c26 => ((pure (D.lst c26)) >>= fun d52 => pure (id d52)))))
noncomputable def f_law_net (a0 a1 : D) : PM D := (((((pure a0) >>= fun d14 => (((((((pure a1) >>= fun d4 => ((pure (D.int 3)) >>= fun d2 => (pure []) >>= fun s3 => pure (d2 :: s3)) >>= fun s5 => pure (d4 :: s5)) >>= mkL)) >>= fun x10 => ((((((pure (D.int 12)) >>= fun d6 => (pure []) >>= fun s7 => pure (d6 :: s7)) >>= mkL)) >>= fun x8 => (pure (D.int 64)) >>= fun x9 => mulL x8 x9)) >>= fun x11 => addD x10 x11)) >>= fun d12 => (pure []) >>= fun s13 => pure (d12 :: s13)) >>= fun s15 => pure (d14 :: s15)) >>= fun s16 => run0 (fn2 f_law_draws s16))) >>= fun v1 => (((((((pure (D.int 1)) >>= fun x33 => (((pure v1) >>= fun x31 => (pure (D.int 0)) >>= fun x32 => getD x31 x32)) >>= fun x34 => addD x33 x34)) >>= fun d35 => (((((((pure (D.int 2)) >>= fun d23 => ((pure (D.int 3)) >>= fun d21 => ((pure (D.int 5)) >>= fun d19 => (pure []) >>= fun s20 => pure (d19 :: s20)) >>= fun s22 => pure (d21 :: s22)) >>= fun s24 => pure (d23 :: s24)) >>= mkL)) >>= fun x27 => (((pure v1) >>= fun x25 => (pure (D.int 1)) >>= fun x26 => getD x25 x26)) >>= fun x28 => getD x27 x28)) >>= fun d29 => (pure []) >>= fun s30 => pure (d29 :: s30)) >>= fun s36 => pure (d35 :: s36)) >>= mkT)) >>= unp2 fun v17 v18 => (((pure []) >>= okL) >>= fun xs37 => ((((pure v17) >>= fun d38 => (pure []) >>= fun s39 => pure (d38 :: s39)) >>= rangeF1) >>= fun l42 => forS dec1 (fun (c40 : List D) z41 => ((((((((((pure v17) >>= fun d43 => (pure []) >>= fun s44 => pure (d43 :: s44)) >>= rangeF1) >>= fun l59 => compL dec1 (fun z45 => ((((pure z45) >>= fun x46 => (pure z41) >>= fun x47 => neD x46 x47 >>= asB)) >>= fun b58 => if b58 = true then ((((pure v1) >>= fun x54 => (((((pure (D.int 2)) >>= fun x50 => (((pure (D.int 8)) >>= fun x48 => (pure z41) >>= fun x49 => mulD x48 x49)) >>= fun x51 => addD x50 x51)) >>= fun x52 => (pure z45) >>= fun x53 => addD x52 x53)) >>= fun x55 => getD x54 x55)) >>= fun x56 => (pure v18) >>= fun x57 => ltD x56 x57 >>= asB) else pure false)) (fun z45 => pure z45) l59 >>= fun r60 => pure (D.lst r60))) >>= fun d61 => (pure []) >>= fun s62 => pure (d61 :: s62)) >>= tupleF)) >>= fun d63 => okLen (c40 ++ [d63]) >>= fun _ => pure (c40 ++ [d63])) : PM (List D))) l42 xs37 >>= fun c40 => (((((pure (D.lst c40)) >>= fun d64 => (pure []) >>= fun s65 => pure (d64 :: s65)) >>= tupleF)) >>= fun d66 => pure (id d66))))))
noncomputable def f_Net_needs (a0 : D) : PM D := ((((pure a0) >>= fldD cNet "own_needs")) >>= fun d1 => pure (id d1))
noncomputable def f_Net_repr (a0 : D) : PM D := ((fsD [pure (D.str "Net("), ((((((pure a0) >>= fldD cNet "own_needs")) >>= fun d1 => (pure []) >>= fun s2 => pure (d1 :: s2)) >>= lenF)) >>= fmtD, pure (D.str " components)")] Str.empty) >>= fun d3 => pure (id d3))
noncomputable def f_line_of (a0 a1 : D) : PM D := ((((pure (D.str " ")) >>= fun a10 => strOf a10 >>= fun x11 => ((((((fsD [(pure a0) >>= fmtD, pure (D.str ":")] Str.empty) >>= fun d1 => (pure []) >>= fun s2 => pure (d1 :: s2)) >>= mkL)) >>= fun x8 => ((((pure a1) >>= itemsD) >>= fun l6 => compL dec1 (fun z3 => pure true) (fun z3 => (((pure z3) >>= fun d4 => (pure []) >>= fun s5 => pure (d4 :: s5)) >>= strF)) l6 >>= fun r7 => pure (D.lst r7))) >>= fun x9 => addD x8 x9)) >>= fun d12 => itemsD d12 >>= joinD x11)) >>= fun d13 => pure (id d13))
noncomputable def f_text_of (a0 : D) : PM D := ((((pure (D.str "")) >>= fun a13 => strOf a13 >>= fun x14 => (((((pure a0) >>= fun d1 => (pure []) >>= fun s2 => pure (d1 :: s2)) >>= enumF) >>= fun l11 => compL dec2 (fun z3 => pure true) (fun z3 => (((((pure z3.1) >>= fun d6 => ((pure z3.2) >>= fun d4 => (pure []) >>= fun s5 => pure (d4 :: s5)) >>= fun s7 => pure (d6 :: s7)) >>= fun s8 => run0 (fn2 f_line_of s8))) >>= fun x9 => (pure (D.str "\n")) >>= fun x10 => addD x9 x10)) l11 >>= fun r12 => pure (D.lst r12))) >>= fun d15 => itemsD d15 >>= joinD x14)) >>= fun d16 => pure (id d16))
noncomputable def f_Net_text (a0 : D) : PM D := (((((((pure a0) >>= fldD cNet "own_needs")) >>= fun d1 => (pure []) >>= fun s2 => pure (d1 :: s2)) >>= fun s3 => run0 (fn1 f_text_of s3))) >>= fun d4 => pure (id d4))
noncomputable def f_law_no_nets (a0 : D) : PM D := ((((pure a0) >>= fun d2 => noExc (methD cNet (fn1 f_Net_needs) d2 []))) >>= fun v1 => (((((pure D.non) >>= fun d44 => ((pure (D.int 0)) >>= fun d42 => ((pure (D.bl true)) >>= fun d40 => ((pure (D.str "")) >>= fun d38 => ((((pure []) >>= mkT)) >>= fun d36 => ((((pure []) >>= mkL)) >>= fun d34 => ((pure (D.dct [])) >>= fun d32 => ((pure v1) >>= fun d30 => (((((pure v1) >>= fun d26 => (pure []) >>= fun s27 => pure (d26 :: s27)) >>= listF)) >>= fun d28 => (((((pure a0) >>= fun d22 => (pure []) >>= fun s23 => pure (d22 :: s23)) >>= mkL)) >>= fun d24 => (((((pure a0) >>= fun d18 => (pure []) >>= fun s19 => pure (d18 :: s19)) >>= mkT)) >>= fun d20 => ((((pure a0) >>= fun d14 => objD cNet "text" d14 >>= fun _ => methD cNet (fn1 f_Net_text) d14 [])) >>= fun d16 => ((((pure a0) >>= fun d11 => methD cNet (fn1 f_Net_repr) d11 [] >>= stD)) >>= fun d12 => (((((((pure []) >>= mkT)) >>= fun d7 => (pure []) >>= fun s8 => pure (d7 :: s8)) >>= mkT)) >>= fun d9 => ((((pure v1) >>= fun x3 => (pure (D.int 0)) >>= fun x4 => getD x3 x4)) >>= fun d5 => (pure []) >>= fun s6 => pure (d5 :: s6)) >>= fun s10 => pure (d9 :: s10)) >>= fun s13 => pure (d12 :: s13)) >>= fun s17 => pure (d16 :: s17)) >>= fun s21 => pure (d20 :: s21)) >>= fun s25 => pure (d24 :: s25)) >>= fun s29 => pure (d28 :: s29)) >>= fun s31 => pure (d30 :: s31)) >>= fun s33 => pure (d32 :: s33)) >>= fun s35 => pure (d34 :: s35)) >>= fun s37 => pure (d36 :: s37)) >>= fun s39 => pure (d38 :: s39)) >>= fun s41 => pure (d40 :: s41)) >>= fun s43 => pure (d42 :: s43)) >>= fun s45 => pure (d44 :: s45)) >>= mkL)) >>= fun d46 => pure (id d46)))
noncomputable def f_law_no_reports (a0 : D) : PM D := (((((pure (D.int 0)) >>= fun d24 => ((pure (D.bl true)) >>= fun d22 => ((pure (D.str "")) >>= fun d20 => ((pure (D.str "alarm")) >>= fun d18 => ((((pure []) >>= mkT)) >>= fun d16 => ((((pure []) >>= mkL)) >>= fun d14 => ((pure (D.dct [])) >>= fun d12 => (((((pure a0) >>= fun d8 => (pure []) >>= fun s9 => pure (d8 :: s9)) >>= listF)) >>= fun d10 => ((((pure a0) >>= fun x4 => ((((pure (D.str "unseen")) >>= fun d2 => (pure []) >>= fun s3 => pure (d2 :: s3)) >>= mkT)) >>= fun x5 => addD x4 x5)) >>= fun d6 => (pure []) >>= fun s7 => pure (d6 :: s7)) >>= fun s11 => pure (d10 :: s11)) >>= fun s13 => pure (d12 :: s13)) >>= fun s15 => pure (d14 :: s15)) >>= fun s17 => pure (d16 :: s17)) >>= fun s19 => pure (d18 :: s19)) >>= fun s21 => pure (d20 :: s21)) >>= fun s23 => pure (d22 :: s23)) >>= fun s25 => pure (d24 :: s25)) >>= mkL)) >>= fun v1 => ((((pure v1) >>= fun x41 => ((((((pure a0) >>= fun x36 => (((pure (D.int 1)) >>= asI)) >>= fun x37 => (pure none) >>= fun x38 => sliceD x36 x37 x38)) >>= fun d39 => ((((((pure a0) >>= fun x27 => (((pure (D.int 1)) >>= asI)) >>= fun x28 => (pure none) >>= fun x29 => sliceD x27 x28 x29)) >>= fun x32 => ((((pure D.non) >>= fun d30 => (pure []) >>= fun s31 => pure (d30 :: s31)) >>= mkT)) >>= fun x33 => addD x32 x33)) >>= fun d34 => (pure []) >>= fun s35 => pure (d34 :: s35)) >>= fun s40 => pure (d39 :: s40)) >>= mkL)) >>= fun x42 => addD x41 x42)) >>= fun v26 => ((((pure v26) >>= fun x71 => ((((((((pure a0) >>= fun x62 => (((pure (D.int 1)) >>= asI)) >>= fun x63 => (pure none) >>= fun x64 => sliceD x62 x63 x64)) >>= fun x67 => ((((pure (D.str "Alarm")) >>= fun d65 => (pure []) >>= fun s66 => pure (d65 :: s66)) >>= mkT)) >>= fun x68 => addD x67 x68)) >>= fun d69 => ((((((pure a0) >>= fun x53 => (((pure (D.int 1)) >>= asI)) >>= fun x54 => (pure none) >>= fun x55 => sliceD x53 x54 x55)) >>= fun x58 => ((((pure (D.int 0)) >>= fun d56 => (pure []) >>= fun s57 => pure (d56 :: s57)) >>= mkT)) >>= fun x59 => addD x58 x59)) >>= fun d60 => ((((((pure a0) >>= fun x44 => (((pure (D.int 1)) >>= asI)) >>= fun x45 => (pure none) >>= fun x46 => sliceD x44 x45 x46)) >>= fun x49 => ((((pure (D.bl true)) >>= fun d47 => (pure []) >>= fun s48 => pure (d47 :: s48)) >>= mkT)) >>= fun x50 => addD x49 x50)) >>= fun d51 => (pure []) >>= fun s52 => pure (d51 :: s52)) >>= fun s61 => pure (d60 :: s61)) >>= fun s70 => pure (d69 :: s70)) >>= mkL)) >>= fun x72 => addD x71 x72)) >>= fun v43 => ((((pure v43) >>= fun x85 => ((((((((pure a0) >>= fun x74 => (((pure (D.int 1)) >>= asI)) >>= fun x75 => (pure none) >>= fun x76 => sliceD x74 x75 x76)) >>= fun x81 => (((((((pure (D.str "alarm")) >>= fun d77 => (pure []) >>= fun s78 => pure (d77 :: s78)) >>= mkT)) >>= fun d79 => (pure []) >>= fun s80 => pure (d79 :: s80)) >>= mkT)) >>= fun x82 => addD x81 x82)) >>= fun d83 => (pure []) >>= fun s84 => pure (d83 :: s84)) >>= mkL)) >>= fun x86 => addD x85 x86)) >>= fun v73 => ((((pure v73) >>= fun x112 => ((((((((pure a0) >>= fun x101 => (((pure (D.int 1)) >>= asI)) >>= fun x102 => (pure none) >>= fun x103 => sliceD x101 x102 x103)) >>= fun x108 => (((((((pure (D.str "quiet")) >>= fun d104 => (pure []) >>= fun s105 => pure (d104 :: s105)) >>= mkL)) >>= fun d106 => (pure []) >>= fun s107 => pure (d106 :: s107)) >>= mkT)) >>= fun x109 => addD x108 x109)) >>= fun d110 => ((((((pure a0) >>= fun x92 => (((pure (D.int 1)) >>= asI)) >>= fun x93 => (pure none) >>= fun x94 => sliceD x92 x93 x94)) >>= fun x97 => ((((pure (D.str "")) >>= fun d95 => (pure []) >>= fun s96 => pure (d95 :: s96)) >>= mkT)) >>= fun x98 => addD x97 x98)) >>= fun d99 => (((((pure a0) >>= fun d88 => (pure []) >>= fun s89 => pure (d88 :: s89)) >>= mkT)) >>= fun d90 => (pure []) >>= fun s91 => pure (d90 :: s91)) >>= fun s100 => pure (d99 :: s100)) >>= fun s111 => pure (d110 :: s111)) >>= mkL)) >>= fun x113 => addD x112 x113)) >>= fun v87 => ((((pure v87) >>= fun x123 => ((((((((pure a0) >>= fun x114 => (((pure (D.int 1)) >>= asI)) >>= fun x115 => (pure none) >>= fun x116 => sliceD x114 x115 x116)) >>= fun x119 => ((((pure (D.str "alarm ")) >>= fun d117 => (pure []) >>= fun s118 => pure (d117 :: s118)) >>= mkT)) >>= fun x120 => addD x119 x120)) >>= fun d121 => (pure []) >>= fun s122 => pure (d121 :: s122)) >>= mkL)) >>= fun x124 => addD x123 x124)) >>= fun d125 => pure (id d125)))))))
noncomputable def f_law_alarms (a0 a1 : D) : PM D := (((pure []) >>= okL) >>= fun xs1 => (((((((pure a0) >>= fun d2 => (pure []) >>= fun s3 => pure (d2 :: s3)) >>= lenF)) >>= fun d4 => (pure []) >>= fun s5 => pure (d4 :: s5)) >>= rangeF1) >>= fun l8 => forS dec1 (fun (c6 : List D) z7 => (((((((((((pure a0) >>= fun d11 => ((pure z7) >>= fun d9 => (pure []) >>= fun s10 => pure (d9 :: s10)) >>= fun s12 => pure (d11 :: s12)) >>= fun s13 => run0 (fn2 f_law_reach s13))) >>= itemsD) >>= fun l17 => compL dec1 (fun z14 => ((pure z14) >>= fun x15 => (pure a1) >>= fun x16 => inD x15 x16 >>= asB)) (fun z14 => pure (D.int 1)) l17 >>= fun r18 => pure (D.lst r18))) >>= fun x19 => (((pure []) >>= mkL)) >>= fun x20 => neD x19 x20 >>= asB)) >>= fun b22 => (if b22 = true then (((pure z7) >>= fun d24 => okLen (c6 ++ [d24]) >>= fun _ => pure (c6 ++ [d24])) : PM (List D)) else pure c6) >>= fun j23 => pure j23) : PM (List D))) l8 xs1 >>= fun c6 => (((((pure (D.lst c6)) >>= fun d25 => (pure []) >>= fun s26 => pure (d25 :: s26)) >>= tupleF)) >>= fun d27 => pure (id d27))))
noncomputable def f_law_report (a0 a1 : D) : PM D := ((((((pure a0) >>= fun d17 => (((((((pure (D.int 3)) >>= fun d3 => (pure []) >>= fun s4 => pure (d3 :: s4)) >>= mkL)) >>= fun x13 => ((((((pure (D.int 3)) >>= fun d7 => ((pure (D.int 4)) >>= fun d5 => (pure []) >>= fun s6 => pure (d5 :: s6)) >>= fun s8 => pure (d7 :: s8)) >>= mkL)) >>= fun x11 => ((((pure a1) >>= fun d9 => (pure []) >>= fun s10 => pure (d9 :: s10)) >>= lenF)) >>= fun x12 => mulL x11 x12)) >>= fun x14 => addD x13 x14)) >>= fun d15 => (pure []) >>= fun s16 => pure (d15 :: s16)) >>= fun s18 => pure (d17 :: s18)) >>= fun s19 => run0 (fn2 f_law_draws s19))) >>= fun d22 => ((((pure []) >>= okL)) >>= fun d20 => (pure []) >>= fun s21 => pure (Mv.o d20 :: s21)) >>= fun s23 => pure (Mv.v d22 :: s23)) >>= two2 (kVO fun v24 xs25 => ((((((((((((pure a1) >>= fun d27 => (pure []) >>= fun s28 => pure (d27 :: s28)) >>= lenF)) >>= fun d29 => (pure []) >>= fun s30 => pure (d29 :: s30)) >>= rangeF1) >>= fun l40 => compL dec1 (fun z31 => ((((pure v24) >>= fun x36 => (((pure (D.int 2)) >>= fun x34 => (((pure (D.int 2)) >>= fun x32 => (pure z31) >>= fun x33 => mulD x32 x33)) >>= fun x35 => addD x34 x35)) >>= fun x37 => getD x36 x37)) >>= fun x38 => (pure (D.int 0)) >>= fun x39 => eqD x38 x39 >>= asB)) (fun z31 => pure z31) l40 >>= fun r41 => pure (D.lst r41))) >>= fun d42 => (pure []) >>= fun s43 => pure (d42 :: s43)) >>= tupleF)) >>= fun v26 => (((((pure a1) >>= fun d47 => ((pure v26) >>= fun d45 => (pure []) >>= fun s46 => pure (d45 :: s46)) >>= fun s48 => pure (d47 :: s48)) >>= fun s49 => run0 (fn2 f_law_alarms s49))) >>= fun v44 => (((((((pure a1) >>= fun d50 => (pure []) >>= fun s51 => pure (d50 :: s51)) >>= lenF)) >>= fun d52 => (pure []) >>= fun s53 => pure (d52 :: s53)) >>= rangeF1) >>= fun l56 => forS dec1 (fun (c54 : List D) z55 => (((((((pure z55) >>= fun x58 => (pure v44) >>= fun x59 => inD x58 x59 >>= asB)) >>= fun b60 => if b60 = true then pure (D.str "alarm") else pure (D.str "quiet"))) >>= fun v57 => ((((((pure v24) >>= fun x61 => (pure (D.int 0)) >>= fun x62 => getD x61 x62)) >>= fun x63 => (pure (D.int 0)) >>= fun x64 => eqD x63 x64 >>= asB)) >>= fun b66 => (if b66 = true then (((((((((pure v24) >>= fun x73 => (((pure (D.int 2)) >>= fun x71 => (((pure (D.int 2)) >>= fun x69 => (pure z55) >>= fun x70 => mulD x69 x70)) >>= fun x72 => addD x71 x72)) >>= fun x74 => getD x73 x74)) >>= fun x75 => (pure (D.int 1)) >>= fun x76 => eqD x75 x76 >>= asB)) >>= fun b77 => if b77 = true then pure (D.str "quiet") else pure (D.str "alarm"))) >>= fun v68 => pure v68) : PM (D)) else pure v57) >>= fun j67 => ((((((((pure v24) >>= fun x82 => (((pure (D.int 1)) >>= fun x80 => (((pure (D.int 2)) >>= fun x78 => (pure z55) >>= fun x79 => mulD x78 x79)) >>= fun x81 => addD x80 x81)) >>= fun x83 => getD x82 x83)) >>= fun x84 => (pure (D.int 0)) >>= fun x85 => eqD x84 x85 >>= asB)) >>= fun b86 => if b86 = true then pure (D.str "unseen") else pure j67)) >>= fun d87 => okLen (c54 ++ [d87]) >>= fun _ => pure (c54 ++ [d87])))) : PM (List D))) l56 xs25 >>= fun c54 => (((((pure (D.lst c54)) >>= fun d88 => (pure []) >>= fun s89 => pure (d88 :: s89)) >>= tupleF)) >>= fun d90 => pure (id d90)))))))
noncomputable def f_Net_len (a0 : D) : PM D := (((((((pure a0) >>= fldD cNet "own_needs")) >>= fun d1 => (pure []) >>= fun s2 => pure (d1 :: s2)) >>= lenF)) >>= fun d3 => pure (id d3))
noncomputable def f_reach_of (a0 a1 : D) : PM D := ((((pure a1) >>= fun d2 => (pure []) >>= fun s3 => pure (d2 :: s3)) >>= okL) >>= fun xs1 => ((pure (D.int 0)) >>= fun v4 => (whileS (fun (c5 : D × List D) => (noExc (((pure c5.1) >>= fun x8 => ((((pure (D.lst c5.2)) >>= fun d6 => (pure []) >>= fun s7 => pure (d6 :: s7)) >>= lenF)) >>= fun x9 => ltD x8 x9 >>= asB)))) (fun (c5 : D × List D) => ((noExc ((((((pure a0) >>= fun x12 => (((pure (D.lst c5.2)) >>= fun x10 => (pure c5.1) >>= fun x11 => getD x10 x11)) >>= fun x13 => getD x12 x13)) >>= itemsD) >>= fun l17 => compL dec1 (fun z14 => ((pure z14) >>= fun x15 => (pure (D.lst c5.2)) >>= fun x16 => notInD x15 x16 >>= asB)) (fun z14 => pure z14) l17 >>= fun r18 => pure (D.lst r18))) >>= scalL >>= fun ys19 => okLen (c5.2 ++ ys19) >>= fun _ => ((((pure c5.1) >>= fun x21 => (pure (D.int 1)) >>= fun x22 => addD x21 x22)) >>= fun v20 => pure (v20, (c5.2 ++ ys19)))) : PM (D × List D))) 20 (v4, xs1) >>= fun c5 => ((((((((pure (D.lst c5.2)) >>= fun d23 => (pure []) >>= fun s24 => pure (d23 :: s24)) >>= sortedG)) >>= fun d25 => (pure []) >>= fun s26 => pure (d25 :: s26)) >>= tupleF)) >>= fun d27 => pure (id d27)))))
noncomputable def f_all_reaches (a0 : D) : PM D := (((((((((pure a0) >>= fun d1 => (pure []) >>= fun s2 => pure (d1 :: s2)) >>= lenF)) >>= fun d3 => (pure []) >>= fun s4 => pure (d3 :: s4)) >>= rangeF1) >>= fun l11 => compL dec1 (fun z5 => pure true) (fun z5 => (((pure a0) >>= fun d8 => ((pure z5) >>= fun d6 => (pure []) >>= fun s7 => pure (d6 :: s7)) >>= fun s9 => pure (d8 :: s9)) >>= fun s10 => run0 (fn2 f_reach_of s10))) l11 >>= fun r12 => pure (D.lst r12))) >>= fun d13 => pure (id d13))
noncomputable def f_with_word (a0 a1 : D) : PM D := (((((((((pure a0) >>= fun d1 => (pure []) >>= fun s2 => pure (d1 :: s2)) >>= enumF) >>= fun l6 => compL dec2 (fun z3 => ((pure z3.2) >>= fun x4 => (pure a1) >>= fun x5 => eqD x4 x5 >>= asB)) (fun z3 => pure z3.1) l6 >>= fun r7 => pure (D.lst r7))) >>= fun d8 => (pure []) >>= fun s9 => pure (d8 :: s9)) >>= tupleF)) >>= fun d10 => pure (id d10))
noncomputable def f_candidates_of (a0 a1 : D) : PM D := (((((pure a0) >>= fun d2 => (pure []) >>= fun s3 => pure (d2 :: s3)) >>= fun s4 => run0 (fn1 f_all_reaches s4))) >>= fun v1 => (((((pure a1) >>= fun d8 => ((pure (D.str "quiet")) >>= fun d6 => (pure []) >>= fun s7 => pure (d6 :: s7)) >>= fun s9 => pure (d8 :: s9)) >>= fun s10 => run0 (fn2 f_with_word s10))) >>= fun v5 => ((((((((((((pure a0) >>= fun d11 => (pure []) >>= fun s12 => pure (d11 :: s12)) >>= lenF)) >>= fun d13 => (pure []) >>= fun s14 => pure (d13 :: s14)) >>= rangeF1) >>= fun l26 => compL dec1 (fun z15 => ((((((((((pure v5) >>= itemsD) >>= fun l21 => compL dec1 (fun z16 => pure true) (fun z16 => ((pure z15) >>= fun x19 => (((pure v1) >>= fun x17 => (pure z16) >>= fun x18 => getD x17 x18)) >>= fun x20 => inD x19 x20)) l21 >>= fun r22 => pure (D.lst r22))) >>= fun d23 => (pure []) >>= fun s24 => pure (d23 :: s24)) >>= anyF)) >>= asB)) >>= fun b25 => pure (!b25))) (fun z15 => pure z15) l26 >>= fun r27 => pure (D.lst r27))) >>= fun d28 => (pure []) >>= fun s29 => pure (d28 :: s29)) >>= tupleF)) >>= fun d30 => pure (id d30))))
noncomputable def f_Watch_candidates (a0 : D) : PM D := (((((((((pure a0) >>= fldD cWatch "own_net")) >>= fldD cNet "own_needs")) >>= fun d3 => ((((pure a0) >>= fldD cWatch "kept")) >>= fun d1 => (pure []) >>= fun s2 => pure (d1 :: s2)) >>= fun s4 => pure (d3 :: s4)) >>= fun s5 => run0 (fn2 f_candidates_of s5))) >>= fun d6 => pure (id d6))
noncomputable def f_Watch_changes (a0 : D) : PM D := (((((((pure a0) >>= fldD cWatch "past")) >>= fun d1 => (pure []) >>= fun s2 => pure (d1 :: s2)) >>= lenF)) >>= fun d3 => pure (id d3))
noncomputable def f_needed_of (a0 a1 : D) : PM D := (((((pure a0) >>= fun d4 => ((pure a1) >>= fun d2 => (pure []) >>= fun s3 => pure (d2 :: s3)) >>= fun s5 => pure (d4 :: s5)) >>= fun s6 => run0 (fn2 f_candidates_of s6))) >>= fun v1 => (((pure []) >>= okL) >>= fun xs7 => ((((((pure a1) >>= fun d10 => ((pure (D.str "alarm")) >>= fun d8 => (pure []) >>= fun s9 => pure (d8 :: s9)) >>= fun s11 => pure (d10 :: s11)) >>= fun s12 => run0 (fn2 f_with_word s12))) >>= itemsD) >>= fun l15 => forS dec1 (fun (c13 : List D) z14 => ((((((((((((pure a0) >>= fun d18 => ((pure z14) >>= fun d16 => (pure []) >>= fun s17 => pure (d16 :: s17)) >>= fun s19 => pure (d18 :: s19)) >>= fun s20 => run0 (fn2 f_reach_of s20))) >>= itemsD) >>= fun l24 => compL dec1 (fun z21 => ((pure z21) >>= fun x22 => (pure v1) >>= fun x23 => inD x22 x23 >>= asB)) (fun z21 => pure z21) l24 >>= fun r25 => pure (D.lst r25))) >>= fun d26 => (pure []) >>= fun s27 => pure (d26 :: s27)) >>= tupleF)) >>= fun d28 => okLen (c13 ++ [d28]) >>= fun _ => pure (c13 ++ [d28])) : PM (List D))) l15 xs7 >>= fun c13 => ((pure (D.lst c13)) >>= fun d29 => pure (id d29)))))
noncomputable def f_is_explained (a0 a1 : D) : PM D := ((((((pure []) >>= mkT)) >>= fun x6 => ((((pure a0) >>= fun d3 => ((pure a1) >>= fun d1 => (pure []) >>= fun s2 => pure (d1 :: s2)) >>= fun s4 => pure (d3 :: s4)) >>= fun s5 => run0 (fn2 f_needed_of s5))) >>= fun x7 => notInD x6 x7)) >>= fun d8 => pure (id d8))
noncomputable def f_Watch_explained (a0 : D) : PM D := (((((((((pure a0) >>= fldD cWatch "own_net")) >>= fldD cNet "own_needs")) >>= fun d3 => ((((pure a0) >>= fldD cWatch "kept")) >>= fun d1 => (pure []) >>= fun s2 => pure (d1 :: s2)) >>= fun s4 => pure (d3 :: s4)) >>= fun s5 => run0 (fn2 f_is_explained s5))) >>= fun d6 => pure (id d6))
noncomputable def g_need_component (a0 a1 : D) : PM Unit := (((((((((pure a1) >>= fun d9 => ((pure (D.int 0)) >>= fun d7 => (((((((pure a0) >>= fun d1 => (pure []) >>= fun s2 => pure (d1 :: s2)) >>= lenF)) >>= fun x3 => (pure (D.int 1)) >>= fun x4 => subD x3 x4)) >>= fun d5 => (pure []) >>= fun s6 => pure (d5 :: s6)) >>= fun s8 => pure (d7 :: s8)) >>= fun s10 => pure (d9 :: s10)) >>= fun s11 => run0 (fn3 f_is_between s11))) >>= asB)) >>= fun b12 => pure (!b12))) >>= fun b13 => if b13 = true then raiseP ⟨"ComponentError", []⟩ else pure ())
noncomputable def f_need_component (a0 a1 : D) : PM D := g_need_component a0 a1 >>= fun _ => pure D.non
noncomputable def f_Watch_getitem (a0 a1 : D) : PM D := (((((((((pure a0) >>= fldD cWatch "own_net")) >>= fldD cNet "own_needs")) >>= fun d3 => ((pure a1) >>= fun d1 => (pure []) >>= fun s2 => pure (d1 :: s2)) >>= fun s4 => pure (d3 :: s4)) >>= fun s5 => run0 (fn2 f_need_component s5))) >>= fun _ => ((((((pure a0) >>= fldD cWatch "kept")) >>= fun x6 => (pure a1) >>= fun x7 => getD x6 x7)) >>= fun d8 => pure (id d8)))
noncomputable def f_watched_of (a0 : D) : PM D := (((((pure a0) >>= itemsD) >>= fun l4 => compL dec1 (fun z1 => ((pure z1) >>= fun x2 => (pure (D.str "unseen")) >>= fun x3 => neD x2 x3 >>= asB)) (fun z1 => pure z1) l4 >>= fun r5 => pure (D.lst r5))) >>= fun d6 => pure (id d6))
noncomputable def f_Watch_len (a0 : D) : PM D := ((((((((((pure a0) >>= fldD cWatch "kept")) >>= fun d1 => (pure []) >>= fun s2 => pure (d1 :: s2)) >>= fun s3 => run0 (fn1 f_watched_of s3))) >>= fun d4 => (pure []) >>= fun s5 => pure (d4 :: s5)) >>= lenF)) >>= fun d6 => pure (id d6))
noncomputable def f_Watch_report (a0 : D) : PM D := ((((pure a0) >>= fldD cWatch "kept")) >>= fun d1 => pure (id d1))
noncomputable def f_Watch_repr (a0 : D) : PM D := ((((((((((((pure a0) >>= fldD cWatch "own_net")) >>= fldD cNet "own_needs")) >>= fun d4 => ((((pure a0) >>= fldD cWatch "kept")) >>= fun d2 => (pure []) >>= fun s3 => pure (d2 :: s3)) >>= fun s5 => pure (d4 :: s5)) >>= fun s6 => run0 (fn2 f_candidates_of s6))) >>= fun d7 => (pure []) >>= fun s8 => pure (d7 :: s8)) >>= lenF)) >>= fun v1 => ((fsD [(((pure a0) >>= fun d14 => objD cWatch "NAME" d14 >>= fun _ => pure (D.str "Watch"))) >>= fmtD, pure (D.str "("), (((((((((pure a0) >>= fldD cWatch "kept")) >>= fun d9 => (pure []) >>= fun s10 => pure (d9 :: s10)) >>= fun s11 => run0 (fn1 f_watched_of s11))) >>= fun d12 => (pure []) >>= fun s13 => pure (d12 :: s13)) >>= lenF)) >>= fmtD, pure (D.str " watched, "), (pure v1) >>= fmtD, pure (D.str " candidates)")] Str.empty) >>= fun d15 => pure (id d15)))
noncomputable def f_law_told (a0 : D) : PM D := (((((((((((((pure a0) >>= fun d2 => noExc (methD cWatch (fn1 f_Watch_net) d2 []))) >>= fun d3 => methD cNet (fn1 f_Net_len) d3 [] >>= lnD)) >>= fun d4 => (pure []) >>= fun s5 => pure (d4 :: s5)) >>= rangeF1) >>= fun l9 => compL dec1 (fun z6 => pure true) (fun z6 => ((pure a0) >>= fun x7 => (pure z6) >>= fun x8 => methD cWatch (fn2 f_Watch_getitem) x7 [x8])) l9 >>= fun r10 => pure (D.lst r10))) >>= fun d11 => (pure []) >>= fun s12 => pure (d11 :: s12)) >>= tupleF)) >>= fun v1 => (((((((((pure a0) >>= fun d29 => noExc (methD cWatch (fn1 f_Watch_net) d29 []))) >>= fun d30 => noExc (methD cNet (fn1 f_Net_needs) d30 []))) >>= fun d31 => ((((pure a0) >>= fun d26 => noExc (methD cWatch (fn1 f_Watch_report) d26 []))) >>= fun d27 => ((((pure a0) >>= fun d23 => noExc (methD cWatch (fn1 f_Watch_candidates) d23 []))) >>= fun d24 => ((((pure a0) >>= fun d20 => noExc (methD cWatch (fn1 f_Watch_explained) d20 []))) >>= fun d21 => ((((pure a0) >>= fun d17 => noExc (methD cWatch (fn1 f_Watch_changes) d17 []))) >>= fun d18 => ((((pure a0) >>= fun d14 => methD cWatch (fn1 f_Watch_len) d14 [] >>= lnD)) >>= fun d15 => (pure []) >>= fun s16 => pure (d15 :: s16)) >>= fun s19 => pure (d18 :: s19)) >>= fun s22 => pure (d21 :: s22)) >>= fun s25 => pure (d24 :: s25)) >>= fun s28 => pure (d27 :: s28)) >>= fun s32 => pure (d31 :: s32)) >>= mkT)) >>= fun v13 => ((((pure v13) >>= fun x38 => ((((((pure a0) >>= fun d35 => methD cWatch (fn1 f_Watch_repr) d35 [] >>= stD)) >>= fun d36 => ((pure v1) >>= fun d33 => (pure []) >>= fun s34 => pure (d33 :: s34)) >>= fun s37 => pure (d36 :: s37)) >>= mkT)) >>= fun x39 => addD x38 x39)) >>= fun d40 => pure (id d40))))
noncomputable def f_law_L1 (v6 : D) (v15 : D) (v25 : D) (c92 : Option D × Option D) (z93 : D) : PM (Lp (Option D × Option D)) := (((((((((pure v6) >>= fun x98 => (pure (D.int 5)) >>= fun x99 => fdivD x98 x99)) >>= fun x102 => (((pure (D.int 7)) >>= fun x100 => (pure z93) >>= fun x101 => mulD x100 x101)) >>= fun x103 => addD x102 x103)) >>= fun d104 => ((pure v15) >>= fun d96 => (pure []) >>= fun s97 => pure (d96 :: s97)) >>= fun s105 => pure (d104 :: s105)) >>= fun s106 => run0 (fn2 f_law_report s106))) >>= fun v95 => ((((((((pure z93) >>= fun x108 => (pure (D.int 2)) >>= fun x109 => modD x108 x109)) >>= fun x110 => (pure (D.int 0)) >>= fun x111 => eqD x110 x111 >>= asB)) >>= fun b120 => if b120 = true then (((pure v25) >>= fun d114 => ((pure v95) >>= fun d112 => (pure []) >>= fun s113 => pure (d112 :: s113)) >>= fun s115 => pure (d114 :: s115)) >>= fun s116 => newO cWatch ["own_net", "kept", "past"] (fnL2 f_Watch_init) (s116 ++ [])) else ((pure v25) >>= fun d118 => (pure v95) >>= fun d119 => newO cWatch ["own_net", "kept", "past"] (fnL2 f_Watch_init) [d118, d119]))) >>= fun v107 => ((((((((((((pure v107) >>= fun d132 => (pure []) >>= fun s133 => pure (d132 :: s133)) >>= fun s134 => run0 (fn1 f_law_told s134))) >>= fun d135 => (((((pure (D.str "Watch")) >>= fun d127 => ((pure v15) >>= fun d125 => ((pure v95) >>= fun d123 => ((pure (D.int 0)) >>= fun d121 => (pure []) >>= fun s122 => pure (d121 :: s122)) >>= fun s124 => pure (d123 :: s124)) >>= fun s126 => pure (d125 :: s126)) >>= fun s128 => pure (d127 :: s128)) >>= fun s129 => run0 (fn4 f_law_due s129))) >>= fun d130 => (pure []) >>= fun s131 => pure (d130 :: s131)) >>= fun s136 => pure (d135 :: s136)) >>= fun s137 => run0 (fn2 (f_law_is_same 5) s137))) >>= asB)) >>= fun b138 => pure (!b138))) >>= fun b139 => if b139 = true then ((pure (D.bl false)) >>= fun d140 => pure (Lp.ret d140)) else ((((((((((pure v107) >>= fun d141 => noExc (methD cWatch (fn1 f_Watch_net) d141 []))) >>= fun x142 => (pure v25) >>= fun x143 => knD cNet x143 >>= fun _ => methD cNet (fn2 f_Net_eq) x142 [x143] >>= nbD)) >>= asB)) >>= fun b145 => if b145 = true then pure true else ((((((pure v107) >>= isC tab_Careful)) >>= asB)) >>= fun b144 => if b144 = true then pure true else ((((pure v107) >>= isC tab_Small)) >>= asB)))) >>= fun b146 => if b146 = true then ((pure (D.bl false)) >>= fun d147 => pure (Lp.ret d147)) else pure (.go ((some v95), (some v107)))))))
noncomputable def f_law_L2 (v25 : D) (c169 : Unit) (z170 : D) : PM (Lp (Unit)) := ((((saidM8 ((((pure v25) >>= fun d174 => ((pure z170) >>= fun d172 => (pure []) >>= fun s173 => pure (d172 :: s173)) >>= fun s175 => pure (d174 :: s175)) >>= fun s176 => newO cWatch ["own_net", "kept", "past"] (fnL2 f_Watch_init) (s176 ++ [])))) >>= fun x178 => (pure (D.str "report")) >>= fun x179 => neD x178 x179 >>= asB)) >>= fun b180 => if b180 = true then ((pure (D.bl false)) >>= fun d181 => pure (Lp.ret d181)) else pure (.go ()))
noncomputable def f_law_L3 (v155 : D) (c193 : Unit) (z194 : D) : PM (Lp (Unit)) := ((((saidM8 ((((pure z194) >>= fun d199 => ((pure v155) >>= fun d197 => (pure []) >>= fun s198 => pure (d197 :: s198)) >>= fun s200 => pure (d199 :: s200)) >>= fun s201 => newO cWatch ["own_net", "kept", "past"] (fnL2 f_Watch_init) (s201 ++ [])))) >>= fun d203 => (pure []) >>= fun s204 => pure (d203 :: s204)) >>= okL) >>= fun xs196 => ((saidM8 ((((pure z194) >>= fun d207 => ((pure (D.int 0)) >>= fun d205 => (pure []) >>= fun s206 => pure (d205 :: s206)) >>= fun s208 => pure (d207 :: s208)) >>= fun s209 => newO cWatch ["own_net", "kept", "past"] (fnL2 f_Watch_init) (s209 ++ [])))) >>= fun d211 => okLen (xs196 ++ [d211]) >>= fun _ => ((saidM8 ((((pure z194) >>= fun d212 => (pure []) >>= fun s213 => pure (d212 :: s213)) >>= fun s214 => newO cWatch ["own_net", "kept", "past"] (fnL2 f_Watch_init) (s214 ++ [D.non])))) >>= fun d216 => okLen ((xs196 ++ [d211]) ++ [d216]) >>= fun _ => (((noExc (((pure (D.lst ((xs196 ++ [d211]) ++ [d216]))) >>= fun x221 => ((((((pure (D.str "net")) >>= fun d217 => (pure []) >>= fun s218 => pure (d217 :: s218)) >>= mkL)) >>= fun x219 => (pure (D.int 3)) >>= fun x220 => mulL x219 x220)) >>= fun x222 => neD x221 x222 >>= asB)))) >>= fun b223 => if b223 = true then ((pure (D.bl false)) >>= fun d224 => pure (Lp.ret d224)) else pure (.go ())))))
noncomputable def f_law_L4 (v6 : D) (c12 : Option D × Option D) (z13 : D) : PM (Lp (Option D × Option D)) := (((((((pure v6) >>= fun x20 => (((pure (D.int 31)) >>= fun x18 => (pure z13) >>= fun x19 => mulD x18 x19)) >>= fun x21 => addD x20 x21)) >>= fun d22 => ((pure (D.int 8)) >>= fun d16 => (pure []) >>= fun s17 => pure (d16 :: s17)) >>= fun s23 => pure (d22 :: s23)) >>= fun s24 => run0 (fn2 f_law_net s24))) >>= fun v15 => ((((((((pure v15) >>= fun d35 => (pure []) >>= fun s36 => pure (d35 :: s36)) >>= fun s37 => run0 (fn1 f_law_made s37))) >>= fun d38 => (((((((pure (D.str "unseen")) >>= fun d27 => (pure []) >>= fun s28 => pure (d27 :: s28)) >>= mkT)) >>= fun x31 => ((((pure v15) >>= fun d29 => (pure []) >>= fun s30 => pure (d29 :: s30)) >>= lenF)) >>= fun x32 => mulG x31 x32)) >>= fun d33 => (pure []) >>= fun s34 => pure (d33 :: s34)) >>= fun s39 => pure (d38 :: s39)) >>= mkT)) >>= unp2 fun v25 v26 => (((((((((((((((pure v25) >>= fun d51 => (pure []) >>= fun s52 => pure (d51 :: s52)) >>= fun s53 => newO cWatch ["own_net", "kept", "past"] (fnL2 f_Watch_init) (s53 ++ [D.non]))) >>= fun d55 => (pure []) >>= fun s56 => pure (d55 :: s56)) >>= fun s57 => run0 (fn1 f_law_told s57))) >>= fun d58 => (((((pure (D.str "Watch")) >>= fun d46 => ((pure v15) >>= fun d44 => ((pure v26) >>= fun d42 => ((pure (D.int 0)) >>= fun d40 => (pure []) >>= fun s41 => pure (d40 :: s41)) >>= fun s43 => pure (d42 :: s43)) >>= fun s45 => pure (d44 :: s45)) >>= fun s47 => pure (d46 :: s47)) >>= fun s48 => run0 (fn4 f_law_due s48))) >>= fun d49 => (pure []) >>= fun s50 => pure (d49 :: s50)) >>= fun s59 => pure (d58 :: s59)) >>= fun s60 => run0 (fn2 (f_law_is_same 5) s60))) >>= asB)) >>= fun b61 => pure (!b61))) >>= fun b62 => if b62 = true then ((pure (D.bl false)) >>= fun d63 => pure (Lp.ret d63)) else (((((((((((((((pure v25) >>= fun d77 => ((pure D.non) >>= fun d75 => (pure []) >>= fun s76 => pure (d75 :: s76)) >>= fun s78 => pure (d77 :: s78)) >>= fun s79 => newO cWatch ["own_net", "kept", "past"] (fnL2 f_Watch_init) (s79 ++ []))) >>= fun d81 => (pure []) >>= fun s82 => pure (d81 :: s82)) >>= fun s83 => run0 (fn1 f_law_told s83))) >>= fun d84 => (((((pure (D.str "Watch")) >>= fun d70 => ((pure v15) >>= fun d68 => ((pure v26) >>= fun d66 => ((pure (D.int 0)) >>= fun d64 => (pure []) >>= fun s65 => pure (d64 :: s65)) >>= fun s67 => pure (d66 :: s67)) >>= fun s69 => pure (d68 :: s69)) >>= fun s71 => pure (d70 :: s71)) >>= fun s72 => run0 (fn4 f_law_due s72))) >>= fun d73 => (pure []) >>= fun s74 => pure (d73 :: s74)) >>= fun s85 => pure (d84 :: s85)) >>= fun s86 => run0 (fn2 (f_law_is_same 5) s86))) >>= asB)) >>= fun b87 => pure (!b87))) >>= fun b88 => if b88 = true then ((pure (D.bl false)) >>= fun d89 => pure (Lp.ret d89)) else ((((pure (D.int 4)) >>= fun d90 => (pure []) >>= fun s91 => pure (d90 :: s91)) >>= rangeF1) >>= fun l94 => forL dec1 (fun (c92 : Option D × Option D) z93 => (f_law_L1 v6 v15 v25 c92 z93 : PM (Lp (Option D × Option D)))) l94 (c12.1, c12.2) >>= lpK Lp.ret fun c92 => optK c92.2 fun v148 => ((((((pure v148) >>= fun d149 => objD cWatch "trying" d149 >>= fun _ => methD cWatch (fn1 f_Watch_trying) d149 [])) >>= fun x151 => (pure D.non) >>= fun x152 => isND x151 x152 >>= asB)) >>= fun b153 => if b153 = true then ((pure (D.bl false)) >>= fun d154 => pure (Lp.ret d154)) else optK c92.1 fun v155 => ((((((((pure v155) >>= fun d156 => (pure []) >>= fun s157 => pure (d156 :: s157)) >>= fun s158 => run0 (fn1 f_law_no_reports s158))) >>= fun x167 => ((((pure v148) >>= fun d165 => (((((pure v148) >>= fun d161 => (pure []) >>= fun s162 => pure (d161 :: s162)) >>= mkT)) >>= fun d163 => ((pure v25) >>= fun d159 => (pure []) >>= fun s160 => pure (d159 :: s160)) >>= fun s164 => pure (d163 :: s164)) >>= fun s166 => pure (d165 :: s166)) >>= mkL)) >>= fun x168 => addD x167 x168)) >>= itemsD) >>= fun l171 => forL dec1 (fun (c169 : Unit) z170 => (f_law_L2 v25 c169 z170 : PM (Lp (Unit)))) l171 () >>= lpK Lp.ret fun c169 => ((((((((pure v25) >>= fun d182 => (pure []) >>= fun s183 => pure (d182 :: s183)) >>= fun s184 => run0 (fn1 f_law_no_nets s184))) >>= fun x191 => ((((pure v148) >>= fun d189 => (((((pure v148) >>= fun d185 => (pure []) >>= fun s186 => pure (d185 :: s186)) >>= mkT)) >>= fun d187 => (pure []) >>= fun s188 => pure (d187 :: s188)) >>= fun s190 => pure (d189 :: s190)) >>= mkL)) >>= fun x192 => addD x191 x192)) >>= itemsD) >>= fun l195 => forL dec1 (fun (c193 : Unit) z194 => (f_law_L3 v155 c193 z194 : PM (Lp (Unit)))) l195 () >>= lpK Lp.ret fun c193 => pure (.go ((some v155), (some v148)))))))))))
noncomputable def f_law_L5 (ns : List Int) (c3 : Option D × Option D) (z4 : D) : PM (Lp (Option D × Option D)) := (((((pure z4) >>= fun d7 => (pure []) >>= fun s8 => pure (d7 :: s8)) >>= fun s9 => run0 (fn1 (f_law_cell ns) s9))) >>= fun v6 => ((((pure (D.int 3)) >>= fun d10 => (pure []) >>= fun s11 => pure (d10 :: s11)) >>= rangeF1) >>= fun l14 => forL dec1 (fun (c12 : Option D × Option D) z13 => (f_law_L4 v6 c12 z13 : PM (Lp (Option D × Option D)))) l14 (c3.1, c3.2) >>= lpK Lp.ret fun c12 => pure (.go (c12.1, c12.2))))
noncomputable def f_law (ns : List Int) : PM D := ((((pure (D.int 3)) >>= fun d1 => (pure []) >>= fun s2 => pure (d1 :: s2)) >>= rangeF1) >>= fun l5 => forL dec1 (fun (c3 : Option D × Option D) z4 => (f_law_L5 ns c3 z4 : PM (Lp (Option D × Option D)))) l5 (none, none) >>= lpK id fun c3 => ((pure (D.bl true)) >>= fun d225 => pure (id d225)))
end Lw
namespace Lw
open PySem EV
theorem isF_int (x : Int) : isF "int" (.int x) = pure (.bl true) := rfl
theorem isF_intB (x : Int) : isF "bool" (.int x) = pure (.bl false) := rfl
theorem isF_tup (xs : List D) : isF "tuple" (.tup xs) = pure (.bl true) := rfl
theorem asB_bl (b : Bool) : asB (.bl b) = pure b := rfl
theorem le_int (a b : Int) : leD (.int a) (.int b) = pure (.bl (decide (a ≤ b))) := rfl
theorem lt_int (a b : Int) : ltD (.int a) (.int b) = pure (.bl (decide (a < b))) := rfl
theorem ge_int (a b : Int) : geD (.int a) (.int b) = pure (.bl (decide (b ≤ a))) := rfl
theorem add_int (a b : Int) : addD (.int a) (.int b) = pure (.int (a + b)) := rfl
theorem sub_int (a b : Int) : subD (.int a) (.int b) = pure (.int (a - b)) := rfl
theorem len_tup (xs : List D) : lenF [.tup xs] = pure (.int xs.length) := rfl
theorem len_lst (xs : List D) : lenF [.lst xs] = pure (.int xs.length) := rfl
theorem items_tup (xs : List D) : itemsD (.tup xs) = pure xs := rfl
theorem items_lst (xs : List D) : itemsD (.lst xs) = pure xs := rfl
theorem fn1_eq (g : D → PM D) (a : D) : fn1 g [a] = g a := rfl
theorem fn2_eq (g : D → D → PM D) (a b : D) : fn2 g [a, b] = g a b := rfl
theorem fn3_eq (g : D → D → D → PM D) (a b c : D) : fn3 g [a, b, c] = g a b c := rfl
theorem between (x a b : Int) : f_is_between (.int x) (.int a) (.int b) = pure (.bl (decide (a ≤ x ∧ x ≤ b))) := by
  simp only [f_is_between, pure_bind, isF_int, isF_intB, asB_bl, le_int, if_true, Bool.not_false]
  by_cases h : a ≤ x <;> simp [h]
noncomputable def Rising (n : Nat) (r : List Int) : Prop := (∀ x ∈ r, 0 ≤ x ∧ x < n) ∧ r.Pairwise (· < ·)
theorem blsF (xs : List Bool) : allF [.lst (xs.map D.bl)] = pure (.bl (xs.all id)) := by
  show (match blsOf (xs.map D.bl) with | some bs => pure (.bl (bs.all id)) | none => bad : PM D) = _
  rw [blsOf_map]
theorem zipT_eq : ∀ (a b : List Int), zipT (a.map D.int) (b.map D.int) = (a.zip b).map fun p => .tup [.int p.1, .int p.2]
  | [], _ => by simp [zipT]
  | _ :: _, [] => by simp [zipT]
  | x :: a, y :: b => by simp [zipT, zipT_eq a b]
theorem adj_asc : ∀ {r : List Int}, (∀ p ∈ r.zip (r.drop 1), p.1 < p.2) → r.Pairwise (· < ·)
  | [], _ => .nil
  | [x], _ => by simp
  | x :: y :: r, h => by
    have h1 : x < y := h (x, y) (by simp)
    have ih := adj_asc (r := y :: r) fun p m => h p (by
      simp only [List.drop_succ_cons, List.drop_zero] at m ⊢
      exact List.mem_cons_of_mem _ m)
    refine List.pairwise_cons.mpr ⟨fun z m => ?_, ih⟩
    rcases List.mem_cons.mp m with rfl | m
    · exact h1
    · exact Int.lt_trans h1 ((List.pairwise_cons.mp ih).1 z m)
theorem asc_adj : ∀ {r : List Int}, r.Pairwise (· < ·) → ∀ p ∈ r.zip (r.drop 1), p.1 < p.2
  | [], _, p, m => by simp at m
  | [x], _, p, m => by simp at m
  | x :: y :: r, h, p, m => by
    simp only [List.drop_succ_cons, List.drop_zero, List.zip_cons_cons] at m
    have q := List.pairwise_cons.mp h
    rcases List.mem_cons.mp m with rfl | m
    · exact q.1 y List.mem_cons_self
    · exact asc_adj q.2 p (by simpa using m)
theorem cut1 (xs : List D) : cutD xs (some 1) none = xs.drop 1 := by
  have e : HT.sIx xs.length 0 (some 1) = min 1 xs.length := HT.sIx_nat _ _ 1
  unfold EV.cutD
  rw [e, HT.sIx_none]
  cases xs with
  | nil => rfl
  | cons x r =>
    have e : min 1 (x :: r).length = 1 := by simp
    rw [e]
    simp
theorem slice1 {r : List Int} (h : r.length ≤ lim) : sliceD (tI r) (some 1) none = pure (tI (r.drop 1)) := by
  show mkT (cutD (r.map D.int) (some 1) none) = _
  rw [cut1, ← List.map_drop]
  exact mkT_ok (by rw [List.length_map, List.length_drop]; omega)
theorem zip_ints (a b : List Int) : zipF [tI a, tI b] = pure ((a.zip b).map fun p => .tup [.int p.1, .int p.2]) := by
  show (pure (zipT (a.map D.int) (b.map D.int)) : PM (List D)) = _
  rw [zipT_eq]
theorem run0_p (d : D) : run0 (pure d : PM D) = pure d := rfl
theorem rising (n : Nat) (r : List Int) (hr : r.length ≤ lim) : ∃ b, f_is_rising (.int n) (tI r) = pure (.bl b) ∧ (b = true ↔ Rising n r) := by
  have h1 : ∀ c : D → PM Bool, (∀ z, c z = pure true) → compL dec1 c (fun z => run0 (fn3 f_is_between [z, .int 0, .int ((n : Int) - 1)])) (r.map D.int) = pure ((r.map fun x => decide (0 ≤ x ∧ x ≤ (n : Int) - 1)).map D.bl) := fun c hc => by
    rw [compIm (fun x => .bl (decide (0 ≤ x ∧ x ≤ (n : Int) - 1))) hr hc (fun x _ => by rw [fn3_eq, between]; rfl), List.map_map]
    rfl
  have h2 : compL dec2 (fun z => pure true) (fun z => ltD z.1 z.2) ((r.zip (r.drop 1)).map fun p => .tup [.int p.1, .int p.2]) = pure (((r.zip (r.drop 1)).map fun p => decide (p.1 < p.2)).map D.bl) := by
    rw [compPm (zs := r.zip (r.drop 1)) (fun p => (D.int p.1, D.int p.2)) (fun p => .bl (decide (p.1 < p.2))) (by rw [List.map_map]; rfl)
      (by rw [List.length_map, List.length_zip]; omega) (fun _ => rfl) (fun z m => rfl), List.map_map]
    rfl
  simp only [f_is_rising, pure_bind, isF_tup, asB_bl, items_tup, Bool.not_true, if_false, sub_int, slice1 hr, zip_ints, asI, id]
  rw [h1 _ fun z => rfl, h2]
  simp only [pure_bind, blsF, asB_bl]
  by_cases g : ((r.map fun x => decide (0 ≤ x ∧ x ≤ (n : Int) - 1)).all id) = true
  · rw [g]
    refine EV.in1_2 _ rfl ?_
    have g' : ∀ x ∈ r, 0 ≤ x ∧ x ≤ (n : Int) - 1 := by simpa using g
    rw [List.all_map]
    constructor
    · intro z
      refine ⟨fun x m => ⟨(g' x m).1, by have := (g' x m).2; omega⟩, adj_asc fun p m => ?_⟩
      have := List.all_eq_true.mp z p m
      simpa using this
    · intro z
      refine List.all_eq_true.mpr fun p m => ?_
      simpa using asc_adj z.2 p m
  · have g2 : ((r.map fun x => decide (0 ≤ x ∧ x ≤ (n : Int) - 1)).all id) = false := by simpa using g
    rw [g2]
    refine EV.in1_2 _ rfl ?_
    constructor
    · intro z
      exact EV.nnB z
    · intro z
      exact absurd (by
        rw [List.all_map]
        refine List.all_eq_true.mpr fun x m => ?_
        have := z.1 x m
        simp
        omega) g
end Lw
namespace Lw
open PySem EV
noncomputable abbrev Nt := List (List Int)
noncomputable abbrev dN (N : Nt) : D := .tup (N.map tI)
structure Net (N : Nt) : Prop where
  lo : 1 ≤ N.length
  hi : N.length ≤ 8
  row : ∀ (i : Nat) r, N[i]? = some r → Rising N.length r ∧ (i : Int) ∉ r
section
variable {N : Nt}
theorem Net.lim (h : Net N) : N.length ≤ EV.lim := Nat.le_trans h.hi (by decide)
theorem Rising.len {n : Nat} {r : List Int} (h : Rising n r) : r.length ≤ n := nodup_len (asc_nodup h.2) h.1
theorem Net.ixr (h : Net N) {i : Int} (h0 : 0 ≤ i) (h1 : i < N.length) : Rising N.length (ix N i) ∧ i ∉ ix N i := by
  have z := h.row i.toNat _ (ix_get h0 h1)
  rw [show ((i.toNat : Nat) : Int) = i by omega] at z
  exact z
theorem Net.rlen (h : Net N) {r : List Int} (m : r ∈ N) : r.length ≤ 8 := by
  refine EV.el1_1 (List.mem_iff_getElem?.mp m) fun i hi => ?_
  have z := (h.row i r hi).1.len
  have := h.hi
  exact Nat.le_trans (by assumption) (by assumption)
theorem is_net (h : Net N) : f_is_net (dN N) = pure (.bl true) := by
  have hl := h.hi
  have lo := h.lo
  have e1 : decide ((1 : Int) ≤ (N.length : Int)) = true := decide_eq_true (by exact Int.ofNat_lt.mpr (by assumption))
  have e2 : decide ((N.length : Int) ≤ 8) = true := decide_eq_true (by exact Int.ofNat_le.mpr (by assumption))
  simp only [f_is_net, pure_bind, isF_tup, asB_bl, len_tup, List.length_map, le_int, e1, e2, if_true, Bool.not_true, Bool.false_eq_true, if_false]
  show ((pure (pairsFrom 0 (N.map tI)) : PM (List D)) >>= _) = _
  rw [pure_bind, forL_goP (κ := List Int × Nat) (zs := N.zipIdx) (fun z => (D.int z.2, tI z.1)) (by rw [pairs_dec, List.zipIdx_map, List.map_map]; rfl) (fun z m => ?_)]
  · rfl
  · obtain ⟨r, i⟩ := z
    have hi : N[i]? = some r := by simpa [List.mem_zipIdx_iff_getElem?] using m
    refine EV.el0_2 (h.row i r hi) fun h1 h2 => ?_
    (refine EV.el1_2 (rising N.length r (by have := h1.len; show _ ≤ 1000000; omega)) fun b e q => ?_)
    have eb : b = true := q.mpr h1
    subst eb
    simp only [fn2_eq, e, run0_p, pure_bind, asB_bl, Bool.not_true, Bool.false_eq_true, if_false, inT, decide_eq_false h2]
inductive Reach (N : Nt) (c : Int) : Int → Prop
  | refl : Reach N c c
  | step {x y : Int} : Reach N c x → y ∈ ix N x → Reach N c y
theorem Net.reach_in (h : Net N) {c x : Int} (h0 : 0 ≤ c ∧ c < N.length) (r : Reach N c x) : 0 ≤ x ∧ x < N.length := by
  induction r with
  | refl => exact h0
  | step _ m ih => exact (h.ixr ih.1 ih.2).1.1 _ m
noncomputable def setOf (n : Nat) (P : Int → Prop) : List Int := (iota n).filter fun x => @decide (P x) (Classical.propDecidable _)
theorem mem_setOf {n : Nat} {P : Int → Prop} {x : Int} : x ∈ setOf n P ↔ (0 ≤ x ∧ x < n) ∧ P x := by
  unfold setOf
  rw [List.mem_filter, mem_iota]
  exact and_congr_right fun _ => @decide_eq_true_iff (P x) (Classical.propDecidable _)
theorem setOf_asc (n : Nat) (P : Int → Prop) : (setOf n P).Pairwise (· < ·) := (iota_asc n).filter _
theorem setOf_len (n : Nat) (P : Int → Prop) : (setOf n P).length ≤ n := by
  unfold setOf
  exact Nat.le_trans (List.length_filter_le _ _) (by rw [len_iota]; exact Nat.le_refl _)
theorem eq_setOf {n : Nat} {P : Int → Prop} {l : List Int} (h : l.Pairwise (· < ·)) (e : ∀ x, x ∈ l ↔ (0 ≤ x ∧ x < n) ∧ P x) : l = setOf n P :=
  asc_eq h (setOf_asc n P) fun k => by rw [e, mem_setOf]
theorem filter_setOf {n : Nat} {P : Int → Prop} {b : Int → Bool} (e : ∀ x : Int, 0 ≤ x → x < n → (b x = true ↔ P x)) : (iota n).filter b = setOf n P :=
  eq_setOf ((iota_asc n).filter _) fun x => by
    rw [List.mem_filter, mem_iota]
    constructor
    · rintro ⟨h1, h2⟩
      exact ⟨h1, (e x h1.1 h1.2).mp h2⟩
    · rintro ⟨h1, h2⟩
      exact ⟨h1, (e x h1.1 h1.2).mpr h2⟩
/-- what c reaches -/
noncomputable def reachL (N : Nt) (c : Int) : List Int := setOf N.length (Reach N c)
theorem mem_reachL (h : Net N) {c x : Int} (h0 : 0 ≤ c) (h1 : c < N.length) : x ∈ reachL N c ↔ Reach N c x := by
  unfold reachL
  rw [mem_setOf]
  exact ⟨fun z => z.2, fun z => ⟨h.reach_in ⟨h0, h1⟩ z, z⟩⟩
/-- a found list: some of what c reaches -/
structure Fd (N : Nt) (c : Int) (xs : List Int) : Prop where
  nd : xs.Nodup
  rc : ∀ x ∈ xs, Reach N c x
  c : c ∈ xs
noncomputable def Closed (N : Nt) (xs : List Int) : Prop := ∀ x ∈ xs, ∀ y ∈ ix N x, y ∈ xs
theorem Fd.done {c : Int} {xs : List Int} (f : Fd N c xs) (k : Closed N xs) (x : Int) : x ∈ xs ↔ Reach N c x := by
  refine ⟨f.rc x, fun r => ?_⟩
  induction r with
  | refl => exact f.c
  | step _ m ih => exact k _ ih _ m
theorem Fd.len {c : Int} {xs : List Int} (f : Fd N c xs) (h : Net N) (h0 : 0 ≤ c) (h1 : c < N.length) : xs.length ≤ N.length := nodup_len f.nd fun x m => h.reach_in ⟨h0, h1⟩ (f.rc x m)
theorem Fd.sorted {c : Int} {xs : List Int} (f : Fd N c xs) (h : Net N) (h0 : 0 ≤ c) (h1 : c < N.length) (k : Closed N xs) : (sortedG [lI xs] >>= fun d => tupleF [d]) = pure (tI (reachL N c)) := by
  have hl := f.len h h0 h1
  have hn := h.hi
  have e : sortI xs = reachL N c := eq_setOf (sortI_nodup f.nd) fun x => by
    rw [(sortI_perm xs).mem_iff, f.done k x]
    exact ⟨fun z => ⟨h.reach_in ⟨h0, h1⟩ z, z⟩, fun z => z.2⟩
  have e2 : (reachL N c).length ≤ 8 := Nat.le_trans (setOf_len _ _) hn
  rw [sortedI (by show _ ≤ 1000000; omega), pure_bind, e, tupleL (by rw [List.length_map]; show _ ≤ 1000000; exact EV.w_le8 (by assumption))]
theorem reach_ok (h : Net N) {c : Int} (h0 : 0 ≤ c) (h1 : c < N.length) : f_reach_of (dN N) (.int c) = pure (tI (reachL N c)) := by
  have hn := h.hi
  have e0 : okL [D.int c] = pure [D.int c] := rfl
  simp only [f_reach_of, pure_bind, e0, id]
  refine while_then
    (fun p => ∃ (k : Nat) (xs : List Int), p = (.int k, xs.map .int) ∧ Fd N c xs ∧ k ≤ xs.length ∧ ∀ i x, i < k → xs[i]? = some x → ∀ y ∈ ix N x, y ∈ xs)
    (fun p => match p.1 with | .int k => 9 - k.toNat | _ => 0)
    (fun p => ∃ xs : List Int, p.2 = xs.map .int ∧ Fd N c xs ∧ Closed N xs)
    (fun p hp => by
      (refine EV.el2_2 hp ?_; try clear hp; intro k xs q257_ q258_; obtain rfl := q257_; (refine EV.el0_3 q258_ ?_; try clear q258_; intro f hk hc))
      have hl := f.len h h0 h1
      dsimp only
      simp only [pure_bind, len_lst, lt_int, asB_bl, noExc_pure, List.length_map]
      by_cases g : k < xs.length
      · refine .inr ⟨by rw [decide_eq_true (by exact Int.ofNat_lt.mpr (by assumption))], ?_⟩
        have hx := f.rc _ (ix_mem (l := xs) (i := k) (by exact Int.natCast_nonneg _) (by exact Int.ofNat_lt.mpr (by assumption)))
        have hin := h.reach_in ⟨h0, h1⟩ hx
        have hr := h.ixr hin.1 hin.2
        rw [getL (l := xs) (i := k) (by exact Int.natCast_nonneg _) (by exact Int.ofNat_lt.mpr (by assumption)), pure_bind, getT (l := N) hin.1 hin.2, pure_bind, items_tup, pure_bind,
          compI (fun y => !decide (y ∈ xs)) D.int (by have := hr.1.len; show _ ≤ 1000000; omega) (fun y _ => by rw [ninL, pure_bind, asB_bl]) (fun _ _ _ => rfl), pure_bind, noExc_pure, pure_bind, scal_ints, pure_bind]
        have f2 : Fd N c (xs ++ (ix N (ix xs k)).filter fun y => !decide (y ∈ xs)) := ⟨by
          rw [List.nodup_append]
          refine ⟨f.nd, (asc_nodup hr.1.2).filter _, fun a ha b hb e => ?_⟩
          subst e
          simp [ha] at hb, fun y m => by
          rcases List.mem_append.mp m with m | m
          · exact f.rc y m
          · exact .step hx (List.mem_filter.mp m).1, List.mem_append_left _ f.c⟩
        have hl2 := f2.len h h0 h1
        rw [← List.map_append, okLen_ok (by rw [List.length_map]; show _ ≤ 1000000; omega), pure_bind, add_int, pure_bind]
        refine EV.in1_3 _ rfl (⟨k + 1, _, rfl, f2, by rw [List.length_append]; omega, fun i x hi e y m => ?_⟩) ?_
        · rw [List.getElem?_append_left (by exact Nat.lt_of_lt_of_le (by assumption) (by assumption))] at e
          by_cases gi : i < k
          · exact List.mem_append_left _ (hc i x gi e y m)
          · have : i = k := by exact EV.w_split (by assumption) (by assumption)
            subst this
            have ex : x = ix xs (i : Int) := by
              have z := ix_get (l := xs) (i := (i : Int)) (by exact Int.natCast_nonneg _) (by exact Int.ofNat_lt.mpr (by assumption))
              rw [show ((i : Int)).toNat = i by rfl, e] at z
              exact Option.some.inj z
            rw [← ex]
            by_cases gm : y ∈ xs
            · exact List.mem_append_left _ gm
            · exact List.mem_append_right _ (List.mem_filter.mpr ⟨m, by simp [gm]⟩)
        · show 9 - (k + 1) < 9 - k
          exact Nat.sub_lt_sub_left (by omega) (Nat.lt_succ_self k)
      · refine .inl ⟨by rw [decide_eq_false (by omega)], xs, rfl, f, fun x m y my => ?_⟩
        refine EV.el1_1 (List.mem_iff_getElem?.mp m) fun i hi => ?_
        exact hc i x (by have := (List.getElem?_eq_some_iff.mp hi).1; omega) hi y my)
    ⟨0, [c], rfl, ⟨by simp, fun x m => by rw [List.mem_singleton.mp m]; exact .refl, by simp⟩, by simp, fun i x hi => by exact absurd (by assumption) (Nat.not_lt_zero _)⟩ (by show 9 - _ < 20; decide) (fun p hp => ?_)
  (refine EV.el1_3 hp ?_; try clear hp; intro xs e2 f k)
  have e3 := f.sorted h h0 h1 k
  rw [e2]
  simp only [bind_assoc, pure_bind, bind_pure]
  exact e3
end
end Lw
namespace Lw
open PySem EV
theorem pairs_ix {α : Type} [Inhabited α] (l : List α) (f : α → D) : (pairsFrom 0 (l.map f)).map dec2 = (iota l.length).map fun i => some (D.int i, f (ix l i)) := by
  rw [pairs_dec]
  refine List.ext_getElem? fun i => ?_
  rw [List.getElem?_map, List.getElem?_map, List.getElem?_zipIdx, List.getElem?_map]
  by_cases h : i < l.length
  · rw [iota_get h]
    have z := ix_get (l := l) (i := (i : Int)) (by exact Int.natCast_nonneg _) (by exact Int.ofNat_lt.mpr (by assumption))
    rw [show ((i : Int)).toNat = i by rfl] at z
    rw [z]
    simp
  · have e1 : l[i]? = none := List.getElem?_eq_none (by exact Nat.not_lt.mp (by assumption))
    have e2 : (iota l.length)[i]? = none := List.getElem?_eq_none (by rw [len_iota]; exact Nat.not_lt.mp (by assumption))
    rw [e1, e2]
    rfl
section
variable {N : Nt}
theorem reachL_len (h : Net N) (c : Int) : (reachL N c).length ≤ 8 := Nat.le_trans (setOf_len _ _) h.hi
theorem all_reaches (h : Net N) : f_all_reaches (dN N) = pure (.lst ((iota N.length).map fun c => tI (reachL N c))) := by
  have hl := h.lim
  simp only [f_all_reaches, pure_bind, len_tup, List.length_map, range1 hl, id, fn2_eq]
  rw [compIm (fun c => tI (reachL N c)) (by rw [len_iota]; exact hl) (fun _ => rfl) fun c m => by
    have m := mem_iota.mp m
    rw [reach_ok h m.1 m.2]
    rfl]
  rfl
end
end Lw
namespace Lw
open PySem EV
section
variable {N : Nt}
theorem need_comp {c : Int} (h0 : 0 ≤ c) (h1 : c < N.length) : f_need_component (dN N) (.int c) = pure .non := by
  simp only [f_need_component, g_need_component, pure_bind, len_tup, sub_int, fn3_eq, between, run0_p, asB_bl, List.length_map]
  rw [decide_eq_true (by omega)]
  rfl
end
end Lw
namespace Lw
open PySem EV
noncomputable def Pen (k : Nat) (s : List Int) : Prop := ∃ a b c, s = [a, b, c] ∧ 0 ≤ b ∧ b < 1000000007 ∧ 0 ≤ c ∧ c ≤ k
theorem Pen.mono {k k' : Nat} {s : List Int} (h : Pen k s) (e : k ≤ k') : Pen k' s := by
  (refine EV.el3_2 h ?_; try clear h; intro a b c q259_ q260_; obtain rfl := q259_; (refine EV.el0_4 q260_ ?_; try clear q260_; intro h1 h2 h3 h4))
  exact EV.in3_5 a b c rfl h1 h2 h3 (by omega)
theorem set2 (a b c d : Int) : penSet (.int 2) (.int d) [a, b, c] = .ok () [a, b, d] := rfl
theorem mul_ok {i j : Int} (h : L2.CMul i j) : mulD (.int i) (.int j) = pure (.int (i * j)) := if_pos h
theorem mod_ok {i j : Int} (h : j ≠ 0) : modD (.int i) (.int j) = pure (.int (i.fmod j)) := if_pos h
theorem fdiv_ok {i j : Int} (h : L2.CDivN i j) : fdivD (.int i) (.int j) = pure (.int (i.fdiv j)) := if_pos h
theorem fmod_bd {i j : Int} (h : 0 < j) : 0 ≤ i.fmod j ∧ i.fmod j < j := ⟨Int.fmod_nonneg_of_pos i h, Int.fmod_lt_of_pos i h⟩
theorem mul_l {i j : Int} (h1 : autoParam (-(2 ^ 64) < i) EV.tac12) (h2 : autoParam (i < 2 ^ 64) EV.tac12) : mulD (.int i) (.int j) = pure (.int (i * j)) := mul_ok (.inl ⟨h1, h2⟩)
theorem mul_r {i j : Int} (h1 : autoParam (-(2 ^ 64) < j) EV.tac12) (h2 : autoParam (j < 2 ^ 64) EV.tac12) : mulD (.int i) (.int j) = pure (.int (i * j)) := mul_ok (.inr ⟨h1, h2⟩)
/-- a row that i may have -/
noncomputable def Row (n : Nat) (i : Int) (l : List Int) : Prop := Rising n l ∧ i ∉ l
theorem Row.sub {n : Nat} {i : Int} {l m : List Int} (h : Row n i l) (s : m.Sublist l) : Row n i m :=
  ⟨⟨fun x hx => h.1.1 x (s.subset hx), h.1.2.sublist s⟩, fun hx => h.2 (s.subset hx)⟩
theorem filtI {c : D → PM Bool} (b : Int → Bool) {ns : List Int} (hl : ns.length ≤ lim) (hc : ∀ n ∈ ns, c (.int n) = pure (b n)) : compL dec1 c (fun z => pure z) (ns.map D.int) = pure ((ns.filter b).map D.int) := compI b D.int hl hc fun _ _ _ => rfl
end Lw
namespace Lw
open PySem EV
theorem Net.sm {N : Nt} (h : Net N) : Sm 2 72 (dN N) := .tup (c := 8) (fun x m => by
  (refine EV.el1_2 (List.mem_map.mp m) fun r hr q261_ => ?_; obtain rfl := q261_)
  refine EV.el1_1 (List.mem_iff_getElem?.mp hr) fun i hi => ?_
  have z := h.row i r hi
  have hn := h.hi
  exact (SmI.smT fun y my => by have := z.1.1 y my; omega).mono (by decide) (h.rlen hr)) (by rw [List.length_map]; have := h.hi; omega)
end Lw
namespace Lw
open PySem EV
theorem forL_goD {body : Unit → D → PM (Lp Unit)} {ds : List D} (h : ∀ d ∈ ds, body () d = pure (.go ())) : forL dec1 body ds () = pure (.go ()) := by
  induction ds with
  | nil => rfl
  | cons n ns ih =>
    show (body () n >>= _) = _
    rw [h n List.mem_cons_self, pure_bind]
    exact ih fun m hm => h m (List.mem_cons_of_mem _ hm)
noncomputable def meets (xs ys : List Int) : Bool := xs.any fun x => decide (x ∈ ys)
theorem meets_iff {xs ys : List Int} : meets xs ys = true ↔ ∃ x ∈ xs, x ∈ ys := by
  unfold meets
  rw [List.any_eq_true]
  constructor
  · rintro ⟨x, h1, h2⟩
    exact EV.in1_2 x h1 (of_decide_eq_true h2)
  · rintro ⟨x, h1, h2⟩
    exact EV.in1_2 x h1 (decide_eq_true h2)
theorem blsAny (xs : List Bool) : anyF [.lst (xs.map D.bl)] = pure (.bl (xs.any id)) := by
  show (match blsOf (xs.map D.bl) with | some bs => pure (.bl (bs.any id)) | none => bad : PM D) = _
  rw [blsOf_map]
section
variable {N : Nt}
/-- the components with a broken one in their reach -/
noncomputable def alarmsL (N : Nt) (B : List Int) : List Int := setOf N.length fun o => ∃ b ∈ B, Reach N o b
theorem alarmsL_len (h : Net N) (B : List Int) : (alarmsL N B).length ≤ 8 := Nat.le_trans (setOf_len _ _) h.hi
theorem alarm_iff (h : Net N) {B : List Int} {o : Int} (h0 : 0 ≤ o) (h1 : o < N.length) : meets (reachL N o) B = true ↔ ∃ b ∈ B, Reach N o b := by
  rw [meets_iff]
  constructor
  · rintro ⟨x, m, b⟩
    exact EV.in1_2 x b ((mem_reachL h h0 h1).mp m)
  · rintro ⟨x, b, r⟩
    exact EV.in1_2 x ((mem_reachL h h0 h1).mpr r) b
theorem alarm_filter (h : Net N) (B : List Int) : (iota N.length).filter (fun o => meets (reachL N o) B) = alarmsL N B :=
  filter_setOf fun x h0 h1 => alarm_iff h h0 h1
end
section
variable {N : Nt}
theorem filt_meets (xs ys : List Int) : (!(xs.filter fun x => decide (x ∈ ys)).isEmpty) = meets xs ys := by
  rw [Bool.eq_iff_iff, meets_iff]
  constructor
  · intro h
    cases e : xs.filter fun x => decide (x ∈ ys) with
    | nil => rw [e] at h; exact EV.nnB h
    | cons x r =>
      have : x ∈ xs.filter fun x => decide (x ∈ ys) := by rw [e]; exact List.mem_cons_self
      exact EV.in1_2 x ((List.mem_filter.mp this).1) (of_decide_eq_true (List.mem_filter.mp this).2)
  · rintro ⟨x, h1, h2⟩
    have : x ∈ xs.filter fun x => decide (x ∈ ys) := List.mem_filter.mpr ⟨h1, decide_eq_true h2⟩
    cases e : xs.filter fun x => decide (x ∈ ys) with
    | nil => rw [e] at this; cases this
    | cons _ _ => rfl
theorem isE_map {α β : Type} (f : α → β) (xs : List α) : (xs.map f).isEmpty = xs.isEmpty := by
  cases xs <;> rfl
end
theorem Rising.sub {n : Nat} {l m : List Int} (h : Rising n l) (s : m.Sublist l) : Rising n m := ⟨fun x hx => h.1 x (s.subset hx), h.2.sublist s⟩
end Lw
namespace Lw
open PySem EV
theorem forS_map {body : List D → D → PM (List D)} (f : Int → D) : ∀ {ns : List Int} {c : List D}, (∀ c n, n ∈ ns → c.length + 1 ≤ lim → body c (.int n) = pure (c ++ [f n])) → c.length + ns.length ≤ lim → forS dec1 body (ns.map D.int) c = pure (c ++ ns.map f)
  | [], c, _, _ => by
    rw [List.map_nil, List.map_nil, List.append_nil]
    rfl
  | n :: ns, c, h, hl => by
    rw [List.length_cons] at hl
    rw [List.map_cons]
    show (body c (.int n) >>= forS dec1 body (ns.map D.int)) = _
    rw [h c n List.mem_cons_self (by omega), pure_bind, forS_map f (fun c m hm => h c m (List.mem_cons_of_mem _ hm)) (by rw [List.length_append, List.length_singleton]; omega), List.map_cons, List.append_assoc]
    rfl
noncomputable abbrev tS (ws : List Str) : D := .tup (ws.map .str)
noncomputable def Words (ws : List Str) : Prop := ∀ w ∈ ws, w = "alarm" ∨ w = "quiet" ∨ w = "unseen"
theorem word_sm {w : Str} (h : w = "alarm" ∨ w = "quiet" ∨ w = "unseen") : Sm 0 6 (.str w) := by
  rcases h with rfl | rfl | rfl <;> exact .str (by decide +kernel) (by decide +kernel)
theorem words_sm {ws : List Str} (h : Words ws) (hl : ws.length ≤ 8) : Sm 1 56 (tS ws) := .tup (c := 6) (fun x m => by
  (refine EV.el1_2 (List.mem_map.mp m) fun w hw q262_ => ?_; obtain rfl := q262_)
  exact word_sm (h w hw)) (by rw [List.length_map]; omega)
end Lw
namespace Lw
open PySem EV
theorem eqStr (a b : Str) : eqD (.str a) (.str b) = pure (.bl (a == b)) := rfl
/-- where the word w stands -/
noncomputable def withL (ws : List Str) (w : Str) : List Int := (iota ws.length).filter fun i => ix ws i == w
theorem mem_withL {ws : List Str} {w : Str} {i : Int} : i ∈ withL ws w ↔ (0 ≤ i ∧ i < ws.length) ∧ ix ws i = w := by
  unfold withL
  rw [List.mem_filter, mem_iota, beq_iff_eq]
theorem withL_rising (ws : List Str) (w : Str) : Rising ws.length (withL ws w) := ⟨fun x m => (mem_withL.mp m).1, (iota_asc _).filter _⟩
theorem with_word (ws : List Str) (w : Str) (h : ws.length ≤ lim) : f_with_word (tS ws) (.str w) = pure (tI (withL ws w)) := by
  simp only [f_with_word, pure_bind, bind_assoc, enum_tup, id]
  rw [compPf (fun i => (D.int i, D.str (ix ws i))) (fun i => ix ws i == w) D.int (pairs_ix ws D.str) (by rw [pairs_len, List.length_map]; exact h) (fun i _ => by rw [eqStr, pure_bind, asB_bl]) (fun _ _ _ => rfl), pure_bind,
    tupleL (by rw [List.length_map]; exact Nat.le_trans (List.length_filter_le _ _) (by rw [len_iota]; exact h))]
  rfl
/-- a report of the net -/
structure Rep (N : Nt) (ws : List Str) : Prop where
  len : ws.length = N.length
  ws : Words ws
section
variable {N : Nt} {ws : List Str}
theorem Rep.sm (r : Rep N ws) (h : Net N) : Sm 1 56 (tS ws) := words_sm r.ws (by rw [r.len]; exact h.hi)
theorem Rep.lim (r : Rep N ws) (h : Net N) : ws.length ≤ EV.lim := by
  rw [r.len]
  exact h.lim
/-- the components in the reach of no quiet one -/
noncomputable def candL (N : Nt) (ws : List Str) : List Int := setOf N.length fun o => ¬ ∃ q ∈ withL ws "quiet", Reach N q o
theorem candL_len (h : Net N) (ws : List Str) : (candL N ws).length ≤ 8 := Nat.le_trans (setOf_len _ _) h.hi
theorem quiet_reach (h : Net N) (r : Rep N ws) {o : Int} : (withL ws "quiet").any (fun q => decide (o ∈ reachL N q)) = true ↔ ∃ q ∈ withL ws "quiet", Reach N q o := by
  rw [List.any_eq_true]
  constructor
  · rintro ⟨q, m, e⟩
    have z := (mem_withL.mp m).1
    exact EV.in1_2 q m ((mem_reachL h z.1 (by rw [← r.len]; exact z.2)).mp (of_decide_eq_true e))
  · rintro ⟨q, m, e⟩
    have z := (mem_withL.mp m).1
    exact EV.in1_2 q m (decide_eq_true ((mem_reachL h z.1 (by rw [← r.len]; exact z.2)).mpr e))
theorem cand_filter (h : Net N) (r : Rep N ws) : (iota N.length).filter (fun o => !(withL ws "quiet").any fun q => decide (o ∈ reachL N q)) = candL N ws :=
  filter_setOf fun x h0 h1 => by
    rw [Bool.not_eq_true', ← Bool.not_eq_true, quiet_reach h r]
theorem candidates_of (h : Net N) (r : Rep N ws) : f_candidates_of (dN N) (tS ws) = pure (tI (candL N ws)) := by
  have hl := h.lim
  have wl := (withL_rising ws "quiet").len
  have rl := r.lim h
  simp only [f_candidates_of, pure_bind, bind_assoc, fn1_eq, fn2_eq, all_reaches h, with_word ws _ rl, run0_p, id, len_tup, List.length_map, range1 hl, items_tup]
  rw [filtI (fun o => !(withL ws "quiet").any fun q => decide (o ∈ reachL N q)) (by rw [len_iota]; exact hl) (fun o _ => ?_), cand_filter h r, pure_bind, tupleL (by rw [List.length_map]; have := candL_len h ws; show _ ≤ 1000000; exact EV.w_le8 (by assumption))]
  · rfl
  · rw [compIm (fun q => .bl (decide (o ∈ reachL N q))) (Nat.le_trans wl rl) (fun _ => rfl) (fun q mq => ?_), pure_bind, show ((withL ws "quiet").map fun q => D.bl (decide (o ∈ reachL N q))) = ((withL ws "quiet").map fun q => decide (o ∈ reachL N q)).map D.bl by rw [List.map_map]; rfl, blsAny, pure_bind, asB_bl, pure_bind, List.any_map]
    · rfl
    · have z := (mem_withL.mp mq).1
      have z2 : q < N.length := by rw [← r.len]; exact z.2
      rw [getL (f := fun c => tI (reachL N c)) z.1 (by rw [len_iota]; exact z2), pure_bind, ix_iota z.1 z2, inT]
theorem is_word {w : Str} (h : w = "alarm" ∨ w = "quiet" ∨ w = "unseen") : f_is_word (.str w) = pure (.bl true) := by
  have e : ∀ w : Str, isF "str" (.str w) = pure (.bl true) := fun _ => rfl
  have s : shp d_WORDS = true := by decide +kernel
  have s1 : ∀ w : Str, (w = "alarm" ∨ w = "quiet" ∨ w = "unseen") → inD (.str w) d_WORDS = pure (.bl true) := fun w h => by
    show (if shp (.str w) = true ∧ shp d_WORDS = true then pure (.bl ((["alarm", "quiet", "unseen"] : List Str).map D.str |>.any fun z => eqvD z (.str w))) else bad : PM D) = _
    rcases h with rfl | rfl | rfl
    · rw [if_pos ⟨by decide +kernel, s⟩, show ((["alarm", "quiet", "unseen"] : List Str).map D.str |>.any fun z => eqvD z (.str "alarm")) = true by decide +kernel]
    · rw [if_pos ⟨by decide +kernel, s⟩, show ((["alarm", "quiet", "unseen"] : List Str).map D.str |>.any fun z => eqvD z (.str "quiet")) = true by decide +kernel]
    · rw [if_pos ⟨by decide +kernel, s⟩, show ((["alarm", "quiet", "unseen"] : List Str).map D.str |>.any fun z => eqvD z (.str "unseen")) = true by decide +kernel]
  simp only [f_is_word, pure_bind, e, asB_bl, if_true, s1 w h, id]
theorem comp_words {e : D → PM D} (hl : ws.length ≤ lim) (he : ∀ w ∈ ws, e (.str w) = pure (.bl true)) : compL dec1 (fun _ => pure true) e (ws.map D.str) = pure ((ws.map fun _ => true).map D.bl) := by
  rw [compPm (zs := ws) (g := D.str) (f := fun _ => D.bl true) (by rw [List.map_map]; rfl) (by rw [List.length_map]; exact hl) (fun _ => rfl) he, List.map_map]
  rfl
theorem is_report (h : Net N) (r : Rep N ws) : f_is_report (dN N) (tS ws) = pure (.bl true) := by
  have e : ∀ w : Str, isF "str" (.str w) = pure (.bl true) := fun _ => rfl
  simp only [f_is_report, pure_bind, bind_assoc, isF_tup, asB_bl, if_true, len_tup, List.length_map, eqInt, r.len, decide_true, items_tup, fn1_eq, id]
  rw [comp_words (r.lim h) (fun w m => by rw [is_word (r.ws w m)]; rfl), pure_bind, blsF, pure_bind, List.all_map]
  congr 2
  exact List.all_eq_true.mpr fun _ _ => rfl
end
end Lw
namespace Lw
open PySem EV
theorem eq_nil {xs : List D} (h : shp (.lst xs) = true) : eqD (.lst xs) (.lst []) = pure (.bl xs.isEmpty) := by
  show (if shp (.lst xs) = true ∧ shp (.lst []) = true then pure (.bl (eqvD (.lst xs) (.lst []))) else bad : PM D) = _
  rw [if_pos ⟨h, by decide⟩]
  cases xs with
  | nil => rfl
  | cons x r => rfl
theorem cut_drop {α : Type} (xs : List D) (k : Nat) (h : k ≤ xs.length) : cutD xs (some k) none = xs.drop k := by
  unfold EV.cutD
  rw [HT.sIx_none, HT.sIx_nat, Nat.min_eq_left h, List.take_of_length_le (by rw [List.length_drop]; exact Nat.le_refl _)]
end Lw
namespace Lw
open PySem EV
theorem neStr2 (a b : Str) : neD (.str a) (.str b) = pure (.bl (!(a == b))) := rfl
section
variable {N : Nt} {ws : List Str}
/-- every alarming one has a candidate in its reach -/
noncomputable def explained (N : Nt) (ws : List Str) : Bool := (withL ws "alarm").all fun a => meets (reachL N a) (candL N ws)
end
end Lw
namespace Lw
open PySem EV
section
variable {N : Nt} {ws : List Str}
/-- the candidates in the reach of a -/
noncomputable def needL (N : Nt) (ws : List Str) (a : Int) : List Int := (reachL N a).filter fun x => decide (x ∈ candL N ws)
theorem needL_len (h : Net N) (ws : List Str) (a : Int) : (needL N ws a).length ≤ 8 := Nat.le_trans (List.length_filter_le _ _) (reachL_len h a)
theorem withL_in (r : Rep N ws) {w : Str} {i : Int} (m : i ∈ withL ws w) : 0 ≤ i ∧ i < N.length := by
  have z := (mem_withL.mp m).1
  exact ⟨z.1, by rw [← r.len]; exact z.2⟩
theorem withL_len8 (h : Net N) (r : Rep N ws) (w : Str) : (withL ws w).length ≤ 8 := by
  have z := (withL_rising ws w).len
  have := r.len
  have := h.hi
  omega
theorem needed_of (h : Net N) (r : Rep N ws) : f_needed_of (dN N) (tS ws) = pure (.lst (((withL ws "alarm").map (needL N ws)).map tI)) := by
  have rl := r.lim h
  have w8 := withL_len8 h r "alarm"
  have eo : okL [] = pure [] := rfl
  simp only [f_needed_of, pure_bind, bind_assoc, fn2_eq, candidates_of h r, with_word ws _ rl, run0_p, items_tup, eo, id]
  rw [forS_map (fun a => tI (needL N ws a)) (fun c a ma hc => ?_) (by rw [List.length_nil]; show _ ≤ 1000000; omega), pure_bind, List.nil_append, List.map_map]
  · rfl
  · have z := withL_in r ma
    rw [reach_ok h z.1 z.2, run0_p, pure_bind, items_tup, pure_bind, filtI (fun x => decide (x ∈ candL N ws)) (by have := reachL_len h a; show _ ≤ 1000000; exact EV.w_le8 (by assumption)) (fun x _ => by rw [inT, pure_bind, asB_bl]), pure_bind,
      tupleL (by rw [List.length_map]; have := needL_len h ws a; show (needL N ws a).length ≤ 1000000; exact EV.w_le8 (by assumption)), pure_bind, okLen_ok (by rw [List.length_append, List.length_singleton]; exact hc)]
    rfl
/-- rows of ints, small: how they compare -/
theorem rows_shp {L : List (List Int)} : shp (.lst (L.map tI)) = true := by
  unfold EV.shp SeqAt.shaped
  have e1 : PyData.canLayAll0 (toPyL (L.map tI)) = true := all_lay fun x m => by
    (refine EV.el1_2 (List.mem_map.mp m) fun a _ q263_ => ?_; obtain rfl := q263_)
    have z := allI_lay a
    simp only [toPy, PyData.canLay0]
    exact z
  have e2 : PyData.depthAll (toPyL (L.map tI)) ≤ 1 := all_deep fun x m => by
    (refine EV.el1_2 (List.mem_map.mp m) fun a _ q264_ => ?_; obtain rfl := q264_)
    have z := allI_deep a
    simp only [toPy, PyData.depth]
    exact Nat.lt_succ_of_le (by assumption)
  simp only [toPy, PyData.canLay0, PyData.depth, e1, Bool.true_and, decide_eq_true_eq]
  omega
theorem eqv_rows : ∀ a b : List Int, eqvD (tI a) (tI b) = (a == b)
  | [], [] => rfl
  | [], _ :: _ => rfl
  | _ :: _, [] => rfl
  | x :: a, y :: b => by
    show (x == y && eqvD (tI a) (tI b)) = (x == y && a == b)
    rw [eqv_rows a b]
theorem any_rows (L : List (List Int)) (b : List Int) : ((L.map tI).any fun z => eqvD z (tI b)) = decide (b ∈ L) := by
  rw [Bool.eq_iff_iff, List.any_eq_true, decide_eq_true_eq]
  constructor
  · rintro ⟨z, hz, e⟩
    (refine EV.el1_2 (List.mem_map.mp hz) fun a ha q265_ => ?_; obtain rfl := q265_)
    rw [eqv_rows, beq_iff_eq] at e
    exact e ▸ ha
  · intro h
    exact EV.in1_2 (tI b) (List.mem_map.mpr (EV.in1_2 b h rfl)) (by rw [eqv_rows, beq_iff_eq])
theorem ninRows (b : List Int) (L : List (List Int)) : notInD (tI b) (.lst (L.map tI)) = pure (.bl (!decide (b ∈ L))) := by
  show (if shp (tI b) = true ∧ shp (.lst (L.map tI)) = true then pure (.bl (!(L.map tI).any fun z => eqvD z (tI b))) else bad : PM D) = _
  rw [if_pos ⟨shpTI b, rows_shp⟩, any_rows]
theorem need_empty (N : Nt) (ws : List Str) (a : Int) : needL N ws a = [] ↔ meets (reachL N a) (candL N ws) = false := by
  unfold needL
  rw [List.filter_eq_nil_iff, ← Bool.not_eq_true, meets_iff]
  constructor
  · rintro h ⟨x, h1, h2⟩
    exact h x h1 (decide_eq_true h2)
  · intro h x h1 h2
    exact h ⟨x, h1, of_decide_eq_true h2⟩
theorem is_explained (h : Net N) (r : Rep N ws) : f_is_explained (dN N) (tS ws) = pure (.bl ((withL ws "alarm").all fun a => meets (reachL N a) (candL N ws))) := by
  have e1 : mkT [] = pure (tI []) := rfl
  simp only [f_is_explained, pure_bind, fn2_eq, needed_of h r, run0_p, e1, ninRows, id]
  congr 2
  rw [Bool.eq_iff_iff, Bool.not_eq_true', decide_eq_false_iff_not, List.all_eq_true]
  constructor
  · intro z a ma
    cases e : meets (reachL N a) (candL N ws) with
    | true => rfl
    | false => exact absurd (List.mem_map.mpr (EV.in1_2 a ma ((need_empty N ws a).mpr e))) z
  · intro z m
    refine EV.el1_2 (List.mem_map.mp m) fun a ma e => ?_
    have q := z a ma
    rw [(need_empty N ws a).mp e] at q
    exact EV.nnB q
/-- the quiet ones that reach c -/
noncomputable def rulersL (N : Nt) (ws : List Str) (c : Int) : List Int := (withL ws "quiet").filter fun q => decide (c ∈ reachL N q)
theorem rulers_ne (h : Net N) (r : Rep N ws) {c : Int} (h0 : 0 ≤ c) (h1 : c < N.length) (hc : c ∉ candL N ws) : rulersL N ws c ≠ [] := by
  have : ∃ q ∈ withL ws "quiet", Reach N q c := Classical.byContradiction fun z => hc (mem_setOf.mpr ⟨⟨h0, h1⟩, z⟩)
  (refine EV.el1_2 this ?_; try clear this; intro q mq rq)
  have z := withL_in r mq
  intro e
  have m : q ∈ rulersL N ws c := List.mem_filter.mpr ⟨mq, decide_eq_true ((mem_reachL h z.1 z.2).mpr rq)⟩
  rw [e] at m
  cases m
theorem first0 {l : List Int} (h : l ≠ []) : getD (lI l) (.int 0) = pure (.int (ix l 0)) := by
  have : 0 < l.length := List.length_pos_iff.mpr h
  rw [getL (l := l) (f := D.int) (by decide) (by exact Int.ofNat_lt.mpr (by assumption))]
noncomputable def firstL (N : Nt) (ws : List Str) (c : Int) : Int := ix (rulersL N ws c) 0
end
end Lw
namespace Lw
open PySem EV
section
variable {N : Nt}
/-- what c reaches and what reaches c -/
noncomputable def ringL (N : Nt) (c : Int) : List Int := (reachL N c).filter fun o => decide (c ∈ reachL N o)
theorem mem_ringL (h : Net N) {c o : Int} (h0 : 0 ≤ c) (h1 : c < N.length) : o ∈ ringL N c ↔ Reach N c o ∧ Reach N o c := by
  unfold ringL
  rw [List.mem_filter, mem_reachL h h0 h1, decide_eq_true_eq]
  constructor
  · rintro ⟨r1, r2⟩
    have z := h.reach_in ⟨h0, h1⟩ r1
    exact ⟨r1, (mem_reachL h z.1 z.2).mp r2⟩
  · rintro ⟨r1, r2⟩
    have z := h.reach_in ⟨h0, h1⟩ r1
    exact ⟨r1, (mem_reachL h z.1 z.2).mpr r2⟩
theorem ringL_asc (N : Nt) (c : Int) : (ringL N c).Pairwise (· < ·) := (setOf_asc _ _).filter _
theorem ringL_self (h : Net N) {c : Int} (h0 : 0 ≤ c) (h1 : c < N.length) : c ∈ ringL N c := (mem_ringL h h0 h1).mpr ⟨.refl, .refl⟩
theorem Reach.trans' {c x y : Int} (h : Reach N c x) (h2 : Reach N x y) : Reach N c y := by
  induction h2 with
  | refl => exact h
  | step _ m ih => exact .step ih m
theorem ringL_in (h : Net N) {c o : Int} (h0 : 0 ≤ c) (h1 : c < N.length) (m : o ∈ ringL N c) : 0 ≤ o ∧ o < N.length := h.reach_in ⟨h0, h1⟩ ((mem_ringL h h0 h1).mp m).1
theorem ringL_eq (h : Net N) {c o : Int} (h0 : 0 ≤ c) (h1 : c < N.length) (m : o ∈ ringL N c) : ringL N o = ringL N c := by
  have z := ringL_in h h0 h1 m
  refine EV.el0_2 ((mem_ringL h h0 h1).mp m) fun r1 r2 => ?_
  refine asc_eq (ringL_asc N o) (ringL_asc N c) fun k => ?_
  rw [mem_ringL h z.1 z.2, mem_ringL h h0 h1]
  exact ⟨fun q => ⟨r1.trans' q.1, q.2.trans' r2⟩, fun q => ⟨r2.trans' q.1, q.2.trans' r1⟩⟩
/-- all rings, ascending -/
noncomputable def ringsL (N : Nt) : List (List Int) := setT ((iota N.length).map (ringL N))
theorem iota_snoc (n : Nat) : iota (n + 1) = iota n ++ [(n : Int)] := by
  unfold iota
  rw [List.range_succ, List.map_append]
  rfl
/-- the rings of the first i components -/
structure RgUp (N : Nt) (i : Nat) (L : List (List Int)) : Prop where
  mem : ∀ B, B ∈ L ↔ ∃ c ∈ iota i, B = ringL N c
  st : L.Pairwise fun a b => leR a b = true
  nd : L.Nodup
  len : L.length ≤ i
theorem asc_head {l : List Int} {x : Int} (h : l.Pairwise (· < ·)) (m : x ∈ l) : ∃ y r, l = y :: r ∧ y ≤ x := by
  cases l with
  | nil => cases m
  | cons y r =>
    refine EV.in2_2 y r rfl ?_
    rcases List.mem_cons.mp m with e | m
    · omega
    · have := (List.pairwise_cons.mp h).1 x m
      exact Int.le_of_lt (by assumption)
theorem RgUp.step (h : Net N) {i : Nat} {L : List (List Int)} (a : RgUp N i L) (hi : i < N.length) : RgUp N (i + 1) (if ringL N i ∈ L then L else L ++ [ringL N i]) := by
  have mem' : ∀ B, (B ∈ L ∨ B = ringL N i) ↔ ∃ c ∈ iota (i + 1), B = ringL N c := fun B => by
    rw [a.mem, iota_snoc]
    constructor
    · rintro (⟨c, m, e⟩ | e)
      · exact EV.in1_2 c (List.mem_append_left _ m) e
      · exact EV.in1_2 i (by simp) e
    · rintro ⟨c, m, e⟩
      rcases List.mem_append.mp m with m | m
      · exact .inl (EV.in1_2 c m e)
      · rw [List.mem_singleton.mp m] at e
        exact .inr e
  by_cases q : ringL N i ∈ L
  · rw [if_pos q]
    refine ⟨fun B => ?_, a.st, a.nd, by have := a.len; omega⟩
    rw [← mem']
    constructor
    · exact .inl
    · rintro (m | e)
      · exact m
      · rw [e]
        exact q
  · rw [if_neg q]
    refine ⟨fun B => by rw [List.mem_append, List.mem_singleton]; exact mem' B, ?_, ?_, by rw [List.length_append, List.length_singleton]; have := a.len; exact Nat.lt_succ_of_le (by assumption)⟩
    · refine List.pairwise_append.mpr ⟨a.st, by simp, fun B mB R mR => ?_⟩
      rw [List.mem_singleton.mp mR]
      (refine EV.el1_2 ((a.mem B).mp mB) fun c mc q266_ => ?_; obtain rfl := q266_)
      have hc := mem_iota.mp mc
      refine EV.el2_2 (asc_head (ringL_asc N c) (ringL_self h hc.1 (by omega))) fun y r e1 l1 => ?_
      refine EV.el2_2 (asc_head (ringL_asc N i) (ringL_self h (by exact Int.natCast_nonneg _) (by exact Int.ofNat_lt.mpr (by assumption)))) fun z t e2 l2 => ?_
      have mz : z ∈ ringL N i := by rw [e2]; exact List.mem_cons_self
      have hz := ringL_in h (by exact Int.natCast_nonneg _) (by exact Int.ofNat_lt.mpr (by assumption)) mz
      have : z = (i : Int) := by
        refine Classical.byContradiction fun ne => q ((a.mem _).mpr ⟨z, mem_iota.mpr ⟨hz.1, by omega⟩, ?_⟩)
        exact (ringL_eq h (by exact Int.natCast_nonneg _) (by exact Int.ofNat_lt.mpr (by assumption)) mz).symm
      refine decide_eq_true ?_
      rw [e1, e2, this]
      exact List.le_of_lt (List.Lex.rel (by omega))
    · refine List.nodup_append.mpr ⟨a.nd, by simp, fun x hx y hy e => ?_⟩
      rw [List.mem_singleton.mp hy] at e
      exact q (e ▸ hx)
theorem RgUp.done {L : List (List Int)} (a : RgUp N N.length L) : L = ringsL N := setT_uniq a.st (setT_sorted _) a.nd (setT_nodup _) fun B => by
  rw [a.mem]
  unfold ringsL
  rw [mem_setT, List.mem_map]
  exact ⟨fun h29_ => by (refine EV.el1_2 h29_ ?_; try clear h29_; intro c m e); exact ⟨c, m, e.symm⟩, fun h30_ => by (refine EV.el1_2 h30_ ?_; try clear h30_; intro c m e); exact ⟨c, m, e.symm⟩⟩
theorem forS_invQ {C ι κ : Type} {dec : D → Option ι} {body : C → ι → PM C} (g : κ → ι) (P : Nat → C → Prop) : ∀ {ds : List D} {zs : List κ} {k : Nat} {c : C}, ds.map dec = zs.map (fun z => some (g z)) → P k c → (∀ i z c, zs[i]? = some z → P (k + i) c → ∃ c', body c (g z) = pure c' ∧ P (k + i + 1) c') → ∃ c', forS dec body ds c = pure c' ∧ P (k + zs.length) c' := by
  intro ds
  induction ds with
  | nil =>
    intro zs k c he h hb
    cases zs with
    | nil => exact ⟨c, rfl, h⟩
    | cons z zs => cases he
  | cons d ds ih =>
    intro zs k c he h hb
    cases zs with
    | nil => cases he
    | cons z zs =>
      rw [List.map_cons, List.map_cons] at he
      injection he with h1 h2
      obtain ⟨c1, e1, p1⟩ := hb 0 z c rfl h
      obtain ⟨c2, e2, p2⟩ := ih (k := k + 1) (c := c1) h2 p1 fun i m c hi hp => by
        have z := hb (i + 1) m c hi (by rw [show k + (i + 1) = k + 1 + i from (Nat.add_right_comm k i 1)]; exact hp)
        rw [show k + (i + 1) = k + 1 + i from (Nat.add_right_comm k i 1)] at z
        exact z
      refine ⟨c2, ?_, by rw [List.length_cons, show k + (zs.length + 1) = k + 1 + zs.length from (Nat.add_right_comm k zs.length 1)]; exact p2⟩
      unfold forS
      rw [h1]
      show (body c (g z) >>= forS dec body ds) = _
      rw [e1, pure_bind, e2]
theorem forS_thenQ {C β ι κ : Type} {dec : D → Option ι} {body : C → ι → PM C} (g : κ → ι) {kk : C → PM β} {v : PM β} {ds : List D} {zs : List κ} {c : C} (he : ds.map dec = zs.map (fun z => some (g z))) (P : Nat → C → Prop) (h0 : P 0 c) (hb : ∀ i z c, zs[i]? = some z → P i c → ∃ c', body c (g z) = pure c' ∧ P (i + 1) c') (hk : ∀ c, P zs.length c → kk c = v) :
    (forS dec body ds c >>= kk) = v := by
  obtain ⟨c', e, q⟩ := forS_invQ g P (k := 0) he h0 fun i n c e h => by
    rw [Nat.zero_add] at h ⊢
    exact hb i n c e h
  rw [Nat.zero_add] at q
  rw [e, pure_bind, hk c' q]
end
end Lw
namespace Lw
open PySem EV
theorem run0_raise {α : Type} (e : Ex) : run0 (raiseP e : PM α) = raiseP e := rfl
theorem raise_bind {α β : Type} (e : Ex) (f : α → PM β) : ((raiseP e : PM α) >>= f) = raiseP e := rfl
end Lw
namespace Lw
open PySem EV
/-- drawn numbers under their bounds -/
noncomputable def Drawn (bs xs : List Int) : Prop := xs.length = bs.length ∧ ∀ (i : Nat) (x b : Int), xs[i]? = some x → bs[i]? = some b → 0 ≤ x ∧ x < b
theorem pow18 : powD (.int 10) (.int 18) = pure (.int (10 ^ 18)) := by
  show (if L2.CPow 10 18 then pure (.int (10 ^ (18 : Int).toNat)) else bad : PM D) = _
  rw [if_pos ⟨by decide, by decide, by decide⟩]
  rfl
theorem subI (a b : Int) : subD (.int a) (.int b) = pure (.int (a - b)) := rfl
theorem getLI {ns : List Int} {i : Nat} {n : Int} (h : ns[i]? = some n) : getD (lI ns) (.int (i : Int)) = pure (.int n) := by
  have hi : i < ns.length := (List.getElem?_eq_some_iff.mp h).1
  have e := getL (l := ns) (f := D.int) (i := (i : Int)) (by exact Int.natCast_nonneg _) (by exact Int.ofNat_lt.mpr (by assumption))
  have e2 : ix ns (i : Int) = n := by
    unfold ix
    rw [show ((i : Int)).toNat = i from by rfl, List.getD_eq_getElem?_getD, h]
    rfl
  rw [e2] at e
  exact e
theorem draws (c : Int) {bs : List Int} (hb : ∀ b ∈ bs, 1 ≤ b ∧ b ≤ 1000) (hl : bs.length ≤ 100) : ∃ xs, f_law_draws (.int c) (lI bs) = pure (lI xs) ∧ Drawn bs xs := by
  have e0 : okL [] = pure ([] : List D) := rfl
  have hlim : bs.length ≤ lim := by show _ ≤ 1000000; exact EV.w_le (by assumption) (by decide)
  simp only [f_law_draws, pure_bind, e0, id, pow18, ge_int, asB_bl]
  by_cases hc : (10 : Int) ^ 18 ≤ c
  · rw [decide_eq_true hc, if_pos rfl]
    simp only [subI, pure_bind, items_lst]
    refine forS_ex (fun m => ∃ xs, m = pure (lI xs) ∧ Drawn bs xs) (fun i p => ∃ (l : Int) (xs : List Int), p = (.int l, xs.map D.int) ∧ Drawn (bs.take i) xs) (EV.in2_3 _ ([]) rfl rfl (fun i x b h => by simp at h)) (fun i b p hi hp => ?_) (fun p hp => ?_)
    · (refine EV.el2_2 hp ?_; try clear hp; intro l xs q267_ q268_; obtain rfl := q267_; (refine EV.el0_2 q268_ ?_; try clear q268_; intro hx1 hx2))
      have hbm := hb b (List.mem_of_getElem? hi)
      have hil : i < bs.length := (List.getElem?_eq_some_iff.mp hi).1
      rw [List.length_take, Nat.min_eq_left (Nat.le_of_lt hil)] at hx1
      simp only [pure_bind, mod_ok (show b ≠ 0 by omega), fdiv_ok (show L2.CDivN l b from ⟨by omega, by omega⟩)]
      rw [show xs.map D.int ++ [D.int (l.fmod b)] = (xs ++ [l.fmod b]).map D.int by rw [List.map_append]; rfl, okLen_ok (by rw [List.length_map, List.length_append, hx1]; show i + 1 ≤ 1000000; exact Nat.lt_of_lt_of_le (by assumption) (by assumption)), pure_bind]
      refine ⟨_, rfl, _, _, rfl, by rw [List.length_append, hx1, List.length_take, Nat.min_eq_left (by assumption)]; rfl, fun k x b' h1 h2 => ?_⟩
      rw [List.getElem?_take] at h2
      by_cases hk : k < i
      · rw [List.getElem?_append_left (by rw [hx1]; exact hk)] at h1
        rw [if_pos (Nat.lt_succ_of_lt hk)] at h2
        exact hx2 k x b' h1 (by rw [List.getElem?_take, if_pos hk]; exact h2)
      · by_cases hk2 : k = i
        · subst hk2
          rw [List.getElem?_append_right (Nat.le_of_eq hx1), hx1, Nat.sub_self] at h1
          rw [if_pos (Nat.lt_succ_self _), hi] at h2
          obtain rfl := Option.some.inj h2
          obtain rfl := Option.some.inj h1
          exact fmod_bd (by omega)
        · rw [if_neg (by omega)] at h2
          exact EV.nnS h2
    · (refine EV.el2_2 hp ?_; try clear hp; intro l xs q269_ hx; obtain rfl := q269_)
      rw [List.take_length] at hx
      exact EV.in1_2 xs rfl hx
  · rw [decide_eq_false hc, if_neg (by decide)]
    simp only [len_lst, pure_bind, List.length_map, range1 hlim]
    refine forS_ex (fun m => ∃ xs, m = pure (lI xs) ∧ Drawn bs xs) (fun i p => ∃ (xs : List Int), p = xs.map D.int ∧ Drawn (bs.take i) xs) (EV.in1_3 ([]) rfl rfl (fun i x b h => by simp at h)) (fun i z p hi hp => ?_) (fun p hp => ?_)
    · (refine EV.el1_2 hp ?_; try clear hp; intro xs q270_ q271_; obtain rfl := q270_; (refine EV.el0_2 q271_ ?_; try clear q271_; intro hx1 hx2))
      have hil : i < bs.length := by
        have := (List.getElem?_eq_some_iff.mp hi).1
        rw [len_iota] at this
        exact this
      rw [iota_get hil] at hi
      have hi := (Option.some.inj hi).symm
      subst hi
      obtain ⟨b, hbi⟩ : ∃ b, bs[i]? = some b := ⟨bs[i], List.getElem?_eq_getElem hil⟩
      have hbm := hb b (List.mem_of_getElem? hbi)
      rw [List.length_take, Nat.min_eq_left (Nat.le_of_lt hil)] at hx1
      have b1 := fmod_bd (i := c * 48271 + (i : Int) * 69621 + 11) (j := 2147483647) (by decide)
      generalize hm : (c * 48271 + (i : Int) * 69621 + 11).fmod 2147483647 = m at b1
      have b2 := fmod_bd (i := m * 16807 + (i : Int)) (j := 998244353) (by decide)
      generalize hm2 : (m * 16807 + (i : Int)).fmod 998244353 = m2 at b2
      simp only [pure_bind, mul_r (i := c) (j := 48271), mul_r (i := (i : Int)) (j := 69621), add_int, mod_ok (show (2147483647 : Int) ≠ 0 by decide), hm, mul_r (i := m) (j := 16807), mod_ok (show (998244353 : Int) ≠ 0 by decide), hm2, getLI hbi, mod_ok (show b ≠ 0 by omega)]
      rw [show xs.map D.int ++ [D.int (m2.fmod b)] = (xs ++ [m2.fmod b]).map D.int by rw [List.map_append]; rfl, okLen_ok (by rw [List.length_map, List.length_append, hx1]; show i + 1 ≤ 1000000; exact Nat.lt_of_lt_of_le (by assumption) (by assumption)), pure_bind]
      refine ⟨_, rfl, _, rfl, by rw [List.length_append, hx1, List.length_take, Nat.min_eq_left (by assumption)]; rfl, fun k x b' h1 h2 => ?_⟩
      rw [List.getElem?_take] at h2
      by_cases hk : k < i
      · rw [List.getElem?_append_left (by rw [hx1]; exact hk)] at h1
        rw [if_pos (Nat.lt_succ_of_lt hk)] at h2
        exact hx2 k x b' h1 (by rw [List.getElem?_take, if_pos hk]; exact h2)
      · by_cases hk2 : k = i
        · subst hk2
          rw [List.getElem?_append_right (by exact Nat.le_of_eq (by assumption)), hx1, Nat.sub_self] at h1
          rw [if_pos (by exact Nat.lt_succ_self _), hbi] at h2
          obtain rfl := Option.some.inj h2
          obtain rfl := Option.some.inj h1
          exact fmod_bd (by exact (And.left (by assumption)))
        · rw [if_neg (by omega)] at h2
          exact EV.nnS h2
    · (refine EV.el1_2 hp ?_; try clear hp; intro xs q272_ hx; obtain rfl := q272_)
      rw [len_iota, List.take_length] at hx
      exact EV.in1_2 xs rfl hx
theorem Drawn.at {bs xs : List Int} (h : Drawn bs xs) {i : Nat} {b : Int} (hb : bs[i]? = some b) : ∃ x, xs[i]? = some x ∧ 0 ≤ x ∧ x < b := by
  have hi : i < xs.length := by
    rw [h.1]
    exact (List.getElem?_eq_some_iff.mp hb).1
  exact EV.in1_2 (xs[i]) (List.getElem?_eq_getElem hi) (h.2 i _ b (List.getElem?_eq_getElem hi) hb)
end Lw
namespace Lw
open PySem EV
theorem repD_int (k : Nat) (x : Int) : repD k [D.int x] = (List.replicate k x).map D.int := by
  unfold repD
  rw [Int.toNat_natCast]
  induction k with
  | zero => rfl
  | succ k ih =>
    rw [List.replicate_succ, List.flatten_cons, ih, List.replicate_succ, List.map_cons]
    rfl
theorem rep_ok {k : Nat} (h : k ≤ 100) (x : Int) : mulL (.lst [.int x]) (.int k) = pure (lI (List.replicate k x)) := by
  unfold mulL
  dsimp only
  rw [if_pos ⟨by exact Int.natCast_nonneg _, by omega, by rw [Int.toNat_natCast]; show 1 * k ≤ 1000000; omega⟩, repD_int]
  exact mkL_ok (by rw [List.length_map, List.length_replicate]; show _ ≤ 1000000; exact EV.w_le (by assumption) (by decide))
theorem netC (c : Int) {t : Nat} (t1 : 1 ≤ t) (t8 : t ≤ 8) : ∃ N, (Net N ∧ N.length ≤ t) ∧ f_law_net (.int c) (.int t) = pure (dN N) := by
  have eo : okL [] = pure ([] : List D) := rfl
  have e1 : mkL [D.int t, D.int 3] = pure (.lst [D.int t, D.int 3]) := rfl
  have e2 : mkL [D.int 12] = pure (.lst [D.int 12]) := rfl
  have e3 : mkL [D.int 2, D.int 3, D.int 5] = pure (lI [2, 3, 5]) := rfl
  have e4 : addD (.lst [D.int t, D.int 3]) (lI (List.replicate 64 12)) = pure (lI ((t : Int) :: 3 :: List.replicate 64 12)) := by
    show mkL _ = _
    exact mkL_ok (by rw [List.length_append, List.length_map, List.length_replicate]; show 2 + 64 ≤ 1000000; decide)
  have r64 : mulL (.lst [D.int 12]) (.int 64) = pure (lI (List.replicate 64 12)) := rep_ok (k := 64) (by decide) 12
  obtain ⟨xs, hx, hd⟩ := draws c (bs := (t : Int) :: 3 :: List.replicate 64 12) (fun b m => by
    rcases List.mem_cons.mp m with rfl | m
    · omega
    · rcases List.mem_cons.mp m with rfl | m
      · decide
      · rw [(List.mem_replicate.mp m).2]; decide) (by simp)
  have hl : xs.length = 66 := hd.1
  refine EV.el1_3 (hd.at (i := 0) rfl) fun x0 g0 l0 h0 => ?_
  refine EV.el1_3 (hd.at (i := 1) rfl) fun x1 g1 l1 h1 => ?_
  have q0 : getD (lI xs) (.int 0) = pure (.int x0) := getLI (i := 0) g0
  have q1 : getD (lI xs) (.int 1) = pure (.int x1) := getLI (i := 1) g1
  have q2 : getD (lI [2, 3, 5]) (.int x1) = pure (.int (ix [2, 3, 5] x1)) := getL (f := D.int) l1 h1
  obtain ⟨n, hn⟩ : ∃ n : Nat, 1 + x0 = n := ⟨(1 + x0).toNat, by omega⟩
  have hn8 : n ≤ 8 := by omega
  have hnt : n ≤ t := by omega
  have hn1 : 1 ≤ n := by omega
  have hlim : n ≤ lim := by show _ ≤ 1000000; exact EV.w_le8 (by assumption)
  have eU : ∀ {β : Type} (kk : D → D → PM β) (a b : D), unp2 kk (.tup [a, b]) = kk a b := fun _ _ _ => rfl
  have eT2 : ∀ a b : D, mkT [a, b] = pure (.tup [a, b]) := fun _ _ => rfl
  simp only [f_law_net, pure_bind, e1, e2, e3, r64, e4, fn2_eq, hx, run0_p, q0, q1, q2, add_int, hn, eo, id, eT2, eU, range1 hlim]
  generalize ix ([2, 3, 5] : List Int) x1 = cap
  refine forS_ex (fun m => ∃ N, (Net N ∧ N.length ≤ t) ∧ m = pure (dN N)) (fun i p => ∃ N : Nt, p = N.map tI ∧ N.length = i ∧ ∀ (q : Nat) r, N[q]? = some r → Row n q r) (EV.in1_3 ([]) rfl rfl (by simp)) (fun i z p hz hp => ?_) (fun p hp => ?_)
  · (refine EV.el1_2 hp ?_; try clear hp; intro N q273_ q274_; obtain rfl := q273_; (refine EV.el0_2 q274_ ?_; try clear q274_; intro hN hr))
    have hi : i < n := by
      have := (List.getElem?_eq_some_iff.mp hz).1
      rw [len_iota] at this
      exact this
    rw [iota_get hi] at hz
    have hz := (Option.some.inj hz).symm
    subst hz
    rw [filtI (fun o => decide (o ≠ (i : Int)) && decide (ix xs (2 + 8 * (i : Int) + o) < cap)) (by rw [len_iota]; exact hlim) (fun o m => by
      have ho := mem_iota.mp m
      rw [neInt, pure_bind, asB_bl, pure_bind]
      by_cases q : o ≠ (i : Int)
      · rw [decide_eq_true q, if_pos rfl, Bool.true_and]
        rw [mul_r (i := (8 : Int)) (j := (i : Int)), pure_bind, add_int, pure_bind, add_int, pure_bind, show getD (lI xs) (.int (2 + 8 * (i : Int) + o)) = pure (.int (ix xs (2 + 8 * (i : Int) + o))) from getL (f := D.int) (by omega) (by omega), pure_bind, lt_int, pure_bind, asB_bl]
      · rw [decide_eq_false q, if_neg (by decide), Bool.false_and])]
    simp only [pure_bind]
    have rr : Row n i ((iota n).filter fun o => decide (o ≠ (i : Int)) && decide (ix xs (2 + 8 * (i : Int) + o) < cap)) :=
      ⟨⟨fun x m => mem_iota.mp (List.mem_filter.mp m).1, (iota_asc n).filter _⟩, fun m => by
        have := (List.mem_filter.mp m).2
        simp at this⟩
    generalize (iota n).filter (fun o => decide (o ≠ (i : Int)) && decide (ix xs (2 + 8 * (i : Int) + o) < cap)) = row at rr ⊢
    have rl := rr.1.len
    rw [tupleL (by rw [List.length_map]; show _ ≤ 1000000; exact Nat.le_trans (by assumption) (by assumption)), pure_bind, okLen_ok (by rw [List.length_append, List.length_map, hN]; show i + 1 ≤ 1000000; exact Nat.lt_of_lt_of_le (by assumption) (by assumption)), pure_bind]
    refine ⟨_, rfl, N ++ [row], by rw [List.map_append]; rfl, by rw [List.length_append, hN]; rfl, fun q r e => ?_⟩
    by_cases hq : q < i
    · rw [List.getElem?_append_left (by rw [hN]; exact hq)] at e
      exact hr q r e
    · rw [List.getElem?_append_right (by rw [hN]; exact Nat.not_lt.mp hq), hN] at e
      have hq2 : q - i = 0 := by
        have := (List.getElem?_eq_some_iff.mp e).1
        simp at this
        assumption
      rw [hq2] at e
      obtain rfl := Option.some.inj e
      rw [show q = i from Nat.le_antisymm (Nat.le_of_sub_eq_zero hq2) (Nat.not_lt.mp hq)]
      exact rr
  · (refine EV.el1_2 hp ?_; try clear hp; intro N q275_ q276_; obtain rfl := q275_; (refine EV.el0_2 q276_ ?_; try clear q276_; intro hN hr))
    rw [len_iota] at hN
    refine EV.in1_2 N (⟨⟨by omega, by omega, fun i r e => ?_⟩, by omega⟩) ?_
    · rw [hN]
      exact hr i r e
    · rw [tupleL (by rw [List.length_map]; show _ ≤ 1000000; omega), pure_bind]
end Lw
namespace Lw
open PySem EV
section
variable {N : Nt}
theorem ne_nilC {xs : List D} (h : shp (.lst xs) = true) : neD (.lst xs) (.lst []) = pure (.bl (!xs.isEmpty)) := by
  show (if shp (.lst xs) = true ∧ shp (.lst []) = true then pure (.bl (!eqvD (.lst xs) (.lst []))) else bad : PM D) = _
  rw [if_pos ⟨h, by decide⟩]
  cases xs with
  | nil => rfl
  | cons x r => rfl
theorem lreachC (h : Net N) {c : Int} (h0 : 0 ≤ c) (h1 : c < N.length) : f_law_reach (dN N) (.int c) = pure (tI (reachL N c)) := by
  have hn := h.hi
  have hl := h.lim
  have e0 : mkL [D.int c] = pure (lI [c]) := rfl
  have eo : okL [] = pure ([] : List D) := rfl
  simp only [f_law_reach, pure_bind, e0, id, len_tup, List.length_map, range1 hl]
  refine forS_then (fun i p => ∃ xs : List Int, p = lI xs ∧ Fd N c xs ∧ (Closed N xs ∨ i + 1 ≤ xs.length)) (EV.in1_3 ([c]) rfl (⟨by simp, fun x m => by rw [List.mem_singleton.mp m]; exact .refl, by simp⟩) (.inr (by simp))) (fun i z p _ hp => ?_) (fun p hp => ?_)
  · (refine EV.el1_2 hp ?_; try clear hp; intro xs q277_ q278_; obtain rfl := q277_; (refine EV.el0_2 q278_ ?_; try clear q278_; intro f hc))
    simp only [eo, pure_bind, items_lst]
    have hxr : ∀ y ∈ xs, 0 ≤ y ∧ y < N.length := fun y m => h.reach_in ⟨h0, h1⟩ (f.rc y m)
    refine forS_ex (fun m => ∃ c', m = pure c' ∧ ∃ xs : List Int, c' = lI xs ∧ Fd N c xs ∧ (Closed N xs ∨ i + 1 + 1 ≤ xs.length)) (fun j p => ∃ ys : List Int, p = ys.map D.int ∧ Fd N c (xs ++ ys) ∧ (Closed N xs → ys = []) ∧ ∀ k : Nat, k < j → ∀ x, xs[k]? = some x → ∀ o ∈ ix N x, o ∈ xs ++ ys)
      ⟨[], rfl, by rw [List.append_nil]; exact f, fun _ => rfl, fun k hk => absurd hk (by exact absurd (by assumption) (Nat.not_lt_zero _))⟩ (fun j x p hx hp => ?_) (fun p hp => ?_)
    · (refine EV.el1_2 hp ?_; try clear hp; intro ys q279_ q280_; obtain rfl := q279_; (refine EV.el0_3 q280_ ?_; try clear q280_; intro g hk hd))
      have mx : x ∈ xs := List.mem_of_getElem? hx
      have rx := hxr x mx
      have row := (h.ixr rx.1 rx.2).1
      have rl := row.len
      have gl := g.len h h0 h1
      rw [List.length_append] at gl
      have el : addD (lI xs) (.lst (ys.map D.int)) = pure (lI (xs ++ ys)) := by
        show mkL (xs.map D.int ++ ys.map D.int) = _
        rw [← List.map_append]
        exact mkL_ok (by rw [List.length_map, List.length_append]; show _ ≤ 1000000; exact Nat.le_trans (by assumption) (by assumption))
      rw [show getD (dN N) (.int x) = pure (tI (ix N x)) from getT rx.1 rx.2]
      simp only [pure_bind, items_tup, el]
      rw [filtI (fun o => !decide (o ∈ xs ++ ys)) (by show _ ≤ 1000000; exact Nat.le_trans (by assumption) (by assumption)) (fun o _ => by rw [ninL, pure_bind, asB_bl])]
      have zs2 : ∀ o ∈ (ix N x).filter fun o => !decide (o ∈ xs ++ ys), o ∈ ix N x ∧ o ∉ xs ++ ys := fun o m => by
        have m := List.mem_filter.mp m
        refine ⟨m.1, fun q => ?_⟩
        rw [decide_eq_true q] at m
        exact absurd m.2 (by decide)
      have znd : ((ix N x).filter fun o => !decide (o ∈ xs ++ ys)).Nodup := (asc_nodup row.2).filter _
      have zal : ∀ o ∈ ix N x, o ∈ xs ++ ys ∨ o ∈ (ix N x).filter fun o => !decide (o ∈ xs ++ ys) := fun o m => by
        by_cases q : o ∈ xs ++ ys
        · exact .inl q
        · exact .inr (List.mem_filter.mpr ⟨m, by rw [decide_eq_false q]; rfl⟩)
      generalize (ix N x).filter (fun o => !decide (o ∈ xs ++ ys)) = zs at zs2 znd zal ⊢
      simp only [pure_bind, noExc_pure, scal_ints]
      have g2 : Fd N c (xs ++ (ys ++ zs)) := by
        rw [← List.append_assoc]
        refine ⟨List.nodup_append.mpr ⟨g.nd, znd, fun a ha b hb e => (zs2 b hb).2 (e ▸ ha)⟩, fun o m => ?_, List.mem_append_left _ g.c⟩
        rcases List.mem_append.mp m with m | m
        · exact g.rc o m
        · exact .step (f.rc x mx) (zs2 o m).1
      have gl2 := g2.len h h0 h1
      rw [List.length_append] at gl2
      rw [show ys.map D.int ++ zs.map D.int = (ys ++ zs).map D.int by rw [List.map_append], okLen_ok (by rw [List.length_map]; show _ ≤ 1000000; omega), pure_bind]
      refine ⟨_, rfl, _, rfl, g2, fun k => ?_, fun k hk' y hy o m => ?_⟩
      · have e := hk k
        subst e
        rw [List.nil_append]
        refine List.eq_nil_iff_forall_not_mem.mpr fun o m => (zs2 o m).2 ?_
        rw [List.append_nil]
        exact k x mx o (zs2 o m).1
      · rw [← List.append_assoc]
        by_cases q : k < j
        · exact List.mem_append_left _ (hd k q y hy o m)
        · have : k = j := by exact EV.w_split (by assumption) (by assumption)
          subst this
          rw [hx] at hy
          obtain rfl := Option.some.inj hy
          rcases zal o m with q | q
          · exact List.mem_append_left _ q
          · exact List.mem_append_right _ q
    · (refine EV.el1_2 hp ?_; try clear hp; intro ys q281_ q282_; obtain rfl := q281_; (refine EV.el0_3 q282_ ?_; try clear q282_; intro g hk hd))
      have gl := g.len h h0 h1
      rw [List.length_append] at gl
      have el : addD (lI xs) (.lst (ys.map D.int)) = pure (lI (xs ++ ys)) := by
        show mkL (xs.map D.int ++ ys.map D.int) = _
        rw [← List.map_append]
        exact mkL_ok (by rw [List.length_map, List.length_append]; show _ ≤ 1000000; exact Nat.le_trans (by assumption) (by assumption))
      simp only [pure_bind, el]
      refine ⟨_, rfl, _, rfl, g, ?_⟩
      cases ys with
      | nil =>
        refine .inl fun x m y my => ?_
        have m' : x ∈ xs := by simpa using m
        refine EV.el1_1 (List.mem_iff_getElem?.mp m') fun k hk' => ?_
        exact hd k (List.getElem?_eq_some_iff.mp hk').1 x hk' y my
      | cons a t =>
        refine .inr ?_
        rcases hc with hc | hc
        · exact absurd (hk hc) (by simp)
        · rw [List.length_append, List.length_cons]
          omega
  · (refine EV.el1_2 hp ?_; try clear hp; intro xs q283_ q284_; obtain rfl := q283_; (refine EV.el0_2 q284_ ?_; try clear q284_; intro f hc))
    have k : Closed N xs := by
      rcases hc with hc | hc
      · exact hc
      · rw [len_iota] at hc
        have := f.len h h0 h1
        omega
    have e3 := f.sorted h h0 h1 k
    simp only [bind_assoc, pure_bind, bind_pure]
    exact e3
theorem forS_rows {body : List D → D → PM (List D)} (b : Int → Bool) (f : Int → D) : ∀ {ns : List Int} {c : List D}, (∀ c n, n ∈ ns → c.length + 1 ≤ lim → body c (.int n) = pure (if b n = true then c ++ [f n] else c)) → c.length + ns.length ≤ lim → forS dec1 body (ns.map D.int) c = pure (c ++ (ns.filter b).map f) := by
  intro ns
  induction ns with
  | nil =>
    intro c _ _
    rw [List.map_nil, List.filter_nil, List.map_nil, List.append_nil]
    rfl
  | cons n ns ih =>
    intro c h hl
    rw [List.length_cons] at hl
    rw [List.map_cons]
    show (body c (.int n) >>= forS dec1 body (ns.map D.int)) = _
    rw [h c n List.mem_cons_self (by omega), pure_bind]
    by_cases q : b n = true
    · rw [if_pos q, ih (fun c m hm => h c m (List.mem_cons_of_mem _ hm)) (by rw [List.length_append, List.length_singleton]; omega), List.filter_cons_of_pos q, List.map_cons, List.append_assoc]
      rfl
    · rw [if_neg q, ih (fun c m hm => h c m (List.mem_cons_of_mem _ hm)) (by exact Nat.le_of_lt (by assumption)), List.filter_cons_of_neg q]
theorem alarmsC (h : Net N) (B : List Int) : f_law_alarms (dN N) (tI B) = pure (tI (alarmsL N B)) := by
  have hn := h.hi
  have hl := h.lim
  have eo : okL [] = pure ([] : List D) := rfl
  have en : mkL [] = pure (.lst []) := rfl
  simp only [f_law_alarms, pure_bind, id, len_tup, List.length_map, range1 hl, eo, fn2_eq, en]
  rw [forS_rows (fun o => meets (reachL N o) B) D.int (fun acc o mo hc => ?_) (by rw [len_iota, List.length_nil]; show 0 + _ ≤ 1000000; omega), pure_bind, List.nil_append, alarm_filter h]
  · have := alarmsL_len h B
    refine (congrArg (· >>= _) (tupleL (xs := (alarmsL N B).map D.int) ?_)).trans (pure_bind _ _)
    rw [List.length_map]
    show _ ≤ 1000000
    exact EV.w_le8 (by assumption)
  · have m := mem_iota.mp mo
    have r8 := reachL_len h o
    rw [lreachC h m.1 m.2, run0_p]
    simp only [pure_bind, items_tup]
    rw [compI (fun y => decide (y ∈ B)) (fun _ => .int 1) (by show _ ≤ 1000000; exact EV.w_le8 (by assumption)) (fun y my => by rw [inT, pure_bind, asB_bl]) (fun _ _ _ => rfl)]
    simp only [pure_bind]
    rw [ne_nilC (by
      rw [show (((reachL N o).filter fun y => decide (y ∈ B)).map fun _ => D.int 1) = (((reachL N o).filter fun y => decide (y ∈ B)).map fun _ => (1 : Int)).map D.int by rw [List.map_map]; rfl]
      exact shpLI _), pure_bind, asB_bl, isE_map, filt_meets]
    simp only [noExc_pure, pure_bind]
    by_cases q : meets (reachL N o) B = true
    · rw [if_pos q, if_pos q, okLen_ok (by rw [List.length_append, List.length_singleton]; exact hc), pure_bind]
      simp only [pure_bind]
    · rw [if_neg q, if_neg q]
      simp only [pure_bind]
end
end Lw
namespace Lw
open PySem EV
noncomputable def oN (N : Nt) : D := .obj cNet [("own_needs", dN N)]
section
variable {N : Nt}
theorem new_ok (h : Net N) : newO cNet ["own_needs"] (fnL1 f_Net_init) [dN N] = pure (oN N) := by
  have e : f_Net_init (dN N) = pure [dN N] := by
    simp only [f_Net_init, pure_bind, fn1_eq, is_net h, run0_p, asB_bl, Bool.not_true, Bool.false_eq_true, if_false, List.nil_append]
  show (run0 (f_Net_init (dN N)) >>= fun fs => pure (D.obj cNet ([("own_needs" : Str)].zip fs))) = _
  rw [e]
  rfl
theorem made_by (N : Nt) (h1 : 1 ≤ N.length) (h8 : N.length ≤ 8) : f_law_made (dN N) = (newO cNet ["own_needs"] (fnL1 f_Net_init) [dN N] >>= fun d => pure (id d)) := by
  match N, h1, h8 with
  | [a], _, _ => kernel_rfl
  | [a, b], _, _ => kernel_rfl
  | [a, b, c], _, _ => kernel_rfl
  | [a, b, c, d], _, _ => kernel_rfl
  | [a, b, c, d, e], _, _ => kernel_rfl
  | [a, b, c, d, e, f], _, _ => kernel_rfl
  | [a, b, c, d, e, f, g], _, _ => kernel_rfl
  | [a, b, c, d, e, f, g, i], _, _ => kernel_rfl
  | _ :: _ :: _ :: _ :: _ :: _ :: _ :: _ :: _ :: _, _, h => simp only [List.length_cons] at h; omega
theorem made (h : Net N) : f_law_made (dN N) = pure (oN N) := by
  rw [made_by N h.lo h.hi, new_ok h, pure_bind]
  rfl
theorem own_needs (N : Nt) : fldD cNet "own_needs" (oN N) = pure (dN N) := by
  show (if cNet = cNet then (match ([("own_needs", dN N)] : List (Str × D)).lookup ("own_needs" : Str) with
    | some d => pure d
    | none => bad) else bad : PM D) = _
  rw [if_pos rfl]
  rfl
theorem meth_ok (F : List D → PM D) (N : Nt) (ds : List D) : methD cNet F (oN N) ds = run0 (F (oN N :: ds)) := by
  show (if cNet = cNet then run0 (F (oN N :: ds)) else bad) = _
  exact if_pos rfl
end
/-- what is_same looks through -/
inductive Plain : Nat → D → Prop
  | int (n : Nat) (i : Int) : Plain (n + 1) (.int i)
  | str (n : Nat) (x : Str) : Plain (n + 1) (.str x)
  | tup {n : Nat} {xs : List D} (h : ∀ x ∈ xs, Plain n x) (hl : xs.length ≤ 1000) : Plain (n + 1) (.tup xs)
theorem getD_at {xs : List D} {i : Nat} {d : D} (h : xs[i]? = some d) : getD (.tup xs) (.int (i : Int)) = pure d := by
  have hi : i < xs.length := (List.getElem?_eq_some_iff.mp h).1
  letI : Inhabited D := ⟨.non⟩
  have e := getT (l := xs) (f := id) (i := (i : Int)) (by exact Int.natCast_nonneg _) (by exact Int.ofNat_lt.mpr (by assumption))
  rw [List.map_id] at e
  have e2 : ix xs (i : Int) = d := by
    unfold ix
    rw [show ((i : Int)).toNat = i from by rfl, List.getD_eq_getElem?_getD, h]
    rfl
  rw [e2] at e
  exact e
theorem same_int (n : Nat) (i : Int) : f_law_is_same (n + 1) (.int i) (.int i) = pure (.bl true) := by
  show f_law_is_same_step (f_law_is_same n) (.int i) (.int i) = _
  have e1 : (isF "tuple" (.int i) : PM D) = pure (.bl false) := rfl
  have e2 : (isND (.int i) .non : PM D) = pure (.bl false) := rfl
  have e3 : (isF "str" (.int i) : PM D) = pure (.bl false) := rfl
  have e4 : neD (.bl false) (.bl false) = (pure (.bl false) : PM D) := by kernel_rfl
  simp only [f_law_is_same_step, pure_bind, e1, e2, e3, isF_int, isF_intB, e4, asB_bl, Bool.not_true, Bool.false_eq_true, if_false, eqInt, decide_true, id]
theorem same_str (n : Nat) (x : Str) : f_law_is_same (n + 1) (.str x) (.str x) = pure (.bl true) := by
  show f_law_is_same_step (f_law_is_same n) (.str x) (.str x) = _
  have e1 : (isF "tuple" (.str x) : PM D) = pure (.bl false) := rfl
  have e2 : (isND (.str x) .non : PM D) = pure (.bl false) := rfl
  have e3 : (isF "str" (.str x) : PM D) = pure (.bl true) := rfl
  have e4 : eqD (.str x) (.str x) = (pure (.bl true) : PM D) := by
    show (pure (D.bl (x == x)) : PM D) = _
    rw [beq_self_eq_true]
  simp only [f_law_is_same_step, pure_bind, e1, e2, e3, e4, asB_bl, Bool.false_eq_true, if_false, if_true, id]
theorem same_tup {n : Nat} {xs : List D} (h : ∀ x ∈ xs, f_law_is_same n x x = pure (.bl true)) (hl : xs.length ≤ 1000) : f_law_is_same (n + 1) (.tup xs) (.tup xs) = pure (.bl true) := by
  show f_law_is_same_step (f_law_is_same n) (.tup xs) (.tup xs) = _
  have hlim : xs.length ≤ lim := by show _ ≤ 1000000; exact EV.w_le (by assumption) (by decide)
  simp only [f_law_is_same_step, pure_bind, isF_tup, asB_bl, Bool.not_true, Bool.false_eq_true, if_false, if_true, len_tup, neInt, ne_eq, not_true_eq_false, decide_false, range1 hlim, id]
  rw [compIm (fun _ => .bl true) (by rw [len_iota]; exact hlim) (fun _ => rfl) (fun z m => by
    have hz := mem_iota.mp m
    obtain ⟨i, rfl⟩ : ∃ i : Nat, z = i := ⟨z.toNat, by omega⟩
    have hi : i < xs.length := by omega
    have e := getD_at (List.getElem?_eq_getElem hi)
    rw [e, pure_bind]
    show run0 (f_law_is_same n xs[i] xs[i]) = _
    rw [h _ (List.getElem_mem hi), run0_p])]
  simp only [pure_bind]
  rw [show ((iota xs.length).map fun _ => D.bl true) = ((iota xs.length).map fun _ => true).map D.bl by rw [List.map_map]; rfl, blsF]
  simp only [pure_bind]
  exact congrArg (fun b => (pure (D.bl b) : PM D)) (List.all_eq_true.mpr fun x m => by
    obtain ⟨_, _, rfl⟩ := List.mem_map.mp m
    rfl)
theorem Plain.mono {n : Nat} {d : D} (p : Plain n d) : Plain (n + 1) d := by
  induction p with
  | int n i => exact .int _ i
  | str n x => exact .str _ x
  | tup h hl ih => exact .tup ih hl
theorem cellC (ns : List Int) {z : Int} (h : 0 ≤ z) : ∃ v : Int, f_law_cell ns (.int z) = pure (.int v) := by
  simp only [f_law_cell, pure_bind, lt_int, asB_bl, id]
  by_cases g : z < ns.length
  · rw [decide_eq_true g, if_pos rfl]
    refine EV.in1_1 (ix ns z) ?_
    show ((match L2.atI ns z with | some m => pure (.int m) | none => bad : PM D) >>= _) = _
    rw [atI_ix h g]
    rfl
  · rw [decide_eq_false g, if_neg (by decide)]
    exact EV.in1_1 (0) rfl
theorem said8_net : saidM8 (raiseP ⟨"NetError", []⟩) = pure (.str "net") := funext fun s => by kernel_rfl
theorem eightC {P : Int → Prop} (h1 : P 1) (h2 : P 2) (h3 : P 3) (h4 : P 4) (h5 : P 5) (h6 : P 6) (h7 : P 7) (h8 : P 8) : ∀ n : Nat, 1 ≤ n → n ≤ 8 → P n
  | 0, h, _ => absurd h (by decide)
  | 1, _, _ => h1
  | 2, _, _ => h2
  | 3, _, _ => h3
  | 4, _, _ => h4
  | 5, _, _ => h5
  | 6, _, _ => h6
  | 7, _, _ => h7
  | 8, _, _ => h8
  | n + 9, _, h => absurd h (by omega)
end Lw
namespace Lw
open PySem EV
section
variable {N A : Nt}
theorem needs_ok (N : Nt) : noExc (methD cNet (fn1 f_Net_needs) (oN N) []) = pure (dN N) := by
  have e : f_Net_needs (oN N) = pure (dN N) := by simp only [f_Net_needs, pure_bind, own_needs, id]
  rw [meth_ok, fn1_eq, e, run0_p, noExc_pure]
/-- how long a net says that it is -/
noncomputable def SN (n : Int) : Str := match fsD [pure (D.str "Net("), (pure (.int n)) >>= fmtD, pure (D.str " components)")] Str.empty [] with
  | .ok (.str x) _ => x
  | _ => ""
theorem sn_ok : ∀ n : Nat, 1 ≤ n → n ≤ 8 → ∀ s, fsD [pure (D.str "Net("), (pure (.int n)) >>= fmtD, pure (D.str " components)")] Str.empty s = (pure (.str (SN n)) : PM D) s := eightC (P := fun n => ∀ s, fsD [pure (D.str "Net("), (pure (.int n)) >>= fmtD, pure (D.str " components)")] Str.empty s = (pure (.str (SN n)) : PM D) s)
  (fun s => by kernel_rfl) (fun s => by kernel_rfl) (fun s => by kernel_rfl) (fun s => by kernel_rfl) (fun s => by kernel_rfl) (fun s => by kernel_rfl) (fun s => by kernel_rfl) (fun s => by kernel_rfl)
theorem net_repr (h : Net N) : f_Net_repr (oN N) = pure (.str (SN N.length)) := by
  have e : f_Net_repr (oN N) = (fsD [pure (D.str "Net("), (pure (.int N.length)) >>= fmtD, pure (D.str " components)")] Str.empty >>= fun d => pure (id d)) := by
    simp only [f_Net_repr, pure_bind, bind_assoc, own_needs, len_tup, List.length_map]
  rw [e, funext (sn_ok N.length h.lo h.hi), pure_bind]
  rfl
theorem net_len (h : Net N) : f_Net_len (oN N) = pure (.int N.length) := by
  simp only [f_Net_len, pure_bind, bind_assoc, own_needs, len_tup, List.length_map, id]
theorem ln_ok {n : Nat} (h : n ≤ 8) : lnD (.int n) = pure (.int n) := by
  unfold lnD
  dsimp only
  exact if_pos ⟨by exact Int.natCast_nonneg _, by omega⟩
theorem eqv_net : ∀ A B : Nt, eqvD (dN A) (dN B) = (A == B)
  | [], [] => rfl
  | [], _ :: _ => rfl
  | _ :: _, [] => rfl
  | x :: A, y :: B => by
    show (eqvD (tI x) (tI y) && eqvD (dN A) (dN B)) = (x == y && A == B)
    rw [eqv_rows, eqv_net A B]
theorem dN_shp (A : Nt) : shp (dN A) = true := by
  have e : shp (.lst (A.map tI)) = true := rows_shp
  unfold EV.shp SeqAt.shaped at e ⊢
  simpa only [toPy, PyData.canLay0, PyData.depth] using e
theorem eqN (A B : Nt) : eqD (dN A) (dN B) = pure (.bl (decide (A = B))) := by
  show (if shp (dN A) = true ∧ shp (dN B) = true then pure (.bl (eqvD (dN A) (dN B))) else bad : PM D) = _
  rw [if_pos ⟨dN_shp A, dN_shp B⟩, eqv_net]
  exact congrArg (fun b => (pure (D.bl b) : PM D)) (by rw [Bool.eq_iff_iff, beq_iff_eq, decide_eq_true_eq])
theorem isNet_o (N : Nt) : isC tab_Net (oN N) = pure (.bl true) := by
  kernel_rfl
theorem eq_net (A B : Nt) : methD cNet (fn2 f_Net_eq) (oN A) [oN B] = pure (.bl (decide (A = B))) := by
  rw [meth_ok, fn2_eq]
  simp only [f_Net_eq, pure_bind, bind_assoc, isNet_o, asB_bl, if_true, own_needs, eqN, id, run0_p]
theorem knD_o (B : Nt) : knD cNet (oN B) = pure () := by
  show (if cNet = cNet then pure () else bad : PM Unit) = _
  rw [if_pos rfl]
/-- no instance, no class -/
noncomputable def noObj : D → Bool
  | .obj _ _ => false
  | .cls _ => false
  | _ => true
end
end Lw
namespace Lw
open PySem EV
theorem cps_ext {x y : Str} (h : x.cps.toList = y.cps.toList) : x = y := by
  have e := Array.toList_inj.mp h
  cases x
  cases y
  exact congrArg Str.mk e
theorem dig8 {P : Int → Prop} (h0 : P 0) (h1 : P 1) (h2 : P 2) (h3 : P 3) (h4 : P 4) (h5 : P 5) (h6 : P 6) (h7 : P 7) {x : Int} (a : 0 ≤ x) (b : x < 8) : P x := by
  (refine EV.el1_1 (Int.eq_ofNat_of_zero_le a) fun n q286_ => ?_; obtain rfl := q286_)
  exact EV.allB_at (P := fun n : Nat => P n) (n := 8) ⟨⟨⟨⟨⟨⟨⟨⟨trivial, h0⟩, h1⟩, h2⟩, h3⟩, h4⟩, h5⟩, h6⟩, h7⟩ (Int.ofNat_lt.mp b)
/-- a figure -/
noncomputable def figS (x : Int) : Str := ⟨#[48 + x.toNat]⟩
theorem numS_fig {x : Int} (a : 0 ≤ x) (b : x < 8) : numS x = figS x := dig8 (P := fun x => numS x = figS x) (by decide +kernel) (by decide +kernel) (by decide +kernel) (by decide +kernel) (by decide +kernel) (by decide +kernel) (by decide +kernel) (by decide +kernel) a b
theorem strF_fig {x : Int} (a : 0 ≤ x) (b : x < 8) : strF [.int x] = pure (.str (figS x)) := by
  rw [← numS_fig a b]
  show (if x.natAbs.log2 < 1920 then pure (.str (numS x)) else bad : PM D) = _
  refine if_pos ?_
  exact dig8 (P := fun x => x.natAbs.log2 < 1920) (by decide +kernel) (by decide +kernel) (by decide +kernel) (by decide +kernel) (by decide +kernel) (by decide +kernel) (by decide +kernel) (by decide +kernel) a b
/-- the head of a line -/
noncomputable def headS (x : Int) : Str := ⟨#[48 + x.toNat, 58]⟩
theorem head_ok {x : Int} (a : 0 ≤ x) (b : x < 8) : fsD [fmtD (D.int x), pure (D.str ":")] Str.empty = pure (.str (headS x)) :=
  dig8 (P := fun x => fsD [fmtD (D.int x), pure (D.str ":")] Str.empty = pure (.str (headS x))) (funext fun s => by kernel_rfl) (funext fun s => by kernel_rfl) (funext fun s => by kernel_rfl) (funext fun s => by kernel_rfl) (funext fun s => by kernel_rfl) (funext fun s => by kernel_rfl) (funext fun s => by kernel_rfl) (funext fun s => by kernel_rfl) a b
noncomputable def partsOf (i : Int) (r : List Int) : List Str := headS i :: r.map figS
/-- the signs of a line -/
noncomputable def lineL (i : Int) (r : List Int) : List Nat := [48 + i.toNat, 58] ++ (r.flatMap fun x => [32, 48 + x.toNat])
noncomputable def lineS (i : Int) (r : List Int) : Str := ⟨(lineL i r).toArray⟩
theorem strsOf_map : ∀ ys : List Str, strsOf (ys.map D.str) = some ys
  | [] => rfl
  | y :: ys => by
    rw [List.map_cons]
    show (strsOf (ys.map D.str)).map (y :: ·) = _
    rw [strsOf_map ys]
    rfl
theorem joinD_ok {a : Str} {ys : List Str} (h : (ys.map (·.length)).sum + ys.length * a.length ≤ lim) : joinD a (ys.map D.str) = pure (.str (Txt.join a ys)) := by
  unfold joinD
  rw [strsOf_map]
  exact if_pos h
theorem tl_app (x y : Str) : (x ++ y).cps.toList = x.cps.toList ++ y.cps.toList := TL.tl_append x y
theorem join_fig (z : List Nat) : ∀ (h : List Nat) (r : List Int), TL.joinL z (h :: r.map fun x => [48 + x.toNat]) = h ++ r.flatMap fun x => z ++ [48 + x.toNat]
  | h, [] => by
    show h = h ++ []
    rw [List.append_nil]
  | h, x :: r => by
    show h ++ (z ++ TL.joinL z ([48 + x.toNat] :: r.map fun x => [48 + x.toNat])) = _
    rw [join_fig z [48 + x.toNat] r, List.flatMap_cons, List.append_assoc]
theorem line_join (i : Int) (r : List Int) : Txt.join " " (partsOf i r) = lineS i r := by
  refine cps_ext ?_
  rw [TL.join_eq]
  show TL.tl (Str.join " " (partsOf i r)) = lineL i r
  rw [TL.tl_join]
  show TL.joinL [32] ((headS i).cps.toList :: (r.map figS).map TL.tl) = _
  rw [List.map_map]
  show TL.joinL [32] ([48 + i.toNat, 58] :: r.map fun x => [48 + x.toNat]) = _
  rw [join_fig]
  rfl
section
variable {N : Nt} {n : Nat} {r : List Int}
theorem figs_sum : ∀ r : List Int, ((r.map figS).map (·.length)).sum = r.length
  | [] => rfl
  | x :: r => by
    rw [List.map_cons, List.map_cons, List.sum_cons, figs_sum r, List.length_cons]
    show 1 + r.length = _
    exact Nat.add_comm _ _
theorem line_ok {i : Int} (i0 : 0 ≤ i) (i8 : i < 8) (hr : Rising n r) (h8 : n ≤ 8) : f_line_of (.int i) (tI r) = pure (.str (lineS i r)) := by
  have rl := hr.len
  have e1 : ∀ d : D, mkL [d] = pure (.lst [d]) := fun _ => rfl
  simp only [f_line_of, pure_bind, bind_assoc, head_ok i0 i8, e1, items_tup, id]
  show (strOf (.str " ") >>= fun x11 => _) = _
  rw [show strOf (.str " ") = (pure " " : PM Str) from rfl, pure_bind]
  rw [compIm (fun x => .str (figS x)) (by show _ ≤ 1000000; omega) (fun _ => rfl) (fun x m => by
    have := hr.1 x m
    rw [strF_fig (by exact (And.left (by assumption))) (by omega)]), pure_bind]
  have e2 : addD (.lst [D.str (headS i)]) (.lst (r.map fun x => D.str (figS x))) = pure (.lst ((partsOf i r).map D.str)) := by
    show mkL _ = _
    have e3 : [D.str (headS i)] ++ (r.map fun x => D.str (figS x)) = (partsOf i r).map D.str := by
      unfold partsOf
      rw [List.map_cons, List.map_map]
      rfl
    rw [e3]
    exact mkL_ok (by unfold partsOf; rw [List.length_map, List.length_cons, List.length_map]; show _ ≤ 1000000; omega)
  rw [e2, pure_bind, items_lst, pure_bind, joinD_ok ?_, pure_bind, line_join]
  unfold partsOf
  rw [List.map_cons, List.sum_cons, figs_sum, List.length_cons, List.length_map]
  show 2 + r.length + (r.length + 1) * 1 ≤ 1000000
  omega
theorem lineL_len (i : Int) : ∀ r : List Int, (lineL i r).length = 2 + 2 * r.length := fun r => by
  unfold lineL
  have e : ∀ r : List Int, (r.flatMap fun x => [32, 48 + x.toNat]).length = 2 * r.length := fun r => by
    induction r with
    | nil => rfl
    | cons x r ih =>
      rw [List.flatMap_cons, List.length_append, ih]
      simp only [List.length_cons, List.length_nil]
      exact Nat.add_comm _ _
  rw [List.length_append, e]
  rfl
/-- the signs of a text -/
noncomputable def rowsL (N : Nt) : List (Int × List Int) := (iota N.length).map fun i => (i, ix N i)
noncomputable def txtL (N : Nt) : List Nat := (rowsL N).flatMap fun p => lineL p.1 p.2 ++ [10]
noncomputable def txtS (N : Nt) : Str := ⟨(txtL N).toArray⟩
noncomputable def endS (x : Str) : Str := x ++ "\n"
theorem endS_line (i : Int) (r : List Int) : endS (lineS i r) = ⟨(lineL i r ++ [10]).toArray⟩ := cps_ext (by
  unfold endS
  rw [tl_app]
  rfl)
theorem join0 : ∀ ls : List (List Nat), TL.joinL [] ls = ls.flatten
  | [] => rfl
  | [p] => by simp [TL.joinL]
  | p :: q :: r => by
    show p ++ ([] ++ TL.joinL [] (q :: r)) = _
    rw [join0 (q :: r), List.nil_append]
    rfl
theorem text_join (N : Nt) : Txt.join "" ((rowsL N).map fun p => endS (lineS p.1 p.2)) = txtS N := by
  refine cps_ext ?_
  rw [TL.join_eq]
  show TL.tl (Str.join "" _) = txtL N
  rw [TL.tl_join, show TL.tl "" = [] from rfl, join0, List.map_map]
  unfold txtL
  rw [List.flatMap_def]
  refine congrArg List.flatten (List.map_congr_left fun p _ => ?_)
  show TL.tl (endS (lineS p.1 p.2)) = _
  rw [endS_line]
theorem pairs_rows (N : Nt) : (pairsFrom 0 (N.map tI)).map dec2 = (rowsL N).map fun p => some (D.int p.1, tI p.2) := by
  rw [pairs_dec]
  refine List.ext_getElem? fun i => ?_
  unfold rowsL
  rw [List.getElem?_map, List.getElem?_zipIdx, List.map_map, List.getElem?_map, List.getElem?_map]
  by_cases hi : i < N.length
  · rw [iota_get hi, List.getElem?_eq_getElem hi]
    have e : ix N (i : Int) = N[i] := by
      unfold ix
      rw [show ((i : Int)).toNat = i from by rfl, List.getD_eq_getElem?_getD, List.getElem?_eq_getElem hi]
      rfl
    simp [e]
  · rw [List.getElem?_eq_none (by exact Nat.not_lt.mp (by assumption)), List.getElem?_eq_none (by rw [len_iota]; exact Nat.not_lt.mp (by assumption))]
    rfl
theorem rowsL_at (h : Net N) {p : Int × List Int} (m : p ∈ rowsL N) : (0 ≤ p.1 ∧ p.1 < N.length) ∧ Rising N.length p.2 := by
  (refine EV.el1_2 (List.mem_map.mp m) fun i mi q287_ => ?_; obtain rfl := q287_)
  have hi := mem_iota.mp mi
  exact ⟨hi, (h.ixr hi.1 hi.2).1⟩
theorem sum_le {α : Type} {f : α → Nat} {k : Nat} : ∀ {l : List α}, (∀ x ∈ l, f x ≤ k) → (l.map f).sum ≤ l.length * k
  | [], _ => by simp
  | x :: l, h => by
    rw [List.map_cons, List.sum_cons, List.length_cons, Nat.succ_mul]
    have a := h x List.mem_cons_self
    have b := sum_le (l := l) fun y m => h y (List.mem_cons_of_mem _ m)
    omega
theorem text_ok (h : Net N) : f_text_of (dN N) = pure (.str (txtS N)) := by
  have h8 := h.hi
  have hl := h.lim
  have rl : (rowsL N).length = N.length := by
    unfold rowsL
    rw [List.length_map, len_iota]
  simp only [f_text_of, pure_bind, bind_assoc, enum_tup, id]
  rw [show strOf (.str "") = (pure "" : PM Str) from rfl, pure_bind]
  rw [compPm (g := fun p : Int × List Int => (D.int p.1, tI p.2)) (fun p => D.str (endS (lineS p.1 p.2))) (pairs_rows N) (by rw [pairs_len, List.length_map]; exact hl) (fun _ => rfl) (fun p m => by
    refine EV.el0_2 (rowsL_at h m) fun hp hr => ?_
    rw [fn2_eq, line_ok hp.1 (by omega) hr h8, run0_p, pure_bind]
    show (if (lineS p.1 p.2).length + ("\n" : Str).length ≤ lim then pure (.str (lineS p.1 p.2 ++ "\n")) else bad : PM D) = _
    refine if_pos ?_
    have e : (lineS p.1 p.2).length = (lineL p.1 p.2).length := rfl
    rw [e, lineL_len]
    have := hr.len
    show 2 + 2 * p.2.length + 1 ≤ 1000000
    omega), pure_bind, items_lst, pure_bind]
  rw [show (rowsL N).map (fun p => D.str (endS (lineS p.1 p.2))) = ((rowsL N).map fun p => endS (lineS p.1 p.2)).map D.str by rw [List.map_map]; rfl]
  rw [joinD_ok ?_, pure_bind, text_join]
  rw [List.map_map]
  have b := sum_le (f := (fun x : Str => x.length) ∘ fun p : Int × List Int => endS (lineS p.1 p.2)) (k := 19) (l := rowsL N) fun p m => by
    refine EV.el0_2 (rowsL_at h m) fun hp hr => ?_
    have e : ((fun x : Str => x.length) ∘ fun p : Int × List Int => endS (lineS p.1 p.2)) p = (lineL p.1 p.2 ++ [10]).length := by
      show (endS (lineS p.1 p.2)).length = _
      rw [endS_line]
      rfl
    rw [e, List.length_append, lineL_len]
    have := hr.len
    show 2 + 2 * p.2.length + 1 ≤ 19
    omega
  rw [rl] at b
  show _ + _ * 0 ≤ 1000000
  omega
theorem net_text (h : Net N) : f_Net_text (oN N) = pure (.str (txtS N)) := by
  simp only [f_Net_text, pure_bind, bind_assoc, own_needs, fn1_eq, text_ok h, run0_p, id]
theorem text_meth (h : Net N) : methD cNet (fn1 f_Net_text) (oN N) [] = pure (.str (txtS N)) := by
  rw [meth_ok, fn1_eq, net_text h, run0_p]
theorem obj_text (N : Nt) : objD cNet "text" (oN N) = pure () := by
  show (if cNet = cNet ∧ ("text" : Str) ∉ [("own_needs" : Str)] then pure () else bad : PM Unit) = _
  exact if_pos ⟨rfl, by decide⟩
end
end Lw
namespace Lw
open PySem EV
section
variable {N : Nt} {ws : List Str}
theorem repD34 (n : Nat) : repD (n : Int) [D.int 3, D.int 4] = ((List.replicate n ([3, 4] : List Int)).flatten).map D.int := by
  unfold repD
  rw [Int.toNat_natCast]
  induction n with
  | zero => rfl
  | succ n ih =>
    rw [List.replicate_succ, List.replicate_succ, List.flatten_cons, List.flatten_cons, ih, List.map_append]
    rfl
noncomputable def drawB (n : Nat) : List Int := 3 :: (List.replicate n ([3, 4] : List Int)).flatten
theorem drawB_len (n : Nat) : (drawB n).length = 1 + 2 * n := by
  unfold drawB
  rw [List.length_cons]
  have e : ((List.replicate n ([3, 4] : List Int)).flatten).length = 2 * n := by
    induction n with
    | zero => rfl
    | succ n ih =>
      rw [List.replicate_succ, List.flatten_cons, List.length_append, ih]
      simp
      exact Nat.add_comm _ _
  omega
theorem drawB_mem {n : Nat} {b : Int} (m : b ∈ drawB n) : 1 ≤ b ∧ b ≤ 1000 := by
  rcases List.mem_cons.mp m with rfl | m
  · decide
  · refine EV.el1_2 (List.mem_flatten.mp m) fun l ml mb => ?_
    rw [List.eq_of_mem_replicate ml] at mb
    simp only [List.mem_cons, List.not_mem_nil, or_false] at mb
    omega
theorem mul34 {n : Nat} (h : n ≤ 8) : mulL (.lst [.int 3, .int 4]) (.int n) = pure (.lst (((List.replicate n ([3, 4] : List Int)).flatten).map D.int)) := by
  unfold mulL
  dsimp only
  have e := drawB_len n
  unfold drawB at e
  rw [List.length_cons] at e
  rw [if_pos ⟨by exact Int.natCast_nonneg _, by omega, by rw [Int.toNat_natCast]; show 2 * n ≤ 1000000; omega⟩, repD34]
  exact mkL_ok (by rw [List.length_map]; show _ ≤ 1000000; omega)
/-- a report is drawn -/
theorem reportC (c : Int) (h : Net N) : ∃ ws, Rep N ws ∧ f_law_report (.int c) (dN N) = pure (tS ws) := by
  have h8 := h.hi
  have hl := h.lim
  have e1 : mkL [D.int 3] = pure (.lst [D.int 3]) := rfl
  have e2 : mkL [D.int 3, D.int 4] = pure (.lst [D.int 3, D.int 4]) := rfl
  have eo : okL [] = pure ([] : List D) := rfl
  (refine EV.el1_2 (draws c (bs := drawB N.length) (fun b m => drawB_mem m) (by rw [drawB_len]; omega)) fun xs hx hd => ?_)
  have lx : xs.length = 1 + 2 * N.length := by rw [hd.1, drawB_len]
  have a1 : addD (.lst [D.int 3]) (.lst (((List.replicate N.length ([3, 4] : List Int)).flatten).map D.int)) = pure (lI (drawB N.length)) := by
    show mkL _ = _
    have e := drawB_len N.length
    exact mkL_ok (by
      show (D.int 3 :: (((List.replicate N.length ([3, 4] : List Int)).flatten).map D.int)).length ≤ _
      have e2 : (D.int 3 :: (((List.replicate N.length ([3, 4] : List Int)).flatten).map D.int)).length = (drawB N.length).length := by
        unfold drawB
        rw [List.length_cons, List.length_cons, List.length_map]
      rw [e2, e]
      show _ ≤ 1000000
      omega)
  have gx : ∀ i : Int, 0 ≤ i → i < 1 + 2 * (N.length : Int) → getD (lI xs) (.int i) = pure (.int (ix xs i)) := fun i h0 h1 => getL (f := D.int) h0 (by omega)
  let B := (iota N.length).filter fun z => decide (ix xs (2 + 2 * z) = 0)
  let w : Int → Str := fun z => if ix xs (1 + 2 * z) = 0 then "unseen" else if ix xs 0 = 0 then (if ix xs (2 + 2 * z) = 1 then "quiet" else "alarm") else (if z ∈ alarmsL N B then "alarm" else "quiet")
  refine EV.in1_2 ((iota N.length).map w) (⟨by rw [List.length_map, len_iota], fun x m => ?_⟩) ?_
  · (refine EV.el1_2 (List.mem_map.mp m) fun z _ q288_ => ?_; obtain rfl := q288_)
    show w z = _ ∨ _
    dsimp only [w]
    repeat' split
    all_goals simp
  have eW : ∀ {β : Type} (kk : Mv → Mv → PM β) (a b : Mv), two2 kk [a, b] = kk a b := fun _ _ _ => rfl
  have eV : ∀ {β : Type} (kk : D → List D → PM β) (d : D) (xs : List D), kVO kk (.v d) (.o xs) = kk d xs := fun _ _ _ => rfl
  simp only [f_law_report, pure_bind, bind_assoc, e1, e2, mul34 h8, len_tup, List.length_map, a1, fn2_eq, hx, run0_p, eo, eW, eV, range1 hl, id]
  rw [filtI (fun z => decide (ix xs (2 + 2 * z) = 0)) (by rw [len_iota]; exact hl) (fun z m => by
    have := mem_iota.mp m
    rw [mul_l (i := 2) (j := z), pure_bind, add_int, pure_bind, gx _ (by omega) (by omega), pure_bind, eqInt, pure_bind, asB_bl]), pure_bind]
  have bl : B.length ≤ N.length := by
    have z := List.length_filter_le (fun z => decide (ix xs (2 + 2 * z) = 0)) (iota N.length)
    rw [len_iota] at z
    exact z
  rw [show ((iota N.length).filter fun z => decide (ix xs (2 + 2 * z) = 0)) = B from rfl, tupleL (by rw [List.length_map]; show _ ≤ 1000000; exact Nat.le_trans (by assumption) (by assumption)), pure_bind]
  rw [show D.tup (B.map D.int) = tI B from rfl, alarmsC h B, run0_p, pure_bind]
  rw [forS_map (fun z => D.str (w z)) (fun acc z mz hc => ?_) (by rw [len_iota, List.length_nil]; show 0 + _ ≤ 1000000; omega), pure_bind, List.nil_append]
  · refine (congrArg (· >>= _) (tupleL (xs := (iota N.length).map fun z => D.str (w z)) (by rw [List.length_map, len_iota]; exact hl))).trans ?_
    rw [pure_bind]
    refine congrArg (fun l => (pure (D.tup l) : PM D)) ?_
    rw [List.map_map]
    rfl
  · have hz := mem_iota.mp mz
    simp only [pure_bind, bind_assoc, inT, asB_bl, mul_l (i := 2) (j := z), add_int, gx 0 (by decide) (by omega), gx (1 + 2 * z) (by omega) (by omega), gx (2 + 2 * z) (by omega) (by omega), eqInt]
    have ok : ∀ x : Str, (okLen (acc ++ [D.str x]) >>= fun _ => (pure (acc ++ [D.str x]) : PM (List D))) = pure (acc ++ [D.str x]) := fun x => by
      rw [okLen_ok (by rw [List.length_append, List.length_singleton]; exact hc), pure_bind]
    dsimp only [w]
    by_cases q1 : ix xs (1 + 2 * z) = 0 <;> by_cases q2 : ix xs 0 = 0 <;> by_cases q3 : ix xs (2 + 2 * z) = 1 <;> by_cases q4 : z ∈ alarmsL N B <;> simp only [q1, q2, q3, q4, decide_true, decide_false, if_true, if_false, Bool.false_eq_true, pure_bind, ok]
/-- the candidates, one quiet one after the other -/
theorem lcandC (h : Net N) (r : Rep N ws) : f_law_candidates (dN N) (tS ws) = pure (tI (candL N ws)) := by
  have h8 := h.hi
  have hl := h.lim
  have rl := r.len
  have rg : rg1 (.int N.length) = pure ((iota N.length).map D.int) := by
    rw [← rangeL_iota]
    show rgD 0 N.length = _
    unfold rgD
    exact if_pos ⟨by decide, by decide, by exact Int.natCast_nonneg _, by omega, by show _ ≤ 1000000; assumption⟩
  have mk : mkL ((iota N.length).map D.int) = pure (lI (iota N.length)) := mkL_ok (by rw [List.length_map, len_iota]; exact hl)
  simp only [f_law_candidates, pure_bind, len_tup, List.length_map, rg, mk, enum_tup, id]
  let l : Nat → List Int := fun k => (iota N.length).filter fun o => !((withL ws "quiet").filter fun q => decide (q < (k : Int))).any fun q => decide (o ∈ reachL N q)
  have mq : ∀ {k : Nat} {o : Int}, o ∈ l k ↔ (0 ≤ o ∧ o < N.length) ∧ ∀ q ∈ withL ws "quiet", q < (k : Int) → o ∉ reachL N q := fun {k o} => by
    dsimp only [l]
    rw [List.mem_filter, mem_iota, Bool.not_eq_true', ← Bool.not_eq_true, List.any_eq_true]
    constructor
    · rintro ⟨a, b⟩
      exact ⟨a, fun q m h1 h2 => b (EV.in1_2 q (List.mem_filter.mpr ⟨m, decide_eq_true h1⟩) (decide_eq_true h2))⟩
    · rintro ⟨a, b⟩
      refine ⟨a, fun h31_ => ?_⟩; (refine EV.el1_2 h31_ ?_; try clear h31_; intro q m e)
      have m := List.mem_filter.mp m
      exact b q m.1 (of_decide_eq_true m.2) (of_decide_eq_true e)
  have asc : ∀ k, (l k).Pairwise (· < ·) := fun k => (iota_asc _).filter _
  have len8 : ∀ k, (l k).length ≤ 8 := fun k => by
    have z := List.length_filter_le (fun o => !((withL ws "quiet").filter fun q => decide (q < (k : Int))).any fun q => decide (o ∈ reachL N q)) (iota N.length)
    rw [len_iota] at z
    exact Nat.le_trans z h8
  refine forS_thenQ (fun i : Int => (D.int i, D.str (ix ws i))) (zs := iota ws.length) (pairs_ix ws D.str) (fun k c => c = lI (l k)) ?_ (fun i z c hz e => ?_) (fun c e => ?_)
  · refine congrArg (fun x => lI x) (asc_eq (iota_asc _) (asc 0) fun o => ?_)
    rw [mq, mem_iota]
    exact ⟨fun a => ⟨a, fun q m h1 => by have := (mem_withL.mp m).1.1; omega⟩, fun a => a.1⟩
  · subst e
    have hi : i < ws.length := by
      have := (List.getElem?_eq_some_iff.mp hz).1
      rw [len_iota] at this
      exact this
    rw [iota_get hi] at hz
    have hz := (Option.some.inj hz).symm
    subst hz
    have hiN : (i : Int) < N.length := by omega
    simp only [eqStr, pure_bind, asB_bl, items_lst]
    by_cases q : ix ws (i : Int) = "quiet"
    · rw [q, beq_self_eq_true, if_pos rfl, filtI (fun o => !decide (o ∈ reachL N (i : Int))) (by have := len8 i; show _ ≤ 1000000; exact EV.w_le8 (by assumption)) (fun o mo => by
        rw [fn2_eq, lreachC h (by exact Int.natCast_nonneg _) hiN, run0_p, pure_bind, ninT, pure_bind, asB_bl])]
      simp only [pure_bind]
      refine EV.in1_2 _ rfl (congrArg (fun x => lI x) (asc_eq ((asc i).filter _) (asc (i + 1)) fun o => ?_))
      rw [List.mem_filter, mq, mq, Bool.not_eq_true', decide_eq_false_iff_not]
      constructor
      · rintro ⟨⟨a, b⟩, c⟩
        refine ⟨a, fun p m h1 => ?_⟩
        by_cases e : p = (i : Int)
        · rw [e]
          exact c
        · exact b p m (by omega)
      · rintro ⟨a, b⟩
        exact ⟨⟨a, fun p m h1 => b p m (by omega)⟩, b i (mem_withL.mpr ⟨⟨by exact Int.natCast_nonneg _, by exact Int.ofNat_lt.mpr (by assumption)⟩, q⟩) (by omega)⟩
    · rw [show (ix ws (i : Int) == "quiet") = false from beq_eq_false_iff_ne.mpr q, if_neg (by decide)]
      simp only [pure_bind]
      refine EV.in1_2 _ rfl (congrArg (fun x => lI x) (asc_eq (asc i) (asc (i + 1)) fun o => ?_))
      rw [mq, mq]
      constructor
      · rintro ⟨a, b⟩
        refine ⟨a, fun p m h1 => b p m ?_⟩
        have : p ≠ (i : Int) := fun e => q (by rw [← e]; exact (mem_withL.mp m).2)
        omega
      · rintro ⟨a, b⟩
        exact ⟨a, fun p m h1 => b p m (by omega)⟩
  · subst e
    rw [len_iota]
    have e2 : l ws.length = candL N ws := by
      rw [← cand_filter h r]
      refine asc_eq (asc _) ((iota_asc _).filter _) fun o => ?_
      rw [mq, List.mem_filter, mem_iota, Bool.not_eq_true', ← Bool.not_eq_true, List.any_eq_true]
      constructor
      · rintro ⟨a, b⟩
        refine ⟨a, fun ⟨p, m, e⟩ => b p m ?_ (of_decide_eq_true e)⟩
        have := (mem_withL.mp m).1.2
        assumption
      · rintro ⟨a, b⟩
        exact ⟨a, fun p m _ e => b (EV.in1_2 p m (decide_eq_true e))⟩
    rw [e2]
    have c8 := candL_len h ws
    refine (congrArg (· >>= _) (tupleL (xs := (candL N ws).map D.int) (by rw [List.length_map]; show _ ≤ 1000000; exact EV.w_le8 (by assumption)))).trans (pure_bind _ _)
end
end Lw
namespace Lw
open PySem EV
theorem forL_findC {ι κ : Type} {dec : D → Option ι} {body : Unit → ι → PM (Lp Unit)} (g : κ → ι) (p : κ → Bool) (v : κ → D) : ∀ {ds : List D} {zs : List κ}, ds.map dec = zs.map (fun z => some (g z)) → (∀ z ∈ zs, body () (g z) = pure (if p z = true then .ret (v z) else .go ())) →
    forL dec body ds () = pure (match zs.find? p with | some z => .ret (v z) | none => .go ()) := by
  intro ds
  induction ds with
  | nil =>
    intro zs h hb
    cases zs with
    | nil => rfl
    | cons z zs => cases h
  | cons d ds ih =>
    intro zs h hb
    cases zs with
    | nil => cases h
    | cons z zs =>
      rw [List.map_cons, List.map_cons] at h
      injection h with h1 h2
      unfold forL
      rw [h1]
      show (body () (g z) >>= _) = _
      rw [hb z List.mem_cons_self, pure_bind, List.find?_cons]
      cases p z with
      | false =>
        rw [if_neg (by decide)]
        exact ih h2 fun y m => hb y (List.mem_cons_of_mem _ m)
      | true => rfl
section
variable {N : Nt} {ws : List Str}
theorem first_smC (h : Net N) (r : Rep N ws) {c : Int} (hc : rulersL N ws c ≠ []) : 0 ≤ firstL N ws c ∧ firstL N ws c < 8 := by
  have hp : 0 < (rulersL N ws c).length := List.length_pos_iff.mpr hc
  have m : firstL N ws c ∈ rulersL N ws c := ix_mem (by decide) (by exact Int.ofNat_lt.mpr (by assumption))
  have z := withL_in r (List.mem_filter.mp m).1
  have := h.hi
  omega
noncomputable def clashP (N : Nt) (ws : List Str) (z : Int) : Bool := (ix ws z == "alarm") && !meets (reachL N z) (candL N ws)
noncomputable def clashV (N : Nt) (ws : List Str) (z : Int) : D := .lst [.int z, tI ((reachL N z).map (firstL N ws))]
theorem clash_explained (r : Rep N ws) : (iota ws.length).find? (clashP N ws) = none ↔ explained N ws = true := by
  rw [List.find?_eq_none]
  unfold explained
  rw [List.all_eq_true]
  constructor
  · intro a z m
    have hz := mem_withL.mp m
    have q := a z (mem_iota.mpr hz.1)
    unfold clashP at q
    rw [hz.2, beq_self_eq_true, Bool.true_and] at q
    simpa using q
  · intro a z m q
    unfold clashP at q
    refine EV.el0_2 (Bool.and_eq_true_iff.mp q) fun q1 q2 => ?_
    have y := a z (mem_withL.mpr ⟨mem_iota.mp m, beq_iff_eq.mp q1⟩)
    rw [y] at q2
    exact EV.nnB q2
theorem rulers_iota (r : Rep N ws) (o : Int) : (iota N.length).filter (fun q => (ix ws q == "quiet") && decide (o ∈ reachL N q)) = rulersL N ws o := by
  refine asc_eq ((iota_asc _).filter _) (((iota_asc _).filter _).filter _) fun q => ?_
  unfold rulersL
  rw [List.mem_filter, List.mem_filter, mem_withL, mem_iota, Bool.and_eq_true, beq_iff_eq, r.len]
  exact ⟨fun h33_ => by (refine EV.el0_3 h33_ ?_; try clear h33_; intro a b c); exact ⟨⟨a, b⟩, c⟩, fun h34_ => by (refine EV.el0_2 h34_ ?_; try clear h34_; intro q289_ c; (refine EV.el0_2 q289_ ?_; try clear q289_; intro a b)); exact ⟨a, b, c⟩⟩
/-- what the law's clash is -/
noncomputable def clashD (N : Nt) (ws : List Str) : D := match (iota ws.length).find? (clashP N ws) with | some z => clashV N ws z | none => .lst []
theorem clash_val (h : Net N) (r : Rep N ws) : f_law_clash (dN N) (tS ws) = pure (clashD N ws) := by
  have h8 := h.hi
  have hl := h.lim
  have rl := r.len
  have eL : mkL [] = pure (.lst []) := rfl
  have eL2 : ∀ a b : D, mkL [a, b] = pure (.lst [a, b]) := fun _ _ => rfl
  have eo : okL [] = pure ([] : List D) := rfl
  unfold clashD
  simp only [f_law_clash, pure_bind, bind_assoc, fn2_eq, lcandC h r, run0_p, enum_tup, eL, eo, id]
  rw [forL_findC (fun i : Int => (D.int i, D.str (ix ws i))) (clashP N ws) (clashV N ws) (zs := iota ws.length) (pairs_ix ws D.str) (fun z mz => ?_)]
  · rw [pure_bind]
    cases (iota ws.length).find? (clashP N ws) <;> rfl
  · have hz := mem_iota.mp mz
    have zN : z < N.length := by omega
    have r8 := reachL_len h z
    simp only [lreachC h hz.1 zN, run0_p, pure_bind, eqStr, asB_bl, items_tup]
    unfold clashP
    by_cases q : ix ws z = "alarm"
    · rw [q, beq_self_eq_true, if_pos rfl, Bool.true_and]
      rw [compI (fun x => decide (x ∈ candL N ws)) (fun _ => .int 1) (by show _ ≤ 1000000; exact EV.w_le8 (by assumption)) (fun x _ => by rw [inT, pure_bind, asB_bl]) (fun _ _ _ => rfl)]
      simp only [pure_bind]
      rw [show (((reachL N z).filter fun x => decide (x ∈ candL N ws)).map fun _ => D.int 1) = (((reachL N z).filter fun x => decide (x ∈ candL N ws)).map fun _ => (1 : Int)).map D.int by rw [List.map_map]; rfl, eq_nil (shpLI _), pure_bind, asB_bl, isE_map, isE_map, pure_bind, ← filt_meets, Bool.not_not]
      cases e : ((reachL N z).filter fun x => decide (x ∈ candL N ws)).isEmpty with
      | false =>
        rw [if_neg (by decide), if_neg (by decide)]
      | true =>
        rw [if_pos rfl, if_pos rfl]
        have mf : meets (reachL N z) (candL N ws) = false := by rw [← filt_meets, e]; rfl
        have nin : ∀ o ∈ reachL N z, o ∉ candL N ws := fun o mo mc => by
          have := meets_iff.mpr (EV.in1_2 o mo mc)
          rw [mf] at this
          exact EV.nnB this
        rw [forS_map (fun o => .int (firstL N ws o)) (fun acc o mo hc => ?_) (by rw [List.length_nil]; show 0 + _ ≤ 1000000; omega), pure_bind, List.nil_append]
        · refine (congrArg (· >>= _) (tupleL (xs := (reachL N z).map fun o => D.int (firstL N ws o)) (by rw [List.length_map]; show _ ≤ 1000000; exact EV.w_le8 (by assumption)))).trans ?_
          rw [pure_bind, eL2, pure_bind]
          unfold clashV
          rw [show ((reachL N z).map fun o => D.int (firstL N ws o)) = ((reachL N z).map (firstL N ws)).map D.int by rw [List.map_map]; rfl]
        · have hr := h.reach_in ⟨hz.1, zN⟩ ((mem_reachL h hz.1 zN).mp mo)
          simp only [len_tup, List.length_map, range1 hl, pure_bind, bind_assoc]
          rw [filtI (fun q => (ix ws q == "quiet") && decide (o ∈ reachL N q)) (by rw [len_iota]; exact hl) (fun q mq => by
            have hq := mem_iota.mp mq
            rw [show getD (tS ws) (.int q) = pure (.str (ix ws q)) from getT (f := D.str) hq.1 (by omega)]
            simp only [pure_bind, eqStr, asB_bl]
            cases ix ws q == "quiet" with
            | false => rfl
            | true =>
              rw [if_pos rfl, lreachC h hq.1 hq.2, run0_p]
              simp only [pure_bind, inT, asB_bl, Bool.true_and]), rulers_iota r]
          simp only [pure_bind]
          rw [first0 (rulers_ne h r hr.1 hr.2 (nin o mo)), pure_bind, okLen_ok (by rw [List.length_append, List.length_singleton]; exact hc), pure_bind]
          rfl
    · rw [show (ix ws z == "alarm") = false from beq_eq_false_iff_ne.mpr q, if_neg (by decide), Bool.false_and, pure_bind, if_neg (by decide), if_neg (by decide)]
theorem clash_eq (h : Net N) (r : Rep N ws) : eqD (clashD N ws) (.lst []) = pure (.bl (explained N ws)) := by
  have h8 := h.hi
  have rl := r.len
  unfold clashD
  cases e : (iota ws.length).find? (clashP N ws) with
  | none =>
    dsimp only
    rw [(clash_explained r).mp e]
    exact eq_nil (by decide)
  | some z =>
    have ne : explained N ws = false := Bool.eq_false_iff.mpr fun q => by
      rw [(clash_explained r).mpr q] at e
      exact EV.nnS e
    have hp := List.find?_some e
    have mz := mem_iota.mp (List.mem_of_find?_eq_some e)
    unfold clashP at hp
    refine EV.el0_2 (Bool.and_eq_true_iff.mp hp) fun _ hm => ?_
    have mf : meets (reachL N z) (candL N ws) = false := by simpa using hm
    have r8 := reachL_len h z
    have sm : Sm 2 20 (clashV N ws z) := .lst (c := 8) (fun x mx => by
      simp only [List.mem_cons, List.not_mem_nil, or_false] at mx
      rcases mx with rfl | rfl
      · exact .int (by omega) (by omega)
      · refine (SmI.smT fun y my => ?_).mono (by decide) (by rw [List.length_map]; exact r8)
        (refine EV.el1_2 (List.mem_map.mp my) fun c mc q290_ => ?_; obtain rfl := q290_)
        have hr := h.reach_in ⟨mz.1, by omega⟩ ((mem_reachL h mz.1 (by omega)).mp mc)
        have := first_smC h r (rulers_ne h r hr.1 hr.2 fun q => by
          have := meets_iff.mpr (EV.in1_2 c mc q)
          rw [mf] at this
          exact EV.nnB this)
        omega) (by simp)
    dsimp only
    rw [ne]
    exact eq_nil sm.shp
theorem clashC (h : Net N) (r : Rep N ws) : ∃ d, f_law_clash (dN N) (tS ws) = pure d ∧ eqD d (.lst []) = pure (.bl (explained N ws)) := (EV.in1_2 _ (clash_val h r) (clash_eq h r))
end
end Lw
namespace Lw
open PySem EV
noncomputable def oW (N : Nt) (ws : List Str) : D := .obj cWatch [("own_net", oN N), ("kept", tS ws), ("past", .tup [])]
section
variable {N : Nt} {ws : List Str}
theorem w_net (N : Nt) (ws : List Str) : fldD cWatch "own_net" (oW N ws) = pure (oN N) := by
  show (if cWatch = cWatch then pure (oN N) else bad : PM D) = _
  exact if_pos rfl
theorem w_kept (N : Nt) (ws : List Str) : fldD cWatch "kept" (oW N ws) = pure (tS ws) := by
  show (if cWatch = cWatch then pure (tS ws) else bad : PM D) = _
  exact if_pos rfl
theorem w_past (N : Nt) (ws : List Str) : fldD cWatch "past" (oW N ws) = pure (.tup []) := by
  show (if cWatch = cWatch then pure (D.tup []) else bad : PM D) = _
  exact if_pos rfl
theorem wth_ok (F : List D → PM D) (N : Nt) (ws : List Str) (ds : List D) : methD cWatch F (oW N ws) ds = run0 (F (oW N ws :: ds)) := by
  show (if cWatch = cWatch then run0 (F (oW N ws :: ds)) else bad) = _
  exact if_pos rfl
theorem obj_wN (N : Nt) (ws : List Str) : objD cWatch "NAME" (oW N ws) = pure () := by
  show (if cWatch = cWatch ∧ ("NAME" : Str) ∉ [("own_net" : Str), ("kept" : Str), ("past" : Str)] then pure () else bad : PM Unit) = _
  exact if_pos ⟨rfl, by decide⟩
theorem obj_wT (N : Nt) (ws : List Str) : objD cWatch "trying" (oW N ws) = pure () := by
  show (if cWatch = cWatch ∧ ("trying" : Str) ∉ [("own_net" : Str), ("kept" : Str), ("past" : Str)] then pure () else bad : PM Unit) = _
  exact if_pos ⟨rfl, by decide⟩
theorem unseen_repC (N : Nt) : Rep N (List.replicate N.length "unseen") := ⟨List.length_replicate, fun w m => .inr (.inr (List.eq_of_mem_replicate m))⟩
theorem mul_unseenC {n : Nat} (n1 : 1 ≤ n) (n8 : n ≤ 8) : mulG (.tup [.str "unseen"]) (.int n) = pure (tS (List.replicate n "unseen")) := by
  show (if (n : Int) = 1 then pure (.tup [.str "unseen"]) else if ([D.str "unseen"] : List D) ≠ [] ∧ 2 ≤ (n : Int) ∧ (n : Int) ≤ 1000 ∧ ([D.str "unseen"] : List D).length ≤ 1000 then mkT (repD n [.str "unseen"]) else bad : PM D) = _
  by_cases q : n = 1
  · subst q
    rfl
  · rw [if_neg (by omega), if_pos ⟨by simp, by omega, by omega, by decide⟩]
    have e : repD n [.str "unseen"] = (List.replicate n ("unseen" : Str)).map D.str := by
      show (List.replicate ((n : Int)).toNat [D.str "unseen"]).flatten = _
      rw [show ((n : Int)).toNat = n by rfl, List.map_replicate]
      clear q n1 n8
      induction n with
      | zero => rfl
      | succ n ih =>
        rw [List.replicate_succ, List.replicate_succ, List.flatten_cons, ih]
        rfl
    rw [e]
    exact mkT_ok (by rw [List.length_map, List.length_replicate]; show _ ≤ 1000000; exact EV.w_le8 (by assumption))
theorem start_ok (h : Net N) (r : Rep N ws) : f_need_start (oN N) (tS ws) = pure .non := by
  have e1 : ∀ xs : List D, (notND (.tup xs) .non : PM D) = pure (.bl true) := fun _ => rfl
  simp only [f_need_start, g_need_start, pure_bind, isNet_o, asB_bl, Bool.not_true, Bool.false_eq_true, if_false, e1, if_true, own_needs, fn2_eq, is_report h r, run0_p]
theorem start_non (N : Nt) : f_need_start (oN N) .non = pure .non := by
  have e1 : (notND .non .non : PM D) = pure (.bl false) := rfl
  simp only [f_need_start, g_need_start, pure_bind, isNet_o, asB_bl, Bool.not_true, Bool.false_eq_true, if_false, e1]
theorem watch_ok (h : Net N) (r : Rep N ws) : newO cWatch ["own_net", "kept", "past"] (fnL2 f_Watch_init) [oN N, tS ws] = pure (oW N ws) := by
  have e1 : ∀ xs : List D, (isND (.tup xs) .non : PM D) = pure (.bl false) := fun _ => rfl
  have eT : mkT [] = pure (.tup []) := rfl
  have z : fnL2 f_Watch_init [oN N, tS ws] = pure [oN N, tS ws, .tup []] := by
    show f_Watch_init (oN N) (tS ws) = _
    simp only [f_Watch_init, pure_bind, fn2_eq, start_ok h r, run0_p, e1, asB_bl, Bool.false_eq_true, if_false, eT]
    rfl
  unfold newO
  rw [z]
  rfl
theorem watch_non (h : Net N) : newO cWatch ["own_net", "kept", "past"] (fnL2 f_Watch_init) [oN N, .non] = pure (oW N (List.replicate N.length "unseen")) := by
  have e1 : (isND .non .non : PM D) = pure (.bl true) := rfl
  have eT : mkT [] = pure (.tup []) := rfl
  have eT1 : ∀ a : D, mkT [a] = pure (.tup [a]) := fun _ => rfl
  have z : fnL2 f_Watch_init [oN N, .non] = pure [oN N, tS (List.replicate N.length "unseen"), .tup []] := by
    show f_Watch_init (oN N) .non = _
    simp only [f_Watch_init, pure_bind, fn2_eq, start_non N, run0_p, e1, asB_bl, if_true, eT, eT1, own_needs, len_tup, List.length_map, mul_unseenC h.lo h.hi]
    rfl
  unfold newO
  rw [z]
  rfl
noncomputable def watL (ws : List Str) : List Str := ws.filter fun w => !(w == "unseen")
theorem watL_len (ws : List Str) : (watL ws).length ≤ ws.length := List.length_filter_le _ _
theorem watched_ok (hl : ws.length ≤ lim) : f_watched_of (tS ws) = pure (.lst ((watL ws).map D.str)) := by
  simp only [f_watched_of, pure_bind, items_tup, id]
  rw [compPf D.str (fun w : Str => !(w == "unseen")) D.str (zs := ws) (by rw [List.map_map]; rfl) (by rw [List.length_map]; exact hl) (fun w _ => by rw [neStr2, pure_bind, asB_bl]) (fun _ _ _ => rfl), pure_bind]
  rfl
theorem wp_net (N : Nt) (ws : List Str) : noExc (methD cWatch (fn1 f_Watch_net) (oW N ws) []) = pure (oN N) := by
  have e : f_Watch_net (oW N ws) = pure (oN N) := by simp only [f_Watch_net, pure_bind, w_net, id]
  rw [wth_ok, fn1_eq, e, run0_p, noExc_pure]
theorem wp_report (N : Nt) (ws : List Str) : noExc (methD cWatch (fn1 f_Watch_report) (oW N ws) []) = pure (tS ws) := by
  have e : f_Watch_report (oW N ws) = pure (tS ws) := by simp only [f_Watch_report, pure_bind, w_kept, id]
  rw [wth_ok, fn1_eq, e, run0_p, noExc_pure]
theorem wp_cand (h : Net N) (r : Rep N ws) : noExc (methD cWatch (fn1 f_Watch_candidates) (oW N ws) []) = pure (tI (candL N ws)) := by
  have e : f_Watch_candidates (oW N ws) = pure (tI (candL N ws)) := by simp only [f_Watch_candidates, pure_bind, w_net, w_kept, own_needs, fn2_eq, candidates_of h r, run0_p, id]
  rw [wth_ok, fn1_eq, e, run0_p, noExc_pure]
theorem wp_expl (h : Net N) (r : Rep N ws) : noExc (methD cWatch (fn1 f_Watch_explained) (oW N ws) []) = pure (.bl (explained N ws)) := by
  have e : f_Watch_explained (oW N ws) = pure (.bl (explained N ws)) := by
    simp only [f_Watch_explained, pure_bind, w_net, w_kept, own_needs, fn2_eq, is_explained h r, run0_p, id]
    rfl
  rw [wth_ok, fn1_eq, e, run0_p, noExc_pure]
theorem wp_chg (N : Nt) (ws : List Str) : noExc (methD cWatch (fn1 f_Watch_changes) (oW N ws) []) = pure (.int 0) := by
  have e : f_Watch_changes (oW N ws) = pure (.int 0) := by
    simp only [f_Watch_changes, pure_bind, w_past, len_tup, id]
    rfl
  rw [wth_ok, fn1_eq, e, run0_p, noExc_pure]
theorem wp_at (h : Net N) (r : Rep N ws) {c : Int} (h0 : 0 ≤ c) (h1 : c < N.length) : methD cWatch (fn2 f_Watch_getitem) (oW N ws) [.int c] = pure (.str (ix ws c)) := by
  have e : f_Watch_getitem (oW N ws) (.int c) = pure (.str (ix ws c)) := by
    simp only [f_Watch_getitem, pure_bind, w_net, w_kept, own_needs, fn2_eq, need_comp h0 h1, run0_p, id]
    rw [show getD (tS ws) (.int c) = pure (.str (ix ws c)) from getT (f := D.str) h0 (by rw [r.len]; exact h1), pure_bind]
  rw [wth_ok, fn2_eq, e, run0_p]
end
end Lw
namespace Lw
open PySem EV
inductive PlainB : Nat → D → Prop
  | int (n : Nat) (i : Int) : PlainB (n + 1) (.int i)
  | str (n : Nat) (x : Str) : PlainB (n + 1) (.str x)
  | bl (n : Nat) (b : Bool) : PlainB (n + 1) (.bl b)
  | tup {n : Nat} {xs : List D} (h : ∀ x ∈ xs, PlainB n x) (hl : xs.length ≤ 1000) : PlainB (n + 1) (.tup xs)
theorem sameB_ok {n : Nat} {d : D} (p : PlainB n d) : f_law_is_same n d d = pure (.bl true) := by
  induction p with
  | int n i => exact same_int n i
  | str n x => exact same_str n x
  | bl n b =>
    show f_law_is_same_step (f_law_is_same n) (.bl b) (.bl b) = _
    funext s
    cases b <;> kernel_rfl
  | tup h hl ih => exact same_tup ih hl
theorem PlainB.mono {n : Nat} {d : D} (p : PlainB n d) : PlainB (n + 1) d := by
  induction p with
  | int n i => exact .int _ i
  | str n x => exact .str _ x
  | bl n b => exact .bl _ b
  | tup h hl ih => exact .tup ih hl
theorem plainB_I (n : Nat) {ns : List Int} (h : ns.length ≤ 1000) : PlainB (n + 2) (tI ns) := .tup (fun x m => by
  (refine EV.el1_2 (List.mem_map.mp m) fun i _ q291_ => ?_; obtain rfl := q291_)
  exact .int _ i) (by rw [List.length_map]; exact h)
theorem nineC {P : Int → Prop} (h0 : P 0) (h1 : P 1) (h2 : P 2) (h3 : P 3) (h4 : P 4) (h5 : P 5) (h6 : P 6) (h7 : P 7) (h8 : P 8) {x : Int} (a : 0 ≤ x) (b : x ≤ 8) : P x := by
  (refine EV.el1_1 (Int.eq_ofNat_of_zero_le a) fun n q292_ => ?_; obtain rfl := q292_)
  exact EV.allB_at (P := fun n : Nat => P n) (n := 9) ⟨⟨⟨⟨⟨⟨⟨⟨⟨trivial, h0⟩, h1⟩, h2⟩, h3⟩, h4⟩, h5⟩, h6⟩, h7⟩, h8⟩ (Int.ofNat_lt.mp (Int.lt_add_one_of_le b))
theorem numS9 {x : Int} (a : 0 ≤ x) (b : x ≤ 8) : x.natAbs.log2 < 1920 ∧ (numS x).length = 1 := nineC (P := fun x => x.natAbs.log2 < 1920 ∧ (numS x).length = 1) (by decide +kernel) (by decide +kernel) (by decide +kernel) (by decide +kernel) (by decide +kernel) (by decide +kernel) (by decide +kernel) (by decide +kernel) (by decide +kernel) a b
theorem sLen (x y : Str) : (x ++ y).length = x.length + y.length := by
  show (x ++ y).cps.size = x.cps.size + y.cps.size
  rw [← Array.length_toList, tl_app, List.length_append, Array.length_toList, Array.length_toList]
noncomputable def SWt (nm : Str) (a b : Int) : Str := nm ++ "(" ++ numS a ++ " watched, " ++ numS b ++ " candidates)"
theorem e_app (x : Str) : Str.empty ++ x = x := cps_ext (by rw [tl_app]; rfl)
theorem addSt {a b : Str} (h : a.length + b.length ≤ lim) : addD (.str a) (.str b) = pure (.str (a ++ b)) := if_pos h
theorem strF9 {x : Int} (a : 0 ≤ x) (b : x ≤ 8) : strF [.int x] = pure (.str (numS x)) := if_pos (numS9 a b).1
theorem fmt9 {x : Int} (a : 0 ≤ x) (b : x ≤ 8) : fmtD (.int x) = pure (.str (numS x)) := if_pos (numS9 a b).1
theorem fs_one (y acc : Str) (ms : List (PM D)) (h : (acc ++ y).length ≤ lim) : fsD (pure (.str y) :: ms) acc = fsD ms (acc ++ y) := by
  show ((pure (D.str y) : PM D) >>= fun d => match d with
    | .str y => if (acc ++ y).length ≤ lim then fsD ms (acc ++ y) else bad
    | _ => bad) = _
  rw [pure_bind]
  exact if_pos h
theorem leA {x y : Str} {n : Nat} (h : (x ++ y).length ≤ n) : x.length ≤ n := by
  rw [sLen] at h
  exact Nat.le_trans (Nat.le_add_right _ _) h
theorem leB {x y : Str} {k n : Nat} (h : (x ++ y).length + k ≤ n) : x.length + y.length ≤ n := by
  rw [sLen] at h
  exact Nat.le_trans (Nat.le_add_right _ _) h
theorem fsW {nm : Str} {a b : Int} (hn : nm.length ≤ 100) (a0 : 0 ≤ a) (a8 : a ≤ 8) (b0 : 0 ≤ b) (b8 : b ≤ 8) : fsD [fmtD (.str nm), pure (.str "("), fmtD (.int a), pure (.str " watched, "), fmtD (.int b), pure (.str " candidates)")] Str.empty = pure (.str (SWt nm a b)) := by
  have la := (numS9 a0 a8).2
  have lb := (numS9 b0 b8).2
  have l1 : ("(" : Str).length = 1 := rfl
  have l2 : (" watched, " : Str).length = 10 := rfl
  have l3 : (" candidates)" : Str).length = 12 := rfl
  have l0 : (Str.empty : Str).length = 0 := rfl
  have lm : lim = 1000000 := rfl
  have fn : fmtD (.str nm) = pure (.str nm) := if_pos (by exact EV.w_le (by assumption) (by decide))
  rw [fn, fmt9 a0 a8, fmt9 b0 b8]
  have t6 : ((((((Str.empty ++ nm) ++ "(") ++ numS a) ++ " watched, ") ++ numS b) ++ " candidates)" : Str).length ≤ lim := by
    rw [sLen, sLen, sLen, sLen, sLen, sLen, l0, l1, la, l2, lb, l3]
    exact Nat.add_le_add (Nat.add_le_add (Nat.add_le_add (Nat.add_le_add (Nat.add_le_add (Nat.add_le_add (Nat.le_refl 0) hn) (Nat.le_refl 1)) (Nat.le_refl 1)) (Nat.le_refl 10)) (Nat.le_refl 1)) (show 12 ≤ 999887 by decide)
  have t5 := leA t6
  have t4 := leA t5
  have t3 := leA t4
  have t2 := leA t3
  rw [fs_one _ _ _ (leA t2), fs_one _ _ _ t2, fs_one _ _ _ t3, fs_one _ _ _ t4, fs_one _ _ _ t5, fs_one _ _ _ t6, e_app]
  rfl
section
variable {N : Nt} {ws : List Str}
theorem map_ixS (ws : List Str) : (iota ws.length).map (fun c => D.str (ix ws c)) = ws.map D.str := by
  refine List.ext_getElem? fun i => ?_
  by_cases h : i < ws.length
  · rw [List.getElem?_map, iota_get h, List.getElem?_map, List.getElem?_eq_getElem h]
    show some (D.str (ix ws (i : Int))) = some (D.str ws[i])
    have e : ix ws (i : Int) = ws[i] := by
      unfold ix
      rw [Int.toNat_natCast, List.getD_eq_getElem?_getD, List.getElem?_eq_getElem h]
      rfl
    rw [e]
  · rw [List.getElem?_eq_none (by rw [List.length_map, len_iota]; exact Nat.not_lt.mp (by assumption)), List.getElem?_eq_none (by rw [List.length_map]; exact Nat.not_lt.mp (by assumption))]
noncomputable def dueD (nm : Str) (N : Nt) (ws : List Str) : D := .tup [dN N, tS ws, tI (candL N ws), .bl (explained N ws), .int 0, .int (watL ws).length, .str (SWt nm (watL ws).length (candL N ws).length), tS ws]
theorem dueD_plain (nm : Str) (h : Net N) (r : Rep N ws) : PlainB 5 (dueD nm N ws) := by
  have h8 := h.hi
  have pS : PlainB 4 (tS ws) := .tup (fun x m => by
    (refine EV.el1_2 (List.mem_map.mp m) fun w _ q293_ => ?_; obtain rfl := q293_)
    exact .str _ w) (by rw [List.length_map, r.len]; exact EV.w_le (by assumption) (by decide))
  have pN : PlainB 4 (dN N) := .tup (fun x m => by
    (refine EV.el1_2 (List.mem_map.mp m) fun q mr q294_ => ?_; obtain rfl := q294_)
    exact plainB_I 1 (by have := h.rlen mr; exact EV.w_le (by assumption) (by decide))) (by rw [List.length_map]; exact EV.w_le (by assumption) (by decide))
  refine .tup (fun x m => ?_) (by simp)
  simp only [List.mem_cons, List.not_mem_nil, or_false] at m
  rcases m with rfl | rfl | rfl | rfl | rfl | rfl | rfl | rfl
  · exact pN
  · exact pS
  · exact plainB_I 2 (by have := candL_len h ws; exact EV.w_le (by assumption) (by decide))
  · exact .bl _ _
  · exact .int _ _
  · exact .int _ _
  · exact .str _ _
  · exact pS
theorem due_same (nm : Str) (h : Net N) (r : Rep N ws) : run0 (f_law_is_same 5 (dueD nm N ws) (dueD nm N ws)) = pure (.bl true) := by rw [sameB_ok (dueD_plain nm h r), run0_p]
theorem wp_len (h : Net N) (r : Rep N ws) : (methD cWatch (fn1 f_Watch_len) (oW N ws) []) = pure (.int (watL ws).length) := by
  have hl : ws.length ≤ lim := by
    have := h.hi
    rw [r.len]
    show _ ≤ 1000000
    exact EV.w_le8 (by assumption)
  have e : f_Watch_len (oW N ws) = pure (.int (watL ws).length) := by
    simp only [f_Watch_len, pure_bind, w_kept, fn1_eq, watched_ok hl, run0_p, len_lst, List.length_map, id]
  rw [wth_ok, fn1_eq, e, run0_p]
theorem wp_repr (h : Net N) (r : Rep N ws) : (methD cWatch (fn1 f_Watch_repr) (oW N ws) []) = pure (.str (SWt "Watch" (watL ws).length (candL N ws).length)) := by
  have h8 := h.hi
  have hl : ws.length ≤ lim := by
    rw [r.len]
    show _ ≤ 1000000
    exact EV.w_le8 (by assumption)
  have l1 := watL_len ws
  have l2 := candL_len h ws
  rw [r.len] at l1
  have e : f_Watch_repr (oW N ws) = pure (.str (SWt "Watch" (watL ws).length (candL N ws).length)) := by
    simp only [f_Watch_repr, pure_bind, w_net, w_kept, own_needs, fn2_eq, fn1_eq, candidates_of h r, run0_p, len_tup, len_lst, List.length_map, watched_ok hl, obj_wN, id]
    rw [fsW (by decide) (by exact Int.natCast_nonneg _) (by omega) (by exact Int.natCast_nonneg _) (by exact Int.ofNat_le.mpr (by assumption)), pure_bind]
  rw [wth_ok, fn1_eq, e, run0_p]
theorem told_ok (h : Net N) (r : Rep N ws) : f_law_told (oW N ws) = pure (dueD "Watch" N ws) := by
  have h8 := h.hi
  have hl := h.lim
  have l1 := watL_len ws
  rw [r.len] at l1
  have lN : methD cNet (fn1 f_Net_len) (oN N) [] = pure (.int N.length) := by rw [meth_ok, fn1_eq, net_len h, run0_p]
  have eS : ∀ x, stD (.str x) = pure (.str x) := fun _ => rfl
  have eT2 : ∀ a b : D, mkT [a, b] = pure (.tup [a, b]) := fun _ _ => rfl
  have eT6 : ∀ a b c d e f : D, mkT [a, b, c, d, e, f] = pure (.tup [a, b, c, d, e, f]) := fun _ _ _ _ _ _ => rfl
  have eA : ∀ a b c d e f g i : D, addD (.tup [a, b, c, d, e, f]) (.tup [g, i]) = pure (.tup [a, b, c, d, e, f, g, i]) := fun _ _ _ _ _ _ _ _ => rfl
  have ln2 : lnD (.int (watL ws).length) = pure (.int (watL ws).length) := ln_ok (by exact Nat.le_trans (by assumption) (by assumption))
  simp only [f_law_told, pure_bind, bind_assoc, wp_net, lN, ln_ok h8, range1 hl, id]
  rw [compIm (fun c => D.str (ix ws c)) (by rw [len_iota]; exact hl) (fun _ => rfl) (fun c mc => by
    have hc := mem_iota.mp mc
    rw [wp_at h r hc.1 hc.2]), pure_bind, show (iota N.length).map (fun c => D.str (ix ws c)) = ws.map D.str by rw [← r.len]; exact map_ixS ws]
  rw [tupleL (by rw [List.length_map, r.len]; exact hl)]
  simp only [pure_bind, needs_ok, wp_report, wp_cand h r, wp_expl h r, wp_chg, wp_len h r, ln2, wp_repr h r, eS, eT2, eT6, eA]
  rfl
theorem wdue_ok (nm : Str) (hn : nm.length ≤ 100) (h : Net N) (r : Rep N ws) : f_law_due (.str nm) (dN N) (tS ws) (.int 0) = pure (dueD nm N ws) := by
  have h8 := h.hi
  have hl : ws.length ≤ lim := by
    rw [r.len]
    show _ ≤ 1000000
    exact EV.w_le8 (by assumption)
  have l1 := watL_len ws
  have l2 := candL_len h ws
  rw [r.len] at l1
  refine EV.el1_2 (clashC h r) fun d ed qd => ?_
  have eL : mkL [] = pure (.lst []) := rfl
  have eT8 : ∀ a b c d e f g i : D, mkT [a, b, c, d, e, f, g, i] = pure (.tup [a, b, c, d, e, f, g, i]) := fun _ _ _ _ _ _ _ _ => rfl
  have la := (numS9 (x := ((watL ws).length : Int)) (by exact Int.natCast_nonneg _) (by omega)).2
  have lb := (numS9 (x := ((candL N ws).length : Int)) (by exact Int.natCast_nonneg _) (by exact Int.ofNat_le.mpr (by assumption))).2
  have q1 : ("(" : Str).length = 1 := rfl
  have q2 : (" watched, " : Str).length = 10 := rfl
  have q3 : (" candidates)" : Str).length = 12 := rfl
  have lm : lim = 1000000 := rfl
  simp only [f_law_due, pure_bind, fn2_eq, lcandC h r, run0_p, items_tup, id]
  rw [compPf D.str (fun w : Str => !(w == "unseen")) D.str (zs := ws) (by rw [List.map_map]; rfl) (by rw [List.length_map]; exact hl) (fun w _ => by rw [neStr2, pure_bind, asB_bl]) (fun _ _ _ => rfl), pure_bind]
  rw [show (ws.filter fun w : Str => !(w == "unseen")) = watL ws from rfl]
  simp only [len_lst, List.length_map, pure_bind, two, len_tup, strF9 (x := ((watL ws).length : Int)) (by exact Int.natCast_nonneg _) (by omega), strF9 (x := ((candL N ws).length : Int)) (by exact Int.natCast_nonneg _) (by exact Int.ofNat_le.mpr (by assumption))]
  have t5 : ((((nm ++ "(") ++ numS ((watL ws).length : Int)) ++ " watched, ") ++ numS ((candL N ws).length : Int) : Str).length + (" candidates)" : Str).length ≤ lim := by
    rw [sLen, sLen, sLen, sLen, q1, la, q2, lb, q3]
    exact Nat.add_le_add (Nat.add_le_add (Nat.add_le_add (Nat.add_le_add (Nat.add_le_add hn (Nat.le_refl 1)) (Nat.le_refl 1)) (Nat.le_refl 10)) (Nat.le_refl 1)) (show 12 ≤ 999887 by decide)
  have t4 := leB t5
  have t3 := leB t4
  have t2 := leB t3
  rw [addSt (leB t2), pure_bind, addSt t2, pure_bind, addSt t3, pure_bind, addSt t4, pure_bind, addSt t5, pure_bind]
  simp only [ed, run0_p, pure_bind, eL, qd, eT8]
  rfl
end
end Lw
namespace Lw
open PySem EV
noncomputable def wB : D → Bool
  | .str w => w == "alarm" || (w == "quiet" || w == "unseen")
  | _ => false
theorem wB_good {w : Str} (h : w = "alarm" ∨ w = "quiet" ∨ w = "unseen") : f_is_word (.str w) = pure (.bl (wB (.str w))) := by
  rw [is_word h]
  have e : wB (.str w) = true := by rcases h with rfl | rfl | rfl <;> decide +kernel
  rw [e]
theorem wB_no {d : D} (h : (isF "str" d : PM D) = pure (.bl false)) (h2 : wB d = false) : f_is_word d = pure (.bl (wB d)) := by
  rw [h2]
  simp only [f_is_word, pure_bind, h, asB_bl, Bool.false_eq_true, if_false, id]
section
variable {N : Nt} {ws : List Str}
theorem rep_not {d : D} (h : (isF "tuple" d : PM D) = pure (.bl false)) : f_is_report (dN N) d = pure (.bl false) := by
  simp only [f_is_report, pure_bind, h, asB_bl, Bool.false_eq_true, if_false, id]
theorem rep_tup {xs : List D} (hb : ∀ x ∈ xs, f_is_word x = pure (.bl (wB x))) (hx : ∃ x ∈ xs, wB x = false) (hl : xs.length ≤ lim) : f_is_report (dN N) (.tup xs) = pure (.bl false) := by
  simp only [f_is_report, pure_bind, bind_assoc, isF_tup, asB_bl, if_true, len_tup, List.length_map, eqInt, fn1_eq, id]
  by_cases q : (xs.length : Int) = N.length
  · rw [decide_eq_true q, if_pos rfl, items_tup, pure_bind, compPm (dec := dec1) (e := fun z7 => run0 (f_is_word z7)) (ds := xs) (g := fun x : D => x) (fun x => .bl (wB x)) (zs := xs) rfl hl (fun _ => rfl) (fun x m => by rw [hb x m, run0_p]), pure_bind]
    rw [show (xs.map fun x => D.bl (wB x)) = (xs.map wB).map D.bl by rw [List.map_map]; rfl, blsF, pure_bind]
    (refine EV.el1_2 hx ?_; try clear hx; intro x m e)
    exact congrArg (fun b => (pure (D.bl b) : PM D)) (Bool.eq_false_iff.mpr fun z => by
      have y := List.all_eq_true.mp z (wB x) (List.mem_map.mpr (EV.in1_2 x m rfl))
      rw [e] at y
      exact EV.nnB y)
  · rw [decide_eq_false q, if_neg (by decide), pure_bind]
theorem rep_len {xs : List D} (h : (xs.length : Int) ≠ N.length) : f_is_report (dN N) (.tup xs) = pure (.bl false) := by
  simp only [f_is_report, pure_bind, isF_tup, asB_bl, if_true, len_tup, List.length_map, eqInt, decide_eq_false h, Bool.false_eq_true, if_false, id]
noncomputable def NoRep (N : Nt) (d : D) : Prop := (notND d .non : PM D) = pure (.bl true) ∧ f_is_report (dN N) d = pure (.bl false)
theorem start_rep {d : D} (h : NoRep N d) : f_need_start (oN N) d = raiseP ⟨"ReportError", []⟩ := by
  simp only [f_need_start, g_need_start, pure_bind, isNet_o, asB_bl, Bool.not_true, Bool.false_eq_true, if_false, h.1, if_true, own_needs, fn2_eq, h.2, run0_p, Bool.not_false, raise_bind]
theorem start_net {d x : D} (h : isC tab_Net d = pure (.bl false)) : f_need_start d x = raiseP ⟨"NetError", []⟩ := by
  simp only [f_need_start, g_need_start, pure_bind, h, asB_bl, Bool.not_false, if_true, raise_bind]
theorem watch_bad {d x : D} {e : Ex} (h : f_need_start d x = raiseP e) : newO cWatch ["own_net", "kept", "past"] (fnL2 f_Watch_init) [d, x] = raiseP e := by
  have z : fnL2 f_Watch_init [d, x] = raiseP e := by
    show f_Watch_init d x = _
    simp only [f_Watch_init, pure_bind, fn2_eq, h, run0_raise, raise_bind]
  unfold newO
  rw [z, run0_raise, raise_bind]
/-- one word otherwise, the last one -/
theorem rep_last (r : Rep N ws) (h8 : N.length ≤ 8) {x : D} (hx : f_is_word x = pure (.bl (wB x))) (hf : wB x = false) : NoRep N (.tup ((ws.drop 1).map D.str ++ [x])) := by
  refine ⟨rfl, rep_tup (fun y m => ?_) (EV.in1_2 x (by simp) hf) ?_⟩
  · rcases List.mem_append.mp m with m | m
    · (refine EV.el1_2 (List.mem_map.mp m) fun w mw q295_ => ?_; obtain rfl := q295_)
      exact wB_good (r.ws w (List.mem_of_mem_drop mw))
    · rw [List.mem_singleton.mp m]
      exact hx
  · have := r.len
    rw [List.length_append, List.length_map, List.length_drop, List.length_singleton]
    show _ ≤ 1000000
    omega
theorem alln {α : Type} {P : α → Prop} : ∀ d ∈ ([] : List α), P d := fun _ m => nomatch m
theorem allc {α : Type} {P : α → Prop} {a : α} {l : List α} (h : P a) (k : ∀ d ∈ l, P d) : ∀ d ∈ a :: l, P d := List.forall_mem_cons.mpr ⟨h, k⟩
theorem no_reports (h : Net N) (r : Rep N ws) : ∃ ds, f_law_no_reports (tS ws) = pure (.lst ds) ∧ ds.length ≤ 30 ∧ ∀ d ∈ ds, NoRep N d := by
  have h8 := h.hi
  have h1 := h.lo
  have rl := r.len
  have eT0 : mkT [] = pure (.tup []) := rfl
  have eT1 : ∀ a : D, mkT [a] = pure (.tup [a]) := fun _ => rfl
  have eL0 : mkL [] = pure (.lst []) := rfl
  have eL1 : ∀ a : D, mkL [a] = pure (.lst [a]) := fun _ => rfl
  have eL2 : ∀ a b : D, mkL [a, b] = pure (.lst [a, b]) := fun _ _ => rfl
  have eL3 : ∀ a b c : D, mkL [a, b, c] = pure (.lst [a, b, c]) := fun _ _ _ => rfl
  have eL9 : ∀ a b c d e f g i j : D, mkL [a, b, c, d, e, f, g, i, j] = pure (.lst [a, b, c, d, e, f, g, i, j]) := fun _ _ _ _ _ _ _ _ _ => rfl
  have eI : asI (.int 1) = pure (some 1) := rfl
  have eF : listF [tS ws] = pure (.lst (ws.map D.str)) := mkL_ok (by rw [List.length_map]; show _ ≤ 1000000; omega)
  have sl : sliceD (tS ws) (some 1) none = pure (.tup ((ws.drop 1).map D.str)) := by
    show mkT (cutD (ws.map D.str) (some ((1 : Nat) : Int)) none) = _
    rw [cut_drop (α := D) _ 1 (by rw [List.length_map]; omega), ← List.map_drop]
    exact mkT_ok (by rw [List.length_map, List.length_drop]; show _ ≤ 1000000; omega)
  have ad : ∀ x : D, addD (.tup ((ws.drop 1).map D.str)) (.tup [x]) = pure (.tup ((ws.drop 1).map D.str ++ [x])) := fun x => mkT_ok (by rw [List.length_append, List.length_map, List.length_drop, List.length_singleton]; show _ ≤ 1000000; omega)
  have ad2 : addD (tS ws) (.tup [.str "unseen"]) = pure (.tup (ws.map D.str ++ [.str "unseen"])) := mkT_ok (by rw [List.length_append, List.length_map, List.length_singleton]; show _ ≤ 1000000; omega)
  have adL : ∀ xs ys : List D, xs.length + ys.length ≤ 100 → addD (.lst xs) (.lst ys) = pure (.lst (xs ++ ys)) := fun xs ys hl => mkL_ok (by rw [List.length_append]; show _ ≤ 1000000; exact EV.w_le (by assumption) (by decide))
  simp only [f_law_no_reports, pure_bind, eT0, eT1, eL0, eL1, eL2, eL3, eL9, eI, eF, sl, ad, ad2, id]
  rw [adL _ _ (by simp), pure_bind]
  rw [adL _ _ (by simp), pure_bind]
  rw [adL _ _ (by simp), pure_bind]
  rw [adL _ _ (by simp), pure_bind]
  rw [adL _ _ (by simp), pure_bind]
  refine ⟨_, rfl, by simp, ?_⟩
  have bad1 : f_is_word (.str "Alarm") = pure (.bl (wB (.str "Alarm"))) := funext fun s => by kernel_rfl
  have bad2 : f_is_word (.str "") = pure (.bl (wB (.str ""))) := funext fun s => by kernel_rfl
  have bad3 : f_is_word (.str "alarm ") = pure (.bl (wB (.str "alarm "))) := funext fun s => by kernel_rfl
  have nt : ∀ {d : D}, (notND d .non : PM D) = pure (.bl true) → (isF "tuple" d : PM D) = pure (.bl false) → NoRep N d := fun a b => ⟨a, rep_not b⟩
  exact allc (nt rfl rfl) (allc (nt rfl rfl)
    (allc (nt rfl rfl)
    (allc (nt rfl rfl)
    (allc (⟨rfl, rep_len (by simp; omega)⟩)
    (allc (nt rfl rfl)
    (allc (nt rfl rfl)
    (allc (nt rfl rfl)
    (allc (⟨rfl, rep_len (by rw [List.length_append, List.length_map, List.length_singleton]; omega)⟩)
    (allc (⟨rfl, rep_len (by rw [List.length_map, List.length_drop]; omega)⟩)
    (allc (rep_last r h8 (wB_no rfl rfl) rfl)
    (allc (rep_last r h8 bad1 (by decide +kernel))
    (allc (rep_last r h8 (wB_no rfl rfl) rfl)
    (allc (rep_last r h8 (wB_no rfl rfl) rfl)
    (allc (rep_last r h8 (wB_no rfl rfl) rfl)
    (allc (rep_last r h8 (wB_no rfl rfl) rfl)
    (allc (rep_last r h8 bad2 (by decide +kernel))
    (allc (⟨rfl, rep_tup (fun y my => by rw [List.mem_singleton.mp my]; exact wB_no rfl rfl) ⟨tS ws, by simp, rfl⟩ (by show 1 ≤ 1000000; decide)⟩)
    (allc (rep_last r h8 bad3 (by decide +kernel))
    (alln)))))))))))))))))))
end
end Lw
namespace Lw
open PySem EV
theorem forL_goJ {C : Type} {body : C → D → PM (Lp C)} (J : C → Prop) : ∀ {ns : List Int} {c : C}, (ns = [] → J c) → (∀ c, ∀ x ∈ ns, ∃ c', body c (.int x) = pure (.go c') ∧ J c') → ∃ c', forL dec1 body (ns.map D.int) c = pure (.go c') ∧ J c'
  | [], c, h, _ => ⟨c, rfl, h rfl⟩
  | x :: ns, c, _, hb => by
    refine EV.el1_2 (hb c x List.mem_cons_self) fun c1 e1 j1 => ?_
    refine EV.el1_2 (forL_goJ J (ns := ns) (c := c1) (fun _ => j1) (fun c y m => hb c y (List.mem_cons_of_mem _ m))) fun c2 e2 j2 => ?_
    refine EV.in1_2 c2 ?_ j2
    rw [List.map_cons]
    show (body c (.int x) >>= _) = _
    rw [e1, pure_bind]
    exact e2
theorem forL_exJ {C β : Type} {body : C → D → PM (Lp C)} {kk : Lp C → PM β} {ns : List Int} {c : C} (R : PM β → Prop) (J : C → Prop) (h0 : ns = [] → J c) (hb : ∀ c, ∀ x ∈ ns, ∃ c', body c (.int x) = pure (.go c') ∧ J c') (hk : ∀ c', J c' → R (kk (.go c'))) : R (forL dec1 body (ns.map D.int) c >>= kk) := by
  refine EV.el1_2 (forL_goJ J h0 hb) fun c1 e1 j1 => ?_
  rw [e1, pure_bind]
  exact hk c1 j1
theorem fn4_eqK (f : D → D → D → D → PM D) (a b c d : D) : fn4 f [a, b, c, d] = f a b c d := rfl
theorem said8_report : saidM8 (raiseP ⟨"ReportError", []⟩) = pure (.str "report") := funext fun s => by kernel_rfl
section
variable {N : Nt} {ws : List Str}
theorem notC (N : Nt) (ws : List Str) : isC tab_Careful (oW N ws) = pure (.bl false) := by kernel_rfl
theorem notS (N : Nt) (ws : List Str) : isC tab_Small (oW N ws) = pure (.bl false) := by kernel_rfl
theorem notNet (N : Nt) (ws : List Str) : isC tab_Net (oW N ws) = pure (.bl false) := by kernel_rfl
theorem isNet_no {d : D} (h : noObj d = true) : isC tab_Net d = pure (.bl false) := by
  cases d <;> first | rfl | exact EV.nnB h
theorem trying_ok (N : Nt) (ws : List Str) : ∃ fs, methD cWatch (fn1 f_Watch_trying) (oW N ws) [] = pure (.obj cTrying fs) := by
  have z : fnL1 f_Trying_init [oW N ws] = pure [oW N ws, tS ws, .tup []] := by
    show f_Trying_init (oW N ws) = _
    simp only [f_Trying_init, pure_bind, bind_assoc, w_kept, w_past]
    rfl
  have y : newO cTrying ["watch", "kept", "before"] (fnL1 f_Trying_init) ([oW N ws] ++ []) = pure (.obj cTrying ([("watch" : Str), ("kept" : Str), ("before" : Str)].zip [oW N ws, tS ws, .tup []])) := by
    unfold newO
    rw [List.append_nil, z]
    rfl
  refine EV.in1_1 (([("watch" : Str), ("kept" : Str), ("before" : Str)].zip [oW N ws, tS ws, .tup []])) ?_
  rw [wth_ok, fn1_eq]
  simp only [f_Watch_trying, pure_bind, bind_assoc, y, id]
  exact run0_p _
theorem no_netsB {N : Nt} (h : Net N) : ∃ xs : List D, f_law_no_nets (oN N) = pure (.lst xs) ∧ xs.length ≤ 30 ∧ ∀ d ∈ xs, noObj d = true := by
  have h8 := h.hi
  have eR : methD cNet (fn1 f_Net_repr) (oN N) [] = pure (.str (SN N.length)) := by rw [meth_ok, fn1_eq, net_repr h, run0_p]
  have eS : ∀ x, stD (.str x) = pure (.str x) := fun _ => rfl
  have eT0 : mkT [] = pure (.tup []) := rfl
  have eT1 : ∀ a : D, mkT [a] = pure (.tup [a]) := fun _ => rfl
  have eL0 : mkL [] = pure (.lst []) := rfl
  have eL1 : ∀ a : D, mkL [a] = pure (.lst [a]) := fun _ => rfl
  have eLf : listF [dN N] = pure (.lst (N.map tI)) := mkL_ok (by rw [List.length_map]; exact h.lim)
  have g0 : getD (dN N) (.int 0) = pure (tI (ix N 0)) := getT (f := tI) (by decide) (by have := h.lo; exact Int.ofNat_lt.mpr (by assumption))
  have eLL : ∀ a1 a2 a3 a4 a5 a6 a7 a8 a9 a10 a11 a12 a13 a14 a15 : D, mkL [a1, a2, a3, a4, a5, a6, a7, a8, a9, a10, a11, a12, a13, a14, a15] = pure (.lst [a1, a2, a3, a4, a5, a6, a7, a8, a9, a10, a11, a12, a13, a14, a15]) := fun _ _ _ _ _ _ _ _ _ _ _ _ _ _ _ => rfl
  refine EV.in1_3 ([.non, .int 0, .bl true, .str "", .tup [], .lst [], .dct [], dN N, .lst (N.map tI), .lst [oN N], .tup [oN N], .str (txtS N), .str (SN N.length), .tup [.tup []], tI (ix N 0)]) (by simp only [f_law_no_nets, pure_bind, bind_assoc, needs_ok, eT0, eT1, eL0, eL1, eLf, obj_text, text_meth h, eR, eS, g0, eLL, id]) (by simp) (fun d m => ?_)
  simp only [List.mem_cons, List.not_mem_nil, or_false] at m
  rcases m with rfl | rfl | rfl | rfl | rfl | rfl | rfl | rfl | rfl | rfl | rfl | rfl | rfl | rfl | rfl <;> rfl
theorem noRep_w (N : Nt) (ws : List Str) : NoRep N (oW N ws) := ⟨rfl, rep_not rfl⟩
theorem noRep_n (N : Nt) : NoRep N (oN N) := ⟨rfl, rep_not rfl⟩
theorem noRep_tw (N : Nt) (ws : List Str) : NoRep N (.tup [oW N ws]) := ⟨rfl, rep_tup (fun x m => by
  rw [List.mem_singleton.mp m]
  exact wB_no rfl rfl) ⟨oW N ws, by simp, rfl⟩ (by show 1 ≤ 1000000; decide)⟩
end
noncomputable def JW (N : Nt) (c : Option D × Option D) : Prop := ∃ ws, Rep N ws ∧ c = (some (tS ws), some (oW N ws))
theorem law_pure (ns : List Int) : f_law ns = pure (.bl true) := by
  have r3 : rangeF1 [.int 3] = pure ((iota 3).map D.int) := range1 (n := 3) (by decide)
  have r4 : rangeF1 [.int 4] = pure ((iota 4).map D.int) := range1 (n := 4) (by decide)
  have eT1 : ∀ a : D, mkT [a] = pure (.tup [a]) := fun _ => rfl
  have eT2 : ∀ a b : D, mkT [a, b] = pure (.tup [a, b]) := fun _ _ => rfl
  have eL1 : ∀ d : D, mkL [d] = (pure (.lst [d]) : PM D) := fun _ => rfl
  have eL2 : ∀ a b : D, mkL [a, b] = (pure (.lst [a, b]) : PM D) := fun _ _ => rfl
  have eL3 : ∀ a b c : D, mkL [a, b, c] = (pure (.lst [a, b, c]) : PM D) := fun _ _ _ => rfl
  have eU : ∀ {β : Type} (kk : D → D → PM β) (a b : D), unp2 kk (.tup [a, b]) = kk a b := fun _ _ _ => rfl
  have eK : ∀ {β : Type} (d : D) (kk : D → PM β), optK (some d) kk = kk d := fun _ _ => rfl
  have eo1 : ∀ d : D, okL [d] = (pure [d] : PM (List D)) := fun _ => rfl
  have ok2 : ∀ a b : D, okLen [a, b] = (pure () : PM Unit) := fun _ _ => rfl
  have ok3 : ∀ a b c : D, okLen [a, b, c] = (pure () : PM Unit) := fun _ _ _ => rfl
  have eN : ∀ b : Bool, nbD (.bl b) = (pure (.bl (!b)) : PM D) := fun _ => rfl
  have eML : mulL (.lst [.str "net"]) (.int 3) = (pure (.lst [.str "net", .str "net", .str "net"]) : PM D) := rfl
  have eNE : neD (.lst [.str "net", .str "net", .str "net"]) (.lst [.str "net", .str "net", .str "net"]) = (pure (.bl false) : PM D) := funext fun s => by kernel_rfl
  have eRR : neD (.str "report") (.str "report") = (pure (.bl false) : PM D) := funext fun s => by kernel_rfl
  have eTN : ∀ fs, isND (.obj cTrying fs) .non = (pure (.bl false) : PM D) := fun _ => rfl
  simp only [f_law, pure_bind, r3, fn1_eq]
  refine forL_exJ (fun m : PM D => m = pure (D.bl true)) (fun _ => True) (fun _ => trivial) (fun c k mk => ?_) (fun c' _ => by simp only [lpK, id])
  refine EV.el1_1 (cellC ns (mem_iota.mp mk).1) fun v hv => ?_
  simp only [f_law_L5, fn1_eq, hv, run0_p, pure_bind, r3]
  refine forL_exJ (fun m : PM (Lp (Option D × Option D)) => ∃ c', m = pure (Lp.go c') ∧ True) (fun _ => True) (fun _ => trivial) (fun c lap ml => ?_) (fun c' _ => by exact EV.in1_2 _ rfl trivial)
  (refine EV.el1_2 (netC (v + 31 * lap) (t := 8) (by decide) (by decide)) fun N q296_ hN => ?_; obtain ⟨h, -⟩ := q296_)
  have u0 := unseen_repC N
  simp only [f_law_L4, fn1_eq, r4, mul_l (i := (31 : Int)) (j := lap), pure_bind, add_int, fn2_eq, show f_law_net (.int (v + 31 * lap)) (.int 8) = pure (dN N) from hN, run0_p, made h, eT1, len_tup, List.length_map, mul_unseenC h.lo h.hi, eT2, eU, List.cons_append, List.nil_append, List.append_nil, watch_non h, told_ok h u0, fn4_eqK, wdue_ok "Watch" (by decide) h u0, due_same "Watch" h u0, asB_bl, Bool.not_true, Bool.false_eq_true, if_false, r4]
  refine forL_exJ (fun m : PM (Lp (Option D × Option D)) => ∃ c', m = pure (Lp.go c') ∧ True) (JW N) (fun z => absurd z (by decide)) (fun c turn mt => ?_) (fun c' j => ?_)
  · obtain ⟨ws, r, er⟩ := reportC (v.fdiv 5 + 7 * turn) h
    simp only [f_law_L1, fn1_eq, fdiv_ok (show L2.CDivN v 5 from ⟨by decide, by decide⟩), mul_l (i := (7 : Int)) (j := turn), pure_bind, add_int, fn2_eq, er, run0_p, mod_ok (show (2 : Int) ≠ 0 by decide), eqInt, asB_bl, List.append_nil, watch_ok h r, ite_self, told_ok h r, fn4_eqK, wdue_ok "Watch" (by decide) h r, due_same "Watch" h r, Bool.not_true, Bool.false_eq_true, if_false, wp_net, knD_o, eq_net, decide_true, eN, notC, notS]
    exact ⟨_, rfl, ws, r, rfl⟩
  · (refine EV.el1_2 j ?_; try clear j; intro ws r q297_; obtain rfl := q297_)
    refine EV.el1_1 (trying_ok N ws) fun fs ef => ?_
    refine EV.el1_3 (no_reports h r) fun ds ed ld nd => ?_
    refine EV.el1_3 (no_netsB h) fun xs ex lx nx => ?_
    have a1 : ∀ a b c : D, addD (.lst ds) (.lst [a, b, c]) = pure (.lst (ds ++ [a, b, c])) := fun a b c => mkL_ok (by rw [List.length_append]; show ds.length + 3 ≤ 1000000; omega)
    have a2 : ∀ a b : D, addD (.lst xs) (.lst [a, b]) = pure (.lst (xs ++ [a, b])) := fun a b => mkL_ok (by rw [List.length_append]; show xs.length + 2 ≤ 1000000; omega)
    simp only [lpK, eK, obj_wT, pure_bind, ef, eTN, asB_bl, Bool.false_eq_true, if_false, ed, run0_p, eT1, eL3, a1, items_lst]
    rw [forL_goD (fun d md => by
      have q : NoRep N d := by
        rcases List.mem_append.mp md with m | m
        · exact nd d m
        · simp only [List.mem_cons, List.not_mem_nil, or_false] at m
          rcases m with rfl | rfl | rfl
          · exact noRep_w N ws
          · exact noRep_tw N ws
          · exact noRep_n N
      simp only [f_law_L2, List.append_nil, watch_bad (start_rep q), said8_report, pure_bind, eRR, asB_bl, Bool.false_eq_true, if_false])]
    simp only [pure_bind, lpK, ex, run0_p, eT1, eL2, a2, items_lst]
    rw [forL_goD (fun d md => by
      have q : isC tab_Net d = pure (.bl false) := by
        rcases List.mem_append.mp md with m | m
        · exact isNet_no (nx d m)
        · simp only [List.mem_cons, List.not_mem_nil, or_false] at m
          rcases m with rfl | rfl
          · exact notNet N ws
          · rfl
      simp only [f_law_L3, List.append_nil, List.cons_append, List.nil_append, watch_bad (start_net q), said8_net, pure_bind, eo1, ok2, ok3, eL1, eML, eNE, asB_bl, noExc_pure, Bool.false_eq_true, if_false])]
    exact EV.in1_2 _ rfl trivial
theorem law_true (ns : List Int) (hn : ns.length ≤ 63) : ∃ s, fn0 (f_law ns) [] [] = .ok (.bl true) s := ⟨[], by
  show f_law ns [] = _
  rw [law_pure]
  rfl⟩
end Lw
section
set_option maxHeartbeats 4000000
namespace Lw
open PySem PySem.Spec PyProof.Rows L2 EV
def topS (i : Nat) : Stmt := PySem.Challenge.pw_rootalarms_k53_watches_made.main.body.getD i (.Pass ⟨0, 0, 0, 0⟩)
noncomputable abbrev s_Net_eq : Stmt := (clsBody (topS 43)).getD 13 (.Pass ⟨0, 0, 0, 0⟩)
theorem sc_Net_eq : FnScope ["self", "other"] ["self", "other"] (defScope s_Net_eq) := ⟨rfl, rfl, rfl, by decide +kernel, rfl, by decide +kernel, by decide +kernel⟩
noncomputable abbrev s_is_word : Stmt := topS 29
theorem sc_is_word : FnScope ["thing"] ["thing"] (defScope s_is_word) := ⟨rfl, rfl, rfl, by decide +kernel, rfl, by decide +kernel, by decide +kernel⟩
noncomputable abbrev s_is_report : Stmt := topS 30
theorem sc_is_report : FnScope ["net", "thing", "word"] ["net", "thing"] (defScope s_is_report) := ⟨rfl, rfl, rfl, by decide +kernel, rfl, by decide +kernel, by decide +kernel⟩
noncomputable abbrev s_need_start : Stmt := topS 47
theorem sc_need_start : FnScope ["net", "report"] ["net", "report"] (defScope s_need_start) := ⟨rfl, rfl, rfl, by decide +kernel, rfl, by decide +kernel, by decide +kernel⟩
noncomputable abbrev s_Watch_init : Stmt := (clsBody (topS 49)).getD 1 (.Pass ⟨0, 0, 0, 0⟩)
theorem sc_Watch_init : FnScope ["self", "net", "report"] ["self", "net", "report"] (defScope s_Watch_init) := ⟨rfl, rfl, rfl, by decide +kernel, rfl, by decide +kernel, by decide +kernel⟩
noncomputable abbrev s_Watch_net : Stmt := (clsBody (topS 49)).getD 2 (.Pass ⟨0, 0, 0, 0⟩)
theorem sc_Watch_net : FnScope ["self"] ["self"] (defScope s_Watch_net) := ⟨rfl, rfl, rfl, by decide +kernel, rfl, by decide +kernel, by decide +kernel⟩
noncomputable abbrev s_Trying_init : Stmt := (clsBody (topS 46)).getD 0 (.Pass ⟨0, 0, 0, 0⟩)
theorem sc_Trying_init : FnScope ["self", "watch"] ["self", "watch"] (defScope s_Trying_init) := ⟨rfl, rfl, rfl, by decide +kernel, rfl, by decide +kernel, by decide +kernel⟩
noncomputable abbrev s_Watch_trying : Stmt := (clsBody (topS 49)).getD 17 (.Pass ⟨0, 0, 0, 0⟩)
theorem sc_Watch_trying : FnScope ["self"] ["self"] (defScope s_Watch_trying) := ⟨rfl, rfl, rfl, by decide +kernel, rfl, by decide +kernel, by decide +kernel⟩
noncomputable abbrev s_law_cell : Stmt := topS 53
theorem sc_law_cell : FnScope ["_law_script", "_law_k"] ["_law_script", "_law_k"] (defScope s_law_cell) := ⟨rfl, rfl, rfl, by decide +kernel, rfl, by decide +kernel, by decide +kernel⟩
noncomputable abbrev s_law_reach : Stmt := topS 57
theorem sc_law_reach : FnScope ["_law_net_here", "_law_component", "_law_found", "_law_turn", "_law_later", "_law_one", "_law_other"] ["_law_net_here", "_law_component"] (defScope s_law_reach) := ⟨rfl, rfl, rfl, by decide +kernel, rfl, by decide +kernel, by decide +kernel⟩
noncomputable abbrev s_law_candidates : Stmt := topS 61
theorem sc_law_candidates : FnScope ["_law_net_here", "_law_sight", "_law_found", "_law_one", "_law_word", "_law_other"] ["_law_net_here", "_law_sight"] (defScope s_law_candidates) := ⟨rfl, rfl, rfl, by decide +kernel, rfl, by decide +kernel, by decide +kernel⟩
noncomputable abbrev s_law_clash : Stmt := topS 62
theorem sc_law_clash : FnScope ["_law_net_here", "_law_sight", "_law_some", "_law_one", "_law_word", "_law_own", "_law_quiets", "_law_other", "_law_rows", "_law_at"] ["_law_net_here", "_law_sight"] (defScope s_law_clash) := ⟨rfl, rfl, rfl, by decide +kernel, rfl, by decide +kernel, by decide +kernel⟩
noncomputable abbrev s_law_due : Stmt := topS 64
theorem sc_law_due : FnScope ["_law_name", "_law_net_here", "_law_sight", "_law_changes", "_law_some", "_law_many", "_law_text", "_law_word"] ["_law_name", "_law_net_here", "_law_sight", "_law_changes"] (defScope s_law_due) := ⟨rfl, rfl, rfl, by decide +kernel, rfl, by decide +kernel, by decide +kernel⟩
noncomputable abbrev s_law_is_same : Stmt := topS 55
theorem sc_law_is_same : FnScope ["_law_actual", "_law_wanted", "_law_k"] ["_law_actual", "_law_wanted"] (defScope s_law_is_same) := ⟨rfl, rfl, rfl, by decide +kernel, rfl, by decide +kernel, by decide +kernel⟩
noncomputable abbrev s_is_between : Stmt := topS 15
theorem sc_is_between : FnScope ["thing", "low", "high"] ["thing", "low", "high"] (defScope s_is_between) := ⟨rfl, rfl, rfl, by decide +kernel, rfl, by decide +kernel, by decide +kernel⟩
noncomputable abbrev s_is_rising : Stmt := topS 16
theorem sc_is_rising : FnScope ["size", "thing", "one", "later"] ["size", "thing"] (defScope s_is_rising) := ⟨rfl, rfl, rfl, by decide +kernel, rfl, by decide +kernel, by decide +kernel⟩
noncomputable abbrev s_is_net : Stmt := topS 17
theorem sc_is_net : FnScope ["thing", "component", "needs"] ["thing"] (defScope s_is_net) := ⟨rfl, rfl, rfl, by decide +kernel, rfl, by decide +kernel, by decide +kernel⟩
noncomputable abbrev s_Net_init : Stmt := (clsBody (topS 43)).getD 0 (.Pass ⟨0, 0, 0, 0⟩)
theorem sc_Net_init : FnScope ["self", "needs"] ["self", "needs"] (defScope s_Net_init) := ⟨rfl, rfl, rfl, by decide +kernel, rfl, by decide +kernel, by decide +kernel⟩
noncomputable abbrev s_law_made : Stmt := topS 59
theorem sc_law_made : FnScope ["_law_rows"] ["_law_rows"] (defScope s_law_made) := ⟨rfl, rfl, rfl, by decide +kernel, rfl, by decide +kernel, by decide +kernel⟩
noncomputable abbrev s_law_draws : Stmt := topS 54
theorem sc_law_draws : FnScope ["_law_cell_here", "_law_bounds", "_law_found", "_law_left", "_law_below", "_law_k", "_law_mixed"] ["_law_cell_here", "_law_bounds"] (defScope s_law_draws) := ⟨rfl, rfl, rfl, by decide +kernel, rfl, by decide +kernel, by decide +kernel⟩
noncomputable abbrev s_law_net : Stmt := topS 56
theorem sc_law_net : FnScope ["_law_cell_here", "_law_top", "_law_numbers", "_law_many", "_law_cap", "_law_rows", "_law_one", "_law_other"] ["_law_cell_here", "_law_top"] (defScope s_law_net) := ⟨rfl, rfl, rfl, by decide +kernel, rfl, by decide +kernel, by decide +kernel⟩
noncomputable abbrev s_Net_needs : Stmt := (clsBody (topS 43)).getD 3 (.Pass ⟨0, 0, 0, 0⟩)
theorem sc_Net_needs : FnScope ["self"] ["self"] (defScope s_Net_needs) := ⟨rfl, rfl, rfl, by decide +kernel, rfl, by decide +kernel, by decide +kernel⟩
noncomputable abbrev s_Net_repr : Stmt := (clsBody (topS 43)).getD 14 (.Pass ⟨0, 0, 0, 0⟩)
theorem sc_Net_repr : FnScope ["self"] ["self"] (defScope s_Net_repr) := ⟨rfl, rfl, rfl, by decide +kernel, rfl, by decide +kernel, by decide +kernel⟩
noncomputable abbrev s_line_of : Stmt := topS 39
theorem sc_line_of : FnScope ["component", "needs", "one"] ["component", "needs"] (defScope s_line_of) := ⟨rfl, rfl, rfl, by decide +kernel, rfl, by decide +kernel, by decide +kernel⟩
noncomputable abbrev s_text_of : Stmt := topS 40
theorem sc_text_of : FnScope ["net", "component", "needs"] ["net"] (defScope s_text_of) := ⟨rfl, rfl, rfl, by decide +kernel, rfl, by decide +kernel, by decide +kernel⟩
noncomputable abbrev s_Net_text : Stmt := (clsBody (topS 43)).getD 5 (.Pass ⟨0, 0, 0, 0⟩)
theorem sc_Net_text : FnScope ["self"] ["self"] (defScope s_Net_text) := ⟨rfl, rfl, rfl, by decide +kernel, rfl, by decide +kernel, by decide +kernel⟩
noncomputable abbrev s_law_no_nets : Stmt := topS 65
theorem sc_law_no_nets : FnScope ["_law_made_here", "_law_rows"] ["_law_made_here"] (defScope s_law_no_nets) := ⟨rfl, rfl, rfl, by decide +kernel, rfl, by decide +kernel, by decide +kernel⟩
noncomputable abbrev s_law_no_reports : Stmt := topS 66
theorem sc_law_no_reports : FnScope ["_law_sight", "_law_found"] ["_law_sight"] (defScope s_law_no_reports) := ⟨rfl, rfl, rfl, by decide +kernel, rfl, by decide +kernel, by decide +kernel⟩
noncomputable abbrev s_law_alarms : Stmt := topS 58
theorem sc_law_alarms : FnScope ["_law_net_here", "_law_broken", "_law_found", "_law_one", "_law_other"] ["_law_net_here", "_law_broken"] (defScope s_law_alarms) := ⟨rfl, rfl, rfl, by decide +kernel, rfl, by decide +kernel, by decide +kernel⟩
noncomputable abbrev s_law_report : Stmt := topS 60
theorem sc_law_report : FnScope ["_law_cell_here", "_law_net_here", "_law_numbers", "_law_words", "_law_broken", "_law_alarming", "_law_one", "_law_word"] ["_law_cell_here", "_law_net_here"] (defScope s_law_report) := ⟨rfl, rfl, rfl, by decide +kernel, rfl, by decide +kernel, by decide +kernel⟩
noncomputable abbrev s_Net_len : Stmt := (clsBody (topS 43)).getD 10 (.Pass ⟨0, 0, 0, 0⟩)
theorem sc_Net_len : FnScope ["self"] ["self"] (defScope s_Net_len) := ⟨rfl, rfl, rfl, by decide +kernel, rfl, by decide +kernel, by decide +kernel⟩
noncomputable abbrev s_reach_of : Stmt := topS 20
theorem sc_reach_of : FnScope ["net", "component", "found", "at", "needed"] ["net", "component"] (defScope s_reach_of) := ⟨rfl, rfl, rfl, by decide +kernel, rfl, by decide +kernel, by decide +kernel⟩
noncomputable abbrev s_all_reaches : Stmt := topS 21
theorem sc_all_reaches : FnScope ["net", "component"] ["net"] (defScope s_all_reaches) := ⟨rfl, rfl, rfl, by decide +kernel, rfl, by decide +kernel, by decide +kernel⟩
noncomputable abbrev s_with_word : Stmt := topS 31
theorem sc_with_word : FnScope ["report", "word", "component", "own"] ["report", "word"] (defScope s_with_word) := ⟨rfl, rfl, rfl, by decide +kernel, rfl, by decide +kernel, by decide +kernel⟩
noncomputable abbrev s_candidates_of : Stmt := topS 32
theorem sc_candidates_of : FnScope ["net", "report", "reaches", "quiet", "one", "other"] ["net", "report"] (defScope s_candidates_of) := ⟨rfl, rfl, rfl, by decide +kernel, rfl, by decide +kernel, by decide +kernel⟩
noncomputable abbrev s_Watch_candidates : Stmt := (clsBody (topS 49)).getD 5 (.Pass ⟨0, 0, 0, 0⟩)
theorem sc_Watch_candidates : FnScope ["self"] ["self"] (defScope s_Watch_candidates) := ⟨rfl, rfl, rfl, by decide +kernel, rfl, by decide +kernel, by decide +kernel⟩
noncomputable abbrev s_Watch_changes : Stmt := (clsBody (topS 49)).getD 8 (.Pass ⟨0, 0, 0, 0⟩)
theorem sc_Watch_changes : FnScope ["self"] ["self"] (defScope s_Watch_changes) := ⟨rfl, rfl, rfl, by decide +kernel, rfl, by decide +kernel, by decide +kernel⟩
noncomputable abbrev s_needed_of : Stmt := topS 33
theorem sc_needed_of : FnScope ["net", "report", "some", "found", "component", "one"] ["net", "report"] (defScope s_needed_of) := ⟨rfl, rfl, rfl, by decide +kernel, rfl, by decide +kernel, by decide +kernel⟩
noncomputable abbrev s_is_explained : Stmt := topS 34
theorem sc_is_explained : FnScope ["net", "report"] ["net", "report"] (defScope s_is_explained) := ⟨rfl, rfl, rfl, by decide +kernel, rfl, by decide +kernel, by decide +kernel⟩
noncomputable abbrev s_Watch_explained : Stmt := (clsBody (topS 49)).getD 6 (.Pass ⟨0, 0, 0, 0⟩)
theorem sc_Watch_explained : FnScope ["self"] ["self"] (defScope s_Watch_explained) := ⟨rfl, rfl, rfl, by decide +kernel, rfl, by decide +kernel, by decide +kernel⟩
noncomputable abbrev s_need_component : Stmt := topS 18
theorem sc_need_component : FnScope ["net", "thing"] ["net", "thing"] (defScope s_need_component) := ⟨rfl, rfl, rfl, by decide +kernel, rfl, by decide +kernel, by decide +kernel⟩
noncomputable abbrev s_Watch_getitem : Stmt := (clsBody (topS 49)).getD 20 (.Pass ⟨0, 0, 0, 0⟩)
theorem sc_Watch_getitem : FnScope ["self", "component"] ["self", "component"] (defScope s_Watch_getitem) := ⟨rfl, rfl, rfl, by decide +kernel, rfl, by decide +kernel, by decide +kernel⟩
noncomputable abbrev s_watched_of : Stmt := topS 48
theorem sc_watched_of : FnScope ["report", "word"] ["report"] (defScope s_watched_of) := ⟨rfl, rfl, rfl, by decide +kernel, rfl, by decide +kernel, by decide +kernel⟩
noncomputable abbrev s_Watch_len : Stmt := (clsBody (topS 49)).getD 18 (.Pass ⟨0, 0, 0, 0⟩)
theorem sc_Watch_len : FnScope ["self"] ["self"] (defScope s_Watch_len) := ⟨rfl, rfl, rfl, by decide +kernel, rfl, by decide +kernel, by decide +kernel⟩
noncomputable abbrev s_Watch_report : Stmt := (clsBody (topS 49)).getD 3 (.Pass ⟨0, 0, 0, 0⟩)
theorem sc_Watch_report : FnScope ["self"] ["self"] (defScope s_Watch_report) := ⟨rfl, rfl, rfl, by decide +kernel, rfl, by decide +kernel, by decide +kernel⟩
noncomputable abbrev s_Watch_repr : Stmt := (clsBody (topS 49)).getD 23 (.Pass ⟨0, 0, 0, 0⟩)
theorem sc_Watch_repr : FnScope ["self", "many"] ["self"] (defScope s_Watch_repr) := ⟨rfl, rfl, rfl, by decide +kernel, rfl, by decide +kernel, by decide +kernel⟩
noncomputable abbrev s_law_told : Stmt := topS 63
theorem sc_law_told : FnScope ["_law_watch", "_law_words", "_law_row", "_law_one"] ["_law_watch"] (defScope s_law_told) := ⟨rfl, rfl, rfl, by decide +kernel, rfl, by decide +kernel, by decide +kernel⟩
noncomputable abbrev s_law : Stmt := topS 68
theorem sc_law : FnScope ["_law_script", "_law_k", "_law_cell_here", "_law_lap", "_law_rows", "_law_made_here", "_law_none", "_law_turn", "_law_sight", "_law_watch", "_law_thing", "_law_words"] ["_law_script"] (defScope s_law) := ⟨rfl, rfl, rfl, by decide +kernel, rfl, by decide +kernel, by decide +kernel⟩
noncomputable abbrev s_law_said : Stmt := topS 67
theorem sc_law_said : FnScope ["_law_call", "e", "_law_marks", "_law_names"] ["_law_call"] (defScope s_law_said) := ⟨rfl, rfl, rfl, by decide +kernel, rfl, by decide +kernel, by decide +kernel⟩
noncomputable abbrev s_fit : Stmt := (clsBody (topS 49)).getD 9 (.Pass ⟨0, 0, 0, 0⟩)
theorem sc_fit : FnScope ["self", "report"] ["self", "report"] (defScope s_fit) := ⟨rfl, rfl, rfl, by decide +kernel, rfl, by decide +kernel, by decide +kernel⟩
section
variable {P : Program} {w : World} {K : PySem.W.Frag} {mg : Str → Option Value} {base : Heap}
theorem c_said (B : Bn mg) {CA CL CU : Addr} (hA : mg "AlarmError" = some (.ref CA)) (hL : mg "LimitError" = some (.ref CL)) (hU : mg "Unexplained" = some (.ref CU)) (hE : ∀ j y, errsL[j]? = some y → ∃ D, mg y = some (.ref D) ∧ ErrX K mg CA CL CU D j) (hY : ErrY K CL CU) (AS : FunAt K mg "_law_said" s_law_said) : SaidC8 P w K mg base 31 "_law_said" := by
  refine EV.el2_2 (AS.ex) fun fs fds FS hs => ?_
  (refine EV.el4_1 (FS.ex) fun oc od kV doc q298_ => ?_; refine EV.el5_3 q298_ ?_; try clear q298_; intro pm an cdv ct osl e lk hcd)
  subst e
  refine ⟨fs, CA, CL, CU, _, _, defScope s_law_said, kV, doc, pm, cdv, ct, oc, an, od, osl, "_law_call", ["_law_call", "e", "_law_marks", "_law_names"], hs, FS.kp, lk, hcd, FS.binds (ps := ["_law_call"]) (fun _ _ _ _ _ _ us hl => (by (refine EV.el1_1 (EV.lv1 hl) fun _ q299_ => ?_; obtain rfl := q299_); rfl)), sc_law_said, rfl, .inl rfl, by decide, by decide, hE, hL, hU, ?_⟩
  intro X e1 e2 e3 e4 e5 hr hg q
  subst e1 e2 e3 e4 e5
  have hu := hr.un
  refine said8_gives rfl hL rfl hU rfl hA rfl (by decide) (by decide) (by decide) (by decide) hY (fun _ => rfl) (fun s H a' oe cls d pn hz hf => pss_xf hY.xl hY.l1 hY.l2 hz hf rfl (.inl rfl) rfl B.repr (show X.A.units + 3 + 200 < cLine from by omega) hg (by decide) (by decide) (fun _ => rfl) (fun _ => rfl)) (fun s H a' oe cls d pn hz hf => pss_xf hY.xu hY.u1 hY.u2 hz hf rfl (.inl rfl) rfl B.repr (show X.A.units + 3 + 200 < cLine from by omega) hg (by decide) (by decide) (fun _ => rfl) (fun _ => rfl)) (fun s H a' oe D j pn hj hz hf ej => ?_)
  refine EV.el1_2 (ej.is 0 _ rfl) fun C0 m0 k0 => ?_
  refine EV.el1_2 (ej.is 1 _ rfl) fun C1 m1 k1 => ?_
  refine EV.el1_2 (ej.is 2 _ rfl) fun C2 m2 k2 => ?_
  refine EV.el1_2 (ej.is 3 _ rfl) fun C3 m3 k3 => ?_
  refine EV.el1_2 (ej.is 4 _ rfl) fun C4 m4 k4 => ?_
  refine EV.el1_2 (ej.is 5 _ rfl) fun C5 m5 k5 => ?_
  refine EV.el1_2 (ej.is 6 _ rfl) fun C6 m6 k6 => ?_
  refine EV.el1_2 (ej.is 7 _ rfl) fun C7 m7 k7 => ?_
  exact pss_kind8 hj (show X.A.units + 3 + 65 < cLine from by omega) (show (["_law_call", "e", "_law_marks", "_law_names"] : List Str).Nodup by decide) rfl rfl (.inl rfl) (.inl rfl) (.inl rfl) (.inl rfl) (pe_isiI (i := 1) (c := "NetError") List.mem_cons_self ej.cls hz hf rfl (.inl rfl) rfl B.isinstance rfl m0 k0) (pe_isiI (i := 1) (c := "ComponentError") List.mem_cons_self ej.cls hz hf rfl (.inl rfl) rfl B.isinstance rfl m1 k1) (pe_isiI (i := 1) (c := "SetError") List.mem_cons_self ej.cls hz hf rfl (.inl rfl) rfl B.isinstance rfl m2 k2) (pe_isiI (i := 1) (c := "ReportError") List.mem_cons_self ej.cls hz hf rfl (.inl rfl) rfl B.isinstance rfl m3 k3) (pe_isiI (i := 1) (c := "WordError") List.mem_cons_self ej.cls hz hf rfl (.inl rfl) rfl B.isinstance rfl m4 k4) (pe_isiI (i := 1) (c := "NumberError") List.mem_cons_self ej.cls hz hf rfl (.inl rfl) rfl B.isinstance rfl m5 k5) (pe_isiI (i := 1) (c := "TextError") List.mem_cons_self ej.cls hz hf rfl (.inl rfl) rfl B.isinstance rfl m6 k6) (pe_isiI (i := 1) (c := "NothingDone") List.mem_cons_self ej.cls hz hf rfl (.inl rfl) rfl B.isinstance rfl m7 k7)
theorem ok_Net_eq (B : Bn mg) (NA_Net_own_needs : NoAttr K cNet "own_needs") (I_Net : IsCl K mg "Net" tab_Net) (FA : MethF K cNet "__eq__" "Net.__eq__" s_Net_eq) : CalM P w K mg base 1 cNet "__eq__" ["self", "other"] (spF K mg false 2 (fn2 f_Net_eq)) := by
  refine mk_meth (N := ["self", "other"]) (k := 0) FA sc_Net_eq rfl (fun _ _ _ _ _ _ us hl => (by (refine EV.el2_1 (EV.lv2 hl) fun _ _ q300_ => ?_; obtain rfl := q300_); rfl)) (fun f cdv A outer s H E C ds hn => ?_)
  (refine EV.el2_1 (len2 hn) fun a0 a1 q301_ => ?_; obtain rfl := q301_)
  refine ⟨D, Out.ret, f_Net_eq a0 a1, ?_, out_ret _⟩
  unfold f_Net_eq
  change SV _ _ _ [.val a0, .val a1] _ _ _
  exact sv_ret (inj := id) (fun _ => rfl) (ev_and (ev_isC (vv 1) I_Net (by rfl) B.isinstance (by rfl)) (ev_one (ev_cmp (od_eq C.room) (ev_fldO NA_Net_own_needs (vv 0)) (ev_fldO NA_Net_own_needs (vv 1)) (nomark _))))
theorem ok_is_word (B : Bn mg) (c_WORDS : CT K mg "WORDS" d_WORDS) (FA : FunAt K mg "is_word" s_is_word) : Cal P w K mg base 1 "is_word" ["thing"] (spF K mg false 1 (fn1 f_is_word)) := by
  refine EV.el1_2 (c_WORDS.ex) fun a_WORDS c_WORDS r_WORDS => ?_
  refine mk_pure (N := ["thing"]) (k := 0) FA sc_is_word rfl (fun _ _ _ _ _ _ us hl => (by (refine EV.el1_1 (EV.lv1 hl) fun _ q302_ => ?_; obtain rfl := q302_); rfl)) (fun f cdv A outer s H E C ds hn => ?_)
  (refine EV.el1_1 (len1 hn) fun a0 q303_ => ?_; obtain rfl := q303_)
  refine ⟨D, Out.ret, f_is_word a0, ?_, out_ret _⟩
  unfold f_is_word
  change SV _ _ _ [.val a0] _ _ _
  exact sv_ret (inj := id) (fun _ => rfl) (ev_and (ev_isi (T := "str") (by decide) (vv 0) (by rfl) B.isinstance (by rfl) B.str (by decide +kernel)) (ev_one (ev_cmp (od_in C.room) (vv 0) (ev_glob (v := .ref a_WORDS) (by rfl) c_WORDS rfl r_WORDS) (by rfl))))
theorem ok_is_report (B : Bn mg) (K_is_word : Cal P w K mg base 1 "is_word" ["thing"] (spF K mg false 1 (fn1 f_is_word))) (FA : FunAt K mg "is_report" s_is_report) : Cal P w K mg base 2 "is_report" ["net", "thing"] (spF K mg false 2 (fn2 f_is_report)) := by
  refine mk_pure (N := ["net", "thing", "word"]) (k := 1) FA sc_is_report rfl (fun _ _ _ _ _ _ us hl => (by (refine EV.el2_1 (EV.lv2 hl) fun _ _ q304_ => ?_; obtain rfl := q304_); rfl)) (fun f cdv A outer s H E C ds hn => ?_)
  (refine EV.el2_1 (len2 hn) fun a0 a1 q305_ => ?_; obtain rfl := q305_)
  refine ⟨D, Out.ret, f_is_report a0 a1, ?_, out_ret _⟩
  unfold f_is_report
  change SV _ _ _ [.val a0, .val a1, .junk] _ _ _
  exact sv_ret (inj := id) (fun _ => rfl) (ev_and (ev_isi (T := "tuple") (by decide) (vv 1) (by rfl) B.isinstance (by rfl) B.tuple (by decide +kernel)) (ev_and (ev_cmp (od_eq C.room) (ev_callB cd_len (by rfl) B.len PySem.boot_len (el_cons (vv 1) el_nil)) (ev_callB cd_len (by rfl) B.len PySem.boot_len (el_cons (vv 0) el_nil)) (nomark _)) (ev_one (ev_callB (cd_all C.calm) (by rfl) B.all (by decide +kernel) (el_cons (ev_lc (own := [(("word" : Str), 2)]) (dec := dec1) (g := gName 2) (Γz := fun z7 => [.val a0, .val a1, .val z7]) C (ei_seq (vv 1)) (blkOk_by (by rfl)) (tg_name (by simp)) (fun _ _ _ _ _ => pgn 2 C.nd) (fun z7 _ _ _ _ _ => ets_nil) (fun z7 _ _ _ _ _ => (call C.blk K_is_word ar1 (el_cons (vv 2) el_nil)))) el_nil)))))
theorem ok_need_start (B : Bn mg) (E_NetError : ErrC K mg "NetError") (E_ReportError : ErrC K mg "ReportError") (NA_Net_own_needs : NoAttr K cNet "own_needs") (I_Net : IsCl K mg "Net" tab_Net) (K_is_report : Cal P w K mg base 2 "is_report" ["net", "thing"] (spF K mg false 2 (fn2 f_is_report))) (FA : FunAt K mg "need_start" s_need_start) : Cal P w K mg base 3 "need_start" ["net", "report"] (spF K mg false 2 (fn2 f_need_start)) := by
  refine mk_pure (N := ["net", "report"]) (k := 2) FA sc_need_start rfl (fun _ _ _ _ _ _ us hl => (by (refine EV.el2_1 (EV.lv2 hl) fun _ _ q306_ => ?_; obtain rfl := q306_); rfl)) (fun f cdv A outer s H E C ds hn => ?_)
  (refine EV.el2_1 (len2 hn) fun a0 a1 q307_ => ?_; obtain rfl := q307_)
  refine ⟨Unit, fun _ => Out.fall [.junk, .junk], g_need_start a0 a1, ?_, rfl⟩
  unfold g_need_start
  change SV _ _ _ [.val a0, .val a1] _ _ _
  refine sv_ifR (eb_not (eb_val (ev_isC (vv 0) I_Net (by rfl) B.isinstance (by rfl)))) ?_ (by repeat first | exact nf_bad | exact nf_raise | exact nf_raiseF | exact nf_ret (fun _ => rfl) | refine nf_bind (fun _ => ?_) | refine nf_unp2 (fun _ _ => ?_) | refine nf_ite ?_ ?_) ?_
  · exact sv_raise C E_NetError
  · refine sv_ifR (eb_bool (ew_and (eb_cmp od_notN (vv 1) ev_non (nomark _)) (ew_and1 (eb_not (eb_val (call C K_is_report ar2 (el_cons (ev_fldO NA_Net_own_needs (vv 0)) (el_cons (vv 1) el_nil)))))))) ?_ (by repeat first | exact nf_bad | exact nf_raise | exact nf_raiseF | exact nf_ret (fun _ => rfl) | refine nf_bind (fun _ => ?_) | refine nf_unp2 (fun _ _ => ?_) | refine nf_ite ?_ ?_) ?_
    · exact sv_raise C E_ReportError
    · exact sv_nil rfl (wj (wj wn))
theorem ok_Watch_init (B : Bn mg) (c_UNSEEN : ∃ t, mg "UNSEEN" = some (.str "unseen" t)) (NA_Net_own_needs : NoAttr K cNet "own_needs") (NA_Watch_kept : NoAttr K cWatch "kept") (NA_Watch_own_net : NoAttr K cWatch "own_net") (NA_Watch_past : NoAttr K cWatch "past") (OC_Watch : ObjC K cWatch) (FIT : FitC P w K mg base 1 cWatch "need_fit") (K_need_start : Cal P w K mg base 3 "need_start" ["net", "report"] (spF K mg false 2 (fn2 f_need_start))) (CA : ClsAt K mg "Watch" cWatch "Watch.__init__" s_Watch_init [.non]) : MkD2 P w K mg base 4 "Watch" cWatch ["own_net", "kept", "past"] (fnL2 f_Watch_init) "report" := by
  (refine EV.el1_1 c_UNSEEN ?_; try clear c_UNSEEN; intro _ c_UNSEEN)
  refine mkD2 (N := ["self", "net", "report"]) (k := 3) CA sc_Watch_init (by decide) (fun _ _ _ _ _ _ _ us its hu hi => (by (refine EV.el2_1 (EV.lv2 hu) fun _ _ q308_ => ?_; obtain rfl := q308_); (refine EV.el1_1 (EV.lv1 hi) fun _ q309_ => ?_; obtain rfl := q309_); exact EV.in1_2 _ rfl rfl)) (fun _ _ _ _ _ _ _ us its hu hi => (by (refine EV.el3_1 (EV.lv3 hu) fun _ _ _ q310_ => ?_; obtain rfl := q310_); (refine EV.el1_1 (EV.lv1 hi) fun _ q311_ => ?_; obtain rfl := q311_); exact EV.in1_2 _ rfl rfl)) (fun _ _ _ _ _ _ _ us its ws hu hi hw => (by (refine EV.el2_1 (EV.lv2 hu) fun _ _ q312_ => ?_; obtain rfl := q312_); (refine EV.el1_1 (EV.lv1 hi) fun _ q313_ => ?_; obtain rfl := q313_); (refine EV.el1_1 (EV.lv1 hw) fun _ q314_ => ?_; obtain rfl := q314_); exact EV.in1_2 _ rfl rfl)) (fun f => ⟨fun cdv A outer s H E C x dx ds hn => ?_⟩)
  (refine EV.el2_1 (len2 hn) fun a0 a1 q315_ => ?_; obtain rfl := q315_)
  refine EV.in1_2 (fun fs => [insS x cWatch dx ["own_net", "kept", "past"] fs, .junk, .junk]) (fun _ => rfl) ?_
  change SV _ _ _ [insS x cWatch dx ([] : List Str) ([] : List D), .val a0, .val a1] _ _ (f_Watch_init a0 a1)
  unfold f_Watch_init
  refine sv_expr (call C K_need_start ar2 (el_cons (vv 1) (el_cons (vv 2) el_nil))) ?_
  change SV _ _ _ [insS x cWatch dx ([] : List Str) ([] : List D), .val a0, .val a1] _ _ _
  refine sv_fldNew 0 OC_Watch.cl NA_Watch_own_net rfl (by decide) (by decide) (vv 1) (fun d6 => ?_)
  change SV _ _ _ [insS x cWatch dx (([] : List Str) ++ [("own_net" : Str)]) (([] : List D) ++ [d6]), .val a0, .val a1] _ _ _
  refine sv_fldNew 0 OC_Watch.cl NA_Watch_kept rfl (by decide) (by decide) (ev_ifExp (eb_cmp od_isN (vv 2) ev_non (nomark _)) (ev_op od_mulG (ev_tup (el_cons (ev_glob (v := .str "unseen") (by rfl) c_UNSEEN ⟨_, rfl⟩ fun _ => .str _) el_nil)) (ev_callB cd_len (by rfl) B.len PySem.boot_len (el_cons (ev_fldO NA_Net_own_needs (vv 1)) el_nil))) (vv 2)) (fun d16 => ?_)
  change SV _ _ _ [insS x cWatch dx ((([] : List Str) ++ [("own_net" : Str)]) ++ [("kept" : Str)]) ((([] : List D) ++ [d6]) ++ [d16]), .val a0, .val a1] _ _ _
  refine sv_fldNew 0 OC_Watch.cl NA_Watch_past rfl (by decide) (by decide) (ev_tup el_nil) (fun d17 => ?_)
  change SV _ _ _ [insS x cWatch dx (((([] : List Str) ++ [("own_net" : Str)]) ++ [("kept" : Str)]) ++ [("past" : Str)]) (((([] : List D) ++ [d6]) ++ [d16]) ++ [d17]), .val a0, .val a1] _ _ _
  refine sv_fit 0 C OC_Watch.cl FIT rfl (by decide) (ev_fldOwn 0 1 OC_Watch.cl NA_Watch_kept rfl rfl (by decide) rfl) ?_
  change SV _ _ _ [insS x cWatch dx (((([] : List Str) ++ [("own_net" : Str)]) ++ [("kept" : Str)]) ++ [("past" : Str)]) (((([] : List D) ++ [d6]) ++ [d16]) ++ [d17]), .val a0, .val a1] _ _ _
  exact sv_nil rfl (wk (wj (wj wn)))
theorem ok_Watch_net (B : Bn mg) (NA_Watch_own_net : NoAttr K cWatch "own_net") (FA : PropF K cWatch "net" "Watch.net" s_Watch_net) : CalPr P w K mg base 1 cWatch "net" ["self"] (spF K mg false 1 (fn1 f_Watch_net)) := by
  refine mk_prop (N := ["self"]) (k := 0) FA sc_Watch_net rfl (fun _ _ _ _ _ _ us hl => (by (refine EV.el1_1 (EV.lv1 hl) fun _ q316_ => ?_; obtain rfl := q316_); rfl)) (fun f cdv A outer s H E C ds hn => ?_)
  (refine EV.el1_1 (len1 hn) fun a0 q317_ => ?_; obtain rfl := q317_)
  refine ⟨D, Out.ret, f_Watch_net a0, ?_, out_ret _⟩
  unfold f_Watch_net
  change SV _ _ _ [.val a0] _ _ _
  exact sv_ret (inj := id) (fun _ => rfl) (ev_fldO NA_Watch_own_net (vv 0))
theorem ok_Trying_init (B : Bn mg) (NA_Trying_before : NoAttr K cTrying "before") (NA_Trying_kept : NoAttr K cTrying "kept") (NA_Trying_watch : NoAttr K cTrying "watch") (NA_Watch_kept : NoAttr K cWatch "kept") (NA_Watch_past : NoAttr K cWatch "past") (OC_Trying : ObjC K cTrying) (CA : ClsAt K mg "Trying" cTrying "Trying.__init__" s_Trying_init []) : MkC P w K mg base 3 "Trying" cTrying (fun vs H Q E => spI K mg cTrying ["watch", "kept", "before"] 1 (fnL1 f_Trying_init) (vs ++ []) H Q E) := by
  refine mkP (N := ["self", "watch"]) (k := 2) CA sc_Trying_init (by decide) (fun _ _ _ _ _ _ us hl => (by (refine EV.el2_1 (EV.lv2 hl) fun _ _ q318_ => ?_; obtain rfl := q318_); rfl)) (fun f => ⟨fun cdv A outer s H E C x dx ds hn => ?_⟩)
  (refine EV.el1_1 (len1 hn) fun a0 q319_ => ?_; obtain rfl := q319_)
  refine EV.in1_2 (fun fs => [insS x cTrying dx ["watch", "kept", "before"] fs, .junk]) (fun _ => rfl) ?_
  change SV _ _ _ [insS x cTrying dx ([] : List Str) ([] : List D), .val a0] _ _ (f_Trying_init a0)
  unfold f_Trying_init
  refine sv_fldNew 0 OC_Trying.cl NA_Trying_watch rfl (by decide) (by decide) (vv 1) (fun d1 => ?_)
  change SV _ _ _ [insS x cTrying dx (([] : List Str) ++ [("watch" : Str)]) (([] : List D) ++ [d1]), .val a0] _ _ _
  refine sv_fldNew 0 OC_Trying.cl NA_Trying_kept rfl (by decide) (by decide) (ev_fldO NA_Watch_kept (vv 1)) (fun d2 => ?_)
  change SV _ _ _ [insS x cTrying dx ((([] : List Str) ++ [("watch" : Str)]) ++ [("kept" : Str)]) ((([] : List D) ++ [d1]) ++ [d2]), .val a0] _ _ _
  refine sv_fldNew 0 OC_Trying.cl NA_Trying_before rfl (by decide) (by decide) (ev_fldO NA_Watch_past (vv 1)) (fun d3 => ?_)
  change SV _ _ _ [insS x cTrying dx (((([] : List Str) ++ [("watch" : Str)]) ++ [("kept" : Str)]) ++ [("before" : Str)]) (((([] : List D) ++ [d1]) ++ [d2]) ++ [d3]), .val a0] _ _ _
  exact sv_nil rfl (wk (wj wn))
theorem ok_Watch_trying (B : Bn mg) (K_Trying_init : MkC P w K mg base 3 "Trying" cTrying (fun vs H Q E => spI K mg cTrying ["watch", "kept", "before"] 1 (fnL1 f_Trying_init) (vs ++ []) H Q E)) (FA : MethF K cWatch "trying" "Watch.trying" s_Watch_trying) : CalM P w K mg base 5 cWatch "trying" ["self"] (spF K mg false 1 (fn1 f_Watch_trying)) := by
  refine mk_meth (N := ["self"]) (k := 4) FA sc_Watch_trying rfl (fun _ _ _ _ _ _ us hl => (by (refine EV.el1_1 (EV.lv1 hl) fun _ q320_ => ?_; obtain rfl := q320_); rfl)) (fun f cdv A outer s H E C ds hn => ?_)
  (refine EV.el1_1 (len1 hn) fun a0 q321_ => ?_; obtain rfl := q321_)
  refine ⟨D, Out.ret, f_Watch_trying a0, ?_, out_ret _⟩
  unfold f_Watch_trying
  change SV _ _ _ [.val a0] _ _ _
  exact sv_ret (inj := id) (fun _ => rfl) (newP C K_Trying_init arL1 (el_cons (vv 0) el_nil))
theorem ok_law_cell (B : Bn mg) (FA : FunAt K mg "_law_cell" s_law_cell) : Cal P w K mg base 1 "_law_cell" ["_law_script", "_law_k"] (spS K mg 1 (fun ns => fn1 (f_law_cell ns))) := by
  refine mk_scr (N := ["_law_script", "_law_k"]) (k := 0) FA sc_law_cell rfl (fun _ _ _ _ _ _ us hl => (by (refine EV.el2_1 (EV.lv2 hl) fun _ _ q322_ => ?_; obtain rfl := q322_); rfl)) (fun f cdv A outer s H E C ns ds hn => ?_)
  (refine EV.el1_1 (len1 hn) fun a0 q323_ => ?_; obtain rfl := q323_)
  refine ⟨D, Out.ret, f_law_cell ns a0, ?_, out_ret _⟩
  unfold f_law_cell
  change SV _ _ _ [.scr ns, .val a0] _ _ _
  refine sv_ifR (eb_cmp od_lt (vv 1) (slen 0 B.len) (nomark _)) ?_ (by repeat first | exact nf_bad | exact nf_raise | exact nf_raiseF | exact nf_ret (fun _ => rfl) | refine nf_bind (fun _ => ?_) | refine nf_unp2 (fun _ _ => ?_) | refine nf_ite ?_ ?_) ?_
  · exact sv_ret (inj := id) (fun _ => rfl) (sget 0 (vv 1) (fun _ _ => rfl))
  · exact sv_ret (inj := id) (fun _ => rfl) ev_int
theorem ok_law_reach (B : Bn mg) (FA : FunAt K mg "_law_reach" s_law_reach) : Cal P w K mg base 1 "_law_reach" ["_law_net_here", "_law_component"] (spF K mg false 2 (fn2 f_law_reach)) := by
  refine mk_pure (N := ["_law_net_here", "_law_component", "_law_found", "_law_turn", "_law_later", "_law_one", "_law_other"]) (k := 0) FA sc_law_reach rfl (fun _ _ _ _ _ _ us hl => (by (refine EV.el2_1 (EV.lv2 hl) fun _ _ q324_ => ?_; obtain rfl := q324_); rfl)) (fun f cdv A outer s H E C ds hn => ?_)
  (refine EV.el2_1 (len2 hn) fun a0 a1 q325_ => ?_; obtain rfl := q325_)
  refine ⟨D, Out.ret, f_law_reach a0 a1, ?_, out_ret _⟩
  unfold f_law_reach
  change SV _ _ _ [.val a0, .val a1, .junk, .junk, .junk, .junk, .junk] _ _ _
  refine sv_set 2 C.nd (ev_lst (el_cons (vv 1) el_nil)) (fun v1 => ?_)
  change SV _ _ _ [.val a0, .val a1, .val v1, .junk, .junk, .junk, .junk] _ _ _
  refine sv_forS (dec := dec1) (g := gName 3) (vs := [3]) (mk := (fun (c8 : D) => [.val a0, .val a1, .val c8, .junk, .junk, .junk, .junk])) (c0 := v1) C (ei_range1 (by rfl) B.range (el_cons (ev_callB cd_len (by rfl) B.len PySem.boot_len (el_cons (vv 0) el_nil)) el_nil)) (pgn 3 C.nd) (fun _ => tg_name (by simp)) (wk (wk (wk (wj (wj (wj (wj wn))))))) (fun c8 z9 => ?_) (fun c8 => ?_)
  · change SV _ _ _ [.val a0, .val a1, .val c8, .val z9, .junk, .junk, .junk] _ _ _
    refine sv_setO 4 (ps_o C.nd (eo_lst el_nil)) (fun xs11 => ?_)
    change SV _ _ _ [.val a0, .val a1, .val c8, .val z9, .own xs11, .junk, .junk] _ _ _
    refine sv_forS (dec := dec1) (g := gName 5) (vs := [5]) (mk := (fun (c12 : List D) => [.val a0, .val a1, .val c8, .val z9, .own c12, .junk, .junk])) (c0 := xs11) C (ei_seq (vv 2)) (pgn 5 C.nd) (fun _ => tg_name (by simp)) (wk (wk (wk (wk (wk (wj (wj wn))))))) (fun c12 z13 => ?_) (fun c12 => ?_)
    · change SV _ _ _ [.val a0, .val a1, .val c8, .val z9, .own c12, .val z13, .junk] _ _ _
      refine sv_ext [.val a0, .val a1, .val c8, .val z9, .val (D.lst c12), .val z13, .junk] 4 (xs := c12) rfl rfl (ev_lc (own := [(("_law_other" : Str), 6)]) (dec := dec1) (g := gName 6) (Γz := fun z17 => [.val a0, .val a1, .val c8, .val z9, .val (D.lst c12), .val z13, .val z17]) C (ei_seq (ev_ix (vv 0) (vv 5) (fun _ _ => rfl))) (blkOk_by (by rfl)) (tg_name (by simp)) (fun _ _ _ _ _ => pgn 6 C.nd) (fun z17 _ _ _ _ _ => (ets_one (eb_cmp (od_notIn C.blk.room) (vv 6) (ev_op od_add (vv 2) (vv 4)) (by rfl)))) (fun z17 _ _ _ _ _ => (vv 6))) (fun ys24 => ?_)
      change SV _ _ _ [.val a0, .val a1, .val c8, .val z9, .own (c12 ++ ys24), .val z13, .junk] _ _ _
      exact sv_nil rfl (wk (wk (wk (wk (wk (wj (wj wn)))))))
    · change SV _ _ _ [.val a0, .val a1, .val c8, .val z9, .own c12, .junk, .junk] _ _ _
      refine sv_pub 4 (xs := c12) rfl ?_
      change SV _ _ _ [.val a0, .val a1, .val c8, .val z9, .val (D.lst c12), .junk, .junk] _ _ _
      refine sv_set 2 C.nd (ev_op od_add (vv 2) (vv 4)) (fun v25 => ?_)
      change SV _ _ _ [.val a0, .val a1, .val v25, .val z9, .val (D.lst c12), .junk, .junk] _ _ _
      exact sv_nil rfl (wk (wk (wk (wj (wj (wj (wj wn)))))))
  · change SV _ _ _ [.val a0, .val a1, .val c8, .junk, .junk, .junk, .junk] _ _ _
    exact sv_ret (inj := id) (fun _ => rfl) (ev_callTy cd_tuple (by rfl) B.tuple (by decide +kernel) (el_cons (ev_callB (cd_sortedG C.room) (by rfl) B.sorted (by decide +kernel) (el_cons (vv 2) el_nil)) el_nil))
theorem ok_law_candidates (B : Bn mg) (K_law_reach : Cal P w K mg base 1 "_law_reach" ["_law_net_here", "_law_component"] (spF K mg false 2 (fn2 f_law_reach))) (FA : FunAt K mg "_law_candidates" s_law_candidates) : Cal P w K mg base 2 "_law_candidates" ["_law_net_here", "_law_sight"] (spF K mg false 2 (fn2 f_law_candidates)) := by
  refine mk_pure (N := ["_law_net_here", "_law_sight", "_law_found", "_law_one", "_law_word", "_law_other"]) (k := 1) FA sc_law_candidates rfl (fun _ _ _ _ _ _ us hl => (by (refine EV.el2_1 (EV.lv2 hl) fun _ _ q326_ => ?_; obtain rfl := q326_); rfl)) (fun f cdv A outer s H E C ds hn => ?_)
  (refine EV.el2_1 (len2 hn) fun a0 a1 q327_ => ?_; obtain rfl := q327_)
  refine ⟨D, Out.ret, f_law_candidates a0 a1, ?_, out_ret _⟩
  unfold f_law_candidates
  change SV _ _ _ [.val a0, .val a1, .junk, .junk, .junk, .junk] _ _ _
  refine sv_set 2 C.nd (ev_lstRg1 C (by rfl) B.list (by rfl) B.range (ev_callB cd_len (by rfl) B.len PySem.boot_len (el_cons (vv 0) el_nil))) (fun v1 => ?_)
  change SV _ _ _ [.val a0, .val a1, .val v1, .junk, .junk, .junk] _ _ _
  refine sv_forS (dec := dec2) (g := gTup _ 2 (gCons (gName 3) (gCons (gName 4) gNil))) (vs := [3, 4]) (mk := (fun (c7 : D) => [.val a0, .val a1, .val c7, .junk, .junk, .junk])) (c0 := v1) C (ei_enum (by rfl) B.enumerate (el_cons (vv 1) el_nil)) (pg_tup rfl (pgs_cons (pgn 3 C.nd) (pgs_cons (pgn 4 C.nd) pgs_nil))) (fun _ => tg_pair (by simp) (by simp)) (wk (wk (wk (wj (wj (wj wn)))))) (fun c7 z8 => ?_) (fun c7 => ?_)
  · change SV _ _ _ [.val a0, .val a1, .val c7, .val z8.1, .val z8.2, .junk] _ _ _
    refine sv_ifJ (mk := (fun (j14 : D) => [.val a0, .val a1, .val j14, .val z8.1, .val z8.2, .junk])) (eb_cmp (od_eq C.room) (vv 4) ev_str (nomark _)) ?_ ?_ (fun j14 => ?_)
    · refine sv_setV 2 (ps_lcV (own := [(("_law_other" : Str), 5)]) (dec := dec1) (g := gName 5) (Γz := fun z16 => [.val a0, .val a1, .val c7, .val z8.1, .val z8.2, .val z16]) C rfl rfl (sw_true rfl rfl rfl (by decide +kernel)) (ei_seq (vv 2)) (blkOk_by (by rfl)) (tg_name (by simp)) (fun _ _ _ _ _ => pgn 5 C.nd) (fun z16 _ _ _ _ _ => (ets_one (eb_cmp (od_notIn C.blk.room) (vv 5) (call C.blk K_law_reach ar2 (el_cons (vv 0) (el_cons (vv 3) el_nil))) (by rfl)))) (fun z16 _ _ _ _ _ => (vv 5))) (fun v15 => ?_)
      change SV _ _ _ [.val a0, .val a1, .val v15, .val z8.1, .val z8.2, .junk] _ _ _
      exact sv_nil rfl (wk (wk (wk (wk (wk (wj wn))))))
    · exact sv_nil rfl (wk (wk (wk (wk (wk (wj wn))))))
    · change SV _ _ _ [.val a0, .val a1, .val j14, .val z8.1, .val z8.2, .junk] _ _ _
      exact sv_nil rfl (wk (wk (wk (wj (wj (wj wn))))))
  · change SV _ _ _ [.val a0, .val a1, .val c7, .junk, .junk, .junk] _ _ _
    exact sv_ret (inj := id) (fun _ => rfl) (ev_callTy cd_tuple (by rfl) B.tuple (by decide +kernel) (el_cons (vv 2) el_nil))
theorem ok_law_clash (B : Bn mg) (K_law_candidates : Cal P w K mg base 2 "_law_candidates" ["_law_net_here", "_law_sight"] (spF K mg false 2 (fn2 f_law_candidates))) (K_law_reach : Cal P w K mg base 1 "_law_reach" ["_law_net_here", "_law_component"] (spF K mg false 2 (fn2 f_law_reach))) (FA : FunAt K mg "_law_clash" s_law_clash) : Cal P w K mg base 3 "_law_clash" ["_law_net_here", "_law_sight"] (spF K mg false 2 (fn2 f_law_clash)) := by
  refine mk_pure (N := ["_law_net_here", "_law_sight", "_law_some", "_law_one", "_law_word", "_law_own", "_law_quiets", "_law_other", "_law_rows", "_law_at"]) (k := 2) FA sc_law_clash rfl (fun _ _ _ _ _ _ us hl => (by (refine EV.el2_1 (EV.lv2 hl) fun _ _ q328_ => ?_; obtain rfl := q328_); rfl)) (fun f cdv A outer s H E C ds hn => ?_)
  (refine EV.el2_1 (len2 hn) fun a0 a1 q329_ => ?_; obtain rfl := q329_)
  refine ⟨D, Out.ret, f_law_clash a0 a1, ?_, out_ret _⟩
  unfold f_law_clash
  change SV _ _ _ [.val a0, .val a1, .junk, .junk, .junk, .junk, .junk, .junk, .junk, .junk] _ _ _
  refine sv_set 2 C.nd (call C K_law_candidates ar2 (el_cons (vv 0) (el_cons (vv 1) el_nil))) (fun v1 => ?_)
  change SV _ _ _ [.val a0, .val a1, .val v1, .junk, .junk, .junk, .junk, .junk, .junk, .junk] _ _ _
  refine sv_forL (dec := dec2) (g := gTup _ 2 (gCons (gName 3) (gCons (gName 4) gNil))) (vs := [3, 4]) (mk := (fun (c9 : Unit) => [.val a0, .val a1, .val v1, .junk, .junk, .junk, .junk, .junk, .junk, .junk])) (c0 := ()) (inj := id) C (ei_enum (by rfl) B.enumerate (el_cons (vv 1) el_nil)) (pg_tup rfl (pgs_cons (pgn 3 C.nd) (pgs_cons (pgn 4 C.nd) pgs_nil))) (fun _ => tg_pair (by simp) (by simp)) (wk (wk (wk (wj (wj (wj (wj (wj (wj (wj wn)))))))))) (fun _ => rfl) (fun c9 z10 => ?_) (fun c9 => ?_)
  · change SV _ _ _ [.val a0, .val a1, .val v1, .val z10.1, .val z10.2, .junk, .junk, .junk, .junk, .junk] _ _ _
    refine sv_set 5 C.nd (call C K_law_reach ar2 (el_cons (vv 0) (el_cons (vv 3) el_nil))) (fun v12 => ?_)
    change SV _ _ _ [.val a0, .val a1, .val v1, .val z10.1, .val z10.2, .val v12, .junk, .junk, .junk, .junk] _ _ _
    refine sv_ifR (eb_bool (ew_and (eb_cmp (od_eq C.room) (vv 4) ev_str (nomark _)) (ew_and1 (eb_cmp (od_eq C.room) (ev_lc (own := [(("_law_other" : Str), 7)]) (dec := dec1) (g := gName 7) (Γz := fun z20 => [.val a0, .val a1, .val v1, .val z10.1, .val z10.2, .val v12, .junk, .val z20, .junk, .junk]) C (ei_seq (vv 5)) (blkOk_by (by rfl)) (tg_name (by simp)) (fun _ _ _ _ _ => pgn 7 C.nd) (fun z20 _ _ _ _ _ => (ets_one (eb_cmp (od_in C.blk.room) (vv 7) (vv 2) (by rfl)))) (fun z20 _ _ _ _ _ => ev_int)) (ev_lst el_nil) (nomark _))))) ?_ (by repeat first | exact nf_bad | exact nf_raise | exact nf_raiseF | exact nf_ret (fun _ => rfl) | refine nf_bind (fun _ => ?_) | refine nf_unp2 (fun _ _ => ?_) | refine nf_ite ?_ ?_) ?_
    · refine sv_setO 6 (ps_o C.nd (eo_lst el_nil)) (fun xs29 => ?_)
      change SV _ _ _ [.val a0, .val a1, .val v1, .val z10.1, .val z10.2, .val v12, .own xs29, .junk, .junk, .junk] _ _ _
      refine sv_forS (dec := dec1) (g := gName 7) (vs := [7]) (mk := (fun (c30 : List D) => [.val a0, .val a1, .val v1, .val z10.1, .val z10.2, .val v12, .own c30, .junk, .junk, .junk])) (c0 := xs29) C (ei_seq (vv 5)) (pgn 7 C.nd) (fun _ => tg_name (by simp)) (wk (wk (wk (wk (wk (wk (wk (wj (wj (wj wn)))))))))) (fun c30 z31 => ?_) (fun c30 => ?_)
      · change SV _ _ _ [.val a0, .val a1, .val v1, .val z10.1, .val z10.2, .val v12, .own c30, .val z31, .junk, .junk] _ _ _
        refine sv_setV 8 (ps_lcV (own := [(("_law_at" : Str), 9)]) (dec := dec1) (g := gName 9) (Γz := fun z38 => [.val a0, .val a1, .val v1, .val z10.1, .val z10.2, .val v12, .own c30, .val z31, .junk, .val z38]) C rfl rfl (sw_true rfl rfl rfl (by decide +kernel)) (ei_range1 (by rfl) B.range (el_cons (ev_callB cd_len (by rfl) B.len PySem.boot_len (el_cons (vv 0) el_nil)) el_nil)) (blkOk_by (by rfl)) (tg_name (by simp)) (fun _ _ _ _ _ => pgn 9 C.nd) (fun z38 _ _ _ _ _ => (ets_one (eb_bool (ew_and (eb_cmp (od_eq C.blk.room) (ev_ix (vv 1) (vv 9) (fun _ _ => rfl)) ev_str (nomark _)) (ew_and1 (eb_cmp (od_in C.blk.room) (vv 7) (call C.blk K_law_reach ar2 (el_cons (vv 0) (el_cons (vv 9) el_nil))) (by rfl))))))) (fun z38 _ _ _ _ _ => (vv 9))) (fun v33 => ?_)
        change SV _ _ _ [.val a0, .val a1, .val v1, .val z10.1, .val z10.2, .val v12, .own c30, .val z31, .val v33, .junk] _ _ _
        refine sv_append 6 (xs := c30) rfl (ev_ix (vv 8) ev_int (fun _ _ => rfl)) (fun d55 => ?_)
        change SV _ _ _ [.val a0, .val a1, .val v1, .val z10.1, .val z10.2, .val v12, .own (c30 ++ [d55]), .val z31, .val v33, .junk] _ _ _
        exact sv_nil rfl (wk (wk (wk (wk (wk (wk (wk (wj (wj (wj wn))))))))))
      · change SV _ _ _ [.val a0, .val a1, .val v1, .val z10.1, .val z10.2, .val v12, .own c30, .junk, .junk, .junk] _ _ _
        refine sv_pub 6 (xs := c30) rfl ?_
        change SV _ _ _ [.val a0, .val a1, .val v1, .val z10.1, .val z10.2, .val v12, .val (D.lst c30), .junk, .junk, .junk] _ _ _
        exact sv_ret (inj := Lp.ret) (fun _ => rfl) (ev_lst (el_cons (vv 3) (el_cons (ev_callTy cd_tuple (by rfl) B.tuple (by decide +kernel) (el_cons (vv 6) el_nil)) el_nil)))
    · exact sv_nil rfl (wk (wk (wk (wj (wj (wj (wj (wj (wj (wj wn))))))))))
  · change SV _ _ _ [.val a0, .val a1, .val v1, .junk, .junk, .junk, .junk, .junk, .junk, .junk] _ _ _
    exact sv_ret (inj := id) (fun _ => rfl) (ev_lst el_nil)
theorem ok_law_due (B : Bn mg) (K_law_candidates : Cal P w K mg base 2 "_law_candidates" ["_law_net_here", "_law_sight"] (spF K mg false 2 (fn2 f_law_candidates))) (K_law_clash : Cal P w K mg base 3 "_law_clash" ["_law_net_here", "_law_sight"] (spF K mg false 2 (fn2 f_law_clash))) (FA : FunAt K mg "_law_due" s_law_due) : Cal P w K mg base 4 "_law_due" ["_law_name", "_law_net_here", "_law_sight", "_law_changes"] (spF K mg false 4 (fn4 f_law_due)) := by
  refine mk_pure (N := ["_law_name", "_law_net_here", "_law_sight", "_law_changes", "_law_some", "_law_many", "_law_text", "_law_word"]) (k := 3) FA sc_law_due rfl (fun _ _ _ _ _ _ us hl => (by (refine EV.el4_1 (EV.lv4 hl) fun _ _ _ _ q330_ => ?_; obtain rfl := q330_); rfl)) (fun f cdv A outer s H E C ds hn => ?_)
  (refine EV.el4_1 (len4 hn) fun a0 a1 a2 a3 q331_ => ?_; obtain rfl := q331_)
  refine ⟨D, Out.ret, f_law_due a0 a1 a2 a3, ?_, out_ret _⟩
  unfold f_law_due
  change SV _ _ _ [.val a0, .val a1, .val a2, .val a3, .junk, .junk, .junk, .junk] _ _ _
  refine sv_par 4 5 C.calm C.nd (el_cons (call C K_law_candidates ar2 (el_cons (vv 1) (el_cons (vv 2) el_nil))) (el_cons (ev_callB cd_len (by rfl) B.len PySem.boot_len (el_cons (ev_lc (own := [(("_law_word" : Str), 7)]) (dec := dec1) (g := gName 7) (Γz := fun z3 => [.val a0, .val a1, .val a2, .val a3, .junk, .junk, .junk, .val z3]) C (ei_seq (vv 2)) (blkOk_by (by rfl)) (tg_name (by simp)) (fun _ _ _ _ _ => pgn 7 C.nd) (fun z3 _ _ _ _ _ => (ets_one (eb_cmp (od_ne C.blk.room) (vv 7) ev_str (nomark _)))) (fun z3 _ _ _ _ _ => (vv 7))) el_nil)) el_nil)) (by decide) (fun v1 v2 => ?_)
  change SV _ _ _ [.val a0, .val a1, .val a2, .val a3, .val v1, .val v2, .junk, .junk] _ _ _
  refine sv_set 6 C.nd (ev_op od_add (ev_op od_add (ev_op od_add (ev_op od_add (ev_op od_add (vv 0) ev_str) (ev_callTy cd_str (by rfl) B.str (by decide +kernel) (el_cons (vv 5) el_nil))) ev_str) (ev_callTy cd_str (by rfl) B.str (by decide +kernel) (el_cons (ev_callB cd_len (by rfl) B.len PySem.boot_len (el_cons (vv 4) el_nil)) el_nil))) ev_str) (fun v19 => ?_)
  change SV _ _ _ [.val a0, .val a1, .val a2, .val a3, .val v1, .val v2, .val v19, .junk] _ _ _
  exact sv_ret (inj := id) (fun _ => rfl) (ev_tup (el_cons (vv 1) (el_cons (vv 2) (el_cons (vv 4) (el_cons (ev_cmp (od_eq C.room) (call C K_law_clash ar2 (el_cons (vv 1) (el_cons (vv 2) el_nil))) (ev_lst el_nil) (nomark _)) (el_cons (vv 3) (el_cons (vv 5) (el_cons (vv 6) (el_cons (vv 2) el_nil)))))))))
theorem ok_law_is_same_0 (FA : FunAt K mg "_law_is_same" s_law_is_same) : Cal P w K mg base 1 "_law_is_same" ["_law_actual", "_law_wanted"] (spF K mg false 2 (fn2 (f_law_is_same 0))) := by
  refine mk_pure (N := ["_law_actual", "_law_wanted", "_law_k"]) (k := 0) FA sc_law_is_same rfl (fun _ _ _ _ _ _ us hl => (by (refine EV.el2_1 (EV.lv2 hl) fun _ _ q332_ => ?_; obtain rfl := q332_); rfl)) (fun f cdv A outer s H E C ds hn => ?_)
  (refine EV.el2_1 (len2 hn) fun a0 a1 q333_ => ?_; obtain rfl := q333_)
  exact ⟨D, Out.ret, bad, sv_bad, rfl⟩
theorem ok_law_is_same_1 (B : Bn mg) (K_rec : Cal P w K mg base 1 "_law_is_same" ["_law_actual", "_law_wanted"] (spF K mg false 2 (fn2 (f_law_is_same 0)))) (FA : FunAt K mg "_law_is_same" s_law_is_same) : Cal P w K mg base 2 "_law_is_same" ["_law_actual", "_law_wanted"] (spF K mg false 2 (fn2 (f_law_is_same 1))) := by
  refine mk_pure (N := ["_law_actual", "_law_wanted", "_law_k"]) (k := 1) FA sc_law_is_same rfl (fun _ _ _ _ _ _ us hl => (by (refine EV.el2_1 (EV.lv2 hl) fun _ _ q334_ => ?_; obtain rfl := q334_); rfl)) (fun f cdv A outer s H E C ds hn => ?_)
  (refine EV.el2_1 (len2 hn) fun a0 a1 q335_ => ?_; obtain rfl := q335_)
  refine ⟨D, Out.ret, f_law_is_same_step (f_law_is_same 0) a0 a1, ?_, out_ret _⟩
  generalize f_law_is_same 0 = rec at K_rec ⊢
  unfold f_law_is_same_step
  change SV _ _ _ [.val a0, .val a1, .junk] _ _ _
  refine sv_ifR (eb_val (ev_isi (T := "tuple") (by decide) (vv 1) (by rfl) B.isinstance (by rfl) B.tuple (by decide +kernel))) ?_ (by repeat first | exact nf_bad | exact nf_raise | exact nf_raiseF | exact nf_ret (fun _ => rfl) | refine nf_bind (fun _ => ?_) | refine nf_unp2 (fun _ _ => ?_) | refine nf_ite ?_ ?_) ?_
  · refine sv_ifR (eb_bool (ew_or (eb_not (eb_val (ev_isi (T := "tuple") (by decide) (vv 0) (by rfl) B.isinstance (by rfl) B.tuple (by decide +kernel)))) (ew_or1 (eb_cmp (od_ne C.room) (ev_callB cd_len (by rfl) B.len PySem.boot_len (el_cons (vv 0) el_nil)) (ev_callB cd_len (by rfl) B.len PySem.boot_len (el_cons (vv 1) el_nil)) (nomark _))))) ?_ (by repeat first | exact nf_bad | exact nf_raise | exact nf_raiseF | exact nf_ret (fun _ => rfl) | refine nf_bind (fun _ => ?_) | refine nf_unp2 (fun _ _ => ?_) | refine nf_ite ?_ ?_) ?_
    · exact sv_ret (inj := id) (fun _ => rfl) ev_bl
    · exact sv_ret (inj := id) (fun _ => rfl) (ev_callB (cd_all C.calm) (by rfl) B.all (by decide +kernel) (el_cons (ev_lc (own := [(("_law_k" : Str), 2)]) (dec := dec1) (g := gName 2) (Γz := fun z16 => [.val a0, .val a1, .val z16]) C (ei_range1 (by rfl) B.range (el_cons (ev_callB cd_len (by rfl) B.len PySem.boot_len (el_cons (vv 1) el_nil)) el_nil)) (blkOk_by (by rfl)) (tg_name (by simp)) (fun _ _ _ _ _ => pgn 2 C.nd) (fun z16 _ _ _ _ _ => ets_nil) (fun z16 _ _ _ _ _ => (call C.blk K_rec ar2 (el_cons (ev_ix (vv 0) (vv 2) (fun _ _ => rfl)) (el_cons (ev_ix (vv 1) (vv 2) (fun _ _ => rfl)) el_nil))))) el_nil))
  · refine sv_ifR (eb_cmp od_isN (vv 1) ev_non (nomark _)) ?_ (by repeat first | exact nf_bad | exact nf_raise | exact nf_raiseF | exact nf_ret (fun _ => rfl) | refine nf_bind (fun _ => ?_) | refine nf_unp2 (fun _ _ => ?_) | refine nf_ite ?_ ?_) ?_
    · exact sv_ret (inj := id) (fun _ => rfl) (ev_cmp od_isN (vv 0) ev_non (nomark _))
    · refine sv_ifR (eb_val (ev_isi (T := "str") (by decide) (vv 1) (by rfl) B.isinstance (by rfl) B.str (by decide +kernel))) ?_ (by repeat first | exact nf_bad | exact nf_raise | exact nf_raiseF | exact nf_ret (fun _ => rfl) | refine nf_bind (fun _ => ?_) | refine nf_unp2 (fun _ _ => ?_) | refine nf_ite ?_ ?_) ?_
      · exact sv_ret (inj := id) (fun _ => rfl) (ev_and (ev_isi (T := "str") (by decide) (vv 0) (by rfl) B.isinstance (by rfl) B.str (by decide +kernel)) (ev_one (ev_cmp (od_eq C.room) (vv 0) (vv 1) (nomark _))))
      · refine sv_ifR (eb_bool (ew_or (eb_not (eb_val (ev_isi (T := "int") (by decide) (vv 0) (by rfl) B.isinstance (by rfl) B.int (by decide +kernel)))) (ew_or1 (eb_cmp (od_ne C.room) (ev_isi (T := "bool") (by decide) (vv 0) (by rfl) B.isinstance (by rfl) B.bool (by decide +kernel)) (ev_isi (T := "bool") (by decide) (vv 1) (by rfl) B.isinstance (by rfl) B.bool (by decide +kernel)) (nomark _))))) ?_ (by repeat first | exact nf_bad | exact nf_raise | exact nf_raiseF | exact nf_ret (fun _ => rfl) | refine nf_bind (fun _ => ?_) | refine nf_unp2 (fun _ _ => ?_) | refine nf_ite ?_ ?_) ?_
        · exact sv_ret (inj := id) (fun _ => rfl) ev_bl
        · exact sv_ret (inj := id) (fun _ => rfl) (ev_cmp (od_eq C.room) (vv 0) (vv 1) (nomark _))
theorem ok_law_is_same_2 (B : Bn mg) (K_rec : Cal P w K mg base 2 "_law_is_same" ["_law_actual", "_law_wanted"] (spF K mg false 2 (fn2 (f_law_is_same 1)))) (FA : FunAt K mg "_law_is_same" s_law_is_same) : Cal P w K mg base 3 "_law_is_same" ["_law_actual", "_law_wanted"] (spF K mg false 2 (fn2 (f_law_is_same 2))) := by
  refine mk_pure (N := ["_law_actual", "_law_wanted", "_law_k"]) (k := 2) FA sc_law_is_same rfl (fun _ _ _ _ _ _ us hl => (by (refine EV.el2_1 (EV.lv2 hl) fun _ _ q336_ => ?_; obtain rfl := q336_); rfl)) (fun f cdv A outer s H E C ds hn => ?_)
  (refine EV.el2_1 (len2 hn) fun a0 a1 q337_ => ?_; obtain rfl := q337_)
  refine ⟨D, Out.ret, f_law_is_same_step (f_law_is_same 1) a0 a1, ?_, out_ret _⟩
  generalize f_law_is_same 1 = rec at K_rec ⊢
  unfold f_law_is_same_step
  change SV _ _ _ [.val a0, .val a1, .junk] _ _ _
  refine sv_ifR (eb_val (ev_isi (T := "tuple") (by decide) (vv 1) (by rfl) B.isinstance (by rfl) B.tuple (by decide +kernel))) ?_ (by repeat first | exact nf_bad | exact nf_raise | exact nf_raiseF | exact nf_ret (fun _ => rfl) | refine nf_bind (fun _ => ?_) | refine nf_unp2 (fun _ _ => ?_) | refine nf_ite ?_ ?_) ?_
  · refine sv_ifR (eb_bool (ew_or (eb_not (eb_val (ev_isi (T := "tuple") (by decide) (vv 0) (by rfl) B.isinstance (by rfl) B.tuple (by decide +kernel)))) (ew_or1 (eb_cmp (od_ne C.room) (ev_callB cd_len (by rfl) B.len PySem.boot_len (el_cons (vv 0) el_nil)) (ev_callB cd_len (by rfl) B.len PySem.boot_len (el_cons (vv 1) el_nil)) (nomark _))))) ?_ (by repeat first | exact nf_bad | exact nf_raise | exact nf_raiseF | exact nf_ret (fun _ => rfl) | refine nf_bind (fun _ => ?_) | refine nf_unp2 (fun _ _ => ?_) | refine nf_ite ?_ ?_) ?_
    · exact sv_ret (inj := id) (fun _ => rfl) ev_bl
    · exact sv_ret (inj := id) (fun _ => rfl) (ev_callB (cd_all C.calm) (by rfl) B.all (by decide +kernel) (el_cons (ev_lc (own := [(("_law_k" : Str), 2)]) (dec := dec1) (g := gName 2) (Γz := fun z16 => [.val a0, .val a1, .val z16]) C (ei_range1 (by rfl) B.range (el_cons (ev_callB cd_len (by rfl) B.len PySem.boot_len (el_cons (vv 1) el_nil)) el_nil)) (blkOk_by (by rfl)) (tg_name (by simp)) (fun _ _ _ _ _ => pgn 2 C.nd) (fun z16 _ _ _ _ _ => ets_nil) (fun z16 _ _ _ _ _ => (call C.blk K_rec ar2 (el_cons (ev_ix (vv 0) (vv 2) (fun _ _ => rfl)) (el_cons (ev_ix (vv 1) (vv 2) (fun _ _ => rfl)) el_nil))))) el_nil))
  · refine sv_ifR (eb_cmp od_isN (vv 1) ev_non (nomark _)) ?_ (by repeat first | exact nf_bad | exact nf_raise | exact nf_raiseF | exact nf_ret (fun _ => rfl) | refine nf_bind (fun _ => ?_) | refine nf_unp2 (fun _ _ => ?_) | refine nf_ite ?_ ?_) ?_
    · exact sv_ret (inj := id) (fun _ => rfl) (ev_cmp od_isN (vv 0) ev_non (nomark _))
    · refine sv_ifR (eb_val (ev_isi (T := "str") (by decide) (vv 1) (by rfl) B.isinstance (by rfl) B.str (by decide +kernel))) ?_ (by repeat first | exact nf_bad | exact nf_raise | exact nf_raiseF | exact nf_ret (fun _ => rfl) | refine nf_bind (fun _ => ?_) | refine nf_unp2 (fun _ _ => ?_) | refine nf_ite ?_ ?_) ?_
      · exact sv_ret (inj := id) (fun _ => rfl) (ev_and (ev_isi (T := "str") (by decide) (vv 0) (by rfl) B.isinstance (by rfl) B.str (by decide +kernel)) (ev_one (ev_cmp (od_eq C.room) (vv 0) (vv 1) (nomark _))))
      · refine sv_ifR (eb_bool (ew_or (eb_not (eb_val (ev_isi (T := "int") (by decide) (vv 0) (by rfl) B.isinstance (by rfl) B.int (by decide +kernel)))) (ew_or1 (eb_cmp (od_ne C.room) (ev_isi (T := "bool") (by decide) (vv 0) (by rfl) B.isinstance (by rfl) B.bool (by decide +kernel)) (ev_isi (T := "bool") (by decide) (vv 1) (by rfl) B.isinstance (by rfl) B.bool (by decide +kernel)) (nomark _))))) ?_ (by repeat first | exact nf_bad | exact nf_raise | exact nf_raiseF | exact nf_ret (fun _ => rfl) | refine nf_bind (fun _ => ?_) | refine nf_unp2 (fun _ _ => ?_) | refine nf_ite ?_ ?_) ?_
        · exact sv_ret (inj := id) (fun _ => rfl) ev_bl
        · exact sv_ret (inj := id) (fun _ => rfl) (ev_cmp (od_eq C.room) (vv 0) (vv 1) (nomark _))
theorem ok_law_is_same_3 (B : Bn mg) (K_rec : Cal P w K mg base 3 "_law_is_same" ["_law_actual", "_law_wanted"] (spF K mg false 2 (fn2 (f_law_is_same 2)))) (FA : FunAt K mg "_law_is_same" s_law_is_same) : Cal P w K mg base 4 "_law_is_same" ["_law_actual", "_law_wanted"] (spF K mg false 2 (fn2 (f_law_is_same 3))) := by
  refine mk_pure (N := ["_law_actual", "_law_wanted", "_law_k"]) (k := 3) FA sc_law_is_same rfl (fun _ _ _ _ _ _ us hl => (by (refine EV.el2_1 (EV.lv2 hl) fun _ _ q338_ => ?_; obtain rfl := q338_); rfl)) (fun f cdv A outer s H E C ds hn => ?_)
  (refine EV.el2_1 (len2 hn) fun a0 a1 q339_ => ?_; obtain rfl := q339_)
  refine ⟨D, Out.ret, f_law_is_same_step (f_law_is_same 2) a0 a1, ?_, out_ret _⟩
  generalize f_law_is_same 2 = rec at K_rec ⊢
  unfold f_law_is_same_step
  change SV _ _ _ [.val a0, .val a1, .junk] _ _ _
  refine sv_ifR (eb_val (ev_isi (T := "tuple") (by decide) (vv 1) (by rfl) B.isinstance (by rfl) B.tuple (by decide +kernel))) ?_ (by repeat first | exact nf_bad | exact nf_raise | exact nf_raiseF | exact nf_ret (fun _ => rfl) | refine nf_bind (fun _ => ?_) | refine nf_unp2 (fun _ _ => ?_) | refine nf_ite ?_ ?_) ?_
  · refine sv_ifR (eb_bool (ew_or (eb_not (eb_val (ev_isi (T := "tuple") (by decide) (vv 0) (by rfl) B.isinstance (by rfl) B.tuple (by decide +kernel)))) (ew_or1 (eb_cmp (od_ne C.room) (ev_callB cd_len (by rfl) B.len PySem.boot_len (el_cons (vv 0) el_nil)) (ev_callB cd_len (by rfl) B.len PySem.boot_len (el_cons (vv 1) el_nil)) (nomark _))))) ?_ (by repeat first | exact nf_bad | exact nf_raise | exact nf_raiseF | exact nf_ret (fun _ => rfl) | refine nf_bind (fun _ => ?_) | refine nf_unp2 (fun _ _ => ?_) | refine nf_ite ?_ ?_) ?_
    · exact sv_ret (inj := id) (fun _ => rfl) ev_bl
    · exact sv_ret (inj := id) (fun _ => rfl) (ev_callB (cd_all C.calm) (by rfl) B.all (by decide +kernel) (el_cons (ev_lc (own := [(("_law_k" : Str), 2)]) (dec := dec1) (g := gName 2) (Γz := fun z16 => [.val a0, .val a1, .val z16]) C (ei_range1 (by rfl) B.range (el_cons (ev_callB cd_len (by rfl) B.len PySem.boot_len (el_cons (vv 1) el_nil)) el_nil)) (blkOk_by (by rfl)) (tg_name (by simp)) (fun _ _ _ _ _ => pgn 2 C.nd) (fun z16 _ _ _ _ _ => ets_nil) (fun z16 _ _ _ _ _ => (call C.blk K_rec ar2 (el_cons (ev_ix (vv 0) (vv 2) (fun _ _ => rfl)) (el_cons (ev_ix (vv 1) (vv 2) (fun _ _ => rfl)) el_nil))))) el_nil))
  · refine sv_ifR (eb_cmp od_isN (vv 1) ev_non (nomark _)) ?_ (by repeat first | exact nf_bad | exact nf_raise | exact nf_raiseF | exact nf_ret (fun _ => rfl) | refine nf_bind (fun _ => ?_) | refine nf_unp2 (fun _ _ => ?_) | refine nf_ite ?_ ?_) ?_
    · exact sv_ret (inj := id) (fun _ => rfl) (ev_cmp od_isN (vv 0) ev_non (nomark _))
    · refine sv_ifR (eb_val (ev_isi (T := "str") (by decide) (vv 1) (by rfl) B.isinstance (by rfl) B.str (by decide +kernel))) ?_ (by repeat first | exact nf_bad | exact nf_raise | exact nf_raiseF | exact nf_ret (fun _ => rfl) | refine nf_bind (fun _ => ?_) | refine nf_unp2 (fun _ _ => ?_) | refine nf_ite ?_ ?_) ?_
      · exact sv_ret (inj := id) (fun _ => rfl) (ev_and (ev_isi (T := "str") (by decide) (vv 0) (by rfl) B.isinstance (by rfl) B.str (by decide +kernel)) (ev_one (ev_cmp (od_eq C.room) (vv 0) (vv 1) (nomark _))))
      · refine sv_ifR (eb_bool (ew_or (eb_not (eb_val (ev_isi (T := "int") (by decide) (vv 0) (by rfl) B.isinstance (by rfl) B.int (by decide +kernel)))) (ew_or1 (eb_cmp (od_ne C.room) (ev_isi (T := "bool") (by decide) (vv 0) (by rfl) B.isinstance (by rfl) B.bool (by decide +kernel)) (ev_isi (T := "bool") (by decide) (vv 1) (by rfl) B.isinstance (by rfl) B.bool (by decide +kernel)) (nomark _))))) ?_ (by repeat first | exact nf_bad | exact nf_raise | exact nf_raiseF | exact nf_ret (fun _ => rfl) | refine nf_bind (fun _ => ?_) | refine nf_unp2 (fun _ _ => ?_) | refine nf_ite ?_ ?_) ?_
        · exact sv_ret (inj := id) (fun _ => rfl) ev_bl
        · exact sv_ret (inj := id) (fun _ => rfl) (ev_cmp (od_eq C.room) (vv 0) (vv 1) (nomark _))
theorem ok_law_is_same_4 (B : Bn mg) (K_rec : Cal P w K mg base 4 "_law_is_same" ["_law_actual", "_law_wanted"] (spF K mg false 2 (fn2 (f_law_is_same 3)))) (FA : FunAt K mg "_law_is_same" s_law_is_same) : Cal P w K mg base 5 "_law_is_same" ["_law_actual", "_law_wanted"] (spF K mg false 2 (fn2 (f_law_is_same 4))) := by
  refine mk_pure (N := ["_law_actual", "_law_wanted", "_law_k"]) (k := 4) FA sc_law_is_same rfl (fun _ _ _ _ _ _ us hl => (by (refine EV.el2_1 (EV.lv2 hl) fun _ _ q340_ => ?_; obtain rfl := q340_); rfl)) (fun f cdv A outer s H E C ds hn => ?_)
  (refine EV.el2_1 (len2 hn) fun a0 a1 q341_ => ?_; obtain rfl := q341_)
  refine ⟨D, Out.ret, f_law_is_same_step (f_law_is_same 3) a0 a1, ?_, out_ret _⟩
  generalize f_law_is_same 3 = rec at K_rec ⊢
  unfold f_law_is_same_step
  change SV _ _ _ [.val a0, .val a1, .junk] _ _ _
  refine sv_ifR (eb_val (ev_isi (T := "tuple") (by decide) (vv 1) (by rfl) B.isinstance (by rfl) B.tuple (by decide +kernel))) ?_ (by repeat first | exact nf_bad | exact nf_raise | exact nf_raiseF | exact nf_ret (fun _ => rfl) | refine nf_bind (fun _ => ?_) | refine nf_unp2 (fun _ _ => ?_) | refine nf_ite ?_ ?_) ?_
  · refine sv_ifR (eb_bool (ew_or (eb_not (eb_val (ev_isi (T := "tuple") (by decide) (vv 0) (by rfl) B.isinstance (by rfl) B.tuple (by decide +kernel)))) (ew_or1 (eb_cmp (od_ne C.room) (ev_callB cd_len (by rfl) B.len PySem.boot_len (el_cons (vv 0) el_nil)) (ev_callB cd_len (by rfl) B.len PySem.boot_len (el_cons (vv 1) el_nil)) (nomark _))))) ?_ (by repeat first | exact nf_bad | exact nf_raise | exact nf_raiseF | exact nf_ret (fun _ => rfl) | refine nf_bind (fun _ => ?_) | refine nf_unp2 (fun _ _ => ?_) | refine nf_ite ?_ ?_) ?_
    · exact sv_ret (inj := id) (fun _ => rfl) ev_bl
    · exact sv_ret (inj := id) (fun _ => rfl) (ev_callB (cd_all C.calm) (by rfl) B.all (by decide +kernel) (el_cons (ev_lc (own := [(("_law_k" : Str), 2)]) (dec := dec1) (g := gName 2) (Γz := fun z16 => [.val a0, .val a1, .val z16]) C (ei_range1 (by rfl) B.range (el_cons (ev_callB cd_len (by rfl) B.len PySem.boot_len (el_cons (vv 1) el_nil)) el_nil)) (blkOk_by (by rfl)) (tg_name (by simp)) (fun _ _ _ _ _ => pgn 2 C.nd) (fun z16 _ _ _ _ _ => ets_nil) (fun z16 _ _ _ _ _ => (call C.blk K_rec ar2 (el_cons (ev_ix (vv 0) (vv 2) (fun _ _ => rfl)) (el_cons (ev_ix (vv 1) (vv 2) (fun _ _ => rfl)) el_nil))))) el_nil))
  · refine sv_ifR (eb_cmp od_isN (vv 1) ev_non (nomark _)) ?_ (by repeat first | exact nf_bad | exact nf_raise | exact nf_raiseF | exact nf_ret (fun _ => rfl) | refine nf_bind (fun _ => ?_) | refine nf_unp2 (fun _ _ => ?_) | refine nf_ite ?_ ?_) ?_
    · exact sv_ret (inj := id) (fun _ => rfl) (ev_cmp od_isN (vv 0) ev_non (nomark _))
    · refine sv_ifR (eb_val (ev_isi (T := "str") (by decide) (vv 1) (by rfl) B.isinstance (by rfl) B.str (by decide +kernel))) ?_ (by repeat first | exact nf_bad | exact nf_raise | exact nf_raiseF | exact nf_ret (fun _ => rfl) | refine nf_bind (fun _ => ?_) | refine nf_unp2 (fun _ _ => ?_) | refine nf_ite ?_ ?_) ?_
      · exact sv_ret (inj := id) (fun _ => rfl) (ev_and (ev_isi (T := "str") (by decide) (vv 0) (by rfl) B.isinstance (by rfl) B.str (by decide +kernel)) (ev_one (ev_cmp (od_eq C.room) (vv 0) (vv 1) (nomark _))))
      · refine sv_ifR (eb_bool (ew_or (eb_not (eb_val (ev_isi (T := "int") (by decide) (vv 0) (by rfl) B.isinstance (by rfl) B.int (by decide +kernel)))) (ew_or1 (eb_cmp (od_ne C.room) (ev_isi (T := "bool") (by decide) (vv 0) (by rfl) B.isinstance (by rfl) B.bool (by decide +kernel)) (ev_isi (T := "bool") (by decide) (vv 1) (by rfl) B.isinstance (by rfl) B.bool (by decide +kernel)) (nomark _))))) ?_ (by repeat first | exact nf_bad | exact nf_raise | exact nf_raiseF | exact nf_ret (fun _ => rfl) | refine nf_bind (fun _ => ?_) | refine nf_unp2 (fun _ _ => ?_) | refine nf_ite ?_ ?_) ?_
        · exact sv_ret (inj := id) (fun _ => rfl) ev_bl
        · exact sv_ret (inj := id) (fun _ => rfl) (ev_cmp (od_eq C.room) (vv 0) (vv 1) (nomark _))
theorem ok_law_is_same_5 (B : Bn mg) (K_rec : Cal P w K mg base 5 "_law_is_same" ["_law_actual", "_law_wanted"] (spF K mg false 2 (fn2 (f_law_is_same 4)))) (FA : FunAt K mg "_law_is_same" s_law_is_same) : Cal P w K mg base 6 "_law_is_same" ["_law_actual", "_law_wanted"] (spF K mg false 2 (fn2 (f_law_is_same 5))) := by
  refine mk_pure (N := ["_law_actual", "_law_wanted", "_law_k"]) (k := 5) FA sc_law_is_same rfl (fun _ _ _ _ _ _ us hl => (by (refine EV.el2_1 (EV.lv2 hl) fun _ _ q342_ => ?_; obtain rfl := q342_); rfl)) (fun f cdv A outer s H E C ds hn => ?_)
  (refine EV.el2_1 (len2 hn) fun a0 a1 q343_ => ?_; obtain rfl := q343_)
  refine ⟨D, Out.ret, f_law_is_same_step (f_law_is_same 4) a0 a1, ?_, out_ret _⟩
  generalize f_law_is_same 4 = rec at K_rec ⊢
  unfold f_law_is_same_step
  change SV _ _ _ [.val a0, .val a1, .junk] _ _ _
  refine sv_ifR (eb_val (ev_isi (T := "tuple") (by decide) (vv 1) (by rfl) B.isinstance (by rfl) B.tuple (by decide +kernel))) ?_ (by repeat first | exact nf_bad | exact nf_raise | exact nf_raiseF | exact nf_ret (fun _ => rfl) | refine nf_bind (fun _ => ?_) | refine nf_unp2 (fun _ _ => ?_) | refine nf_ite ?_ ?_) ?_
  · refine sv_ifR (eb_bool (ew_or (eb_not (eb_val (ev_isi (T := "tuple") (by decide) (vv 0) (by rfl) B.isinstance (by rfl) B.tuple (by decide +kernel)))) (ew_or1 (eb_cmp (od_ne C.room) (ev_callB cd_len (by rfl) B.len PySem.boot_len (el_cons (vv 0) el_nil)) (ev_callB cd_len (by rfl) B.len PySem.boot_len (el_cons (vv 1) el_nil)) (nomark _))))) ?_ (by repeat first | exact nf_bad | exact nf_raise | exact nf_raiseF | exact nf_ret (fun _ => rfl) | refine nf_bind (fun _ => ?_) | refine nf_unp2 (fun _ _ => ?_) | refine nf_ite ?_ ?_) ?_
    · exact sv_ret (inj := id) (fun _ => rfl) ev_bl
    · exact sv_ret (inj := id) (fun _ => rfl) (ev_callB (cd_all C.calm) (by rfl) B.all (by decide +kernel) (el_cons (ev_lc (own := [(("_law_k" : Str), 2)]) (dec := dec1) (g := gName 2) (Γz := fun z16 => [.val a0, .val a1, .val z16]) C (ei_range1 (by rfl) B.range (el_cons (ev_callB cd_len (by rfl) B.len PySem.boot_len (el_cons (vv 1) el_nil)) el_nil)) (blkOk_by (by rfl)) (tg_name (by simp)) (fun _ _ _ _ _ => pgn 2 C.nd) (fun z16 _ _ _ _ _ => ets_nil) (fun z16 _ _ _ _ _ => (call C.blk K_rec ar2 (el_cons (ev_ix (vv 0) (vv 2) (fun _ _ => rfl)) (el_cons (ev_ix (vv 1) (vv 2) (fun _ _ => rfl)) el_nil))))) el_nil))
  · refine sv_ifR (eb_cmp od_isN (vv 1) ev_non (nomark _)) ?_ (by repeat first | exact nf_bad | exact nf_raise | exact nf_raiseF | exact nf_ret (fun _ => rfl) | refine nf_bind (fun _ => ?_) | refine nf_unp2 (fun _ _ => ?_) | refine nf_ite ?_ ?_) ?_
    · exact sv_ret (inj := id) (fun _ => rfl) (ev_cmp od_isN (vv 0) ev_non (nomark _))
    · refine sv_ifR (eb_val (ev_isi (T := "str") (by decide) (vv 1) (by rfl) B.isinstance (by rfl) B.str (by decide +kernel))) ?_ (by repeat first | exact nf_bad | exact nf_raise | exact nf_raiseF | exact nf_ret (fun _ => rfl) | refine nf_bind (fun _ => ?_) | refine nf_unp2 (fun _ _ => ?_) | refine nf_ite ?_ ?_) ?_
      · exact sv_ret (inj := id) (fun _ => rfl) (ev_and (ev_isi (T := "str") (by decide) (vv 0) (by rfl) B.isinstance (by rfl) B.str (by decide +kernel)) (ev_one (ev_cmp (od_eq C.room) (vv 0) (vv 1) (nomark _))))
      · refine sv_ifR (eb_bool (ew_or (eb_not (eb_val (ev_isi (T := "int") (by decide) (vv 0) (by rfl) B.isinstance (by rfl) B.int (by decide +kernel)))) (ew_or1 (eb_cmp (od_ne C.room) (ev_isi (T := "bool") (by decide) (vv 0) (by rfl) B.isinstance (by rfl) B.bool (by decide +kernel)) (ev_isi (T := "bool") (by decide) (vv 1) (by rfl) B.isinstance (by rfl) B.bool (by decide +kernel)) (nomark _))))) ?_ (by repeat first | exact nf_bad | exact nf_raise | exact nf_raiseF | exact nf_ret (fun _ => rfl) | refine nf_bind (fun _ => ?_) | refine nf_unp2 (fun _ _ => ?_) | refine nf_ite ?_ ?_) ?_
        · exact sv_ret (inj := id) (fun _ => rfl) ev_bl
        · exact sv_ret (inj := id) (fun _ => rfl) (ev_cmp (od_eq C.room) (vv 0) (vv 1) (nomark _))
theorem ok_is_between (B : Bn mg) (FA : FunAt K mg "is_between" s_is_between) : Cal P w K mg base 1 "is_between" ["thing", "low", "high"] (spF K mg false 3 (fn3 f_is_between)) := by
  refine mk_pure (N := ["thing", "low", "high"]) (k := 0) FA sc_is_between rfl (fun _ _ _ _ _ _ us hl => (by (refine EV.el3_1 (EV.lv3 hl) fun _ _ _ q344_ => ?_; obtain rfl := q344_); rfl)) (fun f cdv A outer s H E C ds hn => ?_)
  (refine EV.el3_1 (len3 hn) fun a0 a1 a2 q345_ => ?_; obtain rfl := q345_)
  refine ⟨D, Out.ret, f_is_between a0 a1 a2, ?_, out_ret _⟩
  unfold f_is_between
  change SV _ _ _ [.val a0, .val a1, .val a2] _ _ _
  exact sv_ret (inj := id) (fun _ => rfl) (ev_and (ev_isi (T := "int") (by decide) (vv 0) (by rfl) B.isinstance (by rfl) B.int (by decide +kernel)) (ev_and (ev_not (ev_isi (T := "bool") (by decide) (vv 0) (by rfl) B.isinstance (by rfl) B.bool (by decide +kernel))) (ev_one (ev_chain od_le od_le (vv 1) (vv 0) (vv 2)))))
theorem ok_is_rising (B : Bn mg) (K_is_between : Cal P w K mg base 1 "is_between" ["thing", "low", "high"] (spF K mg false 3 (fn3 f_is_between))) (FA : FunAt K mg "is_rising" s_is_rising) : Cal P w K mg base 2 "is_rising" ["size", "thing"] (spF K mg false 2 (fn2 f_is_rising)) := by
  refine mk_pure (N := ["size", "thing", "one", "later"]) (k := 1) FA sc_is_rising rfl (fun _ _ _ _ _ _ us hl => (by (refine EV.el2_1 (EV.lv2 hl) fun _ _ q346_ => ?_; obtain rfl := q346_); rfl)) (fun f cdv A outer s H E C ds hn => ?_)
  (refine EV.el2_1 (len2 hn) fun a0 a1 q347_ => ?_; obtain rfl := q347_)
  refine ⟨D, Out.ret, f_is_rising a0 a1, ?_, out_ret _⟩
  unfold f_is_rising
  change SV _ _ _ [.val a0, .val a1, .junk, .junk] _ _ _
  refine sv_ifR (eb_bool (ew_or (eb_not (eb_val (ev_isi (T := "tuple") (by decide) (vv 1) (by rfl) B.isinstance (by rfl) B.tuple (by decide +kernel)))) (ew_or1 (eb_not (eb_val (ev_callB (cd_all C.calm) (by rfl) B.all (by decide +kernel) (el_cons (ev_lc (own := [(("one" : Str), 2)]) (dec := dec1) (g := gName 2) (Γz := fun z2 => [.val a0, .val a1, .val z2, .junk]) C (ei_seq (vv 1)) (blkOk_by (by rfl)) (tg_name (by simp)) (fun _ _ _ _ _ => pgn 2 C.nd) (fun z2 _ _ _ _ _ => ets_nil) (fun z2 _ _ _ _ _ => (call C.blk K_is_between ar3 (el_cons (vv 2) (el_cons ev_int (el_cons (ev_op od_sub (vv 0) ev_int) el_nil)))))) el_nil))))))) ?_ (by repeat first | exact nf_bad | exact nf_raise | exact nf_raiseF | exact nf_ret (fun _ => rfl) | refine nf_bind (fun _ => ?_) | refine nf_unp2 (fun _ _ => ?_) | refine nf_ite ?_ ?_) ?_
  · exact sv_ret (inj := id) (fun _ => rfl) ev_bl
  · exact sv_ret (inj := id) (fun _ => rfl) (ev_callB (cd_all C.calm) (by rfl) B.all (by decide +kernel) (el_cons (ev_lc (own := [(("one" : Str), 2), (("later" : Str), 3)]) (dec := dec2) (g := gTup _ 2 (gCons (gName 2) (gCons (gName 3) gNil))) (Γz := fun z27 => [.val a0, .val a1, .val z27.1, .val z27.2]) C (ei_zip (by rfl) B.zip (el_cons (vv 1) (el_cons (ev_slice (vv 1) (eo_some ev_int) eo_none) el_nil))) (blkOk_by (by rfl)) (tg_pair (by simp) (by simp)) (fun _ _ _ _ _ => pg_tup rfl (pgs_cons (pgn 2 C.nd) (pgs_cons (pgn 3 C.nd) pgs_nil))) (fun z27 _ _ _ _ _ => ets_nil) (fun z27 _ _ _ _ _ => (ev_cmp od_lt (vv 2) (vv 3) (nomark _)))) el_nil))
theorem ok_is_net (B : Bn mg) (c_MOST_COMPONENTS : ∃ t, mg "MOST_COMPONENTS" = some (.int 8 t)) (K_is_rising : Cal P w K mg base 2 "is_rising" ["size", "thing"] (spF K mg false 2 (fn2 f_is_rising))) (FA : FunAt K mg "is_net" s_is_net) : Cal P w K mg base 3 "is_net" ["thing"] (spF K mg false 1 (fn1 f_is_net)) := by
  (refine EV.el1_1 c_MOST_COMPONENTS ?_; try clear c_MOST_COMPONENTS; intro _ c_MOST_COMPONENTS)
  refine mk_pure (N := ["thing", "component", "needs"]) (k := 2) FA sc_is_net rfl (fun _ _ _ _ _ _ us hl => (by (refine EV.el1_1 (EV.lv1 hl) fun _ q348_ => ?_; obtain rfl := q348_); rfl)) (fun f cdv A outer s H E C ds hn => ?_)
  (refine EV.el1_1 (len1 hn) fun a0 q349_ => ?_; obtain rfl := q349_)
  refine ⟨D, Out.ret, f_is_net a0, ?_, out_ret _⟩
  unfold f_is_net
  change SV _ _ _ [.val a0, .junk, .junk] _ _ _
  refine sv_ifR (eb_bool (ew_or (eb_not (eb_val (ev_isi (T := "tuple") (by decide) (vv 0) (by rfl) B.isinstance (by rfl) B.tuple (by decide +kernel)))) (ew_or1 (eb_not (eb_chain od_le od_le ev_int (ev_callB cd_len (by rfl) B.len PySem.boot_len (el_cons (vv 0) el_nil)) (ev_glob (v := .int 8) (by rfl) c_MOST_COMPONENTS ⟨_, rfl⟩ fun _ => .int _)))))) ?_ (by repeat first | exact nf_bad | exact nf_raise | exact nf_raiseF | exact nf_ret (fun _ => rfl) | refine nf_bind (fun _ => ?_) | refine nf_unp2 (fun _ _ => ?_) | refine nf_ite ?_ ?_) ?_
  · exact sv_ret (inj := id) (fun _ => rfl) ev_bl
  · refine sv_forL (dec := dec2) (g := gTup _ 2 (gCons (gName 1) (gCons (gName 2) gNil))) (vs := [1, 2]) (mk := (fun (c15 : Unit) => [.val a0, .junk, .junk])) (c0 := ()) (inj := id) C (ei_enum (by rfl) B.enumerate (el_cons (vv 0) el_nil)) (pg_tup rfl (pgs_cons (pgn 1 C.nd) (pgs_cons (pgn 2 C.nd) pgs_nil))) (fun _ => tg_pair (by simp) (by simp)) (wk (wj (wj wn))) (fun _ => rfl) (fun c15 z16 => ?_) (fun c15 => ?_)
    · change SV _ _ _ [.val a0, .val z16.1, .val z16.2] _ _ _
      refine sv_ifR (eb_bool (ew_or (eb_not (eb_val (call C K_is_rising ar2 (el_cons (ev_callB cd_len (by rfl) B.len PySem.boot_len (el_cons (vv 0) el_nil)) (el_cons (vv 2) el_nil))))) (ew_or1 (eb_cmp (od_in C.room) (vv 1) (vv 2) (by rfl))))) ?_ (by repeat first | exact nf_bad | exact nf_raise | exact nf_raiseF | exact nf_ret (fun _ => rfl) | refine nf_bind (fun _ => ?_) | refine nf_unp2 (fun _ _ => ?_) | refine nf_ite ?_ ?_) ?_
      · exact sv_ret (inj := Lp.ret) (fun _ => rfl) ev_bl
      · exact sv_nil rfl (wk (wj (wj wn)))
    · change SV _ _ _ [.val a0, .junk, .junk] _ _ _
      exact sv_ret (inj := id) (fun _ => rfl) ev_bl
theorem ok_Net_init (B : Bn mg) (E_NetError : ErrC K mg "NetError") (NA_Net_own_needs : NoAttr K cNet "own_needs") (OC_Net : ObjC K cNet) (K_is_net : Cal P w K mg base 3 "is_net" ["thing"] (spF K mg false 1 (fn1 f_is_net))) (CA : ClsAt K mg "Net" cNet "Net.__init__" s_Net_init []) : MkC P w K mg base 4 "Net" cNet (spStar (spI K mg cNet ["own_needs"] 1 (fnL1 f_Net_init))) := by
  refine mkS (N := ["self", "needs"]) (k := 3) CA sc_Net_init (by decide) (fun kV doc pm an cdv ct => StX.bind_star1 (B := fun vs => bindArgs (PySem.W.fnOf "__init__" "Net.__init__" (defArgs s_Net_init) (defBody s_Net_init) (defScope s_Net_init) .none kV doc pm an cdv ct) ⟨vs, []⟩) (p1 := "self") (pv := "needs") (fun _ => rfl) (fun _ _ _ => rfl)) (fun f => ⟨fun cdv A outer s H E C x dx ds hn => ?_⟩)
  (refine EV.el1_1 (len1 hn) fun a0 q350_ => ?_; obtain rfl := q350_)
  refine EV.in1_2 (fun fs => [insS x cNet dx ["own_needs"] fs, .junk]) (fun _ => rfl) ?_
  change SV _ _ _ [insS x cNet dx ([] : List Str) ([] : List D), .val a0] _ _ (f_Net_init a0)
  unfold f_Net_init
  refine sv_ifR (eb_not (eb_val (call C K_is_net ar1 (el_cons (vv 1) el_nil)))) ?_ (by repeat first | exact nf_bad | exact nf_raise | exact nf_raiseF | exact nf_ret (fun _ => rfl) | refine nf_bind (fun _ => ?_) | refine nf_unp2 (fun _ _ => ?_) | refine nf_ite ?_ ?_) ?_
  · exact sv_raise C E_NetError
  · refine sv_fldNew 0 OC_Net.cl NA_Net_own_needs rfl (by decide) (by decide) (vv 1) (fun d6 => ?_)
    change SV _ _ _ [insS x cNet dx (([] : List Str) ++ [("own_needs" : Str)]) (([] : List D) ++ [d6]), .val a0] _ _ _
    exact sv_nil rfl (wk (wj wn))
theorem ok_law_made (B : Bn mg) (K_Net_init : MkC P w K mg base 4 "Net" cNet (spStar (spI K mg cNet ["own_needs"] 1 (fnL1 f_Net_init)))) (FA : FunAt K mg "_law_made" s_law_made) : Cal P w K mg base 6 "_law_made" ["_law_rows"] (spF K mg false 1 (fn1 f_law_made)) := by
  refine mk_pure (N := ["_law_rows"]) (k := 5) FA sc_law_made rfl (fun _ _ _ _ _ _ us hl => (by (refine EV.el1_1 (EV.lv1 hl) fun _ q351_ => ?_; obtain rfl := q351_); rfl)) (fun f cdv A outer s H E C ds hn => ?_)
  (refine EV.el1_1 (len1 hn) fun a0 q352_ => ?_; obtain rfl := q352_)
  refine ⟨D, Out.ret, f_law_made a0, ?_, out_ret _⟩
  unfold f_law_made
  change SV _ _ _ [.val a0] _ _ _
  refine sv_ifR (eb_cmp (od_eq C.room) (ev_callB cd_len (by rfl) B.len PySem.boot_len (el_cons (vv 0) el_nil)) ev_int (nomark _)) ?_ (by repeat first | exact nf_bad | exact nf_raise | exact nf_raiseF | exact nf_ret (fun _ => rfl) | refine nf_bind (fun _ => ?_) | refine nf_unp2 (fun _ _ => ?_) | refine nf_ite ?_ ?_) ?_
  · exact sv_ret (inj := id) (fun _ => rfl) (newS C K_Net_init (el_cons (ev_ix (vv 0) ev_int (fun _ _ => rfl)) el_nil))
  · refine sv_ifR (eb_cmp (od_eq C.room) (ev_callB cd_len (by rfl) B.len PySem.boot_len (el_cons (vv 0) el_nil)) ev_int (nomark _)) ?_ (by repeat first | exact nf_bad | exact nf_raise | exact nf_raiseF | exact nf_ret (fun _ => rfl) | refine nf_bind (fun _ => ?_) | refine nf_unp2 (fun _ _ => ?_) | refine nf_ite ?_ ?_) ?_
    · exact sv_ret (inj := id) (fun _ => rfl) (newS C K_Net_init (el_cons (ev_ix (vv 0) ev_int (fun _ _ => rfl)) (el_cons (ev_ix (vv 0) ev_int (fun _ _ => rfl)) el_nil)))
    · refine sv_ifR (eb_cmp (od_eq C.room) (ev_callB cd_len (by rfl) B.len PySem.boot_len (el_cons (vv 0) el_nil)) ev_int (nomark _)) ?_ (by repeat first | exact nf_bad | exact nf_raise | exact nf_raiseF | exact nf_ret (fun _ => rfl) | refine nf_bind (fun _ => ?_) | refine nf_unp2 (fun _ _ => ?_) | refine nf_ite ?_ ?_) ?_
      · exact sv_ret (inj := id) (fun _ => rfl) (newS C K_Net_init (el_cons (ev_ix (vv 0) ev_int (fun _ _ => rfl)) (el_cons (ev_ix (vv 0) ev_int (fun _ _ => rfl)) (el_cons (ev_ix (vv 0) ev_int (fun _ _ => rfl)) el_nil))))
      · refine sv_ifR (eb_cmp (od_eq C.room) (ev_callB cd_len (by rfl) B.len PySem.boot_len (el_cons (vv 0) el_nil)) ev_int (nomark _)) ?_ (by repeat first | exact nf_bad | exact nf_raise | exact nf_raiseF | exact nf_ret (fun _ => rfl) | refine nf_bind (fun _ => ?_) | refine nf_unp2 (fun _ _ => ?_) | refine nf_ite ?_ ?_) ?_
        · exact sv_ret (inj := id) (fun _ => rfl) (newS C K_Net_init (el_cons (ev_ix (vv 0) ev_int (fun _ _ => rfl)) (el_cons (ev_ix (vv 0) ev_int (fun _ _ => rfl)) (el_cons (ev_ix (vv 0) ev_int (fun _ _ => rfl)) (el_cons (ev_ix (vv 0) ev_int (fun _ _ => rfl)) el_nil)))))
        · refine sv_ifR (eb_cmp (od_eq C.room) (ev_callB cd_len (by rfl) B.len PySem.boot_len (el_cons (vv 0) el_nil)) ev_int (nomark _)) ?_ (by repeat first | exact nf_bad | exact nf_raise | exact nf_raiseF | exact nf_ret (fun _ => rfl) | refine nf_bind (fun _ => ?_) | refine nf_unp2 (fun _ _ => ?_) | refine nf_ite ?_ ?_) ?_
          · exact sv_ret (inj := id) (fun _ => rfl) (newS C K_Net_init (el_cons (ev_ix (vv 0) ev_int (fun _ _ => rfl)) (el_cons (ev_ix (vv 0) ev_int (fun _ _ => rfl)) (el_cons (ev_ix (vv 0) ev_int (fun _ _ => rfl)) (el_cons (ev_ix (vv 0) ev_int (fun _ _ => rfl)) (el_cons (ev_ix (vv 0) ev_int (fun _ _ => rfl)) el_nil))))))
          · refine sv_ifR (eb_cmp (od_eq C.room) (ev_callB cd_len (by rfl) B.len PySem.boot_len (el_cons (vv 0) el_nil)) ev_int (nomark _)) ?_ (by repeat first | exact nf_bad | exact nf_raise | exact nf_raiseF | exact nf_ret (fun _ => rfl) | refine nf_bind (fun _ => ?_) | refine nf_unp2 (fun _ _ => ?_) | refine nf_ite ?_ ?_) ?_
            · exact sv_ret (inj := id) (fun _ => rfl) (newS C K_Net_init (el_cons (ev_ix (vv 0) ev_int (fun _ _ => rfl)) (el_cons (ev_ix (vv 0) ev_int (fun _ _ => rfl)) (el_cons (ev_ix (vv 0) ev_int (fun _ _ => rfl)) (el_cons (ev_ix (vv 0) ev_int (fun _ _ => rfl)) (el_cons (ev_ix (vv 0) ev_int (fun _ _ => rfl)) (el_cons (ev_ix (vv 0) ev_int (fun _ _ => rfl)) el_nil)))))))
            · refine sv_ifR (eb_cmp (od_eq C.room) (ev_callB cd_len (by rfl) B.len PySem.boot_len (el_cons (vv 0) el_nil)) ev_int (nomark _)) ?_ (by repeat first | exact nf_bad | exact nf_raise | exact nf_raiseF | exact nf_ret (fun _ => rfl) | refine nf_bind (fun _ => ?_) | refine nf_unp2 (fun _ _ => ?_) | refine nf_ite ?_ ?_) ?_
              · exact sv_ret (inj := id) (fun _ => rfl) (newS C K_Net_init (el_cons (ev_ix (vv 0) ev_int (fun _ _ => rfl)) (el_cons (ev_ix (vv 0) ev_int (fun _ _ => rfl)) (el_cons (ev_ix (vv 0) ev_int (fun _ _ => rfl)) (el_cons (ev_ix (vv 0) ev_int (fun _ _ => rfl)) (el_cons (ev_ix (vv 0) ev_int (fun _ _ => rfl)) (el_cons (ev_ix (vv 0) ev_int (fun _ _ => rfl)) (el_cons (ev_ix (vv 0) ev_int (fun _ _ => rfl)) el_nil))))))))
              · exact sv_ret (inj := id) (fun _ => rfl) (newS C K_Net_init (el_cons (ev_ix (vv 0) ev_int (fun _ _ => rfl)) (el_cons (ev_ix (vv 0) ev_int (fun _ _ => rfl)) (el_cons (ev_ix (vv 0) ev_int (fun _ _ => rfl)) (el_cons (ev_ix (vv 0) ev_int (fun _ _ => rfl)) (el_cons (ev_ix (vv 0) ev_int (fun _ _ => rfl)) (el_cons (ev_ix (vv 0) ev_int (fun _ _ => rfl)) (el_cons (ev_ix (vv 0) ev_int (fun _ _ => rfl)) (el_cons (ev_ix (vv 0) ev_int (fun _ _ => rfl)) el_nil)))))))))
theorem ok_law_draws (B : Bn mg) (FA : FunAt K mg "_law_draws" s_law_draws) : Cal P w K mg base 1 "_law_draws" ["_law_cell_here", "_law_bounds"] (spF K mg false 2 (fn2 f_law_draws)) := by
  refine mk_pure (N := ["_law_cell_here", "_law_bounds", "_law_found", "_law_left", "_law_below", "_law_k", "_law_mixed"]) (k := 0) FA sc_law_draws rfl (fun _ _ _ _ _ _ us hl => (by (refine EV.el2_1 (EV.lv2 hl) fun _ _ q353_ => ?_; obtain rfl := q353_); rfl)) (fun f cdv A outer s H E C ds hn => ?_)
  (refine EV.el2_1 (len2 hn) fun a0 a1 q354_ => ?_; obtain rfl := q354_)
  refine ⟨D, Out.ret, f_law_draws a0 a1, ?_, out_ret _⟩
  unfold f_law_draws
  change SV _ _ _ [.val a0, .val a1, .junk, .junk, .junk, .junk, .junk] _ _ _
  refine sv_setO 2 (ps_o C.nd (eo_lst el_nil)) (fun xs1 => ?_)
  change SV _ _ _ [.val a0, .val a1, .own xs1, .junk, .junk, .junk, .junk] _ _ _
  refine sv_ifR (eb_cmp od_ge (vv 0) (ev_op od_pow ev_int ev_int) (nomark _)) ?_ (by repeat first | exact nf_bad | exact nf_raise | exact nf_raiseF | exact nf_ret (fun _ => rfl) | refine nf_bind (fun _ => ?_) | refine nf_unp2 (fun _ _ => ?_) | refine nf_ite ?_ ?_) ?_
  · refine sv_set 3 C.nd (ev_op od_sub (vv 0) (ev_op od_pow ev_int ev_int)) (fun v7 => ?_)
    change SV _ _ _ [.val a0, .val a1, .own xs1, .val v7, .junk, .junk, .junk] _ _ _
    refine sv_forS (dec := dec1) (g := gName 4) (vs := [4]) (mk := (fun (c12 : D × List D) => [.val a0, .val a1, .own c12.2, .val c12.1, .junk, .junk, .junk])) (c0 := (v7, xs1)) C (ei_seq (vv 1)) (pgn 4 C.nd) (fun _ => tg_name (by simp)) (wk (wk (wk (wk (wj (wj (wj wn))))))) (fun c12 z13 => ?_) (fun c12 => ?_)
    · change SV _ _ _ [.val a0, .val a1, .own c12.2, .val c12.1, .val z13, .junk, .junk] _ _ _
      refine sv_append 2 (xs := c12.2) rfl (ev_op od_mod (vv 3) (vv 4)) (fun d17 => ?_)
      change SV _ _ _ [.val a0, .val a1, .own (c12.2 ++ [d17]), .val c12.1, .val z13, .junk, .junk] _ _ _
      refine sv_set 3 C.nd (ev_op od_fdiv (vv 3) (vv 4)) (fun v18 => ?_)
      change SV _ _ _ [.val a0, .val a1, .own (c12.2 ++ [d17]), .val v18, .val z13, .junk, .junk] _ _ _
      exact sv_nil rfl (wk (wk (wk (wk (wj (wj (wj wn)))))))
    · change SV _ _ _ [.val a0, .val a1, .own c12.2, .val c12.1, .junk, .junk, .junk] _ _ _
      refine sv_pub 2 (xs := c12.2) rfl ?_
      change SV _ _ _ [.val a0, .val a1, .val (D.lst c12.2), .val c12.1, .junk, .junk, .junk] _ _ _
      exact sv_ret (inj := id) (fun _ => rfl) (vv 2)
  · refine sv_forS (dec := dec1) (g := gName 5) (vs := [5]) (mk := (fun (c26 : List D) => [.val a0, .val a1, .own c26, .junk, .junk, .junk, .junk])) (c0 := xs1) C (ei_range1 (by rfl) B.range (el_cons (ev_callB cd_len (by rfl) B.len PySem.boot_len (el_cons (vv 1) el_nil)) el_nil)) (pgn 5 C.nd) (fun _ => tg_name (by simp)) (wk (wk (wk (wj (wj (wj (wj wn))))))) (fun c26 z27 => ?_) (fun c26 => ?_)
    · change SV _ _ _ [.val a0, .val a1, .own c26, .junk, .junk, .val z27, .junk] _ _ _
      refine sv_set 6 C.nd (ev_op od_mod (ev_op od_add (ev_op od_add (ev_op od_mul (vv 0) ev_int) (ev_op od_mul (vv 5) ev_int)) ev_int) ev_int) (fun v29 => ?_)
      change SV _ _ _ [.val a0, .val a1, .own c26, .junk, .junk, .val z27, .val v29] _ _ _
      refine sv_set 6 C.nd (ev_op od_mod (ev_op od_add (ev_op od_mul (vv 6) ev_int) (vv 5)) ev_int) (fun v40 => ?_)
      change SV _ _ _ [.val a0, .val a1, .own c26, .junk, .junk, .val z27, .val v40] _ _ _
      refine sv_append 2 (xs := c26) rfl (ev_op od_mod (vv 6) (ev_ix (vv 1) (vv 5) (fun _ _ => rfl))) (fun d51 => ?_)
      change SV _ _ _ [.val a0, .val a1, .own (c26 ++ [d51]), .junk, .junk, .val z27, .val v40] _ _ _
      exact sv_nil rfl (wk (wk (wk (wj (wj (wj (wj wn)))))))
    · change SV _ _ _ [.val a0, .val a1, .own c26, .junk, .junk, .junk, .junk] _ _ _
      refine sv_pub 2 (xs := c26) rfl ?_
      change SV _ _ _ [.val a0, .val a1, .val (D.lst c26), .junk, .junk, .junk, .junk] _ _ _
      exact sv_ret (inj := id) (fun _ => rfl) (vv 2)
theorem ok_law_net (B : Bn mg) (K_law_draws : Cal P w K mg base 1 "_law_draws" ["_law_cell_here", "_law_bounds"] (spF K mg false 2 (fn2 f_law_draws))) (FA : FunAt K mg "_law_net" s_law_net) : Cal P w K mg base 2 "_law_net" ["_law_cell_here", "_law_top"] (spF K mg false 2 (fn2 f_law_net)) := by
  refine mk_pure (N := ["_law_cell_here", "_law_top", "_law_numbers", "_law_many", "_law_cap", "_law_rows", "_law_one", "_law_other"]) (k := 1) FA sc_law_net rfl (fun _ _ _ _ _ _ us hl => (by (refine EV.el2_1 (EV.lv2 hl) fun _ _ q355_ => ?_; obtain rfl := q355_); rfl)) (fun f cdv A outer s H E C ds hn => ?_)
  (refine EV.el2_1 (len2 hn) fun a0 a1 q356_ => ?_; obtain rfl := q356_)
  refine ⟨D, Out.ret, f_law_net a0 a1, ?_, out_ret _⟩
  unfold f_law_net
  change SV _ _ _ [.val a0, .val a1, .junk, .junk, .junk, .junk, .junk, .junk] _ _ _
  refine sv_set 2 C.nd (call C K_law_draws ar2 (el_cons (vv 0) (el_cons (ev_op od_add (ev_lst (el_cons (vv 1) (el_cons ev_int el_nil))) (ev_op od_mulL (ev_lst (el_cons ev_int el_nil)) ev_int)) el_nil))) (fun v1 => ?_)
  change SV _ _ _ [.val a0, .val a1, .val v1, .junk, .junk, .junk, .junk, .junk] _ _ _
  refine sv_unp 3 4 C (ev_tup (el_cons (ev_op od_add ev_int (ev_ix (vv 2) ev_int (fun _ _ => rfl))) (el_cons (ev_ix (ev_lst (el_cons ev_int (el_cons ev_int (el_cons ev_int el_nil)))) (ev_ix (vv 2) ev_int (fun _ _ => rfl)) (fun _ _ => rfl)) el_nil))) (fun v17 v18 => ?_) (pg_tup rfl (pgs_cons (pgn 3 C.nd) (pgs_cons (pgn 4 C.nd) pgs_nil)))
  change SV _ _ _ [.val a0, .val a1, .val v1, .val v17, .val v18, .junk, .junk, .junk] _ _ _
  refine sv_setO 5 (ps_o C.nd (eo_lst el_nil)) (fun xs37 => ?_)
  change SV _ _ _ [.val a0, .val a1, .val v1, .val v17, .val v18, .own xs37, .junk, .junk] _ _ _
  refine sv_forS (dec := dec1) (g := gName 6) (vs := [6]) (mk := (fun (c40 : List D) => [.val a0, .val a1, .val v1, .val v17, .val v18, .own c40, .junk, .junk])) (c0 := xs37) C (ei_range1 (by rfl) B.range (el_cons (vv 3) el_nil)) (pgn 6 C.nd) (fun _ => tg_name (by simp)) (wk (wk (wk (wk (wk (wk (wj (wj wn)))))))) (fun c40 z41 => ?_) (fun c40 => ?_)
  · change SV _ _ _ [.val a0, .val a1, .val v1, .val v17, .val v18, .own c40, .val z41, .junk] _ _ _
    refine sv_append 5 (xs := c40) rfl (ev_callTy cd_tuple (by rfl) B.tuple (by decide +kernel) (el_cons (ev_lc (own := [(("_law_other" : Str), 7)]) (dec := dec1) (g := gName 7) (Γz := fun z45 => [.val a0, .val a1, .val v1, .val v17, .val v18, .own c40, .val z41, .val z45]) C (ei_range1 (by rfl) B.range (el_cons (vv 3) el_nil)) (blkOk_by (by rfl)) (tg_name (by simp)) (fun _ _ _ _ _ => pgn 7 C.nd) (fun z45 _ _ _ _ _ => (ets_one (eb_bool (ew_and (eb_cmp (od_ne C.blk.room) (vv 7) (vv 6) (nomark _)) (ew_and1 (eb_cmp od_lt (ev_ix (vv 2) (ev_op od_add (ev_op od_add ev_int (ev_op od_mul ev_int (vv 6))) (vv 7)) (fun _ _ => rfl)) (vv 4) (nomark _))))))) (fun z45 _ _ _ _ _ => (vv 7))) el_nil)) (fun d63 => ?_)
    change SV _ _ _ [.val a0, .val a1, .val v1, .val v17, .val v18, .own (c40 ++ [d63]), .val z41, .junk] _ _ _
    exact sv_nil rfl (wk (wk (wk (wk (wk (wk (wj (wj wn))))))))
  · change SV _ _ _ [.val a0, .val a1, .val v1, .val v17, .val v18, .own c40, .junk, .junk] _ _ _
    refine sv_pub 5 (xs := c40) rfl ?_
    change SV _ _ _ [.val a0, .val a1, .val v1, .val v17, .val v18, .val (D.lst c40), .junk, .junk] _ _ _
    exact sv_ret (inj := id) (fun _ => rfl) (ev_callTy cd_tuple (by rfl) B.tuple (by decide +kernel) (el_cons (vv 5) el_nil))
theorem ok_Net_needs (B : Bn mg) (NA_Net_own_needs : NoAttr K cNet "own_needs") (FA : PropF K cNet "needs" "Net.needs" s_Net_needs) : CalPr P w K mg base 1 cNet "needs" ["self"] (spF K mg false 1 (fn1 f_Net_needs)) := by
  refine mk_prop (N := ["self"]) (k := 0) FA sc_Net_needs rfl (fun _ _ _ _ _ _ us hl => (by (refine EV.el1_1 (EV.lv1 hl) fun _ q357_ => ?_; obtain rfl := q357_); rfl)) (fun f cdv A outer s H E C ds hn => ?_)
  (refine EV.el1_1 (len1 hn) fun a0 q358_ => ?_; obtain rfl := q358_)
  refine ⟨D, Out.ret, f_Net_needs a0, ?_, out_ret _⟩
  unfold f_Net_needs
  change SV _ _ _ [.val a0] _ _ _
  exact sv_ret (inj := id) (fun _ => rfl) (ev_fldO NA_Net_own_needs (vv 0))
theorem ok_Net_repr (B : Bn mg) (NA_Net_own_needs : NoAttr K cNet "own_needs") (FA : MethF K cNet "__repr__" "Net.__repr__" s_Net_repr) : CalM P w K mg base 1 cNet "__repr__" ["self"] (spF K mg false 1 (fn1 f_Net_repr)) := by
  refine mk_meth (N := ["self"]) (k := 0) FA sc_Net_repr rfl (fun _ _ _ _ _ _ us hl => (by (refine EV.el1_1 (EV.lv1 hl) fun _ q359_ => ?_; obtain rfl := q359_); rfl)) (fun f cdv A outer s H E C ds hn => ?_)
  (refine EV.el1_1 (len1 hn) fun a0 q360_ => ?_; obtain rfl := q360_)
  refine ⟨D, Out.ret, f_Net_repr a0, ?_, out_ret _⟩
  unfold f_Net_repr
  change SV _ _ _ [.val a0] _ _ _
  exact sv_ret (inj := id) (fun _ => rfl) (ev_fstr (.cons ev_str (.cons (ev_fmt (ev_callB cd_len (by rfl) B.len PySem.boot_len (el_cons (ev_fldO NA_Net_own_needs (vv 0)) el_nil))) (.cons ev_str .nil))))
theorem ok_line_of (B : Bn mg) (FA : FunAt K mg "line_of" s_line_of) : Cal P w K mg base 1 "line_of" ["component", "needs"] (spF K mg false 2 (fn2 f_line_of)) := by
  refine mk_pure (N := ["component", "needs", "one"]) (k := 0) FA sc_line_of rfl (fun _ _ _ _ _ _ us hl => (by (refine EV.el2_1 (EV.lv2 hl) fun _ _ q361_ => ?_; obtain rfl := q361_); rfl)) (fun f cdv A outer s H E C ds hn => ?_)
  (refine EV.el2_1 (len2 hn) fun a0 a1 q362_ => ?_; obtain rfl := q362_)
  refine ⟨D, Out.ret, f_line_of a0 a1, ?_, out_ret _⟩
  unfold f_line_of
  change SV _ _ _ [.val a0, .val a1, .junk] _ _ _
  exact sv_ret (inj := id) (fun _ => rfl) (ev_join ev_str (ev_op od_add (ev_lst (el_cons (ev_fstr (.cons (ev_fmt (vv 0)) (.cons ev_str .nil))) el_nil)) (ev_lc (own := [(("one" : Str), 2)]) (dec := dec1) (g := gName 2) (Γz := fun z3 => [.val a0, .val a1, .val z3]) C (ei_seq (vv 1)) (blkOk_by (by rfl)) (tg_name (by simp)) (fun _ _ _ _ _ => pgn 2 C.nd) (fun z3 _ _ _ _ _ => ets_nil) (fun z3 _ _ _ _ _ => (ev_callTy cd_str (by rfl) B.str (by decide +kernel) (el_cons (vv 2) el_nil))))))
theorem ok_text_of (B : Bn mg) (K_line_of : Cal P w K mg base 1 "line_of" ["component", "needs"] (spF K mg false 2 (fn2 f_line_of))) (FA : FunAt K mg "text_of" s_text_of) : Cal P w K mg base 2 "text_of" ["net"] (spF K mg false 1 (fn1 f_text_of)) := by
  refine mk_pure (N := ["net", "component", "needs"]) (k := 1) FA sc_text_of rfl (fun _ _ _ _ _ _ us hl => (by (refine EV.el1_1 (EV.lv1 hl) fun _ q363_ => ?_; obtain rfl := q363_); rfl)) (fun f cdv A outer s H E C ds hn => ?_)
  (refine EV.el1_1 (len1 hn) fun a0 q364_ => ?_; obtain rfl := q364_)
  refine ⟨D, Out.ret, f_text_of a0, ?_, out_ret _⟩
  unfold f_text_of
  change SV _ _ _ [.val a0, .junk, .junk] _ _ _
  exact sv_ret (inj := id) (fun _ => rfl) (ev_join ev_str (ev_lc (own := [(("component" : Str), 1), (("needs" : Str), 2)]) (dec := dec2) (g := gTup _ 2 (gCons (gName 1) (gCons (gName 2) gNil))) (Γz := fun z3 => [.val a0, .val z3.1, .val z3.2]) C (ei_enum (by rfl) B.enumerate (el_cons (vv 0) el_nil)) (blkOk_by (by rfl)) (tg_pair (by simp) (by simp)) (fun _ _ _ _ _ => pg_tup rfl (pgs_cons (pgn 1 C.nd) (pgs_cons (pgn 2 C.nd) pgs_nil))) (fun z3 _ _ _ _ _ => ets_nil) (fun z3 _ _ _ _ _ => (ev_op od_add (call C.blk K_line_of ar2 (el_cons (vv 1) (el_cons (vv 2) el_nil))) ev_str))))
theorem ok_Net_text (B : Bn mg) (NA_Net_own_needs : NoAttr K cNet "own_needs") (K_text_of : Cal P w K mg base 2 "text_of" ["net"] (spF K mg false 1 (fn1 f_text_of))) (FA : MethF K cNet "text" "Net.text" s_Net_text) : CalM P w K mg base 3 cNet "text" ["self"] (spF K mg false 1 (fn1 f_Net_text)) := by
  refine mk_meth (N := ["self"]) (k := 2) FA sc_Net_text rfl (fun _ _ _ _ _ _ us hl => (by (refine EV.el1_1 (EV.lv1 hl) fun _ q365_ => ?_; obtain rfl := q365_); rfl)) (fun f cdv A outer s H E C ds hn => ?_)
  (refine EV.el1_1 (len1 hn) fun a0 q366_ => ?_; obtain rfl := q366_)
  refine ⟨D, Out.ret, f_Net_text a0, ?_, out_ret _⟩
  unfold f_Net_text
  change SV _ _ _ [.val a0] _ _ _
  exact sv_ret (inj := id) (fun _ => rfl) (call C K_text_of ar1 (el_cons (ev_fldO NA_Net_own_needs (vv 0)) el_nil))
theorem ok_law_no_nets (B : Bn mg) (K_Net_needs : CalPr P w K mg base 1 cNet "needs" ["self"] (spF K mg false 1 (fn1 f_Net_needs))) (K_Net_repr : CalM P w K mg base 1 cNet "__repr__" ["self"] (spF K mg false 1 (fn1 f_Net_repr))) (K_Net_text : CalM P w K mg base 3 cNet "text" ["self"] (spF K mg false 1 (fn1 f_Net_text))) (FA : FunAt K mg "_law_no_nets" s_law_no_nets) : Cal P w K mg base 33 "_law_no_nets" ["_law_made_here"] (spF K mg false 1 (fn1 f_law_no_nets)) := by
  refine mk_pure (N := ["_law_made_here", "_law_rows"]) (k := 32) FA sc_law_no_nets rfl (fun _ _ _ _ _ _ us hl => (by (refine EV.el1_1 (EV.lv1 hl) fun _ q367_ => ?_; obtain rfl := q367_); rfl)) (fun f cdv A outer s H E C ds hn => ?_)
  (refine EV.el1_1 (len1 hn) fun a0 q368_ => ?_; obtain rfl := q368_)
  refine ⟨D, Out.ret, f_law_no_nets a0, ?_, out_ret _⟩
  unfold f_law_no_nets
  change SV _ _ _ [.val a0, .junk] _ _ _
  refine sv_set 1 C.nd (ev_propC C K_Net_needs ar1 (vv 0)) (fun v1 => ?_)
  change SV _ _ _ [.val a0, .val v1] _ _ _
  exact sv_ret (inj := id) (fun _ => rfl) (ev_lst (el_cons ev_non (el_cons ev_int (el_cons ev_bl (el_cons ev_str (el_cons (ev_tup el_nil) (el_cons (ev_lst el_nil) (el_cons ev_dict0 (el_cons (vv 1) (el_cons (ev_callTy cd_list (by rfl) B.list (by decide +kernel) (el_cons (vv 1) el_nil)) (el_cons (ev_lst (el_cons (vv 0) el_nil)) (el_cons (ev_tup (el_cons (vv 0) el_nil)) (el_cons (ev_methO0 C K_Net_text ar1 (vv 0)) (el_cons (ev_reprO C K_Net_repr ar1 (vv 0) (by rfl) B.repr) (el_cons (ev_tup (el_cons (ev_tup el_nil) el_nil)) (el_cons (ev_ix (vv 1) ev_int (fun _ _ => rfl)) el_nil))))))))))))))))
theorem ok_law_no_reports (B : Bn mg) (FA : FunAt K mg "_law_no_reports" s_law_no_reports) : Cal P w K mg base 1 "_law_no_reports" ["_law_sight"] (spF K mg false 1 (fn1 f_law_no_reports)) := by
  refine mk_pure (N := ["_law_sight", "_law_found"]) (k := 0) FA sc_law_no_reports rfl (fun _ _ _ _ _ _ us hl => (by (refine EV.el1_1 (EV.lv1 hl) fun _ q369_ => ?_; obtain rfl := q369_); rfl)) (fun f cdv A outer s H E C ds hn => ?_)
  (refine EV.el1_1 (len1 hn) fun a0 q370_ => ?_; obtain rfl := q370_)
  refine ⟨D, Out.ret, f_law_no_reports a0, ?_, out_ret _⟩
  unfold f_law_no_reports
  change SV _ _ _ [.val a0, .junk] _ _ _
  refine sv_set 1 C.nd (ev_lst (el_cons ev_int (el_cons ev_bl (el_cons ev_str (el_cons ev_str (el_cons (ev_tup el_nil) (el_cons (ev_lst el_nil) (el_cons ev_dict0 (el_cons (ev_callTy cd_list (by rfl) B.list (by decide +kernel) (el_cons (vv 0) el_nil)) (el_cons (ev_op od_add (vv 0) (ev_tup (el_cons ev_str el_nil))) el_nil)))))))))) (fun v1 => ?_)
  change SV _ _ _ [.val a0, .val v1] _ _ _
  refine sv_set 1 C.nd (ev_op od_add (vv 1) (ev_lst (el_cons (ev_slice (vv 0) (eo_some ev_int) eo_none) (el_cons (ev_op od_add (ev_slice (vv 0) (eo_some ev_int) eo_none) (ev_tup (el_cons ev_non el_nil))) el_nil)))) (fun v26 => ?_)
  change SV _ _ _ [.val a0, .val v26] _ _ _
  refine sv_set 1 C.nd (ev_op od_add (vv 1) (ev_lst (el_cons (ev_op od_add (ev_slice (vv 0) (eo_some ev_int) eo_none) (ev_tup (el_cons ev_str el_nil))) (el_cons (ev_op od_add (ev_slice (vv 0) (eo_some ev_int) eo_none) (ev_tup (el_cons ev_int el_nil))) (el_cons (ev_op od_add (ev_slice (vv 0) (eo_some ev_int) eo_none) (ev_tup (el_cons ev_bl el_nil))) el_nil))))) (fun v43 => ?_)
  change SV _ _ _ [.val a0, .val v43] _ _ _
  refine sv_set 1 C.nd (ev_op od_add (vv 1) (ev_lst (el_cons (ev_op od_add (ev_slice (vv 0) (eo_some ev_int) eo_none) (ev_tup (el_cons (ev_tup (el_cons ev_str el_nil)) el_nil))) el_nil))) (fun v73 => ?_)
  change SV _ _ _ [.val a0, .val v73] _ _ _
  refine sv_set 1 C.nd (ev_op od_add (vv 1) (ev_lst (el_cons (ev_op od_add (ev_slice (vv 0) (eo_some ev_int) eo_none) (ev_tup (el_cons (ev_lst (el_cons ev_str el_nil)) el_nil))) (el_cons (ev_op od_add (ev_slice (vv 0) (eo_some ev_int) eo_none) (ev_tup (el_cons ev_str el_nil))) (el_cons (ev_tup (el_cons (vv 0) el_nil)) el_nil))))) (fun v87 => ?_)
  change SV _ _ _ [.val a0, .val v87] _ _ _
  exact sv_ret (inj := id) (fun _ => rfl) (ev_op od_add (vv 1) (ev_lst (el_cons (ev_op od_add (ev_slice (vv 0) (eo_some ev_int) eo_none) (ev_tup (el_cons ev_str el_nil))) el_nil)))
theorem ok_law_alarms (B : Bn mg) (K_law_reach : Cal P w K mg base 1 "_law_reach" ["_law_net_here", "_law_component"] (spF K mg false 2 (fn2 f_law_reach))) (FA : FunAt K mg "_law_alarms" s_law_alarms) : Cal P w K mg base 2 "_law_alarms" ["_law_net_here", "_law_broken"] (spF K mg false 2 (fn2 f_law_alarms)) := by
  refine mk_pure (N := ["_law_net_here", "_law_broken", "_law_found", "_law_one", "_law_other"]) (k := 1) FA sc_law_alarms rfl (fun _ _ _ _ _ _ us hl => (by (refine EV.el2_1 (EV.lv2 hl) fun _ _ q371_ => ?_; obtain rfl := q371_); rfl)) (fun f cdv A outer s H E C ds hn => ?_)
  (refine EV.el2_1 (len2 hn) fun a0 a1 q372_ => ?_; obtain rfl := q372_)
  refine ⟨D, Out.ret, f_law_alarms a0 a1, ?_, out_ret _⟩
  unfold f_law_alarms
  change SV _ _ _ [.val a0, .val a1, .junk, .junk, .junk] _ _ _
  refine sv_setO 2 (ps_o C.nd (eo_lst el_nil)) (fun xs1 => ?_)
  change SV _ _ _ [.val a0, .val a1, .own xs1, .junk, .junk] _ _ _
  refine sv_forS (dec := dec1) (g := gName 3) (vs := [3]) (mk := (fun (c6 : List D) => [.val a0, .val a1, .own c6, .junk, .junk])) (c0 := xs1) C (ei_range1 (by rfl) B.range (el_cons (ev_callB cd_len (by rfl) B.len PySem.boot_len (el_cons (vv 0) el_nil)) el_nil)) (pgn 3 C.nd) (fun _ => tg_name (by simp)) (wk (wk (wk (wj (wj wn))))) (fun c6 z7 => ?_) (fun c6 => ?_)
  · change SV _ _ _ [.val a0, .val a1, .own c6, .val z7, .junk] _ _ _
    refine sv_ifJ (mk := (fun (j23 : List D) => [.val a0, .val a1, .own j23, .val z7, .junk])) (eb_cmp (od_ne C.room) (ev_lc (own := [(("_law_other" : Str), 4)]) (dec := dec1) (g := gName 4) (Γz := fun z14 => [.val a0, .val a1, .own c6, .val z7, .val z14]) C (ei_seq (call C K_law_reach ar2 (el_cons (vv 0) (el_cons (vv 3) el_nil)))) (blkOk_by (by rfl)) (tg_name (by simp)) (fun _ _ _ _ _ => pgn 4 C.nd) (fun z14 _ _ _ _ _ => (ets_one (eb_cmp (od_in C.blk.room) (vv 4) (vv 1) (by rfl)))) (fun z14 _ _ _ _ _ => ev_int)) (ev_lst el_nil) (nomark _)) ?_ ?_ (fun j23 => ?_)
    · refine sv_append 2 (xs := c6) rfl (vv 3) (fun d24 => ?_)
      change SV _ _ _ [.val a0, .val a1, .own (c6 ++ [d24]), .val z7, .junk] _ _ _
      exact sv_nil rfl (wk (wk (wk (wk (wj wn)))))
    · exact sv_nil rfl (wk (wk (wk (wk (wj wn)))))
    · change SV _ _ _ [.val a0, .val a1, .own j23, .val z7, .junk] _ _ _
      exact sv_nil rfl (wk (wk (wk (wj (wj wn)))))
  · change SV _ _ _ [.val a0, .val a1, .own c6, .junk, .junk] _ _ _
    refine sv_pub 2 (xs := c6) rfl ?_
    change SV _ _ _ [.val a0, .val a1, .val (D.lst c6), .junk, .junk] _ _ _
    exact sv_ret (inj := id) (fun _ => rfl) (ev_callTy cd_tuple (by rfl) B.tuple (by decide +kernel) (el_cons (vv 2) el_nil))
theorem ok_law_report (B : Bn mg) (K_law_alarms : Cal P w K mg base 2 "_law_alarms" ["_law_net_here", "_law_broken"] (spF K mg false 2 (fn2 f_law_alarms))) (K_law_draws : Cal P w K mg base 1 "_law_draws" ["_law_cell_here", "_law_bounds"] (spF K mg false 2 (fn2 f_law_draws))) (FA : FunAt K mg "_law_report" s_law_report) : Cal P w K mg base 3 "_law_report" ["_law_cell_here", "_law_net_here"] (spF K mg false 2 (fn2 f_law_report)) := by
  refine mk_pure (N := ["_law_cell_here", "_law_net_here", "_law_numbers", "_law_words", "_law_broken", "_law_alarming", "_law_one", "_law_word"]) (k := 2) FA sc_law_report rfl (fun _ _ _ _ _ _ us hl => (by (refine EV.el2_1 (EV.lv2 hl) fun _ _ q373_ => ?_; obtain rfl := q373_); rfl)) (fun f cdv A outer s H E C ds hn => ?_)
  (refine EV.el2_1 (len2 hn) fun a0 a1 q374_ => ?_; obtain rfl := q374_)
  refine ⟨D, Out.ret, f_law_report a0 a1, ?_, out_ret _⟩
  unfold f_law_report
  change SV _ _ _ [.val a0, .val a1, .junk, .junk, .junk, .junk, .junk, .junk] _ _ _
  refine sv_unpM 2 3 C (em_v (call C K_law_draws ar2 (el_cons (vv 0) (el_cons (ev_op od_add (ev_lst (el_cons ev_int el_nil)) (ev_op od_mulL (ev_lst (el_cons ev_int (el_cons ev_int el_nil))) (ev_callB cd_len (by rfl) B.len PySem.boot_len (el_cons (vv 1) el_nil)))) el_nil))) (em_o (eo_lst el_nil) em_nil)) (h_vo fun v24 xs25 => ?_) (pg_tup rfl (pgs_cons (pgn 2 C.nd) (pgs_cons (pgn 3 C.nd) pgs_nil)))
  change SV _ _ _ [.val a0, .val a1, .val v24, .own xs25, .junk, .junk, .junk, .junk] _ _ _
  refine sv_set 4 C.nd (ev_callTy cd_tuple (by rfl) B.tuple (by decide +kernel) (el_cons (ev_lc (own := [(("_law_one" : Str), 6)]) (dec := dec1) (g := gName 6) (Γz := fun z31 => [.val a0, .val a1, .val v24, .own xs25, .junk, .junk, .val z31, .junk]) C (ei_range1 (by rfl) B.range (el_cons (ev_callB cd_len (by rfl) B.len PySem.boot_len (el_cons (vv 1) el_nil)) el_nil)) (blkOk_by (by rfl)) (tg_name (by simp)) (fun _ _ _ _ _ => pgn 6 C.nd) (fun z31 _ _ _ _ _ => (ets_one (eb_cmp (od_eq C.blk.room) (ev_ix (vv 2) (ev_op od_add ev_int (ev_op od_mul ev_int (vv 6))) (fun _ _ => rfl)) ev_int (nomark _)))) (fun z31 _ _ _ _ _ => (vv 6))) el_nil)) (fun v26 => ?_)
  change SV _ _ _ [.val a0, .val a1, .val v24, .own xs25, .val v26, .junk, .junk, .junk] _ _ _
  refine sv_set 5 C.nd (call C K_law_alarms ar2 (el_cons (vv 1) (el_cons (vv 4) el_nil))) (fun v44 => ?_)
  change SV _ _ _ [.val a0, .val a1, .val v24, .own xs25, .val v26, .val v44, .junk, .junk] _ _ _
  refine sv_forS (dec := dec1) (g := gName 6) (vs := [6]) (mk := (fun (c54 : List D) => [.val a0, .val a1, .val v24, .own c54, .val v26, .val v44, .junk, .junk])) (c0 := xs25) C (ei_range1 (by rfl) B.range (el_cons (ev_callB cd_len (by rfl) B.len PySem.boot_len (el_cons (vv 1) el_nil)) el_nil)) (pgn 6 C.nd) (fun _ => tg_name (by simp)) (wk (wk (wk (wk (wk (wk (wj (wj wn)))))))) (fun c54 z55 => ?_) (fun c54 => ?_)
  · change SV _ _ _ [.val a0, .val a1, .val v24, .own c54, .val v26, .val v44, .val z55, .junk] _ _ _
    refine sv_set 7 C.nd (ev_ifExp (eb_cmp (od_in C.room) (vv 6) (vv 5) (by rfl)) ev_str ev_str) (fun v57 => ?_)
    change SV _ _ _ [.val a0, .val a1, .val v24, .own c54, .val v26, .val v44, .val z55, .val v57] _ _ _
    refine sv_ifJ (mk := (fun (j67 : D) => [.val a0, .val a1, .val v24, .own c54, .val v26, .val v44, .val z55, .val j67])) (eb_cmp (od_eq C.room) (ev_ix (vv 2) ev_int (fun _ _ => rfl)) ev_int (nomark _)) ?_ ?_ (fun j67 => ?_)
    · refine sv_set 7 C.nd (ev_ifExp (eb_cmp (od_eq C.room) (ev_ix (vv 2) (ev_op od_add ev_int (ev_op od_mul ev_int (vv 6))) (fun _ _ => rfl)) ev_int (nomark _)) ev_str ev_str) (fun v68 => ?_)
      change SV _ _ _ [.val a0, .val a1, .val v24, .own c54, .val v26, .val v44, .val z55, .val v68] _ _ _
      exact sv_nil rfl (wk (wk (wk (wk (wk (wk (wk (wk wn))))))))
    · exact sv_nil rfl (wk (wk (wk (wk (wk (wk (wk (wk wn))))))))
    · change SV _ _ _ [.val a0, .val a1, .val v24, .own c54, .val v26, .val v44, .val z55, .val j67] _ _ _
      refine sv_append 3 (xs := c54) rfl (ev_ifExp (eb_cmp (od_eq C.room) (ev_ix (vv 2) (ev_op od_add ev_int (ev_op od_mul ev_int (vv 6))) (fun _ _ => rfl)) ev_int (nomark _)) ev_str (vv 7)) (fun d87 => ?_)
      change SV _ _ _ [.val a0, .val a1, .val v24, .own (c54 ++ [d87]), .val v26, .val v44, .val z55, .val j67] _ _ _
      exact sv_nil rfl (wk (wk (wk (wk (wk (wk (wj (wj wn))))))))
  · change SV _ _ _ [.val a0, .val a1, .val v24, .own c54, .val v26, .val v44, .junk, .junk] _ _ _
    refine sv_pub 3 (xs := c54) rfl ?_
    change SV _ _ _ [.val a0, .val a1, .val v24, .val (D.lst c54), .val v26, .val v44, .junk, .junk] _ _ _
    exact sv_ret (inj := id) (fun _ => rfl) (ev_callTy cd_tuple (by rfl) B.tuple (by decide +kernel) (el_cons (vv 3) el_nil))
theorem ok_Net_len (B : Bn mg) (NA_Net_own_needs : NoAttr K cNet "own_needs") (FA : MethF K cNet "__len__" "Net.__len__" s_Net_len) : CalM P w K mg base 1 cNet "__len__" ["self"] (spF K mg false 1 (fn1 f_Net_len)) := by
  refine mk_meth (N := ["self"]) (k := 0) FA sc_Net_len rfl (fun _ _ _ _ _ _ us hl => (by (refine EV.el1_1 (EV.lv1 hl) fun _ q375_ => ?_; obtain rfl := q375_); rfl)) (fun f cdv A outer s H E C ds hn => ?_)
  (refine EV.el1_1 (len1 hn) fun a0 q376_ => ?_; obtain rfl := q376_)
  refine ⟨D, Out.ret, f_Net_len a0, ?_, out_ret _⟩
  unfold f_Net_len
  change SV _ _ _ [.val a0] _ _ _
  exact sv_ret (inj := id) (fun _ => rfl) (ev_callB cd_len (by rfl) B.len PySem.boot_len (el_cons (ev_fldO NA_Net_own_needs (vv 0)) el_nil))
theorem ok_reach_of (B : Bn mg) (FA : FunAt K mg "reach_of" s_reach_of) : Cal P w K mg base 1 "reach_of" ["net", "component"] (spF K mg false 2 (fn2 f_reach_of)) := by
  refine mk_pure (N := ["net", "component", "found", "at", "needed"]) (k := 0) FA sc_reach_of rfl (fun _ _ _ _ _ _ us hl => (by (refine EV.el2_1 (EV.lv2 hl) fun _ _ q377_ => ?_; obtain rfl := q377_); rfl)) (fun f cdv A outer s H E C ds hn => ?_)
  (refine EV.el2_1 (len2 hn) fun a0 a1 q378_ => ?_; obtain rfl := q378_)
  refine ⟨D, Out.ret, f_reach_of a0 a1, ?_, out_ret _⟩
  unfold f_reach_of
  change SV _ _ _ [.val a0, .val a1, .junk, .junk, .junk] _ _ _
  refine sv_setO 2 (ps_o C.nd (eo_lst (el_cons (vv 1) el_nil))) (fun xs1 => ?_)
  change SV _ _ _ [.val a0, .val a1, .own xs1, .junk, .junk] _ _ _
  refine sv_set 3 C.nd ev_int (fun v4 => ?_)
  change SV _ _ _ [.val a0, .val a1, .own xs1, .val v4, .junk] _ _ _
  refine sv_while 20 (mk := (fun (c5 : D × List D) => [.val a0, .val a1, .own c5.2, .val c5.1, .junk])) (c0 := (v4, xs1)) C (wk (wk (wk (wk (wj wn))))) (fun c5 => (peekB [.val a0, .val a1, .val (D.lst c5.2), .val c5.1, .junk] 2 (xs := c5.2) rfl rfl (eb_cmp od_lt (vv 3) (ev_callB cd_len (by rfl) B.len PySem.boot_len (el_cons (vv 2) el_nil)) (nomark _)))) (fun c5 => ?_) (fun c5 => ?_)
  · change SV _ _ _ [.val a0, .val a1, .own c5.2, .val c5.1, .junk] _ _ _
    refine sv_ext [.val a0, .val a1, .val (D.lst c5.2), .val c5.1, .junk] 2 (xs := c5.2) rfl rfl (ev_lc (own := [(("needed" : Str), 4)]) (dec := dec1) (g := gName 4) (Γz := fun z14 => [.val a0, .val a1, .val (D.lst c5.2), .val c5.1, .val z14]) C (ei_seq (ev_ix (vv 0) (ev_ix (vv 2) (vv 3) (fun _ _ => rfl)) (fun _ _ => rfl))) (blkOk_by (by rfl)) (tg_name (by simp)) (fun _ _ _ _ _ => pgn 4 C.nd) (fun z14 _ _ _ _ _ => (ets_one (eb_cmp (od_notIn C.blk.room) (vv 4) (vv 2) (by rfl)))) (fun z14 _ _ _ _ _ => (vv 4))) (fun ys19 => ?_)
    change SV _ _ _ [.val a0, .val a1, .own (c5.2 ++ ys19), .val c5.1, .junk] _ _ _
    refine sv_set 3 C.nd (ev_op od_add (vv 3) ev_int) (fun v20 => ?_)
    change SV _ _ _ [.val a0, .val a1, .own (c5.2 ++ ys19), .val v20, .junk] _ _ _
    exact sv_nil rfl (wk (wk (wk (wk (wj wn)))))
  · change SV _ _ _ [.val a0, .val a1, .own c5.2, .val c5.1, .junk] _ _ _
    refine sv_pub 2 (xs := c5.2) rfl ?_
    change SV _ _ _ [.val a0, .val a1, .val (D.lst c5.2), .val c5.1, .junk] _ _ _
    exact sv_ret (inj := id) (fun _ => rfl) (ev_callTy cd_tuple (by rfl) B.tuple (by decide +kernel) (el_cons (ev_callB (cd_sortedG C.room) (by rfl) B.sorted (by decide +kernel) (el_cons (vv 2) el_nil)) el_nil))
theorem ok_all_reaches (B : Bn mg) (K_reach_of : Cal P w K mg base 1 "reach_of" ["net", "component"] (spF K mg false 2 (fn2 f_reach_of))) (FA : FunAt K mg "all_reaches" s_all_reaches) : Cal P w K mg base 2 "all_reaches" ["net"] (spF K mg false 1 (fn1 f_all_reaches)) := by
  refine mk_pure (N := ["net", "component"]) (k := 1) FA sc_all_reaches rfl (fun _ _ _ _ _ _ us hl => (by (refine EV.el1_1 (EV.lv1 hl) fun _ q379_ => ?_; obtain rfl := q379_); rfl)) (fun f cdv A outer s H E C ds hn => ?_)
  (refine EV.el1_1 (len1 hn) fun a0 q380_ => ?_; obtain rfl := q380_)
  refine ⟨D, Out.ret, f_all_reaches a0, ?_, out_ret _⟩
  unfold f_all_reaches
  change SV _ _ _ [.val a0, .junk] _ _ _
  exact sv_ret (inj := id) (fun _ => rfl) (ev_lc (own := [(("component" : Str), 1)]) (dec := dec1) (g := gName 1) (Γz := fun z5 => [.val a0, .val z5]) C (ei_range1 (by rfl) B.range (el_cons (ev_callB cd_len (by rfl) B.len PySem.boot_len (el_cons (vv 0) el_nil)) el_nil)) (blkOk_by (by rfl)) (tg_name (by simp)) (fun _ _ _ _ _ => pgn 1 C.nd) (fun z5 _ _ _ _ _ => ets_nil) (fun z5 _ _ _ _ _ => (call C.blk K_reach_of ar2 (el_cons (vv 0) (el_cons (vv 1) el_nil)))))
theorem ok_with_word (B : Bn mg) (FA : FunAt K mg "with_word" s_with_word) : Cal P w K mg base 1 "with_word" ["report", "word"] (spF K mg false 2 (fn2 f_with_word)) := by
  refine mk_pure (N := ["report", "word", "component", "own"]) (k := 0) FA sc_with_word rfl (fun _ _ _ _ _ _ us hl => (by (refine EV.el2_1 (EV.lv2 hl) fun _ _ q381_ => ?_; obtain rfl := q381_); rfl)) (fun f cdv A outer s H E C ds hn => ?_)
  (refine EV.el2_1 (len2 hn) fun a0 a1 q382_ => ?_; obtain rfl := q382_)
  refine ⟨D, Out.ret, f_with_word a0 a1, ?_, out_ret _⟩
  unfold f_with_word
  change SV _ _ _ [.val a0, .val a1, .junk, .junk] _ _ _
  exact sv_ret (inj := id) (fun _ => rfl) (ev_callTy cd_tuple (by rfl) B.tuple (by decide +kernel) (el_cons (ev_lc (own := [(("component" : Str), 2), (("own" : Str), 3)]) (dec := dec2) (g := gTup _ 2 (gCons (gName 2) (gCons (gName 3) gNil))) (Γz := fun z3 => [.val a0, .val a1, .val z3.1, .val z3.2]) C (ei_enum (by rfl) B.enumerate (el_cons (vv 0) el_nil)) (blkOk_by (by rfl)) (tg_pair (by simp) (by simp)) (fun _ _ _ _ _ => pg_tup rfl (pgs_cons (pgn 2 C.nd) (pgs_cons (pgn 3 C.nd) pgs_nil))) (fun z3 _ _ _ _ _ => (ets_one (eb_cmp (od_eq C.blk.room) (vv 3) (vv 1) (nomark _)))) (fun z3 _ _ _ _ _ => (vv 2))) el_nil))
theorem ok_candidates_of (B : Bn mg) (c_QUIET : ∃ t, mg "QUIET" = some (.str "quiet" t)) (K_all_reaches : Cal P w K mg base 2 "all_reaches" ["net"] (spF K mg false 1 (fn1 f_all_reaches))) (K_with_word : Cal P w K mg base 1 "with_word" ["report", "word"] (spF K mg false 2 (fn2 f_with_word))) (FA : FunAt K mg "candidates_of" s_candidates_of) : Cal P w K mg base 3 "candidates_of" ["net", "report"] (spF K mg false 2 (fn2 f_candidates_of)) := by
  (refine EV.el1_1 c_QUIET ?_; try clear c_QUIET; intro _ c_QUIET)
  refine mk_pure (N := ["net", "report", "reaches", "quiet", "one", "other"]) (k := 2) FA sc_candidates_of rfl (fun _ _ _ _ _ _ us hl => (by (refine EV.el2_1 (EV.lv2 hl) fun _ _ q383_ => ?_; obtain rfl := q383_); rfl)) (fun f cdv A outer s H E C ds hn => ?_)
  (refine EV.el2_1 (len2 hn) fun a0 a1 q384_ => ?_; obtain rfl := q384_)
  refine ⟨D, Out.ret, f_candidates_of a0 a1, ?_, out_ret _⟩
  unfold f_candidates_of
  change SV _ _ _ [.val a0, .val a1, .junk, .junk, .junk, .junk] _ _ _
  refine sv_set 2 C.nd (call C K_all_reaches ar1 (el_cons (vv 0) el_nil)) (fun v1 => ?_)
  change SV _ _ _ [.val a0, .val a1, .val v1, .junk, .junk, .junk] _ _ _
  refine sv_set 3 C.nd (call C K_with_word ar2 (el_cons (vv 1) (el_cons (ev_glob (v := .str "quiet") (by rfl) c_QUIET ⟨_, rfl⟩ fun _ => .str _) el_nil))) (fun v5 => ?_)
  change SV _ _ _ [.val a0, .val a1, .val v1, .val v5, .junk, .junk] _ _ _
  exact sv_ret (inj := id) (fun _ => rfl) (ev_callTy cd_tuple (by rfl) B.tuple (by decide +kernel) (el_cons (ev_lc (own := [(("one" : Str), 4)]) (dec := dec1) (g := gName 4) (Γz := fun z15 => [.val a0, .val a1, .val v1, .val v5, .val z15, .junk]) C (ei_range1 (by rfl) B.range (el_cons (ev_callB cd_len (by rfl) B.len PySem.boot_len (el_cons (vv 0) el_nil)) el_nil)) (blkOk_by (by rfl)) (tg_name (by simp)) (fun _ _ _ _ _ => pgn 4 C.nd) (fun z15 _ _ _ _ _ => (ets_one (eb_not (eb_val (ev_callB (cd_any C.blk.calm) (by rfl) B.any (by decide +kernel) (el_cons (ev_lc (own := [(("other" : Str), 5)]) (dec := dec1) (g := gName 5) (Γz := fun z16 => [.val a0, .val a1, .val v1, .val v5, .val z15, .val z16]) C.blk (ei_seq (vv 3)) (blkOk_by (by rfl)) (tg_name (by simp)) (fun _ _ _ _ _ => pgn 5 C.blk.nd) (fun z16 _ _ _ _ _ => ets_nil) (fun z16 _ _ _ _ _ => (ev_cmp (od_in C.blk.blk.room) (vv 4) (ev_ix (vv 2) (vv 5) (fun _ _ => rfl)) (by rfl)))) el_nil)))))) (fun z15 _ _ _ _ _ => (vv 4))) el_nil))
theorem ok_Watch_candidates (B : Bn mg) (NA_Net_own_needs : NoAttr K cNet "own_needs") (NA_Watch_kept : NoAttr K cWatch "kept") (NA_Watch_own_net : NoAttr K cWatch "own_net") (K_candidates_of : Cal P w K mg base 3 "candidates_of" ["net", "report"] (spF K mg false 2 (fn2 f_candidates_of))) (FA : PropF K cWatch "candidates" "Watch.candidates" s_Watch_candidates) : CalPr P w K mg base 4 cWatch "candidates" ["self"] (spF K mg false 1 (fn1 f_Watch_candidates)) := by
  refine mk_prop (N := ["self"]) (k := 3) FA sc_Watch_candidates rfl (fun _ _ _ _ _ _ us hl => (by (refine EV.el1_1 (EV.lv1 hl) fun _ q385_ => ?_; obtain rfl := q385_); rfl)) (fun f cdv A outer s H E C ds hn => ?_)
  (refine EV.el1_1 (len1 hn) fun a0 q386_ => ?_; obtain rfl := q386_)
  refine ⟨D, Out.ret, f_Watch_candidates a0, ?_, out_ret _⟩
  unfold f_Watch_candidates
  change SV _ _ _ [.val a0] _ _ _
  exact sv_ret (inj := id) (fun _ => rfl) (call C K_candidates_of ar2 (el_cons (ev_fldO NA_Net_own_needs (ev_fldO NA_Watch_own_net (vv 0))) (el_cons (ev_fldO NA_Watch_kept (vv 0)) el_nil)))
theorem ok_Watch_changes (B : Bn mg) (NA_Watch_past : NoAttr K cWatch "past") (FA : PropF K cWatch "changes" "Watch.changes" s_Watch_changes) : CalPr P w K mg base 1 cWatch "changes" ["self"] (spF K mg false 1 (fn1 f_Watch_changes)) := by
  refine mk_prop (N := ["self"]) (k := 0) FA sc_Watch_changes rfl (fun _ _ _ _ _ _ us hl => (by (refine EV.el1_1 (EV.lv1 hl) fun _ q387_ => ?_; obtain rfl := q387_); rfl)) (fun f cdv A outer s H E C ds hn => ?_)
  (refine EV.el1_1 (len1 hn) fun a0 q388_ => ?_; obtain rfl := q388_)
  refine ⟨D, Out.ret, f_Watch_changes a0, ?_, out_ret _⟩
  unfold f_Watch_changes
  change SV _ _ _ [.val a0] _ _ _
  exact sv_ret (inj := id) (fun _ => rfl) (ev_callB cd_len (by rfl) B.len PySem.boot_len (el_cons (ev_fldO NA_Watch_past (vv 0)) el_nil))
theorem ok_needed_of (B : Bn mg) (c_ALARM : ∃ t, mg "ALARM" = some (.str "alarm" t)) (K_candidates_of : Cal P w K mg base 3 "candidates_of" ["net", "report"] (spF K mg false 2 (fn2 f_candidates_of))) (K_reach_of : Cal P w K mg base 1 "reach_of" ["net", "component"] (spF K mg false 2 (fn2 f_reach_of))) (K_with_word : Cal P w K mg base 1 "with_word" ["report", "word"] (spF K mg false 2 (fn2 f_with_word))) (FA : FunAt K mg "needed_of" s_needed_of) : Cal P w K mg base 4 "needed_of" ["net", "report"] (spF K mg false 2 (fn2 f_needed_of)) := by
  (refine EV.el1_1 c_ALARM ?_; try clear c_ALARM; intro _ c_ALARM)
  refine mk_pure (N := ["net", "report", "some", "found", "component", "one"]) (k := 3) FA sc_needed_of rfl (fun _ _ _ _ _ _ us hl => (by (refine EV.el2_1 (EV.lv2 hl) fun _ _ q389_ => ?_; obtain rfl := q389_); rfl)) (fun f cdv A outer s H E C ds hn => ?_)
  (refine EV.el2_1 (len2 hn) fun a0 a1 q390_ => ?_; obtain rfl := q390_)
  refine ⟨D, Out.ret, f_needed_of a0 a1, ?_, out_ret _⟩
  unfold f_needed_of
  change SV _ _ _ [.val a0, .val a1, .junk, .junk, .junk, .junk] _ _ _
  refine sv_set 2 C.nd (call C K_candidates_of ar2 (el_cons (vv 0) (el_cons (vv 1) el_nil))) (fun v1 => ?_)
  change SV _ _ _ [.val a0, .val a1, .val v1, .junk, .junk, .junk] _ _ _
  refine sv_setO 3 (ps_o C.nd (eo_lst el_nil)) (fun xs7 => ?_)
  change SV _ _ _ [.val a0, .val a1, .val v1, .own xs7, .junk, .junk] _ _ _
  refine sv_forS (dec := dec1) (g := gName 4) (vs := [4]) (mk := (fun (c13 : List D) => [.val a0, .val a1, .val v1, .own c13, .junk, .junk])) (c0 := xs7) C (ei_seq (call C K_with_word ar2 (el_cons (vv 1) (el_cons (ev_glob (v := .str "alarm") (by rfl) c_ALARM ⟨_, rfl⟩ fun _ => .str _) el_nil)))) (pgn 4 C.nd) (fun _ => tg_name (by simp)) (wk (wk (wk (wk (wj (wj wn)))))) (fun c13 z14 => ?_) (fun c13 => ?_)
  · change SV _ _ _ [.val a0, .val a1, .val v1, .own c13, .val z14, .junk] _ _ _
    refine sv_append 3 (xs := c13) rfl (ev_callTy cd_tuple (by rfl) B.tuple (by decide +kernel) (el_cons (ev_lc (own := [(("one" : Str), 5)]) (dec := dec1) (g := gName 5) (Γz := fun z21 => [.val a0, .val a1, .val v1, .own c13, .val z14, .val z21]) C (ei_seq (call C K_reach_of ar2 (el_cons (vv 0) (el_cons (vv 4) el_nil)))) (blkOk_by (by rfl)) (tg_name (by simp)) (fun _ _ _ _ _ => pgn 5 C.nd) (fun z21 _ _ _ _ _ => (ets_one (eb_cmp (od_in C.blk.room) (vv 5) (vv 2) (by rfl)))) (fun z21 _ _ _ _ _ => (vv 5))) el_nil)) (fun d28 => ?_)
    change SV _ _ _ [.val a0, .val a1, .val v1, .own (c13 ++ [d28]), .val z14, .junk] _ _ _
    exact sv_nil rfl (wk (wk (wk (wk (wj (wj wn))))))
  · change SV _ _ _ [.val a0, .val a1, .val v1, .own c13, .junk, .junk] _ _ _
    refine sv_pub 3 (xs := c13) rfl ?_
    change SV _ _ _ [.val a0, .val a1, .val v1, .val (D.lst c13), .junk, .junk] _ _ _
    exact sv_ret (inj := id) (fun _ => rfl) (vv 3)
theorem ok_is_explained (B : Bn mg) (K_needed_of : Cal P w K mg base 4 "needed_of" ["net", "report"] (spF K mg false 2 (fn2 f_needed_of))) (FA : FunAt K mg "is_explained" s_is_explained) : Cal P w K mg base 5 "is_explained" ["net", "report"] (spF K mg false 2 (fn2 f_is_explained)) := by
  refine mk_pure (N := ["net", "report"]) (k := 4) FA sc_is_explained rfl (fun _ _ _ _ _ _ us hl => (by (refine EV.el2_1 (EV.lv2 hl) fun _ _ q391_ => ?_; obtain rfl := q391_); rfl)) (fun f cdv A outer s H E C ds hn => ?_)
  (refine EV.el2_1 (len2 hn) fun a0 a1 q392_ => ?_; obtain rfl := q392_)
  refine ⟨D, Out.ret, f_is_explained a0 a1, ?_, out_ret _⟩
  unfold f_is_explained
  change SV _ _ _ [.val a0, .val a1] _ _ _
  exact sv_ret (inj := id) (fun _ => rfl) (ev_cmp (od_notIn C.room) (ev_tup el_nil) (call C K_needed_of ar2 (el_cons (vv 0) (el_cons (vv 1) el_nil))) (by rfl))
theorem ok_Watch_explained (B : Bn mg) (NA_Net_own_needs : NoAttr K cNet "own_needs") (NA_Watch_kept : NoAttr K cWatch "kept") (NA_Watch_own_net : NoAttr K cWatch "own_net") (K_is_explained : Cal P w K mg base 5 "is_explained" ["net", "report"] (spF K mg false 2 (fn2 f_is_explained))) (FA : PropF K cWatch "explained" "Watch.explained" s_Watch_explained) : CalPr P w K mg base 6 cWatch "explained" ["self"] (spF K mg false 1 (fn1 f_Watch_explained)) := by
  refine mk_prop (N := ["self"]) (k := 5) FA sc_Watch_explained rfl (fun _ _ _ _ _ _ us hl => (by (refine EV.el1_1 (EV.lv1 hl) fun _ q393_ => ?_; obtain rfl := q393_); rfl)) (fun f cdv A outer s H E C ds hn => ?_)
  (refine EV.el1_1 (len1 hn) fun a0 q394_ => ?_; obtain rfl := q394_)
  refine ⟨D, Out.ret, f_Watch_explained a0, ?_, out_ret _⟩
  unfold f_Watch_explained
  change SV _ _ _ [.val a0] _ _ _
  exact sv_ret (inj := id) (fun _ => rfl) (call C K_is_explained ar2 (el_cons (ev_fldO NA_Net_own_needs (ev_fldO NA_Watch_own_net (vv 0))) (el_cons (ev_fldO NA_Watch_kept (vv 0)) el_nil)))
theorem ok_need_component (B : Bn mg) (E_ComponentError : ErrC K mg "ComponentError") (K_is_between : Cal P w K mg base 1 "is_between" ["thing", "low", "high"] (spF K mg false 3 (fn3 f_is_between))) (FA : FunAt K mg "need_component" s_need_component) : Cal P w K mg base 2 "need_component" ["net", "thing"] (spF K mg false 2 (fn2 f_need_component)) := by
  refine mk_pure (N := ["net", "thing"]) (k := 1) FA sc_need_component rfl (fun _ _ _ _ _ _ us hl => (by (refine EV.el2_1 (EV.lv2 hl) fun _ _ q395_ => ?_; obtain rfl := q395_); rfl)) (fun f cdv A outer s H E C ds hn => ?_)
  (refine EV.el2_1 (len2 hn) fun a0 a1 q396_ => ?_; obtain rfl := q396_)
  refine ⟨Unit, fun _ => Out.fall [.junk, .junk], g_need_component a0 a1, ?_, rfl⟩
  unfold g_need_component
  change SV _ _ _ [.val a0, .val a1] _ _ _
  refine sv_ifR (eb_not (eb_val (call C K_is_between ar3 (el_cons (vv 1) (el_cons ev_int (el_cons (ev_op od_sub (ev_callB cd_len (by rfl) B.len PySem.boot_len (el_cons (vv 0) el_nil)) ev_int) el_nil)))))) ?_ (by repeat first | exact nf_bad | exact nf_raise | exact nf_raiseF | exact nf_ret (fun _ => rfl) | refine nf_bind (fun _ => ?_) | refine nf_unp2 (fun _ _ => ?_) | refine nf_ite ?_ ?_) ?_
  · exact sv_raise C E_ComponentError
  · exact sv_nil rfl (wj (wj wn))
theorem ok_Watch_getitem (B : Bn mg) (NA_Net_own_needs : NoAttr K cNet "own_needs") (NA_Watch_kept : NoAttr K cWatch "kept") (NA_Watch_own_net : NoAttr K cWatch "own_net") (K_need_component : Cal P w K mg base 2 "need_component" ["net", "thing"] (spF K mg false 2 (fn2 f_need_component))) (FA : MethF K cWatch "__getitem__" "Watch.__getitem__" s_Watch_getitem) : CalM P w K mg base 3 cWatch "__getitem__" ["self", "component"] (spF K mg false 2 (fn2 f_Watch_getitem)) := by
  refine mk_meth (N := ["self", "component"]) (k := 2) FA sc_Watch_getitem rfl (fun _ _ _ _ _ _ us hl => (by (refine EV.el2_1 (EV.lv2 hl) fun _ _ q397_ => ?_; obtain rfl := q397_); rfl)) (fun f cdv A outer s H E C ds hn => ?_)
  (refine EV.el2_1 (len2 hn) fun a0 a1 q398_ => ?_; obtain rfl := q398_)
  refine ⟨D, Out.ret, f_Watch_getitem a0 a1, ?_, out_ret _⟩
  unfold f_Watch_getitem
  change SV _ _ _ [.val a0, .val a1] _ _ _
  refine sv_expr (call C K_need_component ar2 (el_cons (ev_fldO NA_Net_own_needs (ev_fldO NA_Watch_own_net (vv 0))) (el_cons (vv 1) el_nil))) ?_
  change SV _ _ _ [.val a0, .val a1] _ _ _
  exact sv_ret (inj := id) (fun _ => rfl) (ev_ix (ev_fldO NA_Watch_kept (vv 0)) (vv 1) (fun _ _ => rfl))
theorem ok_watched_of (B : Bn mg) (c_UNSEEN : ∃ t, mg "UNSEEN" = some (.str "unseen" t)) (FA : FunAt K mg "watched_of" s_watched_of) : Cal P w K mg base 1 "watched_of" ["report"] (spF K mg false 1 (fn1 f_watched_of)) := by
  (refine EV.el1_1 c_UNSEEN ?_; try clear c_UNSEEN; intro _ c_UNSEEN)
  refine mk_pure (N := ["report", "word"]) (k := 0) FA sc_watched_of rfl (fun _ _ _ _ _ _ us hl => (by (refine EV.el1_1 (EV.lv1 hl) fun _ q399_ => ?_; obtain rfl := q399_); rfl)) (fun f cdv A outer s H E C ds hn => ?_)
  (refine EV.el1_1 (len1 hn) fun a0 q400_ => ?_; obtain rfl := q400_)
  refine ⟨D, Out.ret, f_watched_of a0, ?_, out_ret _⟩
  unfold f_watched_of
  change SV _ _ _ [.val a0, .junk] _ _ _
  exact sv_ret (inj := id) (fun _ => rfl) (ev_lc (own := [(("word" : Str), 1)]) (dec := dec1) (g := gName 1) (Γz := fun z1 => [.val a0, .val z1]) C (ei_seq (vv 0)) (blkOk_by (by rfl)) (tg_name (by simp)) (fun _ _ _ _ _ => pgn 1 C.nd) (fun z1 _ _ _ _ _ => (ets_one (eb_cmp (od_ne C.blk.room) (vv 1) (ev_glob (v := .str "unseen") (by rfl) c_UNSEEN ⟨_, rfl⟩ fun _ => .str _) (nomark _)))) (fun z1 _ _ _ _ _ => (vv 1)))
theorem ok_Watch_len (B : Bn mg) (NA_Watch_kept : NoAttr K cWatch "kept") (K_watched_of : Cal P w K mg base 1 "watched_of" ["report"] (spF K mg false 1 (fn1 f_watched_of))) (FA : MethF K cWatch "__len__" "Watch.__len__" s_Watch_len) : CalM P w K mg base 2 cWatch "__len__" ["self"] (spF K mg false 1 (fn1 f_Watch_len)) := by
  refine mk_meth (N := ["self"]) (k := 1) FA sc_Watch_len rfl (fun _ _ _ _ _ _ us hl => (by (refine EV.el1_1 (EV.lv1 hl) fun _ q401_ => ?_; obtain rfl := q401_); rfl)) (fun f cdv A outer s H E C ds hn => ?_)
  (refine EV.el1_1 (len1 hn) fun a0 q402_ => ?_; obtain rfl := q402_)
  refine ⟨D, Out.ret, f_Watch_len a0, ?_, out_ret _⟩
  unfold f_Watch_len
  change SV _ _ _ [.val a0] _ _ _
  exact sv_ret (inj := id) (fun _ => rfl) (ev_callB cd_len (by rfl) B.len PySem.boot_len (el_cons (call C K_watched_of ar1 (el_cons (ev_fldO NA_Watch_kept (vv 0)) el_nil)) el_nil))
theorem ok_Watch_report (B : Bn mg) (NA_Watch_kept : NoAttr K cWatch "kept") (FA : PropF K cWatch "report" "Watch.report" s_Watch_report) : CalPr P w K mg base 1 cWatch "report" ["self"] (spF K mg false 1 (fn1 f_Watch_report)) := by
  refine mk_prop (N := ["self"]) (k := 0) FA sc_Watch_report rfl (fun _ _ _ _ _ _ us hl => (by (refine EV.el1_1 (EV.lv1 hl) fun _ q403_ => ?_; obtain rfl := q403_); rfl)) (fun f cdv A outer s H E C ds hn => ?_)
  (refine EV.el1_1 (len1 hn) fun a0 q404_ => ?_; obtain rfl := q404_)
  refine ⟨D, Out.ret, f_Watch_report a0, ?_, out_ret _⟩
  unfold f_Watch_report
  change SV _ _ _ [.val a0] _ _ _
  exact sv_ret (inj := id) (fun _ => rfl) (ev_fldO NA_Watch_kept (vv 0))
theorem ok_Watch_repr (B : Bn mg) (NA_Net_own_needs : NoAttr K cNet "own_needs") (NA_Watch_kept : NoAttr K cWatch "kept") (NA_Watch_own_net : NoAttr K cWatch "own_net") (CN_Watch_NAME : ConC K cWatch "NAME" "Watch") (K_candidates_of : Cal P w K mg base 3 "candidates_of" ["net", "report"] (spF K mg false 2 (fn2 f_candidates_of))) (K_watched_of : Cal P w K mg base 1 "watched_of" ["report"] (spF K mg false 1 (fn1 f_watched_of))) (FA : MethF K cWatch "__repr__" "Watch.__repr__" s_Watch_repr) : CalM P w K mg base 4 cWatch "__repr__" ["self"] (spF K mg false 1 (fn1 f_Watch_repr)) := by
  refine mk_meth (N := ["self", "many"]) (k := 3) FA sc_Watch_repr rfl (fun _ _ _ _ _ _ us hl => (by (refine EV.el1_1 (EV.lv1 hl) fun _ q405_ => ?_; obtain rfl := q405_); rfl)) (fun f cdv A outer s H E C ds hn => ?_)
  (refine EV.el1_1 (len1 hn) fun a0 q406_ => ?_; obtain rfl := q406_)
  refine ⟨D, Out.ret, f_Watch_repr a0, ?_, out_ret _⟩
  unfold f_Watch_repr
  change SV _ _ _ [.val a0, .junk] _ _ _
  refine sv_set 1 C.nd (ev_callB cd_len (by rfl) B.len PySem.boot_len (el_cons (call C K_candidates_of ar2 (el_cons (ev_fldO NA_Net_own_needs (ev_fldO NA_Watch_own_net (vv 0))) (el_cons (ev_fldO NA_Watch_kept (vv 0)) el_nil))) el_nil)) (fun v1 => ?_)
  change SV _ _ _ [.val a0, .val v1] _ _ _
  exact sv_ret (inj := id) (fun _ => rfl) (ev_fstr (.cons (ev_fmt (ev_conO CN_Watch_NAME (vv 0))) (.cons ev_str (.cons (ev_fmt (ev_callB cd_len (by rfl) B.len PySem.boot_len (el_cons (call C K_watched_of ar1 (el_cons (ev_fldO NA_Watch_kept (vv 0)) el_nil)) el_nil))) (.cons ev_str (.cons (ev_fmt (vv 1)) (.cons ev_str .nil)))))))
theorem ok_law_told (B : Bn mg) (K_Net_len : CalM P w K mg base 1 cNet "__len__" ["self"] (spF K mg false 1 (fn1 f_Net_len))) (K_Net_needs : CalPr P w K mg base 1 cNet "needs" ["self"] (spF K mg false 1 (fn1 f_Net_needs))) (K_Watch_candidates : CalPr P w K mg base 4 cWatch "candidates" ["self"] (spF K mg false 1 (fn1 f_Watch_candidates))) (K_Watch_changes : CalPr P w K mg base 1 cWatch "changes" ["self"] (spF K mg false 1 (fn1 f_Watch_changes))) (K_Watch_explained : CalPr P w K mg base 6 cWatch "explained" ["self"] (spF K mg false 1 (fn1 f_Watch_explained))) (K_Watch_getitem : CalM P w K mg base 3 cWatch "__getitem__" ["self", "component"] (spF K mg false 2 (fn2 f_Watch_getitem))) (K_Watch_len : CalM P w K mg base 2 cWatch "__len__" ["self"] (spF K mg false 1 (fn1 f_Watch_len))) (K_Watch_net : CalPr P w K mg base 1 cWatch "net" ["self"] (spF K mg false 1 (fn1 f_Watch_net))) (K_Watch_report : CalPr P w K mg base 1 cWatch "report" ["self"] (spF K mg false 1 (fn1 f_Watch_report))) (K_Watch_repr : CalM P w K mg base 4 cWatch "__repr__" ["self"] (spF K mg false 1 (fn1 f_Watch_repr))) (FA : FunAt K mg "_law_told" s_law_told) : Cal P w K mg base 33 "_law_told" ["_law_watch"] (spF K mg false 1 (fn1 f_law_told)) := by
  refine mk_pure (N := ["_law_watch", "_law_words", "_law_row", "_law_one"]) (k := 32) FA sc_law_told rfl (fun _ _ _ _ _ _ us hl => (by (refine EV.el1_1 (EV.lv1 hl) fun _ q407_ => ?_; obtain rfl := q407_); rfl)) (fun f cdv A outer s H E C ds hn => ?_)
  (refine EV.el1_1 (len1 hn) fun a0 q408_ => ?_; obtain rfl := q408_)
  refine ⟨D, Out.ret, f_law_told a0, ?_, out_ret _⟩
  unfold f_law_told
  change SV _ _ _ [.val a0, .junk, .junk, .junk] _ _ _
  refine sv_set 1 C.nd (ev_callTy cd_tuple (by rfl) B.tuple (by decide +kernel) (el_cons (ev_lc (own := [(("_law_one" : Str), 3)]) (dec := dec1) (g := gName 3) (Γz := fun z6 => [.val a0, .junk, .junk, .val z6]) C (ei_range1 (by rfl) B.range (el_cons (ev_lenO C K_Net_len ar1 (ev_propC C K_Watch_net ar1 (vv 0)) (by rfl) B.len) el_nil)) (blkOk_by (by rfl)) (tg_name (by simp)) (fun _ _ _ _ _ => pgn 3 C.nd) (fun z6 _ _ _ _ _ => ets_nil) (fun z6 _ _ _ _ _ => (ev_subO C.blk K_Watch_getitem ar2 (vv 0) (vv 3)))) el_nil)) (fun v1 => ?_)
  change SV _ _ _ [.val a0, .val v1, .junk, .junk] _ _ _
  refine sv_set 2 C.nd (ev_tup (el_cons (ev_propC C K_Net_needs ar1 (ev_propC C K_Watch_net ar1 (vv 0))) (el_cons (ev_propC C K_Watch_report ar1 (vv 0)) (el_cons (ev_propC C K_Watch_candidates ar1 (vv 0)) (el_cons (ev_propC C K_Watch_explained ar1 (vv 0)) (el_cons (ev_propC C K_Watch_changes ar1 (vv 0)) (el_cons (ev_lenO C K_Watch_len ar1 (vv 0) (by rfl) B.len) el_nil))))))) (fun v13 => ?_)
  change SV _ _ _ [.val a0, .val v1, .val v13, .junk] _ _ _
  exact sv_ret (inj := id) (fun _ => rfl) (ev_op od_add (vv 2) (ev_tup (el_cons (ev_reprO C K_Watch_repr ar1 (vv 0) (by rfl) B.repr) (el_cons (vv 1) el_nil))))
theorem ok_law {f c T : Addr} {fd : FuncData} (B : Bn mg) (I_Careful : IsCl K mg "Careful" tab_Careful) (I_Small : IsCl K mg "Small" tab_Small) (EQ_Net : EqC K cNet) (EQR_Net : EqR K cNet) (S_law_said : SaidC8 P w K mg base 31 "_law_said") (K_Net_eq : CalM P w K mg base 1 cNet "__eq__" ["self", "other"] (spF K mg false 2 (fn2 f_Net_eq))) (K_Watch_init : MkD2 P w K mg base 4 "Watch" cWatch ["own_net", "kept", "past"] (fnL2 f_Watch_init) "report") (K_Watch_net : CalPr P w K mg base 1 cWatch "net" ["self"] (spF K mg false 1 (fn1 f_Watch_net))) (K_Watch_trying : CalM P w K mg base 5 cWatch "trying" ["self"] (spF K mg false 1 (fn1 f_Watch_trying))) (K_law_cell : Cal P w K mg base 1 "_law_cell" ["_law_script", "_law_k"] (spS K mg 1 (fun ns => fn1 (f_law_cell ns)))) (K_law_due : Cal P w K mg base 4 "_law_due" ["_law_name", "_law_net_here", "_law_sight", "_law_changes"] (spF K mg false 4 (fn4 f_law_due))) (K_law_is_same : Cal P w K mg base 6 "_law_is_same" ["_law_actual", "_law_wanted"] (spF K mg false 2 (fn2 (f_law_is_same 5)))) (K_law_made : Cal P w K mg base 6 "_law_made" ["_law_rows"] (spF K mg false 1 (fn1 f_law_made))) (K_law_net : Cal P w K mg base 2 "_law_net" ["_law_cell_here", "_law_top"] (spF K mg false 2 (fn2 f_law_net))) (K_law_no_nets : Cal P w K mg base 33 "_law_no_nets" ["_law_made_here"] (spF K mg false 1 (fn1 f_law_no_nets))) (K_law_no_reports : Cal P w K mg base 1 "_law_no_reports" ["_law_sight"] (spF K mg false 1 (fn1 f_law_no_reports))) (K_law_report : Cal P w K mg base 3 "_law_report" ["_law_cell_here", "_law_net_here"] (spF K mg false 2 (fn2 f_law_report))) (K_law_told : Cal P w K mg base 33 "_law_told" ["_law_watch"] (spF K mg false 1 (fn1 f_law_told))) (FU : Fun K "law" "law" s_law f fd) (l1 : fd.code = .ref c) (l2 : LamX.TabB base mg c T) (l3 : NeedT K T) (l4 : tauK K T = ("law" ++ ".<locals>.") ++ "<lambda>") : FnG P w K mg base 34 f fd ["_law_script"] (spS K mg 0 (fun ns => fn0 (f_law ns))) := by
  refine fn_scrL (N := ["_law_script", "_law_k", "_law_cell_here", "_law_lap", "_law_rows", "_law_made_here", "_law_none", "_law_turn", "_law_sight", "_law_watch", "_law_thing", "_law_words"]) (n := 0) FU l1 l2 l3 l4 sc_law rfl (fun cdv A outer s H E C LA ns ds hn => ?_)
  obtain rfl := len0 hn
  refine ⟨D, Out.ret, f_law ns, ?_, out_ret _⟩
  unfold f_law
  change SV _ _ _ [.scr ns, .junk, .junk, .junk, .junk, .junk, .junk, .junk, .junk, .junk, .junk, .junk] _ _ _
  refine sv_forL (dec := dec1) (g := gName 1) (vs := [1]) (mk := (fun (c3 : Option D × Option D) => [.scr ns, .junk, .junk, .junk, .junk, .junk, .junk, .junk, optS c3.1, optS c3.2, .junk, .junk])) (c0 := (none, none)) (inj := id) C (ei_range1 (by rfl) B.range (el_cons ev_int el_nil)) (pgn 1 C.nd) (fun _ => tg_name (by simp)) (wk (wj (wj (wj (wj (wj (wj (wj (wk (wk (wj (wj wn)))))))))))) (fun _ => rfl) (fun c3 z4 => ?_) (fun c3 => ?_)
  · change SV _ _ _ [.scr ns, .val z4, .junk, .junk, .junk, .junk, .junk, .junk, optS c3.1, optS c3.2, .junk, .junk] _ _ _
    refine sv_set 2 C.nd (callS 0 C K_law_cell (fun _ => ar1) (el_cons (vv 1) el_nil)) (fun v6 => ?_)
    change SV _ _ _ [.scr ns, .val z4, .val v6, .junk, .junk, .junk, .junk, .junk, optS c3.1, optS c3.2, .junk, .junk] _ _ _
    refine sv_forL (dec := dec1) (g := gName 3) (vs := [3]) (mk := (fun (c12 : Option D × Option D) => [.scr ns, .val z4, .val v6, .junk, .junk, .junk, .junk, .junk, optS c12.1, optS c12.2, .junk, .junk])) (c0 := (c3.1, c3.2)) (inj := Lp.ret) C (ei_range1 (by rfl) B.range (el_cons ev_int el_nil)) (pgn 3 C.nd) (fun _ => tg_name (by simp)) (wk (wk (wk (wj (wj (wj (wj (wj (wk (wk (wj (wj wn)))))))))))) (fun _ => rfl) (fun c12 z13 => ?_) (fun c12 => ?_)
    · change SV _ _ _ [.scr ns, .val z4, .val v6, .val z13, .junk, .junk, .junk, .junk, optS c12.1, optS c12.2, .junk, .junk] _ _ _
      refine sv_set 4 C.nd (call C K_law_net ar2 (el_cons (ev_op od_add (vv 2) (ev_op od_mul ev_int (vv 3))) (el_cons ev_int el_nil))) (fun v15 => ?_)
      change SV _ _ _ [.scr ns, .val z4, .val v6, .val z13, .val v15, .junk, .junk, .junk, optS c12.1, optS c12.2, .junk, .junk] _ _ _
      refine sv_unp 5 6 C (ev_tup (el_cons (call C K_law_made ar1 (el_cons (vv 4) el_nil)) (el_cons (ev_op od_mulG (ev_tup (el_cons ev_str el_nil)) (ev_callB cd_len (by rfl) B.len PySem.boot_len (el_cons (vv 4) el_nil))) el_nil))) (fun v25 v26 => ?_) (pg_tup rfl (pgs_cons (pgn 5 C.nd) (pgs_cons (pgn 6 C.nd) pgs_nil)))
      change SV _ _ _ [.scr ns, .val z4, .val v6, .val z13, .val v15, .val v25, .val v26, .junk, optS c12.1, optS c12.2, .junk, .junk] _ _ _
      refine sv_ifR (eb_not (eb_val (call C K_law_is_same ar2 (el_cons (call C K_law_told ar1 (el_cons (newD1 C (MkD2.one K_Watch_init) arL2 (el_cons (vv 5) el_nil)) el_nil)) (el_cons (call C K_law_due ar4 (el_cons ev_str (el_cons (vv 4) (el_cons (vv 6) (el_cons ev_int el_nil))))) el_nil))))) ?_ (by repeat first | exact nf_bad | exact nf_raise | exact nf_raiseF | exact nf_ret (fun _ => rfl) | refine nf_bind (fun _ => ?_) | refine nf_unp2 (fun _ _ => ?_) | refine nf_ite ?_ ?_) ?_
      · exact sv_ret (inj := Lp.ret) (fun _ => rfl) ev_bl
      · refine sv_ifR (eb_not (eb_val (call C K_law_is_same ar2 (el_cons (call C K_law_told ar1 (el_cons (newD2 C K_Watch_init arL2 (el_cons (vv 5) (el_cons ev_non el_nil))) el_nil)) (el_cons (call C K_law_due ar4 (el_cons ev_str (el_cons (vv 4) (el_cons (vv 6) (el_cons ev_int el_nil))))) el_nil))))) ?_ (by repeat first | exact nf_bad | exact nf_raise | exact nf_raiseF | exact nf_ret (fun _ => rfl) | refine nf_bind (fun _ => ?_) | refine nf_unp2 (fun _ _ => ?_) | refine nf_ite ?_ ?_) ?_
        · exact sv_ret (inj := Lp.ret) (fun _ => rfl) ev_bl
        · refine sv_forL (dec := dec1) (g := gName 7) (vs := [7]) (mk := (fun (c92 : Option D × Option D) => [.scr ns, .val z4, .val v6, .val z13, .val v15, .val v25, .val v26, .junk, optS c92.1, optS c92.2, .junk, .junk])) (c0 := (c12.1, c12.2)) (inj := Lp.ret) C (ei_range1 (by rfl) B.range (el_cons ev_int el_nil)) (pgn 7 C.nd) (fun _ => tg_name (by simp)) (wk (wk (wk (wk (wk (wk (wk (wj (wk (wk (wj (wj wn)))))))))))) (fun _ => rfl) (fun c92 z93 => ?_) (fun c92 => ?_)
          · change SV _ _ _ [.scr ns, .val z4, .val v6, .val z13, .val v15, .val v25, .val v26, .val z93, optS c92.1, optS c92.2, .junk, .junk] _ _ _
            refine sv_set 8 C.nd (call C K_law_report ar2 (el_cons (ev_op od_add (ev_op od_fdiv (vv 2) ev_int) (ev_op od_mul ev_int (vv 7))) (el_cons (vv 4) el_nil))) (fun v95 => ?_)
            change SV _ _ _ [.scr ns, .val z4, .val v6, .val z13, .val v15, .val v25, .val v26, .val z93, .val v95, optS c92.2, .junk, .junk] _ _ _
            refine sv_set 9 C.nd (ev_ifExp (eb_cmp (od_eq C.room) (ev_op od_mod (vv 7) ev_int) ev_int (nomark _)) (newD2 C K_Watch_init arL2 (el_cons (vv 5) (el_cons (vv 8) el_nil))) (newDK C K_Watch_init (vv 5) (vv 8))) (fun v107 => ?_)
            change SV _ _ _ [.scr ns, .val z4, .val v6, .val z13, .val v15, .val v25, .val v26, .val z93, .val v95, .val v107, .junk, .junk] _ _ _
            refine sv_ifR (eb_not (eb_val (call C K_law_is_same ar2 (el_cons (call C K_law_told ar1 (el_cons (vv 9) el_nil)) (el_cons (call C K_law_due ar4 (el_cons ev_str (el_cons (vv 4) (el_cons (vv 8) (el_cons ev_int el_nil))))) el_nil))))) ?_ (by repeat first | exact nf_bad | exact nf_raise | exact nf_raiseF | exact nf_ret (fun _ => rfl) | refine nf_bind (fun _ => ?_) | refine nf_unp2 (fun _ _ => ?_) | refine nf_ite ?_ ?_) ?_
            · exact sv_ret (inj := Lp.ret) (fun _ => rfl) ev_bl
            · refine sv_ifR (eb_bool (ew_or (eb_pc (pc_neO C K_Net_eq EQ_Net ar2 (ev_propC C K_Watch_net ar1 (vv 9)) (vv 5)) (nomark _)) (ew_or (eb_val (ev_isC (vv 9) I_Careful (by rfl) B.isinstance (by rfl))) (ew_or1 (eb_val (ev_isC (vv 9) I_Small (by rfl) B.isinstance (by rfl))))))) ?_ (by repeat first | exact nf_bad | exact nf_raise | exact nf_raiseF | exact nf_ret (fun _ => rfl) | refine nf_bind (fun _ => ?_) | refine nf_unp2 (fun _ _ => ?_) | refine nf_ite ?_ ?_) ?_
              · exact sv_ret (inj := Lp.ret) (fun _ => rfl) ev_bl
              · exact sv_nil rfl (wk (wk (wk (wk (wk (wk (wk (wj (wk (wk (wj (wj wn))))))))))))
          · change SV _ _ _ [.scr ns, .val z4, .val v6, .val z13, .val v15, .val v25, .val v26, .junk, optS c92.1, optS c92.2, .junk, .junk] _ _ _
            refine sv_opt 9 (c := c92.2) rfl (fun v148 => ?_)
            change SV _ _ _ [.scr ns, .val z4, .val v6, .val z13, .val v15, .val v25, .val v26, .junk, optS c92.1, .val v148, .junk, .junk] _ _ _
            refine sv_ifR (eb_cmp od_isN (ev_methO0 C K_Watch_trying ar1 (vv 9)) ev_non (nomark _)) ?_ (by repeat first | exact nf_bad | exact nf_raise | exact nf_raiseF | exact nf_ret (fun _ => rfl) | refine nf_bind (fun _ => ?_) | refine nf_unp2 (fun _ _ => ?_) | refine nf_ite ?_ ?_) ?_
            · exact sv_ret (inj := Lp.ret) (fun _ => rfl) ev_bl
            · refine sv_opt 8 (c := c92.1) rfl (fun v155 => ?_)
              change SV _ _ _ [.scr ns, .val z4, .val v6, .val z13, .val v15, .val v25, .val v26, .junk, .val v155, .val v148, .junk, .junk] _ _ _
              refine sv_forL (dec := dec1) (g := gName 10) (vs := [10]) (mk := (fun (c169 : Unit) => [.scr ns, .val z4, .val v6, .val z13, .val v15, .val v25, .val v26, .junk, .val v155, .val v148, .junk, .junk])) (c0 := ()) (inj := Lp.ret) C (ei_seq (ev_op od_add (call C K_law_no_reports ar1 (el_cons (vv 8) el_nil)) (ev_lst (el_cons (vv 9) (el_cons (ev_tup (el_cons (vv 9) el_nil)) (el_cons (vv 5) el_nil)))))) (pgn 10 C.nd) (fun _ => tg_name (by simp)) (wk (wk (wk (wk (wk (wk (wk (wj (wk (wk (wj (wj wn)))))))))))) (fun _ => rfl) (fun c169 z170 => ?_) (fun c169 => ?_)
              · change SV _ _ _ [.scr ns, .val z4, .val v6, .val z13, .val v15, .val v25, .val v26, .junk, .val v155, .val v148, .val z170, .junk] _ _ _
                refine sv_ifR (eb_cmp (od_ne C.room) (ev_saidC8 C S_law_said LA (fun _ _ _ _ _ _ _ Cl => (newD2 Cl K_Watch_init arL2 (el_cons (vv 5) (el_cons (vv 10) el_nil))))) ev_str (nomark _)) ?_ (by repeat first | exact nf_bad | exact nf_raise | exact nf_raiseF | exact nf_ret (fun _ => rfl) | refine nf_bind (fun _ => ?_) | refine nf_unp2 (fun _ _ => ?_) | refine nf_ite ?_ ?_) ?_
                · exact sv_ret (inj := Lp.ret) (fun _ => rfl) ev_bl
                · exact sv_nil rfl (wk (wk (wk (wk (wk (wk (wk (wj (wk (wk (wj (wj wn))))))))))))
              · change SV _ _ _ [.scr ns, .val z4, .val v6, .val z13, .val v15, .val v25, .val v26, .junk, .val v155, .val v148, .junk, .junk] _ _ _
                refine sv_forL (dec := dec1) (g := gName 10) (vs := [10]) (mk := (fun (c193 : Unit) => [.scr ns, .val z4, .val v6, .val z13, .val v15, .val v25, .val v26, .junk, .val v155, .val v148, .junk, .junk])) (c0 := ()) (inj := Lp.ret) C (ei_seq (ev_op od_add (call C K_law_no_nets ar1 (el_cons (vv 5) el_nil)) (ev_lst (el_cons (vv 9) (el_cons (ev_tup (el_cons (vv 9) el_nil)) el_nil))))) (pgn 10 C.nd) (fun _ => tg_name (by simp)) (wk (wk (wk (wk (wk (wk (wk (wj (wk (wk (wj (wj wn)))))))))))) (fun _ => rfl) (fun c193 z194 => ?_) (fun c193 => ?_)
                · change SV _ _ _ [.scr ns, .val z4, .val v6, .val z13, .val v15, .val v25, .val v26, .junk, .val v155, .val v148, .val z194, .junk] _ _ _
                  refine sv_setO 11 (ps_o C.nd (eo_lst (el_cons (ev_saidC8 C S_law_said LA (fun _ _ _ _ _ _ _ Cl => (newD2 Cl K_Watch_init arL2 (el_cons (vv 10) (el_cons (vv 8) el_nil))))) el_nil))) (fun xs196 => ?_)
                  change SV _ _ _ [.scr ns, .val z4, .val v6, .val z13, .val v15, .val v25, .val v26, .junk, .val v155, .val v148, .val z194, .own xs196] _ _ _
                  refine sv_append 11 (xs := xs196) rfl (ev_saidC8 C S_law_said LA (fun _ _ _ _ _ _ _ Cl => (newD2 Cl K_Watch_init arL2 (el_cons (vv 10) (el_cons ev_int el_nil))))) (fun d211 => ?_)
                  change SV _ _ _ [.scr ns, .val z4, .val v6, .val z13, .val v15, .val v25, .val v26, .junk, .val v155, .val v148, .val z194, .own (xs196 ++ [d211])] _ _ _
                  refine sv_append 11 (xs := (xs196 ++ [d211])) rfl (ev_saidC8 C S_law_said LA (fun _ _ _ _ _ _ _ Cl => (newD1 Cl (MkD2.one K_Watch_init) arL2 (el_cons (vv 10) el_nil)))) (fun d216 => ?_)
                  change SV _ _ _ [.scr ns, .val z4, .val v6, .val z13, .val v15, .val v25, .val v26, .junk, .val v155, .val v148, .val z194, .own ((xs196 ++ [d211]) ++ [d216])] _ _ _
                  refine sv_ifR (peekB [.scr ns, .val z4, .val v6, .val z13, .val v15, .val v25, .val v26, .junk, .val v155, .val v148, .val z194, .val (D.lst ((xs196 ++ [d211]) ++ [d216]))] 11 (xs := ((xs196 ++ [d211]) ++ [d216])) rfl rfl (eb_cmp (od_ne C.room) (vv 11) (ev_op od_mulL (ev_lst (el_cons ev_str el_nil)) ev_int) (nomark _))) ?_ (by repeat first | exact nf_bad | exact nf_raise | exact nf_raiseF | exact nf_ret (fun _ => rfl) | refine nf_bind (fun _ => ?_) | refine nf_unp2 (fun _ _ => ?_) | refine nf_ite ?_ ?_) ?_
                  · exact sv_ret (inj := Lp.ret) (fun _ => rfl) ev_bl
                  · exact sv_nil rfl (wk (wk (wk (wk (wk (wk (wk (wj (wk (wk (wj (wj wn))))))))))))
                · change SV _ _ _ [.scr ns, .val z4, .val v6, .val z13, .val v15, .val v25, .val v26, .junk, .val v155, .val v148, .junk, .junk] _ _ _
                  exact sv_nil rfl (wk (wk (wk (wj (wj (wj (wj (wj (wk (wk (wj (wj wn))))))))))))
    · change SV _ _ _ [.scr ns, .val z4, .val v6, .junk, .junk, .junk, .junk, .junk, optS c12.1, optS c12.2, .junk, .junk] _ _ _
      exact sv_nil rfl (wk (wj (wj (wj (wj (wj (wj (wj (wk (wk (wj (wj wn))))))))))))
  · change SV _ _ _ [.scr ns, .junk, .junk, .junk, .junk, .junk, .junk, .junk, optS c3.1, optS c3.2, .junk, .junk] _ _ _
    exact sv_ret (inj := id) (fun _ => rfl) ev_bl
end
section
variable {P : Program} {w : World} {K : PySem.W.Frag} {mg : Str → Option Value} {base : Heap}
theorem end_law {f : Addr} {fd : FuncData} (B : Bn mg) (c_ALARM : ∃ t, mg "ALARM" = some (.str "alarm" t)) (c_MOST_COMPONENTS : ∃ t, mg "MOST_COMPONENTS" = some (.int 8 t)) (c_QUIET : ∃ t, mg "QUIET" = some (.str "quiet" t)) (c_UNSEEN : ∃ t, mg "UNSEEN" = some (.str "unseen" t)) (c_WORDS : CT K mg "WORDS" d_WORDS) (A_Net_eq : MethF K cNet "__eq__" "Net.__eq__" s_Net_eq) (A_is_word : FunAt K mg "is_word" s_is_word) (A_is_report : FunAt K mg "is_report" s_is_report) (A_need_start : FunAt K mg "need_start" s_need_start) (A_Watch_net : PropF K cWatch "net" "Watch.net" s_Watch_net) (A_Watch_trying : MethF K cWatch "trying" "Watch.trying" s_Watch_trying) (A_law_cell : FunAt K mg "_law_cell" s_law_cell) (A_law_reach : FunAt K mg "_law_reach" s_law_reach) (A_law_candidates : FunAt K mg "_law_candidates" s_law_candidates) (A_law_clash : FunAt K mg "_law_clash" s_law_clash) (A_law_due : FunAt K mg "_law_due" s_law_due) (A_law_is_same : FunAt K mg "_law_is_same" s_law_is_same) (A_is_between : FunAt K mg "is_between" s_is_between) (A_is_rising : FunAt K mg "is_rising" s_is_rising) (A_is_net : FunAt K mg "is_net" s_is_net) (A_law_made : FunAt K mg "_law_made" s_law_made) (A_law_draws : FunAt K mg "_law_draws" s_law_draws) (A_law_net : FunAt K mg "_law_net" s_law_net) (A_Net_needs : PropF K cNet "needs" "Net.needs" s_Net_needs) (A_Net_repr : MethF K cNet "__repr__" "Net.__repr__" s_Net_repr) (A_line_of : FunAt K mg "line_of" s_line_of) (A_text_of : FunAt K mg "text_of" s_text_of) (A_Net_text : MethF K cNet "text" "Net.text" s_Net_text) (A_law_no_nets : FunAt K mg "_law_no_nets" s_law_no_nets) (A_law_no_reports : FunAt K mg "_law_no_reports" s_law_no_reports) (A_law_alarms : FunAt K mg "_law_alarms" s_law_alarms) (A_law_report : FunAt K mg "_law_report" s_law_report) (A_Net_len : MethF K cNet "__len__" "Net.__len__" s_Net_len) (A_reach_of : FunAt K mg "reach_of" s_reach_of) (A_all_reaches : FunAt K mg "all_reaches" s_all_reaches) (A_with_word : FunAt K mg "with_word" s_with_word) (A_candidates_of : FunAt K mg "candidates_of" s_candidates_of) (A_Watch_candidates : PropF K cWatch "candidates" "Watch.candidates" s_Watch_candidates) (A_Watch_changes : PropF K cWatch "changes" "Watch.changes" s_Watch_changes) (A_needed_of : FunAt K mg "needed_of" s_needed_of) (A_is_explained : FunAt K mg "is_explained" s_is_explained) (A_Watch_explained : PropF K cWatch "explained" "Watch.explained" s_Watch_explained) (A_need_component : FunAt K mg "need_component" s_need_component) (A_Watch_getitem : MethF K cWatch "__getitem__" "Watch.__getitem__" s_Watch_getitem) (A_watched_of : FunAt K mg "watched_of" s_watched_of) (A_Watch_len : MethF K cWatch "__len__" "Watch.__len__" s_Watch_len) (A_Watch_report : PropF K cWatch "report" "Watch.report" s_Watch_report) (A_Watch_repr : MethF K cWatch "__repr__" "Watch.__repr__" s_Watch_repr) (A_law_told : FunAt K mg "_law_told" s_law_told) (E_ComponentError : ErrC K mg "ComponentError") (E_NetError : ErrC K mg "NetError") (E_ReportError : ErrC K mg "ReportError") (NA_Net_own_needs : NoAttr K cNet "own_needs") (NA_Trying_before : NoAttr K cTrying "before") (NA_Trying_kept : NoAttr K cTrying "kept") (NA_Trying_watch : NoAttr K cTrying "watch") (NA_Watch_kept : NoAttr K cWatch "kept") (NA_Watch_own_net : NoAttr K cWatch "own_net") (NA_Watch_past : NoAttr K cWatch "past") (I_Careful : IsCl K mg "Careful" tab_Careful) (I_Net : IsCl K mg "Net" tab_Net) (I_Small : IsCl K mg "Small" tab_Small) (OC_Net : ObjC K cNet) (CA_Net : ClsAt K mg "Net" cNet "Net.__init__" s_Net_init []) (OC_Trying : ObjC K cTrying) (CA_Trying : ClsAt K mg "Trying" cTrying "Trying.__init__" s_Trying_init []) (OC_Watch : ObjC K cWatch) (CA_Watch : ClsAt K mg "Watch" cWatch "Watch.__init__" s_Watch_init [.non]) (EQ_Net : EqC K cNet) (EQR_Net : EqR K cNet) (CN_Watch_NAME : ConC K cWatch "NAME" "Watch") (MA : MethAt K cWatch "need_fit" "Watch.need_fit" s_fit) {CA CL CU : Addr} (hA : mg "AlarmError" = some (.ref CA)) (hL : mg "LimitError" = some (.ref CL)) (hU : mg "Unexplained" = some (.ref CU)) (hEr : ∀ j y, errsL[j]? = some y → ∃ D, mg y = some (.ref D) ∧ ErrX K mg CA CL CU D j) (hY : ErrY K CL CU) (A_law_said : FunAt K mg "_law_said" s_law_said) (FU : Fun K "law" "law" s_law f fd) {c T : Addr} (l1 : fd.code = .ref c) (l2 : LamX.TabB base mg c T) (l3 : NeedT K T) (l4 : tauK K T = ("law" ++ ".<locals>.") ++ "<lambda>") : FnG P w K mg base 34 f fd ["_law_script"] (spS K mg 0 (fun ns => fn0 (f_law ns))) := by
  have S_law_said := c_said (P := P) (w := w) (base := base) B hA hL hU hEr hY A_law_said
  have FIT : FitC P w K mg base 1 cWatch "need_fit" := EV.fit_of (k := 0) MA sc_fit (fun fd f F => F.binds (fun _ _ _ _ _ _ us hl => (by (refine EV.el2_1 (EV.lv2 hl) fun _ _ q409_ => ?_; obtain rfl := q409_); rfl))) rfl
  have K_Net_eq := ok_Net_eq (P := P) (w := w) (base := base) B NA_Net_own_needs I_Net A_Net_eq
  have K_is_word := ok_is_word (P := P) (w := w) (base := base) B c_WORDS A_is_word
  have K_is_report := ok_is_report (P := P) (w := w) (base := base) B K_is_word A_is_report
  have K_need_start := ok_need_start (P := P) (w := w) (base := base) B E_NetError E_ReportError NA_Net_own_needs I_Net K_is_report A_need_start
  have K_Watch_init := ok_Watch_init (P := P) (w := w) (base := base) B c_UNSEEN NA_Net_own_needs NA_Watch_kept NA_Watch_own_net NA_Watch_past OC_Watch FIT K_need_start CA_Watch
  have K_Watch_net := ok_Watch_net (P := P) (w := w) (base := base) B NA_Watch_own_net A_Watch_net
  have K_Trying_init := ok_Trying_init (P := P) (w := w) (base := base) B NA_Trying_before NA_Trying_kept NA_Trying_watch NA_Watch_kept NA_Watch_past OC_Trying CA_Trying
  have K_Watch_trying := ok_Watch_trying (P := P) (w := w) (base := base) B K_Trying_init A_Watch_trying
  have K_law_cell := ok_law_cell (P := P) (w := w) (base := base) B A_law_cell
  have K_law_reach := ok_law_reach (P := P) (w := w) (base := base) B A_law_reach
  have K_law_candidates := ok_law_candidates (P := P) (w := w) (base := base) B K_law_reach A_law_candidates
  have K_law_clash := ok_law_clash (P := P) (w := w) (base := base) B K_law_candidates K_law_reach A_law_clash
  have K_law_due := ok_law_due (P := P) (w := w) (base := base) B K_law_candidates K_law_clash A_law_due
  have K_law_is_same_0 := ok_law_is_same_0 (P := P) (w := w) (base := base) A_law_is_same
  have K_law_is_same_1 := ok_law_is_same_1 (P := P) (w := w) (base := base) B K_law_is_same_0 A_law_is_same
  have K_law_is_same_2 := ok_law_is_same_2 (P := P) (w := w) (base := base) B K_law_is_same_1 A_law_is_same
  have K_law_is_same_3 := ok_law_is_same_3 (P := P) (w := w) (base := base) B K_law_is_same_2 A_law_is_same
  have K_law_is_same_4 := ok_law_is_same_4 (P := P) (w := w) (base := base) B K_law_is_same_3 A_law_is_same
  have K_law_is_same := ok_law_is_same_5 (P := P) (w := w) (base := base) B K_law_is_same_4 A_law_is_same
  have K_is_between := ok_is_between (P := P) (w := w) (base := base) B A_is_between
  have K_is_rising := ok_is_rising (P := P) (w := w) (base := base) B K_is_between A_is_rising
  have K_is_net := ok_is_net (P := P) (w := w) (base := base) B c_MOST_COMPONENTS K_is_rising A_is_net
  have K_Net_init := ok_Net_init (P := P) (w := w) (base := base) B E_NetError NA_Net_own_needs OC_Net K_is_net CA_Net
  have K_law_made := ok_law_made (P := P) (w := w) (base := base) B K_Net_init A_law_made
  have K_law_draws := ok_law_draws (P := P) (w := w) (base := base) B A_law_draws
  have K_law_net := ok_law_net (P := P) (w := w) (base := base) B K_law_draws A_law_net
  have K_Net_needs := ok_Net_needs (P := P) (w := w) (base := base) B NA_Net_own_needs A_Net_needs
  have K_Net_repr := ok_Net_repr (P := P) (w := w) (base := base) B NA_Net_own_needs A_Net_repr
  have K_line_of := ok_line_of (P := P) (w := w) (base := base) B A_line_of
  have K_text_of := ok_text_of (P := P) (w := w) (base := base) B K_line_of A_text_of
  have K_Net_text := ok_Net_text (P := P) (w := w) (base := base) B NA_Net_own_needs K_text_of A_Net_text
  have K_law_no_nets := ok_law_no_nets (P := P) (w := w) (base := base) B K_Net_needs K_Net_repr K_Net_text A_law_no_nets
  have K_law_no_reports := ok_law_no_reports (P := P) (w := w) (base := base) B A_law_no_reports
  have K_law_alarms := ok_law_alarms (P := P) (w := w) (base := base) B K_law_reach A_law_alarms
  have K_law_report := ok_law_report (P := P) (w := w) (base := base) B K_law_alarms K_law_draws A_law_report
  have K_Net_len := ok_Net_len (P := P) (w := w) (base := base) B NA_Net_own_needs A_Net_len
  have K_reach_of := ok_reach_of (P := P) (w := w) (base := base) B A_reach_of
  have K_all_reaches := ok_all_reaches (P := P) (w := w) (base := base) B K_reach_of A_all_reaches
  have K_with_word := ok_with_word (P := P) (w := w) (base := base) B A_with_word
  have K_candidates_of := ok_candidates_of (P := P) (w := w) (base := base) B c_QUIET K_all_reaches K_with_word A_candidates_of
  have K_Watch_candidates := ok_Watch_candidates (P := P) (w := w) (base := base) B NA_Net_own_needs NA_Watch_kept NA_Watch_own_net K_candidates_of A_Watch_candidates
  have K_Watch_changes := ok_Watch_changes (P := P) (w := w) (base := base) B NA_Watch_past A_Watch_changes
  have K_needed_of := ok_needed_of (P := P) (w := w) (base := base) B c_ALARM K_candidates_of K_reach_of K_with_word A_needed_of
  have K_is_explained := ok_is_explained (P := P) (w := w) (base := base) B K_needed_of A_is_explained
  have K_Watch_explained := ok_Watch_explained (P := P) (w := w) (base := base) B NA_Net_own_needs NA_Watch_kept NA_Watch_own_net K_is_explained A_Watch_explained
  have K_need_component := ok_need_component (P := P) (w := w) (base := base) B E_ComponentError K_is_between A_need_component
  have K_Watch_getitem := ok_Watch_getitem (P := P) (w := w) (base := base) B NA_Net_own_needs NA_Watch_kept NA_Watch_own_net K_need_component A_Watch_getitem
  have K_watched_of := ok_watched_of (P := P) (w := w) (base := base) B c_UNSEEN A_watched_of
  have K_Watch_len := ok_Watch_len (P := P) (w := w) (base := base) B NA_Watch_kept K_watched_of A_Watch_len
  have K_Watch_report := ok_Watch_report (P := P) (w := w) (base := base) B NA_Watch_kept A_Watch_report
  have K_Watch_repr := ok_Watch_repr (P := P) (w := w) (base := base) B NA_Net_own_needs NA_Watch_kept NA_Watch_own_net CN_Watch_NAME K_candidates_of K_watched_of A_Watch_repr
  have K_law_told := ok_law_told (P := P) (w := w) (base := base) B K_Net_len K_Net_needs K_Watch_candidates K_Watch_changes K_Watch_explained K_Watch_getitem K_Watch_len K_Watch_net K_Watch_report K_Watch_repr A_law_told
  exact ok_law B I_Careful I_Small EQ_Net EQR_Net S_law_said K_Net_eq K_Watch_init K_Watch_net K_Watch_trying K_law_cell K_law_due K_law_is_same K_law_made K_law_net K_law_no_nets K_law_no_reports K_law_report K_law_told FU l1 l2 l3 l4
end
end Lw
end
open PySem PySem.W PyProof.Rows
theorem EV.x_na {K : Frag} {h : Heap} {C : Addr} {x : Str} (_ : K.In h) (r : findIn K (.ref C) x = some none) : L2.NoAttr K C x := r
theorem EV.x_oc {K : Frag} {h : Heap} {C : Addr} (_ : K.In h) (h1 : plainGet K C Str.empty = true) (h2 : hasDictIn K C = true) (h3 : plainOver K C = true) (h4 : findIn K (.ref C) "__setattr__" = some (some (.builtin "object.__setattr__"))) (h5 : findIn K (.ref C) "__class__" = some (some (.builtin "object.__class__"))) (h6 : specialIn K (.builtin "object.__class__") "__get__" = some (some (.builtin "getset_descriptor.__get__"))) (h7 : takesIn K (.builtin "object.__class__") = some true) (h8 : mroIn K C (.type "object") = some true) (h9 : EV.btB K C = true) : EV.ObjC K C := EV.objC_mk h1 h2 h3 h4 h5 h6 h7 h8 h9
theorem EV.x_eq {K : Frag} {h : Heap} {C : Addr} (_ : K.In h) (a : findIn K (.ref C) "__ne__" = some (some (.builtin "object.__ne__"))) (b : subIn K (.ref C) (.type "object") = some true) (c : (["NoneType", "bool", "int", "str", "list", "tuple", "dict"].all fun T => notFirst K C (.type T)) = true) : EV.EqC K C := ⟨a, b, fun T m => List.all_eq_true.mp c T m⟩
theorem EV.x_eqr {K : Frag} {h : Heap} {C : Addr} (_ : K.In h) (c : (["NoneType", "bool", "int", "str", "list", "tuple", "dict"].all fun T => subIn K (.ref C) (.type T) == some false) = true) : EV.EqR K C := ⟨fun T m => beq_iff_eq.mp (List.all_eq_true.mp c T m)⟩
def EV.kOf {K : Frag} {h : Heap} (_ : K.In h) : Frag := K
theorem EV.fun_uniq {K : Frag} {x q q2 : Str} {st : Stmt} {f : Addr} {fd fd2 : FuncData} (F : L2.Fun K x q st f fd) (F2 : L2.Fun K x q2 st f fd2) : fd2 = fd := by
  (refine EV.el4_1 (F.ex) fun _ _ _ _ q410_ => ?_; refine EV.el5_3 q410_ ?_; try clear q410_; intro _ _ _ _ _ _ lk _)
  (refine EV.el4_1 (F2.ex) fun _ _ _ _ q411_ => ?_; refine EV.el5_3 q411_ ?_; try clear q411_; intro _ _ _ _ _ _ lk2 _)
  rw [lk] at lk2
  injection lk2 with z
  injection z with _ _ z _
  injection z with z
  exact z.symm
set_option maxHeartbeats 0 in
theorem PySem.Challenge.cw_rootalarms_k53_watches_made_holds : PySem.Challenge.rw_rootalarms_k53_watches_made.Holds := by
  w_on; o_law; k_head; (case hw => w_witness2)
  k_fill
  refine EV.law_end (l := PySem.Challenge.rw_rootalarms_k53_watches_made) (n := 63) (k := 34) (x := "_law_script") (F := fun ns => EV.fn0 (Lw.f_law ns)) [(795, 791)] rfl (by decide) rfl ⟨rfl, by decide, by decide⟩ (fun w h Y => PySem.W.km_in_of Y) (fun w h Y p hp => by
    refine PySem.W.km_tabs_of Y p.2 ?_
    simp only [List.mem_cons, List.not_mem_nil, or_false] at hp
    rcases hp with rfl <;> simp) (fun w h X => (List.forall_mem_cons.mpr ⟨PySem.W.codeHd_of_K (c := 795) (P := 791) X (by kernel_rfl), (fun _ h => nomatch h)⟩)) (fun w => (List.forall_mem_cons.mpr ⟨(by kernel_rfl), (fun _ h => nomatch h)⟩)) (fun w P n => EV.need_of (by kernel_rfl) P n) ?F Lw.law_true
  intro w mg fa h KX G hmg
  have B : EV.Bn mg := ⟨PySem.W.mg_none_of KX G (by k_is), PySem.W.mg_none_of KX G (by k_is), PySem.W.mg_none_of KX G (by k_is), PySem.W.mg_none_of KX G (by k_is), PySem.W.mg_none_of KX G (by k_is), PySem.W.mg_none_of KX G (by k_is), PySem.W.mg_none_of KX G (by k_is), PySem.W.mg_none_of KX G (by k_is), PySem.W.mg_none_of KX G (by k_is), PySem.W.mg_none_of KX G (by k_is), PySem.W.mg_none_of KX G (by k_is), PySem.W.mg_none_of KX G (by k_is), PySem.W.mg_none_of KX G (by k_is), PySem.W.mg_none_of KX G (by k_is), PySem.W.mg_none_of KX G (by k_is), PySem.W.mg_none_of KX G (by k_is), PySem.W.mg_none_of KX G (by k_is), PySem.W.mg_none_of KX G (by k_is)⟩
  have c_ALARM : ∃ t, mg "ALARM" = some (.str "alarm" t) := by
    refine' EV.cstS KX G ?a
    case a => k_is
  have c_MOST_COMPONENTS : ∃ t, mg "MOST_COMPONENTS" = some (.int 8 t) := by
    refine' EV.cstI KX G ?a
    case a => k_is
  have c_QUIET : ∃ t, mg "QUIET" = some (.str "quiet" t) := by
    refine' EV.cstS KX G ?a
    case a => k_is
  have c_UNSEEN : ∃ t, mg "UNSEEN" = some (.str "unseen" t) := by
    refine' EV.cstS KX G ?a
    case a => k_is
  have c_WORDS : EV.CT _ mg "WORDS" Lw.d_WORDS := EV.DefC.at KX G (by refine' EV.defC ?e ?l ?v; (case e => k_is); (case l => k_is); (case v => decide +kernel))
  have A_Net_eq : EV.MethF (EV.kOf KX) EV.cNet "__eq__" "Net.__eq__" Lw.s_Net_eq := by
    delta EV.kOf
    refine' EV.methF KX ?a ?m3 ?l ?c ?k ?fi; (case a => k_is); (case m3 => k_is); (case l => k_is); (case c => k_is); (case k => k_is); (case fi => k_is)
  have A_is_word : EV.FunAt _ mg "is_word" Lw.s_is_word := EV.DefF.at KX G (by refine' EV.defF ?a ?l ?c ?k; (case a => k_is); (case l => k_is); (case c => k_is); (case k => k_is))
  have A_is_report : EV.FunAt _ mg "is_report" Lw.s_is_report := EV.DefF.at KX G (by refine' EV.defF ?a ?l ?c ?k; (case a => k_is); (case l => k_is); (case c => k_is); (case k => k_is))
  have A_need_start : EV.FunAt _ mg "need_start" Lw.s_need_start := EV.DefF.at KX G (by refine' EV.defF ?a ?l ?c ?k; (case a => k_is); (case l => k_is); (case c => k_is); (case k => k_is))
  have A_Watch_net : EV.PropF (EV.kOf KX) EV.cWatch "net" "Watch.net" Lw.s_Watch_net := by
    delta EV.kOf
    refine' EV.propF KX ?a1 ?a2 ?a3 ?a4 ?l ?c ?k; (case a1 => k_is); (case a2 => k_is); (case a3 => k_is); (case a4 => k_is); (case l => k_is); (case c => k_is); (case k => k_is)
  have A_Watch_trying : EV.MethF (EV.kOf KX) EV.cWatch "trying" "Watch.trying" Lw.s_Watch_trying := by
    delta EV.kOf
    refine' EV.methF KX ?a ?m3 ?l ?c ?k ?fi; (case a => k_is); (case m3 => k_is); (case l => k_is); (case c => k_is); (case k => k_is); (case fi => k_is)
  have A_law_cell : EV.FunAt _ mg "_law_cell" Lw.s_law_cell := EV.DefF.at KX G (by refine' EV.defF ?a ?l ?c ?k; (case a => k_is); (case l => k_is); (case c => k_is); (case k => k_is))
  have A_law_reach : EV.FunAt _ mg "_law_reach" Lw.s_law_reach := EV.DefF.at KX G (by refine' EV.defF ?a ?l ?c ?k; (case a => k_is); (case l => k_is); (case c => k_is); (case k => k_is))
  have A_law_candidates : EV.FunAt _ mg "_law_candidates" Lw.s_law_candidates := EV.DefF.at KX G (by refine' EV.defF ?a ?l ?c ?k; (case a => k_is); (case l => k_is); (case c => k_is); (case k => k_is))
  have A_law_clash : EV.FunAt _ mg "_law_clash" Lw.s_law_clash := EV.DefF.at KX G (by refine' EV.defF ?a ?l ?c ?k; (case a => k_is); (case l => k_is); (case c => k_is); (case k => k_is))
  have A_law_due : EV.FunAt _ mg "_law_due" Lw.s_law_due := EV.DefF.at KX G (by refine' EV.defF ?a ?l ?c ?k; (case a => k_is); (case l => k_is); (case c => k_is); (case k => k_is))
  have A_law_is_same : EV.FunAt _ mg "_law_is_same" Lw.s_law_is_same := EV.DefF.at KX G (by refine' EV.defF ?a ?l ?c ?k; (case a => k_is); (case l => k_is); (case c => k_is); (case k => k_is))
  have A_is_between : EV.FunAt _ mg "is_between" Lw.s_is_between := EV.DefF.at KX G (by refine' EV.defF ?a ?l ?c ?k; (case a => k_is); (case l => k_is); (case c => k_is); (case k => k_is))
  have A_is_rising : EV.FunAt _ mg "is_rising" Lw.s_is_rising := EV.DefF.at KX G (by refine' EV.defF ?a ?l ?c ?k; (case a => k_is); (case l => k_is); (case c => k_is); (case k => k_is))
  have A_is_net : EV.FunAt _ mg "is_net" Lw.s_is_net := EV.DefF.at KX G (by refine' EV.defF ?a ?l ?c ?k; (case a => k_is); (case l => k_is); (case c => k_is); (case k => k_is))
  have A_law_made : EV.FunAt _ mg "_law_made" Lw.s_law_made := EV.DefF.at KX G (by refine' EV.defF ?a ?l ?c ?k; (case a => k_is); (case l => k_is); (case c => k_is); (case k => k_is))
  have A_law_draws : EV.FunAt _ mg "_law_draws" Lw.s_law_draws := EV.DefF.at KX G (by refine' EV.defF ?a ?l ?c ?k; (case a => k_is); (case l => k_is); (case c => k_is); (case k => k_is))
  have A_law_net : EV.FunAt _ mg "_law_net" Lw.s_law_net := EV.DefF.at KX G (by refine' EV.defF ?a ?l ?c ?k; (case a => k_is); (case l => k_is); (case c => k_is); (case k => k_is))
  have A_Net_needs : EV.PropF (EV.kOf KX) EV.cNet "needs" "Net.needs" Lw.s_Net_needs := by
    delta EV.kOf
    refine' EV.propF KX ?a1 ?a2 ?a3 ?a4 ?l ?c ?k; (case a1 => k_is); (case a2 => k_is); (case a3 => k_is); (case a4 => k_is); (case l => k_is); (case c => k_is); (case k => k_is)
  have A_Net_repr : EV.MethF (EV.kOf KX) EV.cNet "__repr__" "Net.__repr__" Lw.s_Net_repr := by
    delta EV.kOf
    refine' EV.methF KX ?a ?m3 ?l ?c ?k ?fi; (case a => k_is); (case m3 => k_is); (case l => k_is); (case c => k_is); (case k => k_is); (case fi => k_is)
  have A_line_of : EV.FunAt _ mg "line_of" Lw.s_line_of := EV.DefF.at KX G (by refine' EV.defF ?a ?l ?c ?k; (case a => k_is); (case l => k_is); (case c => k_is); (case k => k_is))
  have A_text_of : EV.FunAt _ mg "text_of" Lw.s_text_of := EV.DefF.at KX G (by refine' EV.defF ?a ?l ?c ?k; (case a => k_is); (case l => k_is); (case c => k_is); (case k => k_is))
  have A_Net_text : EV.MethF (EV.kOf KX) EV.cNet "text" "Net.text" Lw.s_Net_text := by
    delta EV.kOf
    refine' EV.methF KX ?a ?m3 ?l ?c ?k ?fi; (case a => k_is); (case m3 => k_is); (case l => k_is); (case c => k_is); (case k => k_is); (case fi => k_is)
  have A_law_no_nets : EV.FunAt _ mg "_law_no_nets" Lw.s_law_no_nets := EV.DefF.at KX G (by refine' EV.defF ?a ?l ?c ?k; (case a => k_is); (case l => k_is); (case c => k_is); (case k => k_is))
  have A_law_no_reports : EV.FunAt _ mg "_law_no_reports" Lw.s_law_no_reports := EV.DefF.at KX G (by refine' EV.defF ?a ?l ?c ?k; (case a => k_is); (case l => k_is); (case c => k_is); (case k => k_is))
  have A_law_alarms : EV.FunAt _ mg "_law_alarms" Lw.s_law_alarms := EV.DefF.at KX G (by refine' EV.defF ?a ?l ?c ?k; (case a => k_is); (case l => k_is); (case c => k_is); (case k => k_is))
  have A_law_report : EV.FunAt _ mg "_law_report" Lw.s_law_report := EV.DefF.at KX G (by refine' EV.defF ?a ?l ?c ?k; (case a => k_is); (case l => k_is); (case c => k_is); (case k => k_is))
  have A_Net_len : EV.MethF (EV.kOf KX) EV.cNet "__len__" "Net.__len__" Lw.s_Net_len := by
    delta EV.kOf
    refine' EV.methF KX ?a ?m3 ?l ?c ?k ?fi; (case a => k_is); (case m3 => k_is); (case l => k_is); (case c => k_is); (case k => k_is); (case fi => k_is)
  have A_reach_of : EV.FunAt _ mg "reach_of" Lw.s_reach_of := EV.DefF.at KX G (by refine' EV.defF ?a ?l ?c ?k; (case a => k_is); (case l => k_is); (case c => k_is); (case k => k_is))
  have A_all_reaches : EV.FunAt _ mg "all_reaches" Lw.s_all_reaches := EV.DefF.at KX G (by refine' EV.defF ?a ?l ?c ?k; (case a => k_is); (case l => k_is); (case c => k_is); (case k => k_is))
  have A_with_word : EV.FunAt _ mg "with_word" Lw.s_with_word := EV.DefF.at KX G (by refine' EV.defF ?a ?l ?c ?k; (case a => k_is); (case l => k_is); (case c => k_is); (case k => k_is))
  have A_candidates_of : EV.FunAt _ mg "candidates_of" Lw.s_candidates_of := EV.DefF.at KX G (by refine' EV.defF ?a ?l ?c ?k; (case a => k_is); (case l => k_is); (case c => k_is); (case k => k_is))
  have A_Watch_candidates : EV.PropF (EV.kOf KX) EV.cWatch "candidates" "Watch.candidates" Lw.s_Watch_candidates := by
    delta EV.kOf
    refine' EV.propF KX ?a1 ?a2 ?a3 ?a4 ?l ?c ?k; (case a1 => k_is); (case a2 => k_is); (case a3 => k_is); (case a4 => k_is); (case l => k_is); (case c => k_is); (case k => k_is)
  have A_Watch_changes : EV.PropF (EV.kOf KX) EV.cWatch "changes" "Watch.changes" Lw.s_Watch_changes := by
    delta EV.kOf
    refine' EV.propF KX ?a1 ?a2 ?a3 ?a4 ?l ?c ?k; (case a1 => k_is); (case a2 => k_is); (case a3 => k_is); (case a4 => k_is); (case l => k_is); (case c => k_is); (case k => k_is)
  have A_needed_of : EV.FunAt _ mg "needed_of" Lw.s_needed_of := EV.DefF.at KX G (by refine' EV.defF ?a ?l ?c ?k; (case a => k_is); (case l => k_is); (case c => k_is); (case k => k_is))
  have A_is_explained : EV.FunAt _ mg "is_explained" Lw.s_is_explained := EV.DefF.at KX G (by refine' EV.defF ?a ?l ?c ?k; (case a => k_is); (case l => k_is); (case c => k_is); (case k => k_is))
  have A_Watch_explained : EV.PropF (EV.kOf KX) EV.cWatch "explained" "Watch.explained" Lw.s_Watch_explained := by
    delta EV.kOf
    refine' EV.propF KX ?a1 ?a2 ?a3 ?a4 ?l ?c ?k; (case a1 => k_is); (case a2 => k_is); (case a3 => k_is); (case a4 => k_is); (case l => k_is); (case c => k_is); (case k => k_is)
  have A_need_component : EV.FunAt _ mg "need_component" Lw.s_need_component := EV.DefF.at KX G (by refine' EV.defF ?a ?l ?c ?k; (case a => k_is); (case l => k_is); (case c => k_is); (case k => k_is))
  have A_Watch_getitem : EV.MethF (EV.kOf KX) EV.cWatch "__getitem__" "Watch.__getitem__" Lw.s_Watch_getitem := by
    delta EV.kOf
    refine' EV.methF KX ?a ?m3 ?l ?c ?k ?fi; (case a => k_is); (case m3 => k_is); (case l => k_is); (case c => k_is); (case k => k_is); (case fi => k_is)
  have A_watched_of : EV.FunAt _ mg "watched_of" Lw.s_watched_of := EV.DefF.at KX G (by refine' EV.defF ?a ?l ?c ?k; (case a => k_is); (case l => k_is); (case c => k_is); (case k => k_is))
  have A_Watch_len : EV.MethF (EV.kOf KX) EV.cWatch "__len__" "Watch.__len__" Lw.s_Watch_len := by
    delta EV.kOf
    refine' EV.methF KX ?a ?m3 ?l ?c ?k ?fi; (case a => k_is); (case m3 => k_is); (case l => k_is); (case c => k_is); (case k => k_is); (case fi => k_is)
  have A_Watch_report : EV.PropF (EV.kOf KX) EV.cWatch "report" "Watch.report" Lw.s_Watch_report := by
    delta EV.kOf
    refine' EV.propF KX ?a1 ?a2 ?a3 ?a4 ?l ?c ?k; (case a1 => k_is); (case a2 => k_is); (case a3 => k_is); (case a4 => k_is); (case l => k_is); (case c => k_is); (case k => k_is)
  have A_Watch_repr : EV.MethF (EV.kOf KX) EV.cWatch "__repr__" "Watch.__repr__" Lw.s_Watch_repr := by
    delta EV.kOf
    refine' EV.methF KX ?a ?m3 ?l ?c ?k ?fi; (case a => k_is); (case m3 => k_is); (case l => k_is); (case c => k_is); (case k => k_is); (case fi => k_is)
  have A_law_told : EV.FunAt _ mg "_law_told" Lw.s_law_told := EV.DefF.at KX G (by refine' EV.defF ?a ?l ?c ?k; (case a => k_is); (case l => k_is); (case c => k_is); (case k => k_is))
  have A_law : EV.FunAt _ mg "law" Lw.s_law := EV.DefF.at KX G (by refine' EV.defF ?a ?l ?c ?k; (case a => k_is); (case l => k_is); (case c => k_is); (case k => k_is))
  have A_law_said : EV.FunAt _ mg "_law_said" Lw.s_law_said := EV.DefF.at KX G (by refine' EV.defF ?a ?l ?c ?k; (case a => k_is); (case l => k_is); (case c => k_is); (case k => k_is))
  have hV : mg "ValueError" = none := PySem.W.mg_none_of KX G (by k_is)
  have hA : mg "AlarmError" = some (.ref 31) := PySem.W.mg_of KX G (by k_is)
  have hE0 : ∀ j y, EV.errsL[j]? = some y → ∃ D, mg y = some (.ref D) ∧ EV.ErrJ _ mg 31 D j := EV.errs_of (Ds := [44, 56, 68, 80, 92, 104, 116, 128, 149, 170]) KX G rfl (by kernel_rfl) (by kernel_rfl) (by kernel_rfl)
  have hL : mg "LimitError" = some (.ref 170) := PySem.W.mg_of KX G (by k_is)
  have hU : mg "Unexplained" = some (.ref 149) := PySem.W.mg_of KX G (by k_is)
  have hY := EV.x_ey (CL := 170) (CU := 149) KX (by kernel_rfl)
  have hEr := EV.errs8_of (CL := 170) (CU := 149) (Ds := [44, 56, 68, 80, 92, 104, 116, 128, 149, 170]) hE0 KX G (by kernel_rfl) (by kernel_rfl)
  have E_ComponentError : EV.ErrC _ mg "ComponentError" := EV.errC_of (C := 56) KX G (by k_is) (by kernel_rfl)
  have E_NetError : EV.ErrC _ mg "NetError" := EV.errC_of (C := 44) KX G (by k_is) (by kernel_rfl)
  have E_ReportError : EV.ErrC _ mg "ReportError" := EV.errC_of (C := 80) KX G (by k_is) (by kernel_rfl)
  have NA_Net_own_needs := EV.x_na (C := EV.cNet) (x := "own_needs") KX (by kernel_rfl)
  have NA_Trying_before := EV.x_na (C := EV.cTrying) (x := "before") KX (by kernel_rfl)
  have NA_Trying_kept := EV.x_na (C := EV.cTrying) (x := "kept") KX (by kernel_rfl)
  have NA_Trying_watch := EV.x_na (C := EV.cTrying) (x := "watch") KX (by kernel_rfl)
  have NA_Watch_kept := EV.x_na (C := EV.cWatch) (x := "kept") KX (by kernel_rfl)
  have NA_Watch_own_net := EV.x_na (C := EV.cWatch) (x := "own_net") KX (by kernel_rfl)
  have NA_Watch_past := EV.x_na (C := EV.cWatch) (x := "past") KX (by kernel_rfl)
  have I_Careful : EV.IsCl _ mg "Careful" EV.tab_Careful := EV.isCl_mk (C := 662) KX G (by k_is) (.own _) (by kernel_rfl) (by kernel_rfl)
  have I_Net : EV.IsCl _ mg "Net" EV.tab_Net := EV.isCl_mk (C := 408) KX G (by k_is) (.own _) (by kernel_rfl) (by kernel_rfl)
  have I_Small : EV.IsCl _ mg "Small" EV.tab_Small := EV.isCl_mk (C := 700) KX G (by k_is) (.own _) (by kernel_rfl) (by kernel_rfl)
  have OC_Net := EV.x_oc (C := EV.cNet) KX (by kernel_rfl) (by kernel_rfl) (by kernel_rfl) (by kernel_rfl) (by kernel_rfl) (by kernel_rfl) (by kernel_rfl) (by kernel_rfl) (by kernel_rfl)
  have CA_Net : EV.ClsAt (EV.kOf KX) mg "Net" EV.cNet "Net.__init__" Lw.s_Net_init [] := by
    delta EV.kOf
    refine' EV.clsAt0 (Cl := 408) KX G ?a OC_Net ?m1 ?m2 ?m3 ?m4 ?l ?c ?k; (case a => k_is); (case m1 => k_is); (case m2 => k_is); (case m3 => k_is); (case m4 => k_is); (case l => k_is); (case c => k_is); (case k => k_is)
  have OC_Trying := EV.x_oc (C := EV.cTrying) KX (by kernel_rfl) (by kernel_rfl) (by kernel_rfl) (by kernel_rfl) (by kernel_rfl) (by kernel_rfl) (by kernel_rfl) (by kernel_rfl) (by kernel_rfl)
  have CA_Trying : EV.ClsAt (EV.kOf KX) mg "Trying" EV.cTrying "Trying.__init__" Lw.s_Trying_init [] := by
    delta EV.kOf
    refine' EV.clsAt0 (Cl := 443) KX G ?a OC_Trying ?m1 ?m2 ?m3 ?m4 ?l ?c ?k; (case a => k_is); (case m1 => k_is); (case m2 => k_is); (case m3 => k_is); (case m4 => k_is); (case l => k_is); (case c => k_is); (case k => k_is)
  have OC_Watch := EV.x_oc (C := EV.cWatch) KX (by kernel_rfl) (by kernel_rfl) (by kernel_rfl) (by kernel_rfl) (by kernel_rfl) (by kernel_rfl) (by kernel_rfl) (by kernel_rfl) (by kernel_rfl)
  have CA_Watch : EV.ClsAt (EV.kOf KX) mg "Watch" EV.cWatch "Watch.__init__" Lw.s_Watch_init [.non] := by
    delta EV.kOf
    refine' EV.clsAt1 (Cl := 639) KX G ?a OC_Watch ?m1 ?m2 ?m3 ?m4 ?l ?c ?k ?lT; (case a => k_is); (case m1 => k_is); (case m2 => k_is); (case m3 => k_is); (case m4 => k_is); (case l => k_is); (case c => k_is); (case k => k_is); (case lT => k_is)
  have EQ_Net := EV.x_eq (C := EV.cNet) KX (by kernel_rfl) (by kernel_rfl) (by kernel_rfl)
  have EQR_Net := EV.x_eqr (C := EV.cNet) KX (by kernel_rfl)
  have CN_Watch_NAME : EV.ConC (EV.kOf KX) EV.cWatch "NAME" "Watch" := by
    delta EV.kOf
    refine' EV.con_mk KX ?a ?g ?c; (case a => k_is); (case g => k_is); (case c => decide +kernel)
  have MA : EV.MethAt (EV.kOf KX) EV.cWatch "need_fit" "Watch.need_fit" Lw.s_fit := by
    delta EV.kOf
    refine' EV.methAt ?a ?m3 ?l ?c ?k; (case a => k_is); (case m3 => k_is); (case l => k_is); (case c => k_is); (case k => k_is)
  refine EV.el2_2 (A_law.ex) fun f fd FU hm => ?_
  have ef := hmg.symm.trans hm
  cases ef
  have bb := FU.binds (ps := ["_law_script"]) (fun _ _ _ _ _ _ us hl => (by (refine EV.el1_1 (EV.lv1 hl) fun _ q412_ => ?_; obtain rfl := q412_); rfl))
  refine EV.in1_2 fd (fun s u => ?_) (fun base hK hns hTB => ?_)
  · (refine EV.el4_1 (FU.ex) fun _ _ _ _ q415_ => ?_; refine EV.el5_2 q415_ ?_; try clear q415_; intro _ _ _ _ _ q413_ q414_; obtain rfl := q413_; (refine EV.el0_2 q414_ ?_; try clear q414_; intro _ _))
    exact .of_eq rfl
  · have A_law : EV.FunL (EV.kOf KX) mg base "law" Lw.s_law := by
      delta EV.kOf
      refine' EV.funL (T := 791) KX G (hTB (795, 791) (by decide)) ?a ?l ?c ?k ?lb ?u ?m; (case a => k_is); (case l => k_is); (case c => k_is); (case k => k_is); (case lb => kernel_rfl); (case u => kernel_rfl); (case m => decide +kernel)
    (refine EV.el4_4 (A_law.ex) fun f3 fd3 c3 T3 FU3 hm3 l1 q416_ => ?_; refine EV.el0_3 q416_ ?_; try clear q416_; intro l2 l3 l4)
    have ef3 := hm.symm.trans hm3
    cases ef3
    have e3 := EV.fun_uniq FU FU3
    subst e3
    exact Lw.end_law B c_ALARM c_MOST_COMPONENTS c_QUIET c_UNSEEN c_WORDS A_Net_eq A_is_word A_is_report A_need_start A_Watch_net A_Watch_trying A_law_cell A_law_reach A_law_candidates A_law_clash A_law_due A_law_is_same A_is_between A_is_rising A_is_net A_law_made A_law_draws A_law_net A_Net_needs A_Net_repr A_line_of A_text_of A_Net_text A_law_no_nets A_law_no_reports A_law_alarms A_law_report A_Net_len A_reach_of A_all_reaches A_with_word A_candidates_of A_Watch_candidates A_Watch_changes A_needed_of A_is_explained A_Watch_explained A_need_component A_Watch_getitem A_watched_of A_Watch_len A_Watch_report A_Watch_repr A_law_told E_ComponentError E_NetError E_ReportError NA_Net_own_needs NA_Trying_before NA_Trying_kept NA_Trying_watch NA_Watch_kept NA_Watch_own_net NA_Watch_past I_Careful I_Net I_Small OC_Net CA_Net OC_Trying CA_Trying OC_Watch CA_Watch EQ_Net EQR_Net CN_Watch_NAME MA hA hL hU hEr hY A_law_said FU l1 l2 l3 l4
