import PyProof.Rows.All
import Wide.All
import OpenK.AllK
import Wide.FinOn
import HandS.ForMost
import HandS.ForExc
import HandS.CallSlots
import HandS.IsInst
import HandS.Lambda
import HandS.Deep
import HandS.TupAny
import HandS.SortInts
import HandS.Zip
import KE.DatumIndex
import KE.GoesEnum
import HandS.Style
import HandS.Set
import HandS.SetFor
import HandS.Strs
import HandS.Conv
import KE.SortData
import HandS.Star
import KE.DataFind
import KE.DataMinMax
import HandS.TupSets
import HandS.GenList
import PyProof.Rows.RowBridgeK
import PyProof.Rows.MatchSeqLen
import PyProof.RulesMatchSeq
import HandS.TupMul
import HandS.TupLe
import HandS.SetBool
import HandS.Dict
import HandS.Walk
import HandS.Sort
import HandS.DictTup
import KE.KDictCopyH
import KE.KDictZip
import KE.GoesZip
import HandS.ExcOwn
import PyProof.ExcBaseAll.ValueError
import HandS.HotCalls
import HandS.ExcIs
import HandS.Defaults
import KE.KOpsOwn
import HandS.Property
import HandS.TryMany
import HandS.ExcField
import HandS.ExcInit
import HandS.ClsMeth
import HandS.FStr
import HandS.Text
import HandS.RaiseMore
import PyProof.InstNe
import KE.KStar
import PyProof.EqAt
import PyProof.EqKinds
import HandS.Nested
import KE.KExcSuper
import KE.KSuper
import HandS.MakeKw
import KE.KUnpackStar
import PyProof.Rows.StrRev
import PyProof.ReprDict
import HandS.ReplaceLit
import PyProof.ReprBulk
import PyProof.ReprLen
import PySem.Challenge.RW_rootalarms_k29_certain_refused
set_option Elab.async false
set_option linter.all false
set_option tactic.hygienic false
set_option maxRecDepth 100000
theorem EV.w_le8 {a : Nat} (h : a ≤ 8) : a ≤ 1000000 := Nat.le_trans h (by decide)
theorem EV.w_le {a b c : Nat} (h : a ≤ b) (k : b ≤ c) : a ≤ c := Nat.le_trans h k
theorem EV.w_lt {a b c : Nat} (h : a < b) (k : b ≤ c) : a < c := Nat.lt_of_lt_of_le h k
theorem EV.w_ile {a b c : Int} (h : a ≤ b) (k : b ≤ c) : a ≤ c := Int.le_trans h k
theorem EV.w_ilt {a b c : Int} (h : a ≤ b) (k : b < c) : a < c := Int.lt_of_le_of_lt h k
theorem EV.w_illt {a b c : Int} (h : a < b) (k : b ≤ c) : a < c := Int.lt_of_lt_of_le h k
theorem EV.w_pos {a : Nat} (h : a ≠ 0) : 0 < a := Nat.pos_of_ne_zero h
theorem EV.w_ne0 {a : Nat} (h : 0 < a) : a ≠ 0 := Nat.ne_of_gt h
theorem EV.w_lt1 {a b : Nat} (h : a < b) : a < b + 1 := Nat.lt_succ_of_lt h
theorem EV.w_add {a b c : Nat} (h : a < b) : a + c < b + c := Nat.add_lt_add_right h c
theorem EV.w_eq {a b : Nat} (h : a ≤ b) (k : ¬ a < b) : a = b := Nat.le_antisymm h (Nat.not_lt.mp k)
theorem EV.w_split {a b : Nat} (h : a < b + 1) (k : ¬ a < b) : a = b := Nat.le_antisymm (Nat.le_of_lt_succ h) (Nat.not_lt.mp k)
theorem EV.w_sub1 {a b : Nat} (h : a = b + 1) : a - 1 = b := by rw [h]; rfl
theorem EV.nnS {α : Type} {y : α} {p : Prop} (h : none = some y) : p := by cases h
theorem EV.nnB {p : Prop} (h : false = true) : p := by cases h
theorem EV.nnL {α : Type} {y : α} {l : List α} {p : Prop} (h : [] = y :: l) : p := by cases h
theorem EV.el0_2  {A0 A1 : Prop} {G : Prop} (h : A0 ∧ A1) (f : A0 → A1 → G) : G := f  h.1 h.2
theorem EV.el0_3  {A0 A1 A2 : Prop} {G : Prop} (h : A0 ∧ A1 ∧ A2) (f : A0 → A1 → A2 → G) : G := f  h.1 h.2.1 h.2.2
theorem EV.el0_4  {A0 A1 A2 A3 : Prop} {G : Prop} (h : A0 ∧ A1 ∧ A2 ∧ A3) (f : A0 → A1 → A2 → A3 → G) : G := f  h.1 h.2.1 h.2.2.1 h.2.2.2
theorem EV.el0_5  {A0 A1 A2 A3 A4 : Prop} {G : Prop} (h : A0 ∧ A1 ∧ A2 ∧ A3 ∧ A4) (f : A0 → A1 → A2 → A3 → A4 → G) : G := f  h.1 h.2.1 h.2.2.1 h.2.2.2.1 h.2.2.2.2
theorem EV.el0_6  {A0 A1 A2 A3 A4 A5 : Prop} {G : Prop} (h : A0 ∧ A1 ∧ A2 ∧ A3 ∧ A4 ∧ A5) (f : A0 → A1 → A2 → A3 → A4 → A5 → G) : G := f  h.1 h.2.1 h.2.2.1 h.2.2.2.1 h.2.2.2.2.1 h.2.2.2.2.2
theorem EV.el0_7  {A0 A1 A2 A3 A4 A5 A6 : Prop} {G : Prop} (h : A0 ∧ A1 ∧ A2 ∧ A3 ∧ A4 ∧ A5 ∧ A6) (f : A0 → A1 → A2 → A3 → A4 → A5 → A6 → G) : G := f  h.1 h.2.1 h.2.2.1 h.2.2.2.1 h.2.2.2.2.1 h.2.2.2.2.2.1 h.2.2.2.2.2.2
theorem EV.el1_1.{u0} {t0 : Sort u0} {A0 : t0 → Prop} {G : Prop} (h : ∃ x0, A0 x0) (f : ∀ x0, A0 x0 → G) : G := h.elim fun x0 h => f x0 h
theorem EV.el1_2.{u0} {t0 : Sort u0} {A0 A1 : t0 → Prop} {G : Prop} (h : ∃ x0, A0 x0 ∧ A1 x0) (f : ∀ x0, A0 x0 → A1 x0 → G) : G := h.elim fun x0 h => f x0 h.1 h.2
theorem EV.el1_3.{u0} {t0 : Sort u0} {A0 A1 A2 : t0 → Prop} {G : Prop} (h : ∃ x0, A0 x0 ∧ A1 x0 ∧ A2 x0) (f : ∀ x0, A0 x0 → A1 x0 → A2 x0 → G) : G := h.elim fun x0 h => f x0 h.1 h.2.1 h.2.2
theorem EV.el1_4.{u0} {t0 : Sort u0} {A0 A1 A2 A3 : t0 → Prop} {G : Prop} (h : ∃ x0, A0 x0 ∧ A1 x0 ∧ A2 x0 ∧ A3 x0) (f : ∀ x0, A0 x0 → A1 x0 → A2 x0 → A3 x0 → G) : G := h.elim fun x0 h => f x0 h.1 h.2.1 h.2.2.1 h.2.2.2
theorem EV.el1_5.{u0} {t0 : Sort u0} {A0 A1 A2 A3 A4 : t0 → Prop} {G : Prop} (h : ∃ x0, A0 x0 ∧ A1 x0 ∧ A2 x0 ∧ A3 x0 ∧ A4 x0) (f : ∀ x0, A0 x0 → A1 x0 → A2 x0 → A3 x0 → A4 x0 → G) : G := h.elim fun x0 h => f x0 h.1 h.2.1 h.2.2.1 h.2.2.2.1 h.2.2.2.2
theorem EV.el2_1.{u0,u1} {t0 : Sort u0} {t1 : Sort u1} {A0 : t0 → t1 → Prop} {G : Prop} (h : ∃ x0 x1, A0 x0 x1) (f : ∀ x0 x1, A0 x0 x1 → G) : G := h.elim fun x0 h => h.elim fun x1 h => f x0 x1 h
theorem EV.el2_2.{u0,u1} {t0 : Sort u0} {t1 : Sort u1} {A0 A1 : t0 → t1 → Prop} {G : Prop} (h : ∃ x0 x1, A0 x0 x1 ∧ A1 x0 x1) (f : ∀ x0 x1, A0 x0 x1 → A1 x0 x1 → G) : G := h.elim fun x0 h => h.elim fun x1 h => f x0 x1 h.1 h.2
theorem EV.el2_3.{u0,u1} {t0 : Sort u0} {t1 : Sort u1} {A0 A1 A2 : t0 → t1 → Prop} {G : Prop} (h : ∃ x0 x1, A0 x0 x1 ∧ A1 x0 x1 ∧ A2 x0 x1) (f : ∀ x0 x1, A0 x0 x1 → A1 x0 x1 → A2 x0 x1 → G) : G := h.elim fun x0 h => h.elim fun x1 h => f x0 x1 h.1 h.2.1 h.2.2
theorem EV.el2_4.{u0,u1} {t0 : Sort u0} {t1 : Sort u1} {A0 A1 A2 A3 : t0 → t1 → Prop} {G : Prop} (h : ∃ x0 x1, A0 x0 x1 ∧ A1 x0 x1 ∧ A2 x0 x1 ∧ A3 x0 x1) (f : ∀ x0 x1, A0 x0 x1 → A1 x0 x1 → A2 x0 x1 → A3 x0 x1 → G) : G := h.elim fun x0 h => h.elim fun x1 h => f x0 x1 h.1 h.2.1 h.2.2.1 h.2.2.2
theorem EV.el2_5.{u0,u1} {t0 : Sort u0} {t1 : Sort u1} {A0 A1 A2 A3 A4 : t0 → t1 → Prop} {G : Prop} (h : ∃ x0 x1, A0 x0 x1 ∧ A1 x0 x1 ∧ A2 x0 x1 ∧ A3 x0 x1 ∧ A4 x0 x1) (f : ∀ x0 x1, A0 x0 x1 → A1 x0 x1 → A2 x0 x1 → A3 x0 x1 → A4 x0 x1 → G) : G := h.elim fun x0 h => h.elim fun x1 h => f x0 x1 h.1 h.2.1 h.2.2.1 h.2.2.2.1 h.2.2.2.2
theorem EV.el2_6.{u0,u1} {t0 : Sort u0} {t1 : Sort u1} {A0 A1 A2 A3 A4 A5 : t0 → t1 → Prop} {G : Prop} (h : ∃ x0 x1, A0 x0 x1 ∧ A1 x0 x1 ∧ A2 x0 x1 ∧ A3 x0 x1 ∧ A4 x0 x1 ∧ A5 x0 x1) (f : ∀ x0 x1, A0 x0 x1 → A1 x0 x1 → A2 x0 x1 → A3 x0 x1 → A4 x0 x1 → A5 x0 x1 → G) : G := h.elim fun x0 h => h.elim fun x1 h => f x0 x1 h.1 h.2.1 h.2.2.1 h.2.2.2.1 h.2.2.2.2.1 h.2.2.2.2.2
theorem EV.el3_1.{u0,u1,u2} {t0 : Sort u0} {t1 : Sort u1} {t2 : Sort u2} {A0 : t0 → t1 → t2 → Prop} {G : Prop} (h : ∃ x0 x1 x2, A0 x0 x1 x2) (f : ∀ x0 x1 x2, A0 x0 x1 x2 → G) : G := h.elim fun x0 h => h.elim fun x1 h => h.elim fun x2 h => f x0 x1 x2 h
theorem EV.el3_2.{u0,u1,u2} {t0 : Sort u0} {t1 : Sort u1} {t2 : Sort u2} {A0 A1 : t0 → t1 → t2 → Prop} {G : Prop} (h : ∃ x0 x1 x2, A0 x0 x1 x2 ∧ A1 x0 x1 x2) (f : ∀ x0 x1 x2, A0 x0 x1 x2 → A1 x0 x1 x2 → G) : G := h.elim fun x0 h => h.elim fun x1 h => h.elim fun x2 h => f x0 x1 x2 h.1 h.2
theorem EV.el3_3.{u0,u1,u2} {t0 : Sort u0} {t1 : Sort u1} {t2 : Sort u2} {A0 A1 A2 : t0 → t1 → t2 → Prop} {G : Prop} (h : ∃ x0 x1 x2, A0 x0 x1 x2 ∧ A1 x0 x1 x2 ∧ A2 x0 x1 x2) (f : ∀ x0 x1 x2, A0 x0 x1 x2 → A1 x0 x1 x2 → A2 x0 x1 x2 → G) : G := h.elim fun x0 h => h.elim fun x1 h => h.elim fun x2 h => f x0 x1 x2 h.1 h.2.1 h.2.2
theorem EV.el3_4.{u0,u1,u2} {t0 : Sort u0} {t1 : Sort u1} {t2 : Sort u2} {A0 A1 A2 A3 : t0 → t1 → t2 → Prop} {G : Prop} (h : ∃ x0 x1 x2, A0 x0 x1 x2 ∧ A1 x0 x1 x2 ∧ A2 x0 x1 x2 ∧ A3 x0 x1 x2) (f : ∀ x0 x1 x2, A0 x0 x1 x2 → A1 x0 x1 x2 → A2 x0 x1 x2 → A3 x0 x1 x2 → G) : G := h.elim fun x0 h => h.elim fun x1 h => h.elim fun x2 h => f x0 x1 x2 h.1 h.2.1 h.2.2.1 h.2.2.2
theorem EV.el4_1.{u0,u1,u2,u3} {t0 : Sort u0} {t1 : Sort u1} {t2 : Sort u2} {t3 : Sort u3} {A0 : t0 → t1 → t2 → t3 → Prop} {G : Prop} (h : ∃ x0 x1 x2 x3, A0 x0 x1 x2 x3) (f : ∀ x0 x1 x2 x3, A0 x0 x1 x2 x3 → G) : G := h.elim fun x0 h => h.elim fun x1 h => h.elim fun x2 h => h.elim fun x3 h => f x0 x1 x2 x3 h
theorem EV.el4_2.{u0,u1,u2,u3} {t0 : Sort u0} {t1 : Sort u1} {t2 : Sort u2} {t3 : Sort u3} {A0 A1 : t0 → t1 → t2 → t3 → Prop} {G : Prop} (h : ∃ x0 x1 x2 x3, A0 x0 x1 x2 x3 ∧ A1 x0 x1 x2 x3) (f : ∀ x0 x1 x2 x3, A0 x0 x1 x2 x3 → A1 x0 x1 x2 x3 → G) : G := h.elim fun x0 h => h.elim fun x1 h => h.elim fun x2 h => h.elim fun x3 h => f x0 x1 x2 x3 h.1 h.2
theorem EV.el4_3.{u0,u1,u2,u3} {t0 : Sort u0} {t1 : Sort u1} {t2 : Sort u2} {t3 : Sort u3} {A0 A1 A2 : t0 → t1 → t2 → t3 → Prop} {G : Prop} (h : ∃ x0 x1 x2 x3, A0 x0 x1 x2 x3 ∧ A1 x0 x1 x2 x3 ∧ A2 x0 x1 x2 x3) (f : ∀ x0 x1 x2 x3, A0 x0 x1 x2 x3 → A1 x0 x1 x2 x3 → A2 x0 x1 x2 x3 → G) : G := h.elim fun x0 h => h.elim fun x1 h => h.elim fun x2 h => h.elim fun x3 h => f x0 x1 x2 x3 h.1 h.2.1 h.2.2
theorem EV.el4_4.{u0,u1,u2,u3} {t0 : Sort u0} {t1 : Sort u1} {t2 : Sort u2} {t3 : Sort u3} {A0 A1 A2 A3 : t0 → t1 → t2 → t3 → Prop} {G : Prop} (h : ∃ x0 x1 x2 x3, A0 x0 x1 x2 x3 ∧ A1 x0 x1 x2 x3 ∧ A2 x0 x1 x2 x3 ∧ A3 x0 x1 x2 x3) (f : ∀ x0 x1 x2 x3, A0 x0 x1 x2 x3 → A1 x0 x1 x2 x3 → A2 x0 x1 x2 x3 → A3 x0 x1 x2 x3 → G) : G := h.elim fun x0 h => h.elim fun x1 h => h.elim fun x2 h => h.elim fun x3 h => f x0 x1 x2 x3 h.1 h.2.1 h.2.2.1 h.2.2.2
theorem EV.el5_1.{u0,u1,u2,u3,u4} {t0 : Sort u0} {t1 : Sort u1} {t2 : Sort u2} {t3 : Sort u3} {t4 : Sort u4} {A0 : t0 → t1 → t2 → t3 → t4 → Prop} {G : Prop} (h : ∃ x0 x1 x2 x3 x4, A0 x0 x1 x2 x3 x4) (f : ∀ x0 x1 x2 x3 x4, A0 x0 x1 x2 x3 x4 → G) : G := h.elim fun x0 h => h.elim fun x1 h => h.elim fun x2 h => h.elim fun x3 h => h.elim fun x4 h => f x0 x1 x2 x3 x4 h
theorem EV.el5_2.{u0,u1,u2,u3,u4} {t0 : Sort u0} {t1 : Sort u1} {t2 : Sort u2} {t3 : Sort u3} {t4 : Sort u4} {A0 A1 : t0 → t1 → t2 → t3 → t4 → Prop} {G : Prop} (h : ∃ x0 x1 x2 x3 x4, A0 x0 x1 x2 x3 x4 ∧ A1 x0 x1 x2 x3 x4) (f : ∀ x0 x1 x2 x3 x4, A0 x0 x1 x2 x3 x4 → A1 x0 x1 x2 x3 x4 → G) : G := h.elim fun x0 h => h.elim fun x1 h => h.elim fun x2 h => h.elim fun x3 h => h.elim fun x4 h => f x0 x1 x2 x3 x4 h.1 h.2
theorem EV.el5_3.{u0,u1,u2,u3,u4} {t0 : Sort u0} {t1 : Sort u1} {t2 : Sort u2} {t3 : Sort u3} {t4 : Sort u4} {A0 A1 A2 : t0 → t1 → t2 → t3 → t4 → Prop} {G : Prop} (h : ∃ x0 x1 x2 x3 x4, A0 x0 x1 x2 x3 x4 ∧ A1 x0 x1 x2 x3 x4 ∧ A2 x0 x1 x2 x3 x4) (f : ∀ x0 x1 x2 x3 x4, A0 x0 x1 x2 x3 x4 → A1 x0 x1 x2 x3 x4 → A2 x0 x1 x2 x3 x4 → G) : G := h.elim fun x0 h => h.elim fun x1 h => h.elim fun x2 h => h.elim fun x3 h => h.elim fun x4 h => f x0 x1 x2 x3 x4 h.1 h.2.1 h.2.2
theorem EV.el6_2.{u0,u1,u2,u3,u4,u5} {t0 : Sort u0} {t1 : Sort u1} {t2 : Sort u2} {t3 : Sort u3} {t4 : Sort u4} {t5 : Sort u5} {A0 A1 : t0 → t1 → t2 → t3 → t4 → t5 → Prop} {G : Prop} (h : ∃ x0 x1 x2 x3 x4 x5, A0 x0 x1 x2 x3 x4 x5 ∧ A1 x0 x1 x2 x3 x4 x5) (f : ∀ x0 x1 x2 x3 x4 x5, A0 x0 x1 x2 x3 x4 x5 → A1 x0 x1 x2 x3 x4 x5 → G) : G := h.elim fun x0 h => h.elim fun x1 h => h.elim fun x2 h => h.elim fun x3 h => h.elim fun x4 h => h.elim fun x5 h => f x0 x1 x2 x3 x4 x5 h.1 h.2
theorem EV.in1_1.{u0} {t0 : Sort u0} {A0 : t0 → Prop} (x0 : t0) (h0 : A0 x0) : ∃ x0, A0 x0 := ⟨x0, h0⟩
theorem EV.in1_2.{u0} {t0 : Sort u0} {A0 A1 : t0 → Prop} (x0 : t0) (h0 : A0 x0) (h1 : A1 x0) : ∃ x0, A0 x0 ∧ A1 x0 := ⟨x0, h0, h1⟩
theorem EV.in1_3.{u0} {t0 : Sort u0} {A0 A1 A2 : t0 → Prop} (x0 : t0) (h0 : A0 x0) (h1 : A1 x0) (h2 : A2 x0) : ∃ x0, A0 x0 ∧ A1 x0 ∧ A2 x0 := ⟨x0, h0, h1, h2⟩
theorem EV.in1_4.{u0} {t0 : Sort u0} {A0 A1 A2 A3 : t0 → Prop} (x0 : t0) (h0 : A0 x0) (h1 : A1 x0) (h2 : A2 x0) (h3 : A3 x0) : ∃ x0, A0 x0 ∧ A1 x0 ∧ A2 x0 ∧ A3 x0 := ⟨x0, h0, h1, h2, h3⟩
theorem EV.in2_1.{u0,u1} {t0 : Sort u0} {t1 : Sort u1} {A0 : t0 → t1 → Prop} (x0 : t0) (x1 : t1) (h0 : A0 x0 x1) : ∃ x0 x1, A0 x0 x1 := ⟨x0, x1, h0⟩
theorem EV.in2_2.{u0,u1} {t0 : Sort u0} {t1 : Sort u1} {A0 A1 : t0 → t1 → Prop} (x0 : t0) (x1 : t1) (h0 : A0 x0 x1) (h1 : A1 x0 x1) : ∃ x0 x1, A0 x0 x1 ∧ A1 x0 x1 := ⟨x0, x1, h0, h1⟩
theorem EV.in2_3.{u0,u1} {t0 : Sort u0} {t1 : Sort u1} {A0 A1 A2 : t0 → t1 → Prop} (x0 : t0) (x1 : t1) (h0 : A0 x0 x1) (h1 : A1 x0 x1) (h2 : A2 x0 x1) : ∃ x0 x1, A0 x0 x1 ∧ A1 x0 x1 ∧ A2 x0 x1 := ⟨x0, x1, h0, h1, h2⟩
theorem EV.in2_4.{u0,u1} {t0 : Sort u0} {t1 : Sort u1} {A0 A1 A2 A3 : t0 → t1 → Prop} (x0 : t0) (x1 : t1) (h0 : A0 x0 x1) (h1 : A1 x0 x1) (h2 : A2 x0 x1) (h3 : A3 x0 x1) : ∃ x0 x1, A0 x0 x1 ∧ A1 x0 x1 ∧ A2 x0 x1 ∧ A3 x0 x1 := ⟨x0, x1, h0, h1, h2, h3⟩
theorem EV.in2_5.{u0,u1} {t0 : Sort u0} {t1 : Sort u1} {A0 A1 A2 A3 A4 : t0 → t1 → Prop} (x0 : t0) (x1 : t1) (h0 : A0 x0 x1) (h1 : A1 x0 x1) (h2 : A2 x0 x1) (h3 : A3 x0 x1) (h4 : A4 x0 x1) : ∃ x0 x1, A0 x0 x1 ∧ A1 x0 x1 ∧ A2 x0 x1 ∧ A3 x0 x1 ∧ A4 x0 x1 := ⟨x0, x1, h0, h1, h2, h3, h4⟩
theorem EV.in2_6.{u0,u1} {t0 : Sort u0} {t1 : Sort u1} {A0 A1 A2 A3 A4 A5 : t0 → t1 → Prop} (x0 : t0) (x1 : t1) (h0 : A0 x0 x1) (h1 : A1 x0 x1) (h2 : A2 x0 x1) (h3 : A3 x0 x1) (h4 : A4 x0 x1) (h5 : A5 x0 x1) : ∃ x0 x1, A0 x0 x1 ∧ A1 x0 x1 ∧ A2 x0 x1 ∧ A3 x0 x1 ∧ A4 x0 x1 ∧ A5 x0 x1 := ⟨x0, x1, h0, h1, h2, h3, h4, h5⟩
theorem EV.in2_7.{u0,u1} {t0 : Sort u0} {t1 : Sort u1} {A0 A1 A2 A3 A4 A5 A6 : t0 → t1 → Prop} (x0 : t0) (x1 : t1) (h0 : A0 x0 x1) (h1 : A1 x0 x1) (h2 : A2 x0 x1) (h3 : A3 x0 x1) (h4 : A4 x0 x1) (h5 : A5 x0 x1) (h6 : A6 x0 x1) : ∃ x0 x1, A0 x0 x1 ∧ A1 x0 x1 ∧ A2 x0 x1 ∧ A3 x0 x1 ∧ A4 x0 x1 ∧ A5 x0 x1 ∧ A6 x0 x1 := ⟨x0, x1, h0, h1, h2, h3, h4, h5, h6⟩
theorem EV.in3_1.{u0,u1,u2} {t0 : Sort u0} {t1 : Sort u1} {t2 : Sort u2} {A0 : t0 → t1 → t2 → Prop} (x0 : t0) (x1 : t1) (x2 : t2) (h0 : A0 x0 x1 x2) : ∃ x0 x1 x2, A0 x0 x1 x2 := ⟨x0, x1, x2, h0⟩
theorem EV.in3_3.{u0,u1,u2} {t0 : Sort u0} {t1 : Sort u1} {t2 : Sort u2} {A0 A1 A2 : t0 → t1 → t2 → Prop} (x0 : t0) (x1 : t1) (x2 : t2) (h0 : A0 x0 x1 x2) (h1 : A1 x0 x1 x2) (h2 : A2 x0 x1 x2) : ∃ x0 x1 x2, A0 x0 x1 x2 ∧ A1 x0 x1 x2 ∧ A2 x0 x1 x2 := ⟨x0, x1, x2, h0, h1, h2⟩
theorem EV.in3_5.{u0,u1,u2} {t0 : Sort u0} {t1 : Sort u1} {t2 : Sort u2} {A0 A1 A2 A3 A4 : t0 → t1 → t2 → Prop} (x0 : t0) (x1 : t1) (x2 : t2) (h0 : A0 x0 x1 x2) (h1 : A1 x0 x1 x2) (h2 : A2 x0 x1 x2) (h3 : A3 x0 x1 x2) (h4 : A4 x0 x1 x2) : ∃ x0 x1 x2, A0 x0 x1 x2 ∧ A1 x0 x1 x2 ∧ A2 x0 x1 x2 ∧ A3 x0 x1 x2 ∧ A4 x0 x1 x2 := ⟨x0, x1, x2, h0, h1, h2, h3, h4⟩
theorem EV.in4_1.{u0,u1,u2,u3} {t0 : Sort u0} {t1 : Sort u1} {t2 : Sort u2} {t3 : Sort u3} {A0 : t0 → t1 → t2 → t3 → Prop} (x0 : t0) (x1 : t1) (x2 : t2) (x3 : t3) (h0 : A0 x0 x1 x2 x3) : ∃ x0 x1 x2 x3, A0 x0 x1 x2 x3 := ⟨x0, x1, x2, x3, h0⟩
theorem EV.in4_2.{u0,u1,u2,u3} {t0 : Sort u0} {t1 : Sort u1} {t2 : Sort u2} {t3 : Sort u3} {A0 A1 : t0 → t1 → t2 → t3 → Prop} (x0 : t0) (x1 : t1) (x2 : t2) (x3 : t3) (h0 : A0 x0 x1 x2 x3) (h1 : A1 x0 x1 x2 x3) : ∃ x0 x1 x2 x3, A0 x0 x1 x2 x3 ∧ A1 x0 x1 x2 x3 := ⟨x0, x1, x2, x3, h0, h1⟩
theorem EV.in4_5.{u0,u1,u2,u3} {t0 : Sort u0} {t1 : Sort u1} {t2 : Sort u2} {t3 : Sort u3} {A0 A1 A2 A3 A4 : t0 → t1 → t2 → t3 → Prop} (x0 : t0) (x1 : t1) (x2 : t2) (x3 : t3) (h0 : A0 x0 x1 x2 x3) (h1 : A1 x0 x1 x2 x3) (h2 : A2 x0 x1 x2 x3) (h3 : A3 x0 x1 x2 x3) (h4 : A4 x0 x1 x2 x3) : ∃ x0 x1 x2 x3, A0 x0 x1 x2 x3 ∧ A1 x0 x1 x2 x3 ∧ A2 x0 x1 x2 x3 ∧ A3 x0 x1 x2 x3 ∧ A4 x0 x1 x2 x3 := ⟨x0, x1, x2, x3, h0, h1, h2, h3, h4⟩
theorem EV.in5_1.{u0,u1,u2,u3,u4} {t0 : Sort u0} {t1 : Sort u1} {t2 : Sort u2} {t3 : Sort u3} {t4 : Sort u4} {A0 : t0 → t1 → t2 → t3 → t4 → Prop} (x0 : t0) (x1 : t1) (x2 : t2) (x3 : t3) (x4 : t4) (h0 : A0 x0 x1 x2 x3 x4) : ∃ x0 x1 x2 x3 x4, A0 x0 x1 x2 x3 x4 := ⟨x0, x1, x2, x3, x4, h0⟩
theorem EV.in5_2.{u0,u1,u2,u3,u4} {t0 : Sort u0} {t1 : Sort u1} {t2 : Sort u2} {t3 : Sort u3} {t4 : Sort u4} {A0 A1 : t0 → t1 → t2 → t3 → t4 → Prop} (x0 : t0) (x1 : t1) (x2 : t2) (x3 : t3) (x4 : t4) (h0 : A0 x0 x1 x2 x3 x4) (h1 : A1 x0 x1 x2 x3 x4) : ∃ x0 x1 x2 x3 x4, A0 x0 x1 x2 x3 x4 ∧ A1 x0 x1 x2 x3 x4 := ⟨x0, x1, x2, x3, x4, h0, h1⟩
theorem EV.in6_1.{u0,u1,u2,u3,u4,u5} {t0 : Sort u0} {t1 : Sort u1} {t2 : Sort u2} {t3 : Sort u3} {t4 : Sort u4} {t5 : Sort u5} {A0 : t0 → t1 → t2 → t3 → t4 → t5 → Prop} (x0 : t0) (x1 : t1) (x2 : t2) (x3 : t3) (x4 : t4) (x5 : t5) (h0 : A0 x0 x1 x2 x3 x4 x5) : ∃ x0 x1 x2 x3 x4 x5, A0 x0 x1 x2 x3 x4 x5 := ⟨x0, x1, x2, x3, x4, x5, h0⟩
open Lean.Parser.Tactic in
def EV.tac0 : Lean.Syntax := Lean.Unhygienic.run `(tacticSeq| intro _ z; cases z)
open Lean.Parser.Tactic in
def EV.tac1 : Lean.Syntax := Lean.Unhygienic.run `(tacticSeq| decide)
open Lean.Parser.Tactic in
def EV.tac2 : Lean.Syntax := Lean.Unhygienic.run `(tacticSeq| rfl)
open Lean.Parser.Tactic in
def EV.tac3 : Lean.Syntax := Lean.Unhygienic.run `(tacticSeq| intro _; rfl)
open Lean.Parser.Tactic in
def EV.tac4 : Lean.Syntax := Lean.Unhygienic.run `(tacticSeq| with_unfolding_all rfl)
open Lean.Parser.Tactic in
def EV.tac5 : Lean.Syntax := Lean.Unhygienic.run `(tacticSeq| first | exact Or.inl rfl | exact Or.inr rfl)
open Lean.Parser.Tactic in
def EV.tac6 : Lean.Syntax := Lean.Unhygienic.run `(tacticSeq| first | exact .inl rfl | exact .inr rfl)
open Lean.Parser.Tactic in
def EV.tac7 : Lean.Syntax := Lean.Unhygienic.run `(tacticSeq| first | exact Or.inl rfl | exact Or.inr (Or.inl rfl) | exact Or.inr (Or.inr rfl))
open Lean.Parser.Tactic in
def EV.tac8 : Lean.Syntax := Lean.Unhygienic.run `(tacticSeq| exact fun _ => True.intro)
open Lean.Parser.Tactic in
def EV.tac9 : Lean.Syntax := Lean.Unhygienic.run `(tacticSeq| first | exact LamX.lamS_by (by decide +kernel) | exact LamX.lamS_by (by rfl))
open Lean.Parser.Tactic in
def EV.tac10 : Lean.Syntax := Lean.Unhygienic.run `(tacticSeq| intro _ _ _ _ _; rfl)
open Lean.Parser.Tactic in
def EV.tac11 : Lean.Syntax := Lean.Unhygienic.run `(tacticSeq| omega)
theorem EV.lv0 {α : Type} {us : List α} (h : us.length = 0) : us = [] := List.length_eq_zero_iff.mp h
theorem EV.lv1 {α : Type} {us : List α} (h : us.length = 1) : ∃ a, us = [a] := List.length_eq_one_iff.mp h
theorem EV.lv2 {α : Type} {us : List α} (h : us.length = 2) : ∃ a0 a1, us = [a0, a1] := by
  (refine EV.el2_1 (List.exists_cons_of_length_eq_add_one h) fun a0 r q1_ => ?_; obtain rfl := q1_)
  (refine EV.el1_1 (EV.lv1 (by simpa using h)) fun a1 q2_ => ?_; obtain rfl := q2_)
  exact EV.in2_1 a0 a1 rfl
theorem EV.lv3 {α : Type} {us : List α} (h : us.length = 3) : ∃ a0 a1 a2, us = [a0, a1, a2] := by
  (refine EV.el2_1 (List.exists_cons_of_length_eq_add_one h) fun a0 r q3_ => ?_; obtain rfl := q3_)
  (refine EV.el2_1 (EV.lv2 (by simpa using h)) fun a1 a2 q4_ => ?_; obtain rfl := q4_)
  exact EV.in3_1 a0 a1 a2 rfl
theorem EV.lv4 {α : Type} {us : List α} (h : us.length = 4) : ∃ a0 a1 a2 a3, us = [a0, a1, a2, a3] := by
  (refine EV.el2_1 (List.exists_cons_of_length_eq_add_one h) fun a0 r q5_ => ?_; obtain rfl := q5_)
  (refine EV.el3_1 (EV.lv3 (by simpa using h)) fun a1 a2 a3 q6_ => ?_; obtain rfl := q6_)
  exact EV.in4_1 a0 a1 a2 a3 rfl
theorem EV.lv5 {α : Type} {us : List α} (h : us.length = 5) : ∃ a0 a1 a2 a3 a4, us = [a0, a1, a2, a3, a4] := by
  (refine EV.el2_1 (List.exists_cons_of_length_eq_add_one h) fun a0 r q7_ => ?_; obtain rfl := q7_)
  (refine EV.el4_1 (EV.lv4 (by simpa using h)) fun a1 a2 a3 a4 q8_ => ?_; obtain rfl := q8_)
  exact EV.in5_1 a0 a1 a2 a3 a4 rfl
theorem EV.lv6 {α : Type} {us : List α} (h : us.length = 6) : ∃ a0 a1 a2 a3 a4 a5, us = [a0, a1, a2, a3, a4, a5] := by
  (refine EV.el2_1 (List.exists_cons_of_length_eq_add_one h) fun a0 r q9_ => ?_; obtain rfl := q9_)
  (refine EV.el5_1 (EV.lv5 (by simpa using h)) fun a1 a2 a3 a4 a5 q10_ => ?_; obtain rfl := q10_)
  exact EV.in6_1 a0 a1 a2 a3 a4 a5 rfl
theorem EV.ex4 {α β γ δ : Type} {A B : α → β → γ → δ → Prop} {p : Prop} (h : ∃ a b c d, A a b c d ∧ B a b c d) (f : ∀ a b c d, A a b c d → B a b c d → p) : p := h.elim fun a h => h.elim fun b h => h.elim fun c h => h.elim fun d h => f a b c d h.1 h.2
namespace EV
/-- the defs of this law that make lambdas -/
def lamNames : List PySem.Str := ["_law_words"]
end EV
namespace EV
open PySem PySem.Spec PyProof.Rows L2
/-- data trees -/
inductive D where
  | non | bl (b : Bool) | int (i : Int) | str (x : Str)
  | tup (xs : List D) | lst (xs : List D)
  | dct (kvs : List (D × D)) | obj (C : Addr) (fs : List (Str × D)) | cls (C : Addr)
structure Ex where
  name : Str
  fs : List (Str × D)
/-- results, with the state of the pen -/
inductive R (α : Type) where
  | ok (a : α) (s : List Int) | exc (e : Ex) | bad
noncomputable def PM (α : Type) : Type := List Int → R α
noncomputable def PM.pure {α : Type} (a : α) : PM α := fun s => .ok a s
noncomputable def PM.bind {α β : Type} (m : PM α) (f : α → PM β) : PM β := fun s => match m s with
  | .ok a s1 => f a s1
  | .exc e => .exc e
  | .bad => .bad
noncomputable instance : Monad PM where
  pure := PM.pure
  bind := PM.bind
theorem PM.bind_def {α β : Type} (m : PM α) (f : α → PM β) (s : List Int) : (m >>= f) s = match m s with
  | .ok a s1 => f a s1
  | .exc e => .exc e
  | .bad => .bad := rfl
noncomputable instance : LawfulMonad PM := LawfulMonad.mk'
  (id_map := fun x => by
    funext s
    show PM.bind x (fun a => PM.pure a) s = x s
    unfold PM.bind PM.pure
    cases x s <;> rfl)
  (pure_bind := fun _ _ => rfl)
  (bind_assoc := fun x f g => by
    funext s
    show PM.bind (PM.bind x f) g s = PM.bind x (fun a => PM.bind (f a) g) s
    unfold PM.bind
    cases x s <;> rfl)
  (bind_pure_comp := fun _ _ => rfl)
noncomputable def bad {α : Type} : PM α := fun _ => .bad
noncomputable def raiseP {α : Type} (e : Ex) : PM α := fun _ => .exc e
/-- a def without the pen -/
noncomputable def run0 {α : Type} (m : PM α) : PM α := fun s => match m [] with
  | .ok a _ => .ok a s
  | .exc e => .exc e
  | .bad => .bad
/-- the object of a tuple without a dict -/
structure TupO where
  ob : Obj
  cls : ob.cls = .type "tuple"
  dict : ob.dict = none
inductive DSh where
  | t (ks : List (List Int)) | k (ks : List Int) | tu (n : Nat) | tn (o : Unit → TupO) (n : Nat) | ins (x C dx : Addr) (ks : List Str)
/-- a dict with keys of this shape: tuples of ints; ints; or a tuple that was made here -/
noncomputable def DSh.ho : DSh → List V → HO
  | .t ks, vs => .dT ((ks.map fun r => r.map Sum.inl).zip vs)
  | .k ks, vs => .dK ((ks.map Sum.inl).zip vs)
  | .tu _, vs => .tup vs
  | .tn o _, vs => .frz (o ()).ob (.tup vs)
  | .ins _ C dx ks, vs => .ins C dx (ks.zip vs)
/-- an instance that is being made: where it is -/
noncomputable def DSh.at : DSh → Addr → Prop
  | .ins x _ _ _, p => p = x
  | _, _ => True
noncomputable def DSh.len : DSh → Nat
  | .t ks => ks.length
  | .k ks => ks.length
  | .tu n => n
  | .tn _ n => n
  | .ins _ _ _ ks => ks.length
theorem DSh.notLst {sh : DSh} {vs xs : List V} (h : sh.ho vs = .lst xs) : False := by
  cases sh <;> cases h
/-- the keys, as trees (of dicts alone) -/
noncomputable def DSh.keysD : DSh → Option (List D)
  | .t ks => some (ks.map fun r => .tup (r.map .int))
  | .k ks => some (ks.map .int)
  | .tu _ => none
  | .tn _ _ => none
  | .ins _ _ _ _ => none
theorem DSh.notTbl {sh : DSh} {vs : List V} {ps : Array Value} (h : sh.ho vs = .tbl ps) : False := by
  cases sh <;> cases h
theorem DSh.notExt {sh : DSh} {vs : List V} {φ : Heap → Prop} (h : sh.ho vs = .ext φ) : False := by
  cases sh <;> cases h
/-- the code object at c is known, its name is n, its table is at P; q is the name of its lambdas -/
noncomputable def TabOf (K : PySem.W.Frag) (P : Addr) (q : Str) : Prop := ∃ (c : Addr) (o : Obj) (vs : Array Value) (n : Str) (t : Tok), K.lookup c = some o ∧ o.data = .fields vs ∧ vs[1]? = some (.str n t) ∧ vs[11]? = some (.ref P) ∧ q = (n ++ ".<locals>.") ++ "<lambda>"
/-- the name of the lambdas of the table at P -/
noncomputable def tauK (K : PySem.W.Frag) (P : Addr) : Str := @dite _ (∃ q, TabOf K P q) (Classical.propDecidable _) (fun h => Classical.choose h) fun _ => ""
theorem tauK_of {K : PySem.W.Frag} {P : Addr} {q : Str} (h : TabOf K P q) (u : ∀ q', TabOf K P q' → q' = q) : tauK K P = q := by
  unfold tauK
  rw [dif_pos ⟨q, h⟩]
  exact u _ (Classical.choose_spec (⟨q, h⟩ : ∃ q, TabOf K P q))
/-- the table at P is that of a def which makes lambdas -/
noncomputable def NeedT (K : PySem.W.Frag) (P : Addr) : Prop := ∃ (c : Addr) (o : Obj) (vs : Array Value) (n : Str) (t : Tok), K.lookup c = some o ∧ o.data = .fields vs ∧ vs[1]? = some (.str n t) ∧ vs[11]? = some (.ref P) ∧ n ∈ lamNames
/-- the tracked tables are right; those of makers of lambdas are tracked -/
structure TabK (K : PySem.W.Frag) (H : Hp) : Prop where
  ok : ∀ P ps, H P = some (.tbl ps) → LamX.TabS H P (tauK K P)
  on : ∀ P, NeedT K P → ∃ ps, H P = some (.tbl ps)
theorem TabK.keep {K : PySem.W.Frag} {H H' : Hp} (h : TabK K H) (ht : ∀ P ps, H' P = some (.tbl ps) → H P = some (.tbl ps)) (he : ∀ c φ, H c = some (.ext φ) → H' c = some (.ext φ)) (hq : ∀ P ps, H P = some (.tbl ps) → H' P = some (.tbl ps)) : TabK K H' := ⟨fun P ps e => by
  refine EV.el1_3 (h.ok P ps (ht P ps e)) fun ps' h1 h2 h3 => ?_
  rw [ht P ps e] at h1
  cases h1
  refine EV.in1_3 ps e h2 (fun pos cv hc => ?_)
  refine EV.el1_2 (h3 pos cv hc) fun c e1 e2 => ?_
  exact ⟨c, e1, he c _ e2⟩, fun P n => by
  refine EV.el1_1 (h.on P n) fun ps e => ?_
  exact ⟨ps, hq P ps e⟩⟩
theorem TabK.upd {K : PySem.W.Frag} {H : Hp} (h : TabK K H) {p : Addr} {o : HO} (ho : ∀ ps, o ≠ .tbl ps) (hp : ∀ φ, H p ≠ some (.ext φ)) (hq : ∀ ps, H p ≠ some (.tbl ps)) : TabK K (L2.upd H p o) := h.keep (fun P ps e => by
  by_cases z : P = p
  · subst z
    rw [upd_same] at e
    exact absurd (Option.some.inj e) (ho ps)
  · rw [upd_ne z] at e
    exact e) (fun c φ e => by
  rw [upd_ne (fun z : c = p => hp φ (by rw [← z]; exact e))]
  exact e) fun c ps e => by
  rw [upd_ne (fun z : c = p => hq ps (by rw [← z]; exact e))]
  exact e
theorem TabK.updL {K : PySem.W.Frag} {H : Hp} (h : TabK K H) {p : Addr} {ws vs : List V} (hp : H p = some (.lst ws)) : TabK K (L2.upd H p (.lst vs)) := h.upd (fun _ z => by cases z) (fun φ z => by
  rw [hp] at z
  cases z) fun ps z => by
  rw [hp] at z
  cases z
/-- no table is public -/
noncomputable def NoT (G : Hp) : Prop := ∀ P ps, G P ≠ some (.tbl ps)
theorem NoT.upd {G : Hp} (h : NoT G) {p : Addr} {o : HO} (ho : ∀ ps, o ≠ .tbl ps) : NoT (L2.upd G p o) := fun P ps e => by
  by_cases z : P = p
  · subst z
    rw [upd_same] at e
    exact ho ps (Option.some.inj e)
  · rw [upd_ne z] at e
    exact h P ps e
theorem nt_lst (xs : List V) : ∀ ps, HO.lst xs ≠ .tbl ps := fun _ z => by cases z
/-- what is asked of an own class -/
structure ObjC (K : PySem.W.Frag) (C : Addr) : Prop where
  cl : Cls K C
  ha : PySem.W.findIn K (.ref C) "__class__" = some (some (.builtin "object.__class__"))
  hn : PySem.W.specialIn K (.builtin "object.__class__") "__get__" = some (some (.builtin "getset_descriptor.__get__"))
  htk : PySem.W.takesIn K (.builtin "object.__class__") = some true
  hm : PySem.W.mroIn K C (.type "object") = some true
  bt : ∀ T ∈ ["int", "bool", "tuple", "str", "list"], PySem.W.kitOne K (.ref C) (.type T) = some false
inductive Rp (K : PySem.W.Frag) (G : Hp) : V → D → Prop
  | non : Rp K G .non .non
  | bl (b : Bool) : Rp K G (.bl b) (.bl b)
  | int (i : Int) : Rp K G (.int i) (.int i)
  | str (x : Str) : Rp K G (.str x) (.str x)
  | lst {a : Addr} {xs : List V} {ds : List D} (h : G a = some (.lst xs)) (n : xs.length = ds.length) (r : ∀ (i : Nat) v d, xs[i]? = some v → ds[i]? = some d → Rp K G v d) : Rp K G (.ref a) (.lst ds)
  | tup {a : Addr} {xs : List V} {ds : List D} (h : SqT K G a xs) (n : xs.length = ds.length) (r : ∀ (i : Nat) v d, xs[i]? = some v → ds[i]? = some d → Rp K G v d) : Rp K G (.ref a) (.tup ds)
  | dct {a : Addr} {sh : DSh} {vs : List V} {kvs : List (D × D)} (h : G a = some (sh.ho vs)) (hk : sh.keysD = some (kvs.map (·.1))) (n : vs.length = kvs.length) (r : ∀ (i : Nat) v d, vs[i]? = some v → kvs[i]? = some d → Rp K G v d.2) : Rp K G (.ref a) (.dct kvs)
  | obj {a C dx : Addr} {fvs : List (Str × V)} {fs : List (Str × D)} (h : G a = some (.ins C dx fvs)) (hc : ObjC K C) (hk : fvs.map (·.1) = fs.map (·.1)) (r : ∀ (i : Nat) (v : Str × V) (d : Str × D), fvs[i]? = some v → fs[i]? = some d → Rp K G v.2 d.2) : Rp K G (.ref a) (.obj C fs)
  | cls (C : Addr) : Rp K G (.ref C) (.cls C)
/-- lists of them -/
noncomputable def RpL (K : PySem.W.Frag) (G : Hp) (vs : List V) (ds : List D) : Prop := vs.length = ds.length ∧ ∀ (i : Nat) v d, vs[i]? = some v → ds[i]? = some d → Rp K G v d
section
variable {K : PySem.W.Frag} {G G' : Hp}
theorem sameT {a : Addr} {xs : List V} (e : Same G G') (h : SqT K G a xs) : SqT K G' a xs := by
  rcases h with (h | ⟨o, h⟩) | h
  · exact .inl (.inl (e _ _ h))
  · exact .inl (.inr ⟨o, e _ _ h⟩)
  · exact .inr h
theorem Rp.mono (e : Same G G') {v : V} {d : D} (h : Rp K G v d) : Rp K G' v d := by
  induction h with
  | non => exact .non
  | bl b => exact .bl b
  | int i => exact .int i
  | str x => exact .str x
  | lst h n _ ih => exact .lst (e _ _ h) n ih
  | tup h n _ ih => exact .tup (sameT e h) n ih
  | dct h hk n _ ih => exact .dct (e _ _ h) hk n ih
  | obj h hc hk _ ih => exact .obj (e _ _ h) hc hk ih
  | cls C => exact .cls C
theorem RpL.mono (e : Same G G') {vs : List V} {ds : List D} (h : RpL K G vs ds) : RpL K G' vs ds := ⟨h.1, fun i v d h1 h2 => (h.2 i v d h1 h2).mono e⟩
theorem RpL.nil : RpL K G [] [] := ⟨rfl, fun i v d h _ => by simp at h⟩
theorem RpL.cons {v : V} {vs : List V} {d : D} {ds : List D} (h : Rp K G v d) (t : RpL K G vs ds) : RpL K G (v :: vs) (d :: ds) := by
  refine ⟨by simp [t.1], fun i w e h1 h2 => ?_⟩
  cases i with
  | zero => simp at h1 h2; subst h1; subst h2; exact h
  | succ i => exact t.2 i w e (by simpa using h1) (by simpa using h2)
theorem RpL.tail {v : V} {vs : List V} {d : D} {ds : List D} (h : RpL K G (v :: vs) (d :: ds)) : Rp K G v d ∧ RpL K G vs ds :=
  ⟨h.2 0 v d rfl rfl, by simpa using h.1, fun i w e h1 h2 => h.2 (i + 1) w e (by simpa using h1) (by simpa using h2)⟩
theorem RpL.app {vs ws : List V} {ds es : List D} (h : RpL K G vs ds) (t : RpL K G ws es) : RpL K G (vs ++ ws) (ds ++ es) := by
  refine ⟨by simp [h.1, t.1], fun i w e h1 h2 => ?_⟩
  by_cases hi : i < vs.length
  · rw [List.getElem?_append_left hi] at h1
    rw [List.getElem?_append_left (by rw [← h.1]; exact hi)] at h2
    exact h.2 i w e h1 h2
  · rw [List.getElem?_append_right (by exact Nat.not_lt.mp (by assumption))] at h1
    rw [List.getElem?_append_right (by rw [← h.1]; exact Nat.not_lt.mp (by assumption))] at h2
    exact t.2 (i - vs.length) w e h1 (by rw [h.1]; exact h2)
theorem RpL.get {vs : List V} {ds : List D} (h : RpL K G vs ds) {i : Nat} {d : D} (e : ds[i]? = some d) : ∃ v, vs[i]? = some v ∧ Rp K G v d := by
  have hi : i < vs.length := by
    rw [h.1]
    exact (List.getElem?_eq_some_iff.mp e).1
  exact EV.in1_2 (vs[i]) (List.getElem?_eq_getElem hi) (h.2 i _ d (List.getElem?_eq_getElem hi) e)
theorem RpL.take {vs : List V} {ds : List D} (h : RpL K G vs ds) (n : Nat) : RpL K G (vs.take n) (ds.take n) := by
  refine ⟨by simp [h.1], fun i v d h1 h2 => ?_⟩
  by_cases hi : i < n
  · rw [List.getElem?_take_of_lt hi] at h1 h2
    exact h.2 i v d h1 h2
  · rw [List.getElem?_take, if_neg hi] at h1
    exact EV.nnS h1
theorem RpL.drop {vs : List V} {ds : List D} (h : RpL K G vs ds) (n : Nat) : RpL K G (vs.drop n) (ds.drop n) := by
  refine ⟨by simp [h.1], fun i v d h1 h2 => ?_⟩
  rw [List.getElem?_drop] at h1 h2
  exact h.2 _ v d h1 h2
theorem RpL.map_of {α : Type} {f : α → V} {g : α → D} : ∀ (xs : List α), (∀ x ∈ xs, Rp K G (f x) (g x)) → RpL K G (xs.map f) (xs.map g)
  | [], _ => .nil
  | x :: xs, h => .cons (h x List.mem_cons_self) (RpL.map_of xs fun y hy => h y (List.mem_cons_of_mem _ hy))
theorem Rp.mkL {a : Addr} {xs : List V} {ds : List D} (h : G a = some (.lst xs)) (r : RpL K G xs ds) : Rp K G (.ref a) (.lst ds) := .lst h r.1 r.2
theorem Rp.mkT {a : Addr} {xs : List V} {ds : List D} (h : SqT K G a xs) (r : RpL K G xs ds) : Rp K G (.ref a) (.tup ds) := .tup h r.1 r.2
end
structure Ext (K : PySem.W.Frag) (pa : Option Addr) (G H G' H' : Hp) : Prop where
  g : Same G G'
  hh : ∀ a o, H a = some o → pa ≠ some a → (∀ ps, o ≠ .tbl ps) → H' a = some o
  t : ∀ a o, H a = some o → ∃ o', H' a = some o'
  n : ∀ a o, H a = some o → G a = none → G' a = none
  sub : Same G' H'
  tk : TabK K H → TabK K H'
  gt : NoT G → NoT G'
theorem Ext.h {K : PySem.W.Frag} {pa : Option Addr} {G H G' H' : Hp} (x : Ext K pa G H G' H') (a : Addr) (o : HO) (e : H a = some o) (n : pa ≠ some a) (t : autoParam (∀ ps, o ≠ .tbl ps) EV.tac0) : H' a = some o := x.hh a o e n t
section
variable {K : PySem.W.Frag} {pa : Option Addr} {G H G1 H1 G2 H2 : Hp}
theorem Ext.refl (h : Same G H) : Ext K pa G H G H := ⟨Same.refl G, fun _ _ e _ _ => e, fun _ o e => ⟨o, e⟩, fun _ _ _ e => e, h, fun h => h, fun h => h⟩
theorem Ext.trans (a : Ext K pa G H G1 H1) (b : Ext K pa G1 H1 G2 H2) : Ext K pa G H G2 H2 :=
  ⟨a.g.trans b.g, fun c o e n t => b.h c o (a.h c o e n t) n t, fun c o e => by
    refine EV.el1_1 (a.t c o e) fun o' e' => ?_
    exact b.t c o' e', fun c o e n => by
    refine EV.el1_1 (a.t c o e) fun o' e' => ?_
    exact b.n c o' e' (a.n c o e n), b.sub, fun h => b.tk (a.tk h), fun h => b.gt (a.gt h)⟩
/-- a new object is laid, and public -/
theorem Ext.new (hs : Same G H) {p : Addr} (hp : H p = none) (o : HO) (ot : autoParam (∀ ps, o ≠ .tbl ps) EV.tac0) : Ext K pa G H (upd G p o) (upd H p o) := by
  have hg : G p = none := hs.free hp
  refine ⟨fun b x e => ?_, fun a x e _ _ => ?_, fun a x e => ⟨x, ?_⟩, fun a x e n => ?_, fun b x e => ?_, fun h => h.upd ot (fun φ z => by rw [hp] at z; exact EV.nnS z) (fun φ z => by rw [hp] at z; exact EV.nnS z), fun h => h.upd ot⟩
  · rw [upd_ne (ne_of_none e hg)]; exact e
  · rw [upd_ne (ne_of_none e hp)]; exact e
  · rw [upd_ne (ne_of_none e hp)]; exact e
  · rw [upd_ne (ne_of_none e hp)]; exact n
  · by_cases hb : b = p
    · subst hb
      rw [upd_same] at e ⊢
      exact e
    · rw [upd_ne hb] at e ⊢
      exact hs _ _ e
/-- a new object is laid, not public -/
theorem Ext.newH (hs : Same G H) {p : Addr} (hp : H p = none) (o : HO) (ot : autoParam (∀ ps, o ≠ .tbl ps) EV.tac0) : Ext K pa G H G (upd H p o) := by
  refine ⟨Same.refl G, fun a x e _ _ => ?_, fun a x e => ⟨x, ?_⟩, fun _ _ _ n => n, fun b x e => ?_, fun h => h.upd ot (fun φ z => by rw [hp] at z; exact EV.nnS z) (fun φ z => by rw [hp] at z; exact EV.nnS z), fun h => h⟩
  · rw [upd_ne (ne_of_none e hp)]; exact e
  · rw [upd_ne (ne_of_none e hp)]; exact e
  · have e' := hs _ _ e
    rw [upd_ne (ne_of_none e' hp)]; exact e'
end
noncomputable def PenOk (pa : Option Addr) (G H : Hp) (s : List Int) : Prop := ∀ p, pa = some p → G p = none ∧ H p = some (.lst (s.map V.int))
theorem PenOk.none {G H : Hp} {s : List Int} : PenOk none G H s := fun p e => by exact EV.nnS e
theorem PenOk.upd {pa : Option Addr} {G H : Hp} {s : List Int} (h : PenOk pa G H s) {p : Addr} (hp : H p = Option.none) (o : HO) : PenOk pa (upd G p o) (upd H p o) s := fun q e => by
  refine EV.el0_2 (h q e) fun h1 h2 => ?_
  have ne : q ≠ p := ne_of_none h2 hp
  rw [upd_ne ne, upd_ne ne]
  exact ⟨h1, h2⟩
theorem PenOk.updH {pa : Option Addr} {G H : Hp} {s : List Int} (h : PenOk pa G H s) {p : Addr} (hp : H p = Option.none) (o : HO) : PenOk pa G (L2.upd H p o) s := fun q e => by
  refine EV.el0_2 (h q e) fun h1 h2 => ?_
  rw [upd_ne (ne_of_none h2 hp)]
  exact ⟨h1, h2⟩
/-- what is known of a slot -/
inductive Sl where
  | junk | val (d : D) | own (xs : List D) | pen | scr (ns : List Int) | dic (sh : DSh) (xs : List D) | ro (sh : DSh) (xs : List D)
noncomputable def plainS : Sl → Bool
  | .dic _ _ => false
  | .ro _ _ => false
  | _ => true
theorem plain_dic {z : Sl} {sh : DSh} {xs : List D} (h : plainS z = true) (e : z = .dic sh xs) : False := by
  rw [e] at h
  exact EV.nnB h
theorem plain_ro {z : Sl} {sh : DSh} {xs : List D} (h : plainS z = true) (e : z = .ro sh xs) : False := by
  rw [e] at h
  exact EV.nnB h
/-- slots that hold dicts: one's own (dic), one that stays as it is (ro) -/
structure NvX (K : PySem.W.Frag) (H0 G H : Hp) (σ : L2.St) (Γ : List Sl) : Prop where
  dic : ∀ (i : Nat) sh xs, Γ[i]? = some (.dic sh xs) → ∃ p vs, σ[i]? = some (some (.ref p)) ∧ H p = some (sh.ho vs) ∧ G p = none ∧ RpL K G vs xs ∧ sh.len = xs.length ∧ H0 p = none ∧ sh.at p
  inj : ∀ (i j : Nat) p sh xs sh' ys, Γ[i]? = some (.dic sh xs) → Γ[j]? = some (.dic sh' ys) → σ[i]? = some (some (.ref p)) → σ[j]? = some (some (.ref p)) → i = j
  ro : ∀ (i : Nat) sh xs, Γ[i]? = some (.ro sh xs) → ∃ p vs, σ[i]? = some (some (.ref p)) ∧ G p = some (sh.ho vs) ∧ RpL K G vs xs ∧ sh.len = xs.length
  t0 : TabK K H0
  nt : NoT G
section
variable {K : PySem.W.Frag} {pa : Option Addr} {H0 G H G' H' : Hp} {σ : L2.St} {Γ : List Sl} {s : List Int}
theorem NvX.none (h : ∀ z ∈ Γ, plainS z = true) (t0 : TabK K H0) (nt : NoT G) : NvX K H0 G H σ Γ := ⟨fun i sh xs e => (plain_dic (h _ (List.mem_of_getElem? e)) rfl).elim, fun i j p sh xs sh' ys e => (plain_dic (h _ (List.mem_of_getElem? e)) rfl).elim, fun i sh xs e => (plain_ro (h _ (List.mem_of_getElem? e)) rfl).elim, t0, nt⟩
theorem NvX.step (E : NvX K H0 G H σ Γ) (x : Ext K pa G H G' H') (ps : PenOk pa G H s) : NvX K H0 G' H' σ Γ := ⟨fun i sh xs e => by
    refine EV.el2_6 (E.dic i sh xs e) fun p vs h1 h2 h3 h4 h5 h6 => ?_
    refine EV.in2_6 p vs h1 (x.h _ _ h2 (fun z => ?_) (fun _ z => DSh.notTbl z)) (x.n _ _ h2 h3) (h4.mono x.g) h5 h6
    have q := (ps p z).2
    rw [h2] at q
    exact DSh.notLst (Option.some.inj q), E.inj, fun i sh xs e => by
    refine EV.el2_4 (E.ro i sh xs e) fun p vs h1 h2 h3 h4 => ?_
    exact ⟨p, vs, h1, x.g _ _ h2, h3.mono x.g, h4⟩, E.t0, x.gt E.nt⟩
theorem set_plain {z w : Sl} {i j : Nat} (hz : plainS z = true) (hw : plainS w = false) (e : (Γ.set i z)[j]? = some w) : i ≠ j ∧ Γ[j]? = some w := by
  by_cases hj : i = j
  · subst hj
    have hi := (List.getElem?_eq_some_iff.mp e).1
    rw [List.getElem?_set_self (by simpa using hi)] at e
    rw [Option.some.inj e] at hz
    rw [hz] at hw
    exact EV.nnB (Eq.symm hw)
  · rw [List.getElem?_set_ne hj] at e
    exact ⟨hj, e⟩
theorem NvX.put (E : NvX K H0 G H σ Γ) (i : Nat) {o : Option V} {z : Sl} (hz : plainS z = true) : NvX K H0 G H (σ.set i o) (Γ.set i z) := ⟨fun j sh xs e => by
    refine EV.el0_2 (set_plain hz rfl e) fun ne e => ?_
    rw [List.getElem?_set_ne ne]
    exact E.dic j sh xs e, fun j l p sh xs sh' ys e1 e2 => by
    refine EV.el0_2 (set_plain hz rfl e1) fun n1 e1 => ?_
    refine EV.el0_2 (set_plain hz rfl e2) fun n2 e2 => ?_
    rw [List.getElem?_set_ne n1, List.getElem?_set_ne n2]
    exact E.inj j l p sh xs sh' ys e1 e2, fun j sh xs e => by
    refine EV.el0_2 (set_plain hz rfl e) fun ne e => ?_
    rw [List.getElem?_set_ne ne]
    exact E.ro j sh xs e, E.t0, E.nt⟩
theorem NvX.putG (E : NvX K H0 G H σ Γ) (i : Nat) {z : Sl} (hz : plainS z = true) : NvX K H0 G H σ (Γ.set i z) := ⟨fun j sh xs e => by
    refine EV.el0_2 (set_plain hz rfl e) fun ne e => ?_
    exact E.dic j sh xs e, fun j l p sh xs sh' ys e1 e2 => by
    refine EV.el0_2 (set_plain hz rfl e1) fun n1 e1 => ?_
    refine EV.el0_2 (set_plain hz rfl e2) fun n2 e2 => ?_
    exact E.inj j l p sh xs sh' ys e1 e2, fun j sh xs e => by
    refine EV.el0_2 (set_plain hz rfl e) fun ne e => ?_
    exact E.ro j sh xs e, E.t0, E.nt⟩
theorem NvX.updL (E : NvX K H0 G H σ Γ) {p : Addr} {ws : List V} {o : HO} (hp : H p = some (.lst ws)) : NvX K H0 G (upd H p o) σ Γ := ⟨fun i sh xs e => by
    refine EV.el2_3 (E.dic i sh xs e) fun q vs h1 h2 h3 => ?_
    have ne : q ≠ p := fun z => by
      rw [z, hp] at h2
      exact DSh.notLst (Option.some.inj h2).symm
    exact ⟨q, vs, h1, by rw [upd_ne ne]; exact h2, h3⟩, E.inj, E.ro, E.t0, E.nt⟩
theorem NvX.pubL (E : NvX K H0 G H σ Γ) {p : Addr} {ws : List V} (hp : H p = some (.lst ws)) (hg : G p = Option.none) : NvX K H0 (upd G p (.lst ws)) H σ Γ := by
  have sg : Same G (upd G p (.lst ws)) := fun a o e => by
    rw [upd_ne (ne_of_none e hg)]
    exact e
  refine ⟨fun i sh xs e => ?_, E.inj, fun i sh xs e => ?_, E.t0, E.nt.upd (nt_lst _)⟩
  · refine EV.el2_5 (E.dic i sh xs e) fun q vs h1 h2 h3 h4 h5 => ?_
    have ne : q ≠ p := fun z => by
      rw [z, hp] at h2
      exact DSh.notLst (Option.some.inj h2).symm
    exact EV.in2_5 q vs h1 h2 (by rw [upd_ne ne]; exact h3) (h4.mono sg) h5
  · refine EV.el2_4 (E.ro i sh xs e) fun q vs h1 h2 h3 h4 => ?_
    exact EV.in2_4 q vs h1 (sg _ _ h2) (h3.mono sg) h4
end
structure Nv (K : PySem.W.Frag) (pa : Option Addr) (G0 H0 G H : Hp) (σ : L2.St) (Γ : List Sl) (s : List Int) : Prop where
  len : Γ.length = σ.length
  val : ∀ (i : Nat) d, Γ[i]? = some (.val d) → ∃ v, σ[i]? = some (some v) ∧ Rp K G v d
  own : ∀ (i : Nat) xs, Γ[i]? = some (.own xs) → ∃ p vs, σ[i]? = some (some (.ref p)) ∧ H p = some (.lst vs) ∧ G p = none ∧ RpL K G vs xs ∧ H0 p = none ∧ pa ≠ some p
  inj : ∀ (i j : Nat) p xs ys, Γ[i]? = some (.own xs) → Γ[j]? = some (.own ys) → σ[i]? = some (some (.ref p)) → σ[j]? = some (some (.ref p)) → i = j
  pen : ∀ (i : Nat), Γ[i]? = some .pen → ∃ p, pa = some p ∧ σ[i]? = some (some (.ref p))
  scr : ∀ (i : Nat) ns, Γ[i]? = some (.scr ns) → ∃ a, σ[i]? = some (some (.ref a)) ∧ SqL K G a (ns.map V.int)
  ps : PenOk pa G H s
  ext : Ext K pa G0 H0 G H
  x : NvX K H0 G H σ Γ
section
variable {K : PySem.W.Frag} {pa : Option Addr} {G0 H0 G H G' H' : Hp} {σ : L2.St} {Γ : List Sl} {s s' : List Int}
theorem Nv.step (E : Nv K pa G0 H0 G H σ Γ s) (x : Ext K pa G H G' H') (p : PenOk pa G' H' s') : Nv K pa G0 H0 G' H' σ Γ s' where
  len := E.len
  val := fun i d e => by
    refine EV.el1_2 (E.val i d e) fun v h1 h2 => ?_
    exact EV.in1_2 v h1 (h2.mono x.g)
  own := fun i xs e => by
    refine EV.el2_6 (E.own i xs e) fun p vs h1 h2 h3 h4 h5 h6 => ?_
    exact EV.in2_6 p vs h1 (x.h _ _ h2 h6) (x.n _ _ h2 h3) (h4.mono x.g) h5 h6
  inj := E.inj
  pen := E.pen
  scr := fun i ns e => by
    refine EV.el1_2 (E.scr i ns e) fun a h1 h2 => ?_
    exact EV.in1_2 a h1 (x.g.seq h2)
  ps := p
  ext := E.ext.trans x
  x := E.x.step x E.ps
theorem Nv.sub (E : Nv K pa G0 H0 G H σ Γ s) : Same G H := E.ext.sub
/-- a slot holds a value -/
theorem Nv.set (E : Nv K pa G0 H0 G H σ Γ s) {v : V} {d : D} (i : Nat) (r : Rp K G v d) : Nv K pa G0 H0 G H (σ.set i (some v)) (Γ.set i (.val d)) s where
  len := by simp [E.len]
  val := fun j d' e => by
    by_cases hj : i = j
    · subst hj
      have hi : i < Γ.length := by
        have := (List.getElem?_eq_some_iff.mp e).1
        simpa using this
      rw [List.getElem?_set_self hi] at e
      cases e
      exact EV.in1_2 v (List.getElem?_set_self (by rw [← E.len]; exact hi)) r
    · rw [List.getElem?_set_ne hj] at e
      rw [List.getElem?_set_ne hj]
      exact E.val j d' e
  own := fun j xs e => by
    by_cases hj : i = j
    · subst hj
      have hi : i < Γ.length := by
        have := (List.getElem?_eq_some_iff.mp e).1
        simpa using this
      rw [List.getElem?_set_self hi] at e
      cases e
    · rw [List.getElem?_set_ne hj] at e
      rw [List.getElem?_set_ne hj]
      exact E.own j xs e
  inj := fun j k p xs ys e1 e2 => by
    by_cases hj : i = j
    · subst hj
      have hi : i < Γ.length := by
        have := (List.getElem?_eq_some_iff.mp e1).1
        simpa using this
      rw [List.getElem?_set_self hi] at e1
      cases e1
    · by_cases hk : i = k
      · subst hk
        have hi : i < Γ.length := by
          have := (List.getElem?_eq_some_iff.mp e2).1
          simpa using this
        rw [List.getElem?_set_self hi] at e2
        cases e2
      · rw [List.getElem?_set_ne hj] at e1
        rw [List.getElem?_set_ne hk] at e2
        rw [List.getElem?_set_ne hj, List.getElem?_set_ne hk]
        exact E.inj j k p xs ys e1 e2
  pen := fun j e => by
    by_cases hj : i = j
    · subst hj
      have hi : i < Γ.length := by
        have := (List.getElem?_eq_some_iff.mp e).1
        simpa using this
      rw [List.getElem?_set_self hi] at e
      cases e
    · rw [List.getElem?_set_ne hj] at e
      rw [List.getElem?_set_ne hj]
      exact E.pen j e
  scr := fun j ns e => by
    by_cases hj : i = j
    · subst hj
      have hi : i < Γ.length := by
        have := (List.getElem?_eq_some_iff.mp e).1
        simpa using this
      rw [List.getElem?_set_self hi] at e
      cases e
    · rw [List.getElem?_set_ne hj] at e
      rw [List.getElem?_set_ne hj]
      exact E.scr j ns e
  ps := E.ps
  ext := E.ext
  x := E.x.put i rfl
/-- a slot holds a list of its own -/
theorem Nv.setOwn (E : Nv K pa G0 H0 G H σ Γ s) {p : Addr} {vs : List V} {xs : List D} (i : Nat) (hp : H p = some (.lst vs)) (hg : G p = none) (r : RpL K G vs xs) (h0 : H0 p = none) (hpa : pa ≠ some p)
    (hn : ∀ (j : Nat) ys, j ≠ i → Γ[j]? = some (.own ys) → σ[j]? ≠ some (some (.ref p))) : Nv K pa G0 H0 G H (σ.set i (some (.ref p))) (Γ.set i (.own xs)) s where
  len := by simp [E.len]
  val := fun j d' e => by
    by_cases hj : i = j
    · subst hj
      have hi : i < Γ.length := by
        have := (List.getElem?_eq_some_iff.mp e).1
        simpa using this
      rw [List.getElem?_set_self hi] at e
      cases e
    · rw [List.getElem?_set_ne hj] at e
      rw [List.getElem?_set_ne hj]
      exact E.val j d' e
  own := fun j xs' e => by
    by_cases hj : i = j
    · subst hj
      have hi : i < Γ.length := by
        have := (List.getElem?_eq_some_iff.mp e).1
        simpa using this
      rw [List.getElem?_set_self hi] at e
      cases e
      exact EV.in2_6 p vs (List.getElem?_set_self (by rw [← E.len]; exact hi)) hp hg r h0 hpa
    · rw [List.getElem?_set_ne hj] at e
      rw [List.getElem?_set_ne hj]
      exact E.own j xs' e
  inj := fun j k q ys zs e1 e2 e3 e4 => by
    by_cases hj : i = j
    · by_cases hk : i = k
      · exact hj.symm.trans hk
      · subst hj
        have hi : i < σ.length := by
          have := (List.getElem?_eq_some_iff.mp e3).1
          simpa using this
        rw [List.getElem?_set_self hi] at e3
        cases e3
        rw [List.getElem?_set_ne hk] at e2 e4
        exact absurd e4 (hn k zs (fun z => hk z.symm) e2)
    · by_cases hk : i = k
      · subst hk
        have hi : i < σ.length := by
          have := (List.getElem?_eq_some_iff.mp e4).1
          simpa using this
        rw [List.getElem?_set_self hi] at e4
        cases e4
        rw [List.getElem?_set_ne hj] at e1 e3
        exact absurd e3 (hn j ys (fun z => hj z.symm) e1)
      · rw [List.getElem?_set_ne hj] at e1 e3
        rw [List.getElem?_set_ne hk] at e2 e4
        exact E.inj j k q ys zs e1 e2 e3 e4
  pen := fun j e => by
    by_cases hj : i = j
    · subst hj
      have hi : i < Γ.length := by
        have := (List.getElem?_eq_some_iff.mp e).1
        simpa using this
      rw [List.getElem?_set_self hi] at e
      cases e
    · rw [List.getElem?_set_ne hj] at e
      rw [List.getElem?_set_ne hj]
      exact E.pen j e
  scr := fun j ns e => by
    by_cases hj : i = j
    · subst hj
      have hi : i < Γ.length := by
        have := (List.getElem?_eq_some_iff.mp e).1
        simpa using this
      rw [List.getElem?_set_self hi] at e
      cases e
    · rw [List.getElem?_set_ne hj] at e
      rw [List.getElem?_set_ne hj]
      exact E.scr j ns e
  ps := E.ps
  ext := E.ext
  x := E.x.put i rfl
/-- less is known -/
noncomputable def Weak : List Sl → List Sl → Prop
  | [], [] => True
  | x :: xs, y :: ys => (y = .junk ∨ x = y) ∧ Weak xs ys
  | _, _ => False
theorem Weak.refl : ∀ (l : List Sl), Weak l l
  | [] => trivial
  | _ :: xs => ⟨.inr rfl, Weak.refl xs⟩
theorem Weak.len {a : List Sl} : ∀ {b : List Sl}, Weak a b → a.length = b.length := by
  induction a with
  | nil =>
    intro b h
    cases b with
    | nil => rfl
    | cons _ _ => exact h.elim
  | cons x xs ih =>
    intro b h
    cases b with
    | nil => exact h.elim
    | cons y ys => exact congrArg (· + 1) (ih h.2)
theorem Weak.get {a : List Sl} : ∀ {b : List Sl}, Weak a b → ∀ {i : Nat} {x : Sl}, b[i]? = some x → x ≠ .junk → a[i]? = some x := by
  induction a with
  | nil =>
    intro b h i x e n
    cases b with
    | nil => exact e
    | cons _ _ => exact h.elim
  | cons z xs ih =>
    intro b h i x e n
    cases b with
    | nil => exact h.elim
    | cons y ys =>
      cases i with
      | zero =>
        obtain rfl : y = x := Option.some.inj e
        rcases h.1 with z | z
        · exact absurd z n
        · exact congrArg some z
      | succ i => exact ih h.2 e n
theorem Nv.weak (E : Nv K pa G0 H0 G H σ Γ s) {Γ' : List Sl} (h : Weak Γ Γ') : Nv K pa G0 H0 G H σ Γ' s where
  len := h.len.symm.trans E.len
  val := fun i d e => E.val i d (h.get e (fun z => by cases z))
  own := fun i xs e => E.own i xs (h.get e (fun z => by cases z))
  inj := fun i j p xs ys e1 e2 => E.inj i j p xs ys (h.get e1 (fun z => by cases z)) (h.get e2 (fun z => by cases z))
  pen := fun i e => E.pen i (h.get e (fun z => by cases z))
  scr := fun i ns e => E.scr i ns (h.get e (fun z => by cases z))
  ps := E.ps
  ext := E.ext
  x := ⟨fun i sh xs e => E.x.dic i sh xs (h.get e (fun z => by cases z)), fun i j p sh xs sh' ys e1 e2 => E.x.inj i j p sh xs sh' ys (h.get e1 (fun z => by cases z)) (h.get e2 (fun z => by cases z)), fun i sh xs e => E.x.ro i sh xs (h.get e (fun z => by cases z)), E.x.t0, E.x.nt⟩
theorem Nv.tk (E : Nv K pa G0 H0 G H σ Γ s) : TabK K H := E.ext.tk E.x.t0
end
/-- an exception of the program -/
noncomputable def ExcIs (K : PySem.W.Frag) (mg : Str → Option Value) (G H : Hp) (e : Ex) (cls : Value) (dx : Option Addr) : Prop :=
  mg e.name = some cls ∧ (e.fs = [] → dx = none) ∧ (e.fs ≠ [] → ∃ d fs, dx = some d ∧ H d = some (.xd fs) ∧ fs.map (·.1) = e.fs.map (·.1) ∧ RpL K G (fs.map (·.2)) (e.fs.map (·.2)))
noncomputable def Pst (K : PySem.W.Frag) (W : WX) (mg : Str → Option Value) (pa : Option Addr) (σ : L2.St) {α : Type} (F : Hp → Hp → α → List Int → Prop) (G H : Hp) : R α → Prop
  | .ok a s => ∀ G' H', Ext K pa G H G' H' → PenOk pa G' H' s → F G' H' a s
  | .exc e => ∀ cls dx G' H', Ext K pa G H G' H' → ExcIs K mg G' H' e cls dx → W cls dx σ H'
  | .bad => False
section
variable {K : PySem.W.Frag} {W : WX} {mg : Str → Option Value} {pa : Option Addr} {σ : L2.St} {α β : Type} {F F' : Hp → Hp → α → List Int → Prop} {G H G' H' : Hp}
theorem Pst.mono {r : R α} (x : Ext K pa G H G' H') (h : Pst K W mg pa σ F G H r) : Pst K W mg pa σ F G' H' r := by
  cases r with
  | ok a s => exact fun G2 H2 y p => h G2 H2 (x.trans y) p
  | exc e => exact fun cls dx G2 H2 y z => h cls dx G2 H2 (x.trans y) z
  | bad => exact h
theorem Pst.imp {r : R α} (h : Pst K W mg pa σ F G H r) (f : ∀ G' H' a s, Ext K pa G H G' H' → PenOk pa G' H' s → F G' H' a s → F' G' H' a s) : Pst K W mg pa σ F' G H r := by
  cases r with
  | ok a s => exact fun G2 H2 y p => f _ _ _ _ y p (h G2 H2 y p)
  | exc e => exact h
  | bad => exact h
theorem Pst.bind {F : Hp → Hp → β → List Int → Prop} {m : PM α} {f : α → PM β} {s : List Int} (h : Pst K W mg pa σ F G H ((m >>= f) s)) : Pst K W mg pa σ (fun G' H' a s' => Pst K W mg pa σ F G' H' (f a s')) G H (m s) := by
  rw [PM.bind_def] at h
  cases e : m s with
  | ok a s1 =>
    rw [e] at h
    exact fun G' H' x p => h.mono x
  | exc x => rw [e] at h; exact h
  | bad => rw [e] at h; exact h
/-- a result at once -/
theorem Pst.now {a : α} {s : List Int} (h : Pst K W mg pa σ F G H ((Pure.pure a : PM α) s)) (hs : Same G H) (p : PenOk pa G H s) : F G H a s := h G H (Ext.refl hs) p
end
noncomputable def FD (K : PySem.W.Frag) (Q : VK) : Hp → Hp → D → List Int → Prop := fun G' H' d _ => ∀ v, Rp K G' v d → Q v H'
noncomputable def FB (Q : Bool → Hp → Prop) : Hp → Hp → Bool → List Int → Prop := fun _ H' b _ => Q b H'
noncomputable def FL (K : PySem.W.Frag) (Q : List V → Hp → Prop) : Hp → Hp → List D → List Int → Prop := fun G' H' ds _ => ∀ vs, RpL K G' vs ds → Q vs H'
noncomputable def evT (X : Cx) (W : WX) (pa : Option Addr) (Γ : List Sl) (m : PM D) : TE := fun σ H Q => ∃ G0 H0 G s, Nv X.K pa G0 H0 G H σ Γ s ∧ Pst X.K W X.mg pa σ (FD X.K Q) G H (m s)
noncomputable def evB (X : Cx) (W : WX) (pa : Option Addr) (Γ : List Sl) (m : PM Bool) : TT := fun σ H Q => ∃ G0 H0 G s, Nv X.K pa G0 H0 G H σ Γ s ∧ Pst X.K W X.mg pa σ (FB Q) G H (m s)
noncomputable def evL (X : Cx) (W : WX) (pa : Option Addr) (Γ : List Sl) (m : PM (List D)) : TA := fun σ H Q => ∃ G0 H0 G s, Nv X.K pa G0 H0 G H σ Γ s ∧ Pst X.K W X.mg pa σ (FL X.K Q) G H (m s)
noncomputable abbrev EV (X : Cx) (W : WX) (pa : Option Addr) (Γ : List Sl) (e : Expr) (m : PM D) : Prop := PE X e (evT X W pa Γ m)
noncomputable abbrev EB (X : Cx) (W : WX) (pa : Option Addr) (Γ : List Sl) (e : Expr) (m : PM Bool) : Prop := PT X e (evB X W pa Γ m)
noncomputable abbrev EL (X : Cx) (W : WX) (pa : Option Addr) (Γ : List Sl) (es : List Expr) (m : PM (List D)) : Prop := PA X es (evL X W pa Γ m)
theorem pe_imp {X : Cx} {e : Expr} {t t' : TE} (h : PE X e t) (i : ∀ σ H Q, t' σ H Q → t σ H Q) : PE X e t' := ⟨fun pins s σ H Q I q => h.run pins s σ H Q I (i σ H Q q)⟩
theorem pt_imp {X : Cx} {e : Expr} {t t' : TT} (h : PT X e t) (i : ∀ σ H Q, t' σ H Q → t σ H Q) : PT X e t' := ⟨fun pins s σ H Q I q => h.run pins s σ H Q I (i σ H Q q)⟩
end EV
namespace EV
open PySem PySem.Spec PyProof.Rows L2
mutual
noncomputable def toPy : D → PyData
  | .non => .none
  | .bl b => .bool b
  | .int i => .int i
  | .str x => .str x
  | .tup xs => .tuple (toPyL xs)
  | .lst xs => .list (toPyL xs)
  | .dct _ => .dict []
  | .obj _ _ => .dict []
  | .cls _ => .dict []
noncomputable def toPyL : List D → List PyData
  | [] => []
  | x :: xs => toPy x :: toPyL xs
end
theorem toPyL_map : ∀ xs : List D, toPyL xs = xs.map toPy
  | [] => rfl
  | x :: xs => by simp only [toPyL, List.map_cons, toPyL_map xs]
noncomputable def shp (d : D) : Bool := SeqAt.shaped (toPy d)
noncomputable def eqvD (a b : D) : Bool := PyData.eqv (toPy a) (toPy b)
noncomputable def shown (d : D) : Str := PyData.shown (toPy d)
section
variable {K : PySem.W.Frag} {G H : Hp}
theorem dpAll_of : ∀ {xs : List V} {ds : List D}, xs.length = ds.length → (∀ (i : Nat) v d, xs[i]? = some v → ds[i]? = some d → Dp K G v (toPy d)) → DpAll K G xs (ds.map toPy)
  | [], [], _, _ => .nil
  | [], _ :: _, n, _ => by simp at n
  | _ :: _, [], n, _ => by simp at n
  | x :: xs, d :: ds, n, h => .cons (h 0 x d rfl rfl) (dpAll_of (by simpa using n) fun i v e h1 h2 => h (i + 1) v e (by simpa using h1) (by simpa using h2))
theorem noDict_at : ∀ {ds : List D}, PyData.hasDictAll (ds.map toPy) = false → ∀ (i : Nat) d, ds[i]? = some d → (toPy d).hasDict = false
  | [], _, i, d, e => by simp at e
  | x :: ds, h, 0, d, e => by
    simp only [List.map_cons, PyData.hasDictAll, Bool.or_eq_false_iff] at h
    have e : x = d := by simpa using e
    rw [← e]
    exact h.1
  | x :: ds, h, i + 1, d, e => by
    simp only [List.map_cons, PyData.hasDictAll, Bool.or_eq_false_iff] at h
    exact noDict_at h.2 i d (by simpa using e)
theorem Rp.dp {v : V} {d : D} (h : Rp K G v d) (hn : (toPy d).hasDict = false) : Dp K G v (toPy d) := by
  induction h with
  | non => exact .non
  | bl b => exact .bl b
  | int i => exact .int i
  | str x => exact .str x
  | lst h n _ ih =>
    simp only [toPy, toPyL_map] at hn ⊢
    exact .lst (SqL.of h) (dpAll_of n fun i v d h1 h2 => ih i v d h1 h2 (noDict_at (by simpa only [PyData.hasDict] using hn) i d h2))
  | tup h n _ ih =>
    simp only [toPy, toPyL_map] at hn ⊢
    exact .tup h (dpAll_of n fun i v d h1 h2 => ih i v d h1 h2 (noDict_at (by simpa only [PyData.hasDict] using hn) i d h2))
  | dct h hk n _ ih =>
    simp [toPy, PyData.hasDict] at hn
  | obj h hc hk _ ih =>
    simp [toPy, PyData.hasDict] at hn
  | cls C =>
    simp [toPy, PyData.hasDict] at hn
mutual
theorem lay_nd : ∀ d : PyData, d.canLay0 = true → d.hasDict = false
  | .none, _ => rfl
  | .bool _, _ => rfl
  | .int _, _ => rfl
  | .str _, _ => rfl
  | .list xs, h => by
    simp only [PyData.canLay0] at h
    simp only [PyData.hasDict]
    exact layAll_nd xs h
  | .tuple xs, h => by
    simp only [PyData.canLay0] at h
    simp only [PyData.hasDict]
    exact layAll_nd xs h
  | .dict _, h => by simp [PyData.canLay0] at h
theorem layAll_nd : ∀ xs : List PyData, PyData.canLayAll0 xs = true → PyData.hasDictAll xs = false
  | [], _ => rfl
  | x :: xs, h => by
    simp only [PyData.canLayAll0, Bool.and_eq_true] at h
    simp only [PyData.hasDictAll, lay_nd x h.1, layAll_nd xs h.2, Bool.or_self]
end
theorem shp_nd {d : D} (h : shp d = true) : (toPy d).hasDict = false := by
  unfold shp SeqAt.shaped at h
  rw [Bool.and_eq_true] at h
  exact lay_nd _ h.1
theorem Rp.dpS {v : V} {d : D} (h : Rp K G v d) (s : shp d = true) : Dp K G v (toPy d) := h.dp (shp_nd s)
end
structure Cok (X : Cx) (W : WX) (k : Nat) : Prop where
  calm : X.calm = true
  nd : X.N.Nodup
  takes : Takes X W
  room : Room k X.A
  guards : 32 ≤ k → X.A.guards = some []
  passes : PassesOwn (model X.prog X.w) X.A X.env X.xe
section
variable {X : Cx} {W : WX} {pa : Option Addr} {Γ : List Sl} {k : Nat} {pos : Pos}
theorem ev_var {i : Nat} {x : Str} {d : D} (hΓ : Γ[i]? = some (.val d)) (hN : X.N[i]? = some x) (hv : Vis X.env.scope x) (hd : autoParam ((x == ("__debug__" : Str)) = false) EV.tac1) (hcd : autoParam ((x == ("__classdict__" : Str)) = false) EV.tac1) :
    EV X W pa Γ (.Name x pos) (pure d) := pe_imp (pe_var hN hv hd hcd) fun σ H Q h_ => EV.ex4 h_ fun G0 H0 G s E P => by
  refine EV.el1_2 (E.val i d hΓ) fun v h1 h2 => ?_
  exact EV.in1_2 v h1 (P.now E.sub E.ps v h2)
theorem ev_const {e : Expr} {v : V} {d : D} (h : PE X e (tC v)) (r : ∀ K G, Rp K G v d) : EV X W pa Γ e (pure d) := pe_imp h fun σ H Q h_ => EV.ex4 h_ fun G0 H0 G s E P => P.now E.sub E.ps v (r _ _)
theorem ev_int {i j} : EV X W pa Γ (.Constant (.int i) j pos) (pure (.int i)) := ev_const pe_int fun _ _ => .int i
theorem ev_bl {b j} : EV X W pa Γ (.Constant (.bool b) j pos) (pure (.bl b)) := ev_const pe_bl fun _ _ => .bl b
theorem ev_non {j} : EV X W pa Γ (.Constant .none j pos) (pure .non) := ev_const pe_non fun _ _ => .non
theorem ev_str {x j} : EV X W pa Γ (.Constant (.str x) j pos) (pure (.str x)) := ev_const pe_str fun _ _ => .str x
/-- a name of the module that holds a number or a text -/
theorem ev_glob {x : Str} {v : V} {u : Value} {d : D} (hg : Gl X x) (hm : X.mg x = some u) (r : RelV v u) (rp : ∀ G, Rp X.K G v d) (hd : autoParam ((x == ("__debug__" : Str)) = false) EV.tac1) : EV X W pa Γ (.Name x pos) (pure d) :=
  pe_imp (pe_glob hg hm r hd) fun σ H Q h_ => EV.ex4 h_ fun G0 H0 G s E P => P.now E.sub E.ps v (rp _)
theorem pa_imp {es : List Expr} {t t' : TA} (h : PA X es t) (i : ∀ σ H Q, t' σ H Q → t σ H Q) : PA X es t' := ⟨fun p pins s σ H Q I q => h.run p pins s σ H Q I (i σ H Q q)⟩
theorem el_nil : EL X W pa Γ [] (pure []) := pa_imp pa_nil fun σ H Q h_ => EV.ex4 h_ fun G0 H0 G s E P => P.now E.sub E.ps [] .nil
theorem el_cons {e : Expr} {es : List Expr} {m : PM D} {ml : PM (List D)} (h : EV X W pa Γ e m) (t : EL X W pa Γ es ml) (hs : autoParam (starEach (e :: es) X.env = (false, eval e X.env) :: starEach es X.env) EV.tac2) :
    EL X W pa Γ (e :: es) (m >>= fun d => ml >>= fun ds => pure (d :: ds)) := pa_imp (pa_cons h t hs) fun σ H Q h_ => EV.ex4 h_ fun G0 H0 G s E P =>
  ⟨G0, H0, G, s, E, P.bind.imp fun G1 H1 a s1 x1 p1 P1 v r => ⟨G0, H0, G1, s1, E.step x1 p1, P1.bind.imp fun G2 H2 as s2 x2 p2 P2 vs rs => P2.now x2.sub p2 (v :: vs) (.cons (r.mono x2.g) rs)⟩⟩
noncomputable def OpD (X : Cx) (f : Value → Value → Sem Value) (g : D → D → PM D) : Prop := ∃ r : R2, OpR X f r ∧
  ∀ (W : WX) (pa : Option Addr) (σ : L2.St) (G H : Hp) (s : List Int) (x y : V) (a b : D) (Q : VK), Same G H → PenOk pa G H s → Rp X.K G x a → Rp X.K G y b → Pst X.K W X.mg pa σ (FD X.K Q) G H (g a b s) → r x y H Q
theorem OpD.or {f : Value → Value → Sem Value} {g g' : D → D → PM D} {c : D → D → Bool} (h : OpD X f g) (h' : OpD X f g') : OpD X f (fun a b => if c a b = true then g a b else g' a b) := by
  (refine EV.el1_2 h ?_; try clear h; intro r h1 h2)
  (refine EV.el1_2 h' ?_; try clear h'; intro r' h1' h2')
  refine EV.in1_2 _ (h1.or h1') (fun W pa σ G H s x y a b Q hs hp ra rb P => ?_)
  by_cases hc : c a b = true
  · dsimp only at P
    rw [if_pos hc] at P
    exact .inl (h2 W pa σ G H s x y a b Q hs hp ra rb P)
  · dsimp only at P
    rw [if_neg hc] at P
    exact .inr (h2' W pa σ G H s x y a b Q hs hp ra rb P)
theorem OpD.to {f : Value → Value → Sem Value} {g g' : D → D → PM D} (h : OpD X f g) (e : ∀ a b s, g' a b s = g a b s ∨ g' a b s = .bad) : OpD X f g' := by
  (refine EV.el1_2 h ?_; try clear h; intro r h1 h2)
  refine EV.in1_2 r h1 (fun W pa σ G H s x y a b Q hs hp ra rb P => ?_)
  rcases e a b s with q | q
  · rw [q] at P
    exact h2 W pa σ G H s x y a b Q hs hp ra rb P
  · rw [q] at P
    exact P.elim
theorem ev_op {op : Operator} {g : D → D → PM D} {a b : Expr} {ma mb : PM D} (ho : OpD X (binaryOp op) g) (ha : EV X W pa Γ a ma) (hb : EV X W pa Γ b mb) : EV X W pa Γ (.BinOp a op b pos) (ma >>= fun x => mb >>= fun y => g x y) := by
  (refine EV.el1_2 ho ?_; try clear ho; intro r h1 h2)
  exact pe_imp (pe_op h1 ha hb) fun σ H Q h_ => EV.ex4 h_ fun G0 H0 G s E P =>
    ⟨G0, H0, G, s, E, P.bind.imp fun G1 H1 a s1 x1 p1 P1 v r => ⟨G0, H0, G1, s1, E.step x1 p1, P1.bind.imp fun G2 H2 b s2 x2 p2 P2 w rw => h2 W pa σ G2 H2 s2 v w a b Q x2.sub p2 (r.mono x2.g) rw P2⟩⟩
theorem ev_cmp {op : CmpOp} {g : D → D → PM D} {a b : Expr} {ma mb : PM D} (ho : OpD X (compareOp op) g) (ha : EV X W pa Γ a ma) (hb : EV X W pa Γ b mb) (hm : behindInMarks op b = false) : EV X W pa Γ (.Compare a [op] [b] pos) (ma >>= fun x => mb >>= fun y => g x y) := by
  (refine EV.el1_2 ho ?_; try clear ho; intro r h1 h2)
  exact pe_imp (pe_cmpR h1 ha hb hm) fun σ H Q h_ => EV.ex4 h_ fun G0 H0 G s E P =>
    ⟨G0, H0, G, s, E, P.bind.imp fun G1 H1 a s1 x1 p1 P1 v r => ⟨G0, H0, G1, s1, E.step x1 p1, P1.bind.imp fun G2 H2 b s2 x2 p2 P2 w rw => h2 W pa σ G2 H2 s2 v w a b Q x2.sub p2 (r.mono x2.g) rw P2⟩⟩
noncomputable def asB : D → PM Bool
  | .bl b => pure b
  | _ => bad
theorem eb_cmp {op : CmpOp} {g : D → D → PM D} {a b : Expr} {ma mb : PM D} (ho : OpD X (compareOp op) g) (ha : EV X W pa Γ a ma) (hb : EV X W pa Γ b mb) (hm : behindInMarks op b = false) : EB X W pa Γ (.Compare a [op] [b] pos) (ma >>= fun x => mb >>= fun y => g x y >>= asB) := by
  (refine EV.el1_2 ho ?_; try clear ho; intro r h1 h2)
  exact pt_imp (pt_cmpR h1 ha hb hm) fun σ H Q h_ => EV.ex4 h_ fun G0 H0 G s E P =>
    ⟨G0, H0, G, s, E, P.bind.imp fun G1 H1 a s1 x1 p1 P1 v r => ⟨G0, H0, G1, s1, E.step x1 p1, P1.bind.imp fun G2 H2 b s2 x2 p2 P2 w rw => h2 W pa σ G2 H2 s2 v w a b _ x2.sub p2 (r.mono x2.g) rw
      (P2.bind.imp fun G3 H3 d s3 x3 p3 P3 u ru => by
        cases ru with
        | bl c => exact EV.in1_2 c rfl (P3.now x3.sub p3)
        | _ => exact P3.elim)⟩⟩
/-- an expression whose value is a bool -/
theorem eb_val {e : Expr} {m : PM D} (h : EV X W pa Γ e m) (he : autoParam (∀ whole, isTrue e X.env whole = (do let v ← whole; standAt e.pos; holding [v] (truthy v))) EV.tac3) : EB X W pa Γ e (m >>= asB) :=
  pt_imp (pt_val h he) fun σ H Q h_ => EV.ex4 h_ fun G0 H0 G s E P => ⟨G0, H0, G, s, E, P.bind.imp fun G1 H1 d s1 x1 p1 P1 v r => by
    cases r with
    | bl c => exact EV.in1_2 c rfl (P1.now x1.sub p1)
    | _ => exact P1.elim⟩
theorem eb_not {a : Expr} {m : PM Bool} (h : EB X W pa Γ a m) : EB X W pa Γ (.UnaryOp .Not a pos) (m >>= fun b => pure (!b)) :=
  pt_imp (pt_not h) fun σ H Q h_ => EV.ex4 h_ fun G0 H0 G s E P => ⟨G0, H0, G, s, E, P.bind.imp fun G1 H1 d s1 x1 p1 P1 => P1.now x1.sub p1⟩
noncomputable abbrev EW (X : Cx) (W : WX) (pa : Option Addr) (Γ : List Sl) (e : Expr) (m : PM Bool) : Prop := PW X e (evB X W pa Γ m)
theorem pw_imp {e : Expr} {t t' : TT} (h : PW X e t) (i : ∀ σ H Q, t' σ H Q → t σ H Q) : PW X e t' := ⟨fun wh pins s σ H Q I q => h.run wh pins s σ H Q I (i σ H Q q)⟩
theorem ew_and1 {a : Expr} {m : PM Bool} (h : EB X W pa Γ a m) : EW X W pa Γ (.BoolOp .And [a] pos) m := pw_and1 h
theorem ew_or1 {a : Expr} {m : PM Bool} (h : EB X W pa Γ a m) : EW X W pa Γ (.BoolOp .Or [a] pos) m := pw_or1 h
theorem ew_and {a b : Expr} {rest : List Expr} {m ml : PM Bool} (h : EB X W pa Γ a m) (t : EW X W pa Γ (.BoolOp .And (b :: rest) pos) ml) : EW X W pa Γ (.BoolOp .And (a :: b :: rest) pos) (m >>= fun c => if c = true then ml else pure false) :=
  pw_imp (pw_and h t) fun σ H Q h_ => EV.ex4 h_ fun G0 H0 G s E P => ⟨G0, H0, G, s, E, P.bind.imp fun G1 H1 c s1 x1 p1 P1 => by
    cases c with
    | true => exact (show evB X W pa Γ ml σ H1 Q from ⟨G0, H0, G1, s1, E.step x1 p1, P1⟩)
    | false => exact (show Q false H1 from P1.now x1.sub p1)⟩
theorem ew_or {a b : Expr} {rest : List Expr} {m ml : PM Bool} (h : EB X W pa Γ a m) (t : EW X W pa Γ (.BoolOp .Or (b :: rest) pos) ml) : EW X W pa Γ (.BoolOp .Or (a :: b :: rest) pos) (m >>= fun c => if c = true then pure true else ml) :=
  pw_imp (pw_or h t) fun σ H Q h_ => EV.ex4 h_ fun G0 H0 G s E P => ⟨G0, H0, G, s, E, P.bind.imp fun G1 H1 c s1 x1 p1 P1 => by
    cases c with
    | true => exact (show Q true H1 from P1.now x1.sub p1)
    | false => exact (show evB X W pa Γ ml σ H1 Q from ⟨G0, H0, G1, s1, E.step x1 p1, P1⟩)⟩
theorem eb_bool {e : Expr} {m : PM Bool} (h : EW X W pa Γ e m) : EB X W pa Γ e m := h.pt
/-- a test's value, as a value (an and, an or, a not of bools) -/
theorem ev_one {op} {a : Expr} {m : PM D} (h : EV X W pa Γ a m) : EV X W pa Γ (.BoolOp op [a] pos) m := pe_one h
theorem ev_and {a b : Expr} {rest : List Expr} {m ml : PM D} (h : EV X W pa Γ a m) (t : EV X W pa Γ (.BoolOp .And (b :: rest) pos) ml) : EV X W pa Γ (.BoolOp .And (a :: b :: rest) pos) (m >>= fun d => asB d >>= fun c => if c = true then ml else pure (.bl false)) :=
  pe_imp (pe_and h t) fun σ H Q h_ => EV.ex4 h_ fun G0 H0 G s E P => ⟨G0, H0, G, s, E, P.bind.imp fun G1 H1 d s1 x1 p1 P1 v r => by
    cases r with
    | bl c =>
      refine EV.in1_2 c rfl ?_
      have P2 := (P1.bind).now x1.sub p1
      cases c with
      | true => exact (show evT X W pa Γ ml σ H1 Q from ⟨G0, H0, G1, s1, E.step x1 p1, P2⟩)
      | false => exact (show Q (.bl false) H1 from P2.now x1.sub p1 _ (.bl false))
    | _ => exact P1.elim⟩
theorem ev_not {a : Expr} {m : PM D} (h : EV X W pa Γ a m) : EV X W pa Γ (.UnaryOp .Not a pos) (m >>= fun d => asB d >>= fun c => pure (.bl (!c))) :=
  pe_imp (pe_not h) fun σ H Q h_ => EV.ex4 h_ fun G0 H0 G s E P => ⟨G0, H0, G, s, E, P.bind.imp fun G1 H1 d s1 x1 p1 P1 v r => by
    cases r with
    | bl c => exact EV.in1_2 c rfl (((P1.bind).now x1.sub p1).now x1.sub p1 _ (.bl _))
    | _ => exact P1.elim⟩
theorem ev_ifExp {c a b : Expr} {mc : PM Bool} {ma mb : PM D} (hc : EB X W pa Γ c mc) (ha : EV X W pa Γ a ma) (hb : EV X W pa Γ b mb) : EV X W pa Γ (.IfExp c a b pos) (mc >>= fun t => if t = true then ma else mb) :=
  pe_imp (pe_ifExp hc ha hb) fun σ H Q h_ => EV.ex4 h_ fun G0 H0 G s E P => ⟨G0, H0, G, s, E, P.bind.imp fun G1 H1 t s1 x1 p1 P1 => by
    cases t with
    | true => exact (show evT X W pa Γ ma σ H1 Q from ⟨G0, H0, G1, s1, E.step x1 p1, P1⟩)
    | false => exact (show evT X W pa Γ mb σ H1 Q from ⟨G0, H0, G1, s1, E.step x1 p1, P1⟩)⟩
noncomputable abbrev lim : Nat := 1000000
theorem lim_le {n : Nat} (h : n ≤ lim) : n ≤ sizeLine := Nat.le_trans h (by decide)
theorem lim_lt {n : Nat} (h : n ≤ lim) : n < sizeLine := Nat.lt_of_le_of_lt h (by decide)
noncomputable def mkT (xs : List D) : PM D := if xs.length ≤ lim then pure (.tup xs) else bad
noncomputable def mkL (xs : List D) : PM D := if xs.length ≤ lim then pure (.lst xs) else bad
theorem mkT_ok {xs : List D} (h : xs.length ≤ lim) : mkT xs = pure (.tup xs) := if_pos h
theorem mkL_ok {xs : List D} (h : xs.length ≤ lim) : mkL xs = pure (.lst xs) := if_pos h
section
variable {mg : Str → Option Value} {K : PySem.W.Frag} {pa : Option Addr} {σ : L2.St} {G H : Hp} {s : List Int} {Q : VK}
theorem mkT_len {vs : List V} {ds : List D} (P : Pst K W mg pa σ (FD K Q) G H (mkT ds s)) (r : RpL K G vs ds) : vs.length ≤ sizeLine := by
  unfold mkT at P
  split at P
  · rename_i h
    rw [r.1]
    exact lim_le h
  · exact P.elim
theorem mkT_use {vs : List V} {ds : List D} (P : Pst K W mg pa σ (FD K Q) G H (mkT ds s)) (r : RpL K G vs ds) (hs : Same G H) (hp : PenOk pa G H s) {p : Addr} (np : H p = none) : Q (.ref p) (upd H p (.tup vs)) := by
  unfold mkT at P
  split at P
  · have x := Ext.new (K := K) (pa := pa) hs np (.tup vs)
    exact P _ _ x (hp.upd np _) _ (.mkT (SqT.of upd_same) (r.mono x.g))
  · exact P.elim
theorem mkL_len {vs : List V} {ds : List D} (P : Pst K W mg pa σ (FD K Q) G H (mkL ds s)) (r : RpL K G vs ds) : vs.length ≤ sizeLine := by
  unfold mkL at P
  split at P
  · rename_i h
    rw [r.1]
    exact lim_le h
  · exact P.elim
theorem mkL_use {vs : List V} {ds : List D} (P : Pst K W mg pa σ (FD K Q) G H (mkL ds s)) (r : RpL K G vs ds) (hs : Same G H) (hp : PenOk pa G H s) {p : Addr} (np : H p = none) : Q (.ref p) (upd H p (.lst vs)) := by
  unfold mkL at P
  split at P
  · have x := Ext.new (K := K) (pa := pa) hs np (.lst vs)
    exact P _ _ x (hp.upd np _) _ (.mkL upd_same (r.mono x.g))
  · exact P.elim
end
theorem ev_tup {es : List Expr} {x1} {ml : PM (List D)} (h : EL X W pa Γ es ml) : EV X W pa Γ (.Tuple es x1 pos) (ml >>= mkT) :=
  pe_imp (L2.pe_tup h) fun σ H Q h_ => EV.ex4 h_ fun G0 H0 G s E P => ⟨G0, H0, G, s, E, P.bind.imp fun G1 H1 ds s1 x1 p1 P1 vs r =>
    ⟨mkT_len P1 r, fun p np => mkT_use P1 r x1.sub p1 np⟩⟩
theorem ev_lst {es : List Expr} {ml : PM (List D)} (h : EL X W pa Γ es ml) : EV X W pa Γ (.List es pos) (ml >>= mkL) :=
  pe_imp (L2.pe_lst h) fun σ H Q h_ => EV.ex4 h_ fun G0 H0 G s E P => ⟨G0, H0, G, s, E, P.bind.imp fun G1 H1 ds s1 x1 p1 P1 vs r =>
    ⟨mkL_len P1 r, fun p np => mkL_use P1 r x1.sub p1 np⟩⟩
/-- a call by values -/
noncomputable def CallD (X : Cx) (f : Value) (g : List D → PM D) : Prop := ∃ r : List V → Hp → VK → Prop, CallR X f r ∧
  ∀ (W : WX) (pa : Option Addr) (σ : L2.St) (G H : Hp) (s : List Int) (xs : List V) (ds : List D) (Q : VK), Same G H → PenOk pa G H s → RpL X.K G xs ds → Pst X.K W X.mg pa σ (FD X.K Q) G H (g ds s) → r xs H Q
theorem CallD.or {f : Value} {g g' : List D → PM D} {c : List D → Bool} (h : CallD X f g) (h' : CallD X f g') : CallD X f (fun a => if c a = true then g a else g' a) := by
  (refine EV.el1_2 h ?_; try clear h; intro r h1 h2)
  (refine EV.el1_2 h' ?_; try clear h'; intro r' h1' h2')
  refine EV.in1_2 _ (h1.or h1') (fun W pa σ G H s x a Q hs hp ra P => ?_)
  by_cases hc : c a = true
  · dsimp only at P
    rw [if_pos hc] at P
    exact .inl (h2 W pa σ G H s x a Q hs hp ra P)
  · dsimp only at P
    rw [if_neg hc] at P
    exact .inr (h2' W pa σ G H s x a Q hs hp ra P)
theorem CallD.to {f : Value} {g g' : List D → PM D} (h : CallD X f g) (e : ∀ a s, g' a s = g a s ∨ g' a s = .bad) : CallD X f g' := by
  (refine EV.el1_2 h ?_; try clear h; intro r h1 h2)
  refine EV.in1_2 r h1 (fun W pa σ G H s x a Q hs hp ra P => ?_)
  rcases e a s with q | q
  · rw [q] at P
    exact h2 W pa σ G H s x a Q hs hp ra P
  · rw [q] at P
    exact P.elim
theorem ev_callB {x : Str} {id : String} {g : List D → PM D} {e : Expr} {es : List Expr} {p : Pos} {ml : PM (List D)} (hc : CallD X (.builtin id) g) (hg : Gl X x) (hm : X.mg x = none) (hv : bootBuiltins x = some (.builtin id)) (ha : EL X W pa Γ (e :: es) ml)
    (hn : autoParam (x ≠ "__name__") EV.tac1) (hdb : autoParam ((x == ("__debug__" : Str)) = false) EV.tac1) (hs : autoParam (starEach (e :: es) X.env = (false, eval e X.env) :: starEach es X.env) EV.tac2)
    (hpl : autoParam ((backTo pos (starEach es X.env)).any (·.1) = false) EV.tac2) : EV X W pa Γ (.Call (.Name x p) (e :: es) [] pos) (ml >>= g) := by
  (refine EV.el1_2 hc ?_; try clear hc; intro r h1 h2)
  exact pe_imp (pe_callB h1 hg hm hv ha hn hdb hs hpl) fun σ H Q h_ => EV.ex4 h_ fun G0 H0 G s E P => ⟨G0, H0, G, s, E, P.bind.imp fun G1 H1 ds s1 x1 p1 P1 vs rs => h2 W pa σ G1 H1 s1 vs ds Q x1.sub p1 rs P1⟩
theorem ev_callTy {x : Str} {T : String} {g : List D → PM D} {e : Expr} {es : List Expr} {p : Pos} {ml : PM (List D)} (hc : CallD X (.type T) g) (hg : Gl X x) (hm : X.mg x = none) (hv : bootBuiltins x = some (.type T)) (ha : EL X W pa Γ (e :: es) ml)
    (hn : autoParam (x ≠ "__name__") EV.tac1) (hdb : autoParam ((x == ("__debug__" : Str)) = false) EV.tac1) (hs : autoParam (starEach (e :: es) X.env = (false, eval e X.env) :: starEach es X.env) EV.tac2)
    (hpl : autoParam ((backTo pos (starEach es X.env)).any (·.1) = false) EV.tac2) : EV X W pa Γ (.Call (.Name x p) (e :: es) [] pos) (ml >>= g) := by
  (refine EV.el1_2 hc ?_; try clear hc; intro r h1 h2)
  exact pe_imp (pe_callTy h1 hg hm hv ha hn hdb hs hpl) fun σ H Q h_ => EV.ex4 h_ fun G0 H0 G s E P => ⟨G0, H0, G, s, E, P.bind.imp fun G1 H1 ds s1 x1 p1 P1 vs rs => h2 W pa σ G1 H1 s1 vs ds Q x1.sub p1 rs P1⟩
end
end EV
namespace EV
open PySem PySem.Spec PyProof.Rows L2
section
variable {X : Cx} {k : Nat}
theorem od_i0 {f : Value → Value → Sem Value} {v : Int → Int → V} {d : Int → Int → D} (h : OpR X f (rI0 v)) (r : ∀ K G i j, Rp K G (v i j) (d i j)) {g : D → D → PM D}
    (e : ∀ a b s, (∃ i j, a = .int i ∧ b = .int j ∧ g a b s = .ok (d i j) s) ∨ g a b s = .bad) : OpD X f g := by
  refine EV.in1_2 _ h (fun W pa σ G H s x y a b Q hs hp ra rb P => ?_)
  rcases e a b s with ⟨i, j, rfl, rfl, q⟩ | q
  · rw [q] at P
    cases ra
    cases rb
    exact EV.in2_3 i j rfl rfl (P G H (Ext.refl hs) hp _ (r _ _ _ _))
  · rw [q] at P
    exact P.elim
theorem od_i {f : Value → Value → Sem Value} {C : Int → Int → Prop} {v : Int → Int → V} {d : Int → Int → D} (h : OpR X f (rI C v)) (r : ∀ K G i j, Rp K G (v i j) (d i j)) {g : D → D → PM D}
    (e : ∀ a b s, (∃ i j, a = .int i ∧ b = .int j ∧ C i j ∧ g a b s = .ok (d i j) s) ∨ g a b s = .bad) : OpD X f g := by
  refine EV.in1_2 _ h (fun W pa σ G H s x y a b Q hs hp ra rb P => ?_)
  rcases e a b s with ⟨i, j, rfl, rfl, c, q⟩ | q
  · rw [q] at P
    cases ra
    cases rb
    exact EV.in2_4 i j rfl rfl c (P G H (Ext.refl hs) hp _ (r _ _ _ _))
  · rw [q] at P
    exact P.elim
/-- of two ints -/
noncomputable def intD (f : Int → Int → PM D) (a b : D) : PM D := match a with
  | .int i => (match b with
    | .int j => f i j
    | _ => bad)
  | _ => bad
theorem intD_or (f : Int → Int → PM D) (a b : D) (s : List Int) : (∃ i j, a = .int i ∧ b = .int j ∧ intD f a b s = f i j s) ∨ intD f a b s = .bad := by
  cases a with
  | int i =>
    cases b with
    | int j => exact .inl ⟨i, j, rfl, rfl, rfl⟩
    | _ => exact .inr rfl
  | _ => exact .inr rfl
theorem od_iD0 {f : Value → Value → Sem Value} {v : Int → Int → V} {d : Int → Int → D} (h : OpR X f (rI0 v)) (r : ∀ K G i j, Rp K G (v i j) (d i j)) : OpD X f (intD fun i j => pure (d i j)) := od_i0 h r fun a b s => by
  rcases intD_or (fun i j => pure (d i j)) a b s with ⟨i, j, e1, e2, q⟩ | q
  · exact .inl ⟨i, j, e1, e2, q⟩
  · exact .inr q
theorem od_iD {f : Value → Value → Sem Value} {C : Int → Int → Prop} [I : ∀ i j, Decidable (C i j)] {v : Int → Int → V} {d : Int → Int → D} (h : OpR X f (rI C v)) (r : ∀ K G i j, Rp K G (v i j) (d i j)) : OpD X f (intD fun i j => if C i j then pure (d i j) else bad) := od_i h r fun a b s => by
  rcases intD_or (fun i j => if C i j then pure (d i j) else bad) a b s with ⟨i, j, e1, e2, q⟩ | q
  · by_cases c : C i j
    · rw [if_pos c] at q
      exact .inl ⟨i, j, e1, e2, c, q⟩
    · rw [if_neg c] at q
      exact .inr q
  · exact .inr q
noncomputable def addD : D → D → PM D
  | .int i, .int j => pure (.int (i + j))
  | .lst a, .lst b => mkL (a ++ b)
  | .tup a, .tup b => mkT (a ++ b)
  | .str a, .str b => if a.length + b.length ≤ lim then pure (.str (a ++ b)) else bad
  | _, _ => bad
theorem mkT_same {mg : Str → Option Value} {K : PySem.W.Frag} {W : WX} {pa : Option Addr} {σ : L2.St} {G H : Hp} {s : List Int} {Q : VK} {a : Addr} {vs : List V} {ds : List D} (P : Pst K W mg pa σ (FD K Q) G H (mkT ds s)) (h : SqT K G a vs) (r : RpL K G vs ds) (hs : Same G H) (hp : PenOk pa G H s) : Q (.ref a) H := by
  unfold mkT at P
  split at P
  · exact P G H (Ext.refl hs) hp _ (.mkT h r)
  · exact P.elim
theorem nil_of {vs : List V} {ds : List D} {K : PySem.W.Frag} {G : Hp} (h : RpL K G vs ds) (e : vs = []) : ds = [] := by
  have := h.1
  subst e
  cases ds with
  | nil => rfl
  | cons _ _ => simp at this
theorem od_add : OpD X (binaryOp .Add) addD := by
  refine EV.in1_2 _ (op_add.or (op_cat.or (op_catA.or op_add_str))) (fun W pa σ G H s x y a b Q hs hp ra rb P => ?_)
  cases ra with
  | int i =>
    cases rb with
    | int j => exact .inl ⟨i, j, rfl, rfl, P G H (Ext.refl hs) hp _ (.int _)⟩
    | _ => exact P.elim
  | str i =>
    cases rb with
    | str j =>
      have P : Pst X.K W X.mg pa σ (FD X.K Q) G H ((if i.length + j.length ≤ lim then pure (.str (i ++ j)) else bad : PM D) s) := P
      split at P
      · rename_i hl
        exact .inr (.inr (.inr ⟨i, j, rfl, rfl, lim_le hl, P G H (Ext.refl hs) hp _ (.str _)⟩))
      · exact P.elim
    | _ => exact P.elim
  | lst h n r =>
    cases rb with
    | lst h' n' r' =>
      have q : RpL X.K G _ _ := RpL.app ⟨n, r⟩ ⟨n', r'⟩
      have z := mkL_len P q
      rw [List.length_append] at z
      exact .inr (.inl ⟨_, _, _, _, rfl, rfl, hs _ _ h, hs _ _ h', z, fun p np => mkL_use P q hs hp np⟩)
    | _ => exact P.elim
  | tup h n r =>
    cases rb with
    | tup h' n' r' =>
      have q : RpL X.K G _ _ := RpL.app ⟨n, r⟩ ⟨n', r'⟩
      have z := mkT_len P q
      rw [List.length_append] at z
      refine .inr (.inr (.inl ⟨_, _, _, _, rfl, rfl, sameT hs h, sameT hs h', z, fun e => ?_, fun e1 e2 => ?_, fun e1 e2 p np => mkT_use P q hs hp np⟩))
      · have e' := nil_of ⟨n, r⟩ e
        subst e'
        exact mkT_same (P : Pst X.K W X.mg pa σ (FD X.K Q) G H (mkT ([] ++ _) s)) h' (by rw [List.nil_append]; exact ⟨n', r'⟩) hs hp
      · have e' := nil_of ⟨n', r'⟩ e2
        subst e'
        exact mkT_same (P : Pst X.K W X.mg pa σ (FD X.K Q) G H (mkT (_ ++ []) s)) h (by rw [List.append_nil]; exact ⟨n, r⟩) hs hp
    | _ => exact P.elim
  | _ => exact P.elim
noncomputable def subD : D → D → PM D := intD fun i j => pure (.int (i - j))
theorem od_sub : OpD X (binaryOp .Sub) subD := od_iD0 (d := fun i j => .int (i - j)) op_sub (fun _ _ _ _ => .int _)
noncomputable instance (i j : Int) : Decidable (CMul i j) := inferInstanceAs (Decidable ((-(2 ^ 64) < i ∧ i < 2 ^ 64) ∨ (-(2 ^ 64) < j ∧ j < 2 ^ 64)))
noncomputable instance (i j : Int) : Decidable (CDivN i j) := inferInstanceAs (Decidable (j ≠ 0 ∧ j.natAbs < 1073741824))
noncomputable instance (i j : Int) : Decidable (CPow i j) := inferInstanceAs (Decidable (0 ≤ j ∧ j ≤ 1000000 ∧ i.natAbs < 2 ^ 64))
noncomputable def mulD : D → D → PM D := intD fun i j => if CMul i j then pure (.int (i * j)) else bad
theorem od_mul : OpD X (binaryOp .Mult) mulD := od_iD (C := CMul) (d := fun i j => .int (i * j)) op_mul (fun _ _ _ _ => .int _)
noncomputable def fdivD : D → D → PM D := intD fun i j => if CDivN i j then pure (.int (i.fdiv j)) else bad
theorem od_fdiv : OpD X (binaryOp .FloorDiv) fdivD := od_iD (C := CDivN) (d := fun i j => .int (i.fdiv j)) op_fdivN (fun _ _ _ _ => .int _)
noncomputable def modD : D → D → PM D := intD fun i j => if j ≠ 0 then pure (.int (i.fmod j)) else bad
theorem od_mod : OpD X (binaryOp .Mod) modD := od_iD (C := fun _ j => j ≠ 0) (d := fun i j => .int (i.fmod j)) op_modN (fun _ _ _ _ => .int _)
noncomputable def powD : D → D → PM D := intD fun i j => if CPow i j then pure (.int (i ^ j.toNat)) else bad
theorem od_pow : OpD X (binaryOp .Pow) powD := od_iD (C := CPow) (d := fun i j => .int (i ^ j.toNat)) op_pow (fun _ _ _ _ => .int _)
noncomputable def eqD0 (a b : D) : PM D := if shp a = true ∧ shp b = true then pure (.bl (eqvD a b)) else bad
noncomputable def neD0 (a b : D) : PM D := if shp a = true ∧ shp b = true then pure (.bl (!eqvD a b)) else bad
noncomputable def twoS : D → D → Bool
  | .str _, .str _ => true
  | _, _ => false
/-- two texts: no more is asked -/
noncomputable def eqD : D → D → PM D
  | .str x, .str y => pure (.bl (x == y))
  | a, b => eqD0 a b
noncomputable def neD : D → D → PM D
  | .str x, .str y => pure (.bl (!(x == y)))
  | a, b => neD0 a b
theorem eqD_0 {a b : D} (h : twoS a b = false) : eqD a b = eqD0 a b := by
  cases a <;> cases b <;> first | rfl | exact EV.nnB (Eq.symm h)
theorem neD_0 {a b : D} (h : twoS a b = false) : neD a b = neD0 a b := by
  cases a <;> cases b <;> first | rfl | exact EV.nnB (Eq.symm h)
theorem twoS_rp {K : PySem.W.Frag} {G : Hp} {x y : V} {a b : D} (h : twoS a b = true) (ra : Rp K G x a) (rb : Rp K G y b) : ∃ z t, a = .str z ∧ b = .str t ∧ x = .str z ∧ y = .str t := by
  cases ra with
  | str z =>
    cases rb with
    | str t => exact EV.in2_4 z t rfl rfl rfl rfl
    | _ => exact EV.nnB h
  | _ => exact EV.nnB h
theorem od_eq (hr : Room k X.A) : OpD X (compareOp .Eq) eqD := by
  refine EV.in1_2 _ (op_eq.or (op_eqD hr.units)) (fun W pa σ G H s x y a b Q hs hp ra rb P => ?_)
  cases e : twoS a b with
  | true =>
    (refine EV.el2_2 (twoS_rp e ra rb) fun z t q11_ q12_ => ?_; obtain rfl := q11_; (refine EV.el0_2 q12_ ?_; try clear q12_; intro q13_ q14_; obtain rfl := q13_; (refine EV.el0_2 q14_ ?_; try clear q14_; intro q15_ q16_; obtain rfl := q15_; obtain rfl := q16_)))
    exact .inl ⟨rfl, by rw [dec_str]; exact P G H (Ext.refl hs) hp _ (.bl _)⟩
  | false =>
    rw [eqD_0 e] at P
    unfold eqD0 at P
    split at P
    · rename_i h
      exact .inr ⟨toPy a, toPy b, (ra.mono hs).dpS h.1, (rb.mono hs).dpS h.2, h.1, h.2, P G H (Ext.refl hs) hp _ (.bl _)⟩
    · exact P.elim
theorem od_ne (hr : Room k X.A) : OpD X (compareOp .NotEq) neD := by
  refine EV.in1_2 _ (op_ne.or (op_neD hr.units)) (fun W pa σ G H s x y a b Q hs hp ra rb P => ?_)
  cases e : twoS a b with
  | true =>
    (refine EV.el2_2 (twoS_rp e ra rb) fun z t q17_ q18_ => ?_; obtain rfl := q17_; (refine EV.el0_2 q18_ ?_; try clear q18_; intro q19_ q20_; obtain rfl := q19_; (refine EV.el0_2 q20_ ?_; try clear q20_; intro q21_ q22_; obtain rfl := q21_; obtain rfl := q22_)))
    exact .inl ⟨rfl, by rw [dec_str]; exact P G H (Ext.refl hs) hp _ (.bl _)⟩
  | false =>
    rw [neD_0 e] at P
    unfold neD0 at P
    split at P
    · rename_i h
      exact .inr ⟨toPy a, toPy b, (ra.mono hs).dpS h.1, (rb.mono hs).dpS h.2, h.1, h.2, P G H (Ext.refl hs) hp _ (.bl _)⟩
    · exact P.elim
noncomputable def ltD : D → D → PM D := intD fun i j => pure (.bl (decide (i < j)))
noncomputable def leD : D → D → PM D := intD fun i j => pure (.bl (decide (i ≤ j)))
noncomputable def gtD : D → D → PM D := intD fun i j => pure (.bl (decide (j < i)))
theorem od_lt : OpD X (compareOp .Lt) ltD := od_iD0 (d := fun i j => .bl (decide (i < j))) op_lt (fun _ _ _ _ => .bl _)
theorem od_le : OpD X (compareOp .LtE) leD := od_iD0 (d := fun i j => .bl (decide (i ≤ j))) op_le (fun _ _ _ _ => .bl _)
theorem od_gt : OpD X (compareOp .Gt) gtD := od_iD0 (d := fun i j => .bl (decide (j < i))) op_gt (fun _ _ _ _ => .bl _)
/-- x is None -/
noncomputable def isNonD : D → Bool
  | .non => true
  | _ => false
noncomputable def isND (a b : D) : PM D := match b with
  | .non => pure (.bl (isNonD a))
  | _ => bad
noncomputable def notND (a b : D) : PM D := match b with
  | .non => pure (.bl (!isNonD a))
  | _ => bad
theorem od_isN : OpD X (compareOp .Is) isND := by
  refine EV.in1_2 _ op_isN (fun W pa σ G H s x y a b Q hs hp ra rb P => ?_)
  cases rb with
  | non =>
    refine ⟨rfl, ?_⟩
    cases ra <;> exact P G H (Ext.refl hs) hp _ (.bl _)
  | _ => exact P.elim
theorem od_notN : OpD X (compareOp .IsNot) notND := by
  refine EV.in1_2 _ op_notN (fun W pa σ G H s x y a b Q hs hp ra rb P => ?_)
  cases rb with
  | non =>
    refine ⟨rfl, ?_⟩
    cases ra <;> exact P G H (Ext.refl hs) hp _ (.bl _)
  | _ => exact P.elim
theorem room65 {A : Around} (hr : Room k A) : A.units + 65 < cLine := by have := hr.un; omega
noncomputable def rInT (K : PySem.W.Frag) : R2 := fun x y H Q => ∃ d ds, Dp K H x d ∧ Dp K H y (.tuple ds) ∧ SeqAt.shaped d = true ∧ SeqAt.shaped (.tuple ds) = true ∧ Q (.bl (ds.any fun z => PyData.eqv z d)) H
noncomputable def rNotInT (K : PySem.W.Frag) : R2 := fun x y H Q => ∃ d ds, Dp K H x d ∧ Dp K H y (.tuple ds) ∧ SeqAt.shaped d = true ∧ SeqAt.shaped (.tuple ds) = true ∧ Q (.bl (!ds.any fun z => PyData.eqv z d)) H
noncomputable def inD (a b : D) : PM D := match b with
  | .lst xs => if shp a = true ∧ shp (.lst xs) = true then pure (.bl (xs.any fun z => eqvD z a)) else bad
  | .tup xs => if shp a = true ∧ shp (.tup xs) = true then pure (.bl (xs.any fun z => eqvD z a)) else bad
  | .str b => (match a with
    | .str a => pure (.bl (!(Builtin.Str.occurrences b a 0 b.length 1).isEmpty))
    | _ => bad)
  | _ => bad
noncomputable def notInD (a b : D) : PM D := match b with
  | .lst xs => if shp a = true ∧ shp (.lst xs) = true then pure (.bl (!xs.any fun z => eqvD z a)) else bad
  | .tup xs => if shp a = true ∧ shp (.tup xs) = true then pure (.bl (!xs.any fun z => eqvD z a)) else bad
  | _ => bad
theorem op_inT (hu : X.A.units + 65 < cLine) : OpR X (compareOp .In) (rInT X.K) := by
  intro pins s σ H x y v u Q I rx ry ⟨d, ds, hd, he, sd, se, q⟩
  refine EV.el1_1 (Dp.reads I d x v hd rx) fun as r1 => ?_
  refine EV.el1_1 (Dp.reads I (.tuple ds) y u he ry) fun bs r2 => ?_
  have sc : PyData.canLayAll0 ds = true := by
    have z := SeqAt.canLay_of_shaped se
    simpa only [PyData.canLay0] using z
  exact SeqAt.in_tuple_reads r2 r1 sc (SeqAt.canLay_of_shaped sd) (room_in_shaped sd hu) ⟨.bl _, H, I, rfl, q⟩
theorem op_notInT (hu : X.A.units + 65 < cLine) : OpR X (compareOp .NotIn) (rNotInT X.K) := by
  intro pins s σ H x y v u Q I rx ry ⟨d, ds, hd, he, sd, se, q⟩
  refine EV.el1_1 (Dp.reads I d x v hd rx) fun as r1 => ?_
  refine EV.el1_1 (Dp.reads I (.tuple ds) y u he ry) fun bs r2 => ?_
  have sc : PyData.canLayAll0 ds = true := by
    have z := SeqAt.canLay_of_shaped se
    simpa only [PyData.canLay0] using z
  exact SeqAt.notIn_tuple_reads r2 r1 sc (SeqAt.canLay_of_shaped sd) (room_in_shaped sd hu) ⟨.bl _, H, I, rfl, q⟩
theorem any_py (xs : List D) (a : D) : ((xs.map toPy).any fun z => PyData.eqv z (toPy a)) = xs.any fun z => eqvD z a := by
  rw [List.any_map]
  rfl
theorem od_in (hr : Room k X.A) : OpD X (compareOp .In) inD := by
  refine EV.in1_2 _ ((op_inD (room65 hr)).or ((op_inT (room65 hr)).or op_in_str)) (fun W pa σ G H s x y a b Q hs hp ra rb P => ?_)
  cases rb with
  | @lst p vs ds h n r =>
    have P : Pst X.K W X.mg pa σ (FD X.K Q) G H ((if shp a = true ∧ shp (.lst ds) = true then pure (.bl (ds.any fun z => eqvD z a)) else bad : PM D) s) := P
    split at P
    · rename_i hh
      have dy : Dp X.K H (.ref p) (.list (ds.map toPy)) := by
        have z := (((Rp.lst h n r : Rp X.K G (.ref p) (.lst ds)).mono hs).dpS hh.2)
        simpa only [toPy, toPyL_map] using z
      have sy : SeqAt.shaped (.list (ds.map toPy)) = true := by
        have z : SeqAt.shaped (toPy (.lst ds)) = true := hh.2
        simpa only [toPy, toPyL_map] using z
      refine .inl ⟨toPy a, ds.map toPy, (ra.mono hs).dpS hh.1, dy, hh.1, sy, ?_⟩
      rw [any_py]
      exact P G H (Ext.refl hs) hp _ (.bl _)
    · exact P.elim
  | @tup p vs ds h n r =>
    have P : Pst X.K W X.mg pa σ (FD X.K Q) G H ((if shp a = true ∧ shp (.tup ds) = true then pure (.bl (ds.any fun z => eqvD z a)) else bad : PM D) s) := P
    split at P
    · rename_i hh
      have dy : Dp X.K H (.ref p) (.tuple (ds.map toPy)) := by
        have z := (((Rp.tup h n r : Rp X.K G (.ref p) (.tup ds)).mono hs).dpS hh.2)
        simpa only [toPy, toPyL_map] using z
      have sy : SeqAt.shaped (.tuple (ds.map toPy)) = true := by
        have z : SeqAt.shaped (toPy (.tup ds)) = true := hh.2
        simpa only [toPy, toPyL_map] using z
      refine .inr (.inl ⟨toPy a, ds.map toPy, (ra.mono hs).dpS hh.1, dy, hh.1, sy, ?_⟩)
      rw [any_py]
      exact P G H (Ext.refl hs) hp _ (.bl _)
    · exact P.elim
  | str z =>
    cases ra with
    | str y => exact .inr (.inr ⟨y, z, rfl, rfl, P G H (Ext.refl hs) hp _ (.bl _)⟩)
    | _ => exact P.elim
  | _ => exact P.elim
theorem od_notIn (hr : Room k X.A) : OpD X (compareOp .NotIn) notInD := by
  refine EV.in1_2 _ ((op_notInD (room65 hr)).or (op_notInT (room65 hr))) (fun W pa σ G H s x y a b Q hs hp ra rb P => ?_)
  cases rb with
  | @lst p vs ds h n r =>
    have P : Pst X.K W X.mg pa σ (FD X.K Q) G H ((if shp a = true ∧ shp (.lst ds) = true then pure (.bl (!ds.any fun z => eqvD z a)) else bad : PM D) s) := P
    split at P
    · rename_i hh
      have dy : Dp X.K H (.ref p) (.list (ds.map toPy)) := by
        have z := (((Rp.lst h n r : Rp X.K G (.ref p) (.lst ds)).mono hs).dpS hh.2)
        simpa only [toPy, toPyL_map] using z
      have sy : SeqAt.shaped (.list (ds.map toPy)) = true := by
        have z : SeqAt.shaped (toPy (.lst ds)) = true := hh.2
        simpa only [toPy, toPyL_map] using z
      refine .inl ⟨toPy a, ds.map toPy, (ra.mono hs).dpS hh.1, dy, hh.1, sy, ?_⟩
      rw [any_py]
      exact P G H (Ext.refl hs) hp _ (.bl _)
    · exact P.elim
  | @tup p vs ds h n r =>
    have P : Pst X.K W X.mg pa σ (FD X.K Q) G H ((if shp a = true ∧ shp (.tup ds) = true then pure (.bl (!ds.any fun z => eqvD z a)) else bad : PM D) s) := P
    split at P
    · rename_i hh
      have dy : Dp X.K H (.ref p) (.tuple (ds.map toPy)) := by
        have z := (((Rp.tup h n r : Rp X.K G (.ref p) (.tup ds)).mono hs).dpS hh.2)
        simpa only [toPy, toPyL_map] using z
      have sy : SeqAt.shaped (.tuple (ds.map toPy)) = true := by
        have z : SeqAt.shaped (toPy (.tup ds)) = true := hh.2
        simpa only [toPy, toPyL_map] using z
      refine .inr ⟨toPy a, ds.map toPy, (ra.mono hs).dpS hh.1, dy, hh.1, sy, ?_⟩
      rw [any_py]
      exact P G H (Ext.refl hs) hp _ (.bl _)
    · exact P.elim
  | _ => exact P.elim
theorem ev_chain {W : WX} {pa : Option Addr} {Γ : List Sl} {pos : Pos} {op op' : CmpOp} {g g' : D → D → PM D} {a b c : Expr} {ma mb mc : PM D} (ho : OpD X (compareOp op) g) (ho' : OpD X (compareOp op') g') (ha : EV X W pa Γ a ma) (hb : EV X W pa Γ b mb) (hc : EV X W pa Γ c mc)
    (hm : autoParam (lastMarks [op, op'] [b, c] = false) EV.tac4) : EV X W pa Γ (.Compare a [op, op'] [b, c] pos) (ma >>= fun x => mb >>= fun y => g x y >>= fun r => asB r >>= fun t => if t = true then mc >>= fun z => g' y z else pure (.bl false)) := by
  (refine EV.el1_2 ho ?_; try clear ho; intro r h1 h2)
  (refine EV.el1_2 ho' ?_; try clear ho'; intro r' h1' h2')
  refine pe_imp (pe_chain h1 h1' ha hb hc hm) fun σ H Q h_ => EV.ex4 h_ fun G0 H0 G s E P =>
    ⟨G0, H0, G, s, E, P.bind.imp fun G1 H1 a s1 x1 p1 P1 v rv => ⟨G0, H0, G1, s1, E.step x1 p1, P1.bind.imp fun G2 H2 b s2 x2 p2 P2 w rw => ?_⟩⟩
  refine h2 W pa σ G2 H2 s2 v w a b _ x2.sub p2 (rv.mono x2.g) rw (P2.bind.imp fun G3 H3 d s3 x3 p3 P3 u ru => ?_)
  cases ru with
  | bl t =>
    refine EV.in1_2 t rfl ?_
    have P4 := (P3.bind).now x3.sub p3
    cases t with
    | false => exact (show Q (.bl false) H3 from P4.now x3.sub p3 _ (.bl _))
    | true =>
      refine (show evT X W pa Γ mc σ H3 _ from ⟨G0, H0, G3, s3, ((E.step x1 p1).step x2 p2).step x3 p3, (P4.bind : Pst X.K W X.mg pa σ _ G3 H3 (mc s3)).imp fun G5 H5 z s5 x5 p5 P5 u' ru' => ?_⟩)
      exact h2' W pa σ G5 H5 s5 w u' b z Q x5.sub p5 (rw.mono (x3.g.trans x5.g)) ru' P5
  | _ => exact P3.elim
noncomputable def getD : D → D → PM D
  | .lst xs, .int i => match atI xs i with | some d => pure d | none => bad
  | .tup xs, .int i => match atI xs i with | some d => pure d | none => bad
  | .str z, .int i => if z.length ≤ lim then (match atI z.cps.toList i with | some c => pure (.str ⟨#[c]⟩) | none => bad) else bad
  | _, _ => bad
theorem atI_rp {K : PySem.W.Frag} {G : Hp} {vs : List V} {ds : List D} (h : RpL K G vs ds) {i : Int} {d : D} (e : atI ds i = some d) : ∃ v, atI vs i = some v ∧ Rp K G v d := by
  unfold atI at e ⊢
  rw [h.1]
  cases q : ixN ds.length i with
  | none => rw [q] at e; exact EV.nnS e
  | some j =>
    rw [q] at e
    exact h.get e
set_option tactic.hygienic true in
theorem ev_ix {W : WX} {pa : Option Addr} {Γ : List Sl} {pos : Pos} {a b : Expr} {ma mb : PM D} (ha : EV X W pa Γ a ma) (hb : EV X W pa Γ b mb) (hs : PlainIx b) : EV X W pa Γ (.Subscript a b pos) (ma >>= fun x => mb >>= fun y => getD x y) :=
  pe_imp (pe_ix ix_seq ha hb hs) fun σ H Q h_ => EV.ex4 h_ fun G0 H0 G s E P =>
    ⟨G0, H0, G, s, E, P.bind.imp fun G1 H1 a s1 x1 p1 P1 v rv => ⟨G0, H0, G1, s1, E.step x1 p1, P1.bind.imp fun G2 H2 b s2 x2 p2 P2 w rw => by
      have rv := rv.mono x2.g
      cases rv with
      | lst h n r =>
        cases rw with
        | int i =>
          rename_i ds
          have P2 : Pst X.K W X.mg pa σ (FD X.K Q) G2 H2 ((match atI ds i with | some d => pure d | none => bad : PM D) s2) := P2
          cases e : atI ds i with
          | none => rw [e] at P2; exact P2.elim
          | some d =>
            rw [e] at P2
            refine EV.el1_2 (atI_rp ⟨n, r⟩ e) fun u e' ru => ?_
            exact .inl ⟨_, _, i, u, rfl, rfl, SqL.of (x2.sub _ _ h), e', P2 G2 H2 (Ext.refl x2.sub) p2 u ru⟩
        | _ => exact P2.elim
      | tup h n r =>
        cases rw with
        | int i =>
          rename_i ds
          have P2 : Pst X.K W X.mg pa σ (FD X.K Q) G2 H2 ((match atI ds i with | some d => pure d | none => bad : PM D) s2) := P2
          cases e : atI ds i with
          | none => rw [e] at P2; exact P2.elim
          | some d =>
            rw [e] at P2
            refine EV.el1_2 (atI_rp ⟨n, r⟩ e) fun u e' ru => ?_
            exact .inr (.inl ⟨_, _, i, u, rfl, rfl, sameT x2.sub h, e', P2 G2 H2 (Ext.refl x2.sub) p2 u ru⟩)
        | _ => exact P2.elim
      | str z =>
        cases rw with
        | int i =>
          have P2 : Pst X.K W X.mg pa σ (FD X.K Q) G2 H2 ((if z.length ≤ lim then (match atI z.cps.toList i with | some c => pure (.str ⟨#[c]⟩) | none => bad) else bad : PM D) s2) := P2
          split at P2
          · rename_i hl
            cases e : atI z.cps.toList i with
            | none => rw [e] at P2; exact P2.elim
            | some c =>
              rw [e] at P2
              exact .inr (.inr ⟨z, i, c, rfl, rfl, lim_le hl, e, P2 G2 H2 (Ext.refl x2.sub) p2 _ (.str _)⟩)
          · exact P2.elim
        | _ => exact P2.elim
      | _ => exact P2.elim⟩⟩
/-- the bounds of a slice -/
noncomputable abbrev EO (X : Cx) (W : WX) (pa : Option Addr) (Γ : List Sl) (e : Option Expr) (m : PM (Option Int)) : Prop := PO X e (fun σ H Q => ∃ G0 H0 G s, Nv X.K pa G0 H0 G H σ Γ s ∧ Pst X.K W X.mg pa σ (fun _ H' o _ => Q o H') G H (m s))
theorem po_imp {e : Option Expr} {t t' : TO} (h : PO X e t) (i : ∀ σ H Q, t' σ H Q → t σ H Q) : PO X e t' := ⟨fun pins s σ H Q I q => h.run pins s σ H Q I (i σ H Q q)⟩
noncomputable def asI : D → PM (Option Int)
  | .int i => pure (some i)
  | _ => bad
theorem eo_none {W : WX} {pa : Option Addr} {Γ : List Sl} : EO X W pa Γ none (pure none) := po_imp po_none fun σ H Q h_ => EV.ex4 h_ fun G0 H0 G s E P => P.now E.sub E.ps
theorem eo_some {W : WX} {pa : Option Addr} {Γ : List Sl} {e : Expr} {m : PM D} (h : EV X W pa Γ e m) : EO X W pa Γ (some e) (m >>= asI) := po_imp (po_some h) fun σ H Q h_ => EV.ex4 h_ fun G0 H0 G s E P =>
  ⟨G0, H0, G, s, E, P.bind.imp fun G1 H1 a s1 x1 p1 P1 v rv => by
    cases rv with
    | int i => exact EV.in1_2 i rfl (P1.now x1.sub p1)
    | _ => exact P1.elim⟩
noncomputable def cutD (xs : List D) (lo hi : Option Int) : List D := (xs.drop (HT.sIx xs.length 0 lo)).take (HT.sIx xs.length xs.length hi - HT.sIx xs.length 0 lo)
noncomputable def sliceD : D → Option Int → Option Int → PM D
  | .lst xs, lo, hi => mkL (cutD xs lo hi)
  | .tup xs, lo, hi => mkT (cutD xs lo hi)
  | .str z, lo, hi => if z.length ≤ lim then pure (.str (cutS z lo hi)) else bad
  | _, _, _ => bad
theorem cut_rp {K : PySem.W.Frag} {G : Hp} {vs : List V} {ds : List D} (h : RpL K G vs ds) (lo hi : Option Int) : RpL K G (cutV vs lo hi) (cutD ds lo hi) := by
  unfold cutV cutD
  rw [h.1]
  exact (h.drop _).take _
theorem ev_slice {W : WX} {pa : Option Addr} {Γ : List Sl} {pos p2 : Pos} {a : Expr} {lo hi : Option Expr} {ma : PM D} {ml mh : PM (Option Int)} (ha : EV X W pa Γ a ma) (hl : EO X W pa Γ lo ml) (hh : EO X W pa Γ hi mh) :
    EV X W pa Γ (.Subscript a (.Slice lo hi none p2) pos) (ma >>= fun x => ml >>= fun l => mh >>= fun u => sliceD x l u) :=
  pe_imp (pe_slice (SlR.or sl_list (SlR.or sl_tupA sl_str)) ha hl hh) fun σ H Q h_ => EV.ex4 h_ fun G0 H0 G s E P =>
    ⟨G0, H0, G, s, E, P.bind.imp fun G1 H1 a s1 x1 p1 P1 v rv => ⟨G0, H0, G1, s1, E.step x1 p1, P1.bind.imp fun G2 H2 l s2 x2 p2 P2 => ⟨G0, H0, G2, s2, (E.step x1 p1).step x2 p2, P2.bind.imp fun G3 H3 u s3 x3 p3 P3 => by
      have rv := rv.mono (x2.g.trans x3.g)
      cases rv with
      | lst h n r =>
        rename_i ds
        exact .inl ⟨_, _, rfl, SqL.of (x3.sub _ _ h), fun p np => mkL_use (P3 : Pst X.K W X.mg pa σ (FD X.K Q) G3 H3 (mkL (cutD ds l u) s3)) (cut_rp ⟨n, r⟩ l u) x3.sub p3 np⟩
      | tup h n r =>
        rename_i ds
        have P3 : Pst X.K W X.mg pa σ (FD X.K Q) G3 H3 (mkT (cutD ds l u) s3) := P3
        refine .inr (.inl ⟨_, _, rfl, sameT x3.sub h, fun hw => ?_, fun hw p np => mkT_use P3 (cut_rp ⟨n, r⟩ l u) x3.sub p3 np⟩)
        have e : cutD ds l u = ds := by
          rw [n] at hw
          unfold cutD
          rw [hw.1, hw.2]
          simp
        rw [e] at P3
        exact mkT_same P3 h ⟨n, r⟩ x3.sub p3
      | str z =>
        have P3 : Pst X.K W X.mg pa σ (FD X.K Q) G3 H3 ((if z.length ≤ lim then pure (.str (cutS z l u)) else bad : PM D) s3) := P3
        split at P3
        · rename_i hz
          exact .inr (.inr ⟨z, rfl, lim_le hz, P3 G3 H3 (Ext.refl x3.sub) p3 _ (.str _)⟩)
        · exact P3.elim
      | _ => exact P3.elim⟩⟩⟩
noncomputable def lenF : List D → PM D
  | [.lst xs] => pure (.int xs.length)
  | [.tup xs] => pure (.int xs.length)
  | [.str z] => if z.length ≤ lim then pure (.int z.length) else bad
  | _ => bad
theorem rp1 {K : PySem.W.Frag} {G : Hp} {vs : List V} {d : D} (h : RpL K G vs [d]) : ∃ v, vs = [v] ∧ Rp K G v d := by
  have n := h.1
  cases vs with
  | nil => simp at n
  | cons v r =>
    cases r with
    | nil => exact EV.in1_2 v rfl (h.tail.1)
    | cons _ _ => simp at n
theorem rp2 {K : PySem.W.Frag} {G : Hp} {vs : List V} {d e : D} (h : RpL K G vs [d, e]) : ∃ v w, vs = [v, w] ∧ Rp K G v d ∧ Rp K G w e := by
  have n := h.1
  cases vs with
  | nil => simp at n
  | cons v r =>
    (refine EV.el1_2 (rp1 h.tail.2) fun w q23_ r2 => ?_; obtain rfl := q23_)
    exact EV.in2_3 v w rfl (h.tail.1) r2
theorem cd_len : CallD X (.builtin "len") lenF := by
  refine EV.in1_2 _ (call_len_seq.or call_len_str) (fun W pa σ G H s xs ds Q hs hp rs P => ?_)
  match ds, rs, P with
  | [d], rs, P =>
    (refine EV.el1_2 (rp1 rs) fun v q24_ r => ?_; obtain rfl := q24_)
    cases r with
    | lst h n r => exact .inl ⟨_, _, rfl, .inl (SqL.of (hs _ _ h)), by rw [n]; exact P G H (Ext.refl hs) hp _ (.int _)⟩
    | tup h n r => exact .inl ⟨_, _, rfl, .inr (sameT hs h), by rw [n]; exact P G H (Ext.refl hs) hp _ (.int _)⟩
    | str z =>
      have P : Pst X.K W X.mg pa σ (FD X.K Q) G H ((if z.length ≤ lim then pure (.int z.length) else bad : PM D) s) := P
      split at P
      · rename_i hz
        exact .inr ⟨z, rfl, lim_le hz, P G H (Ext.refl hs) hp _ (.int _)⟩
      · exact P.elim
    | _ => exact P.elim
  | [], _, P => exact P.elim
  | a :: _ :: _, _, P => cases a <;> exact P.elim
noncomputable def tupleF : List D → PM D
  | [.lst xs] => mkT xs
  | [.tup xs] => mkT xs
  | _ => bad
theorem cd_tuple : CallD X (.type "tuple") tupleF := by
  refine EV.in1_2 _ call_tuple_of (fun W pa σ G H s xs ds Q hs hp rs P => ?_)
  match ds, rs, P with
  | [d], rs, P =>
    (refine EV.el1_2 (rp1 rs) fun v q25_ r => ?_; obtain rfl := q25_)
    cases r with
    | lst h n r => exact EV.in2_2 _ _ rfl (.inl ⟨SqL.of (hs _ _ h), fun p np => mkT_use (P : Pst X.K W X.mg pa σ (FD X.K Q) G H (mkT _ s)) ⟨n, r⟩ hs hp np⟩)
    | tup h n r => exact EV.in2_2 _ _ rfl (.inr ⟨sameT hs h, mkT_same (P : Pst X.K W X.mg pa σ (FD X.K Q) G H (mkT _ s)) h ⟨n, r⟩ hs hp⟩)
    | _ => exact P.elim
  | [], _, P => exact P.elim
  | a :: _ :: _, _, P => cases a <;> exact P.elim
noncomputable def listF : List D → PM D
  | [.lst xs] => mkL xs
  | [.tup xs] => mkL xs
  | _ => bad
theorem cd_list : CallD X (.type "list") listF := by
  refine EV.in1_2 _ call_list_of (fun W pa σ G H s xs ds Q hs hp rs P => ?_)
  match ds, rs, P with
  | [d], rs, P =>
    (refine EV.el1_2 (rp1 rs) fun v q26_ r => ?_; obtain rfl := q26_)
    cases r with
    | lst h n r => exact EV.in2_3 _ _ rfl (.inl (SqL.of (hs _ _ h))) (fun p np => mkL_use (P : Pst X.K W X.mg pa σ (FD X.K Q) G H (mkL _ s)) ⟨n, r⟩ hs hp np)
    | tup h n r => exact EV.in2_3 _ _ rfl (.inr (sameT hs h)) (fun p np => mkL_use (P : Pst X.K W X.mg pa σ (FD X.K Q) G H (mkL _ s)) ⟨n, r⟩ hs hp np)
    | _ => exact P.elim
  | [], _, P => exact P.elim
  | a :: _ :: _, _, P => cases a <;> exact P.elim
noncomputable def maxF : List D → PM D
  | [.int i, .int j] => pure (.int (if j > i then j else i))
  | _ => bad
noncomputable def minF : List D → PM D
  | [.int i, .int j] => pure (.int (if j < i then j else i))
  | _ => bad
theorem cd_max (hc : X.calm = true) : CallD X (.builtin "max") maxF := by
  refine ⟨_, call_max2 hc, fun W pa σ G H s xs ds Q hs hp rs P => ?_⟩
  match ds, rs, P with
  | [.int i, .int j], rs, P =>
    obtain ⟨v, w, rfl, r1, r2⟩ := rp2 rs
    cases r1
    cases r2
    exact ⟨i, j, rfl, P G H (Ext.refl hs) hp _ (.int _)⟩
  | [], _, P => exact P.elim
  | [a], _, P => cases a <;> exact P.elim
  | a :: b :: c :: r, _, P => cases a <;> cases b <;> exact P.elim
  | [.non, b], _, P => exact P.elim
  | [.bl _, b], _, P => exact P.elim
  | [.str _, b], _, P => exact P.elim
  | [.tup _, b], _, P => exact P.elim
  | [.lst _, b], _, P => exact P.elim
  | [.dct _, b], _, P => exact P.elim
  | [.obj _ _, b], _, P => exact P.elim
  | [.cls _, b], _, P => exact P.elim
  | [.int _, .non], _, P => exact P.elim
  | [.int _, .bl _], _, P => exact P.elim
  | [.int _, .str _], _, P => exact P.elim
  | [.int _, .tup _], _, P => exact P.elim
  | [.int _, .lst _], _, P => exact P.elim
  | [.int _, .dct _], _, P => exact P.elim
  | [.int _, .obj _ _], _, P => exact P.elim
  | [.int _, .cls _], _, P => exact P.elim
theorem cd_min (hc : X.calm = true) : CallD X (.builtin "min") minF := by
  refine ⟨_, call_min2 hc, fun W pa σ G H s xs ds Q hs hp rs P => ?_⟩
  match ds, rs, P with
  | [.int i, .int j], rs, P =>
    obtain ⟨v, w, rfl, r1, r2⟩ := rp2 rs
    cases r1
    cases r2
    exact ⟨i, j, rfl, P G H (Ext.refl hs) hp _ (.int _)⟩
  | [], _, P => exact P.elim
  | [a], _, P => cases a <;> exact P.elim
  | a :: b :: c :: r, _, P => cases a <;> cases b <;> exact P.elim
  | [.non, b], _, P => exact P.elim
  | [.bl _, b], _, P => exact P.elim
  | [.str _, b], _, P => exact P.elim
  | [.tup _, b], _, P => exact P.elim
  | [.lst _, b], _, P => exact P.elim
  | [.dct _, b], _, P => exact P.elim
  | [.obj _ _, b], _, P => exact P.elim
  | [.cls _, b], _, P => exact P.elim
  | [.int _, .non], _, P => exact P.elim
  | [.int _, .bl _], _, P => exact P.elim
  | [.int _, .str _], _, P => exact P.elim
  | [.int _, .tup _], _, P => exact P.elim
  | [.int _, .lst _], _, P => exact P.elim
  | [.int _, .dct _], _, P => exact P.elim
  | [.int _, .obj _ _], _, P => exact P.elim
  | [.int _, .cls _], _, P => exact P.elim
/-- lists of bools, of ints -/
noncomputable def blsOf : List D → Option (List Bool)
  | [] => some []
  | .bl b :: r => (blsOf r).map (b :: ·)
  | _ :: _ => none
noncomputable def intsOf : List D → Option (List Int)
  | [] => some []
  | .int b :: r => (intsOf r).map (b :: ·)
  | _ :: _ => none
theorem blsOf_map : ∀ bs : List Bool, blsOf (bs.map D.bl) = some bs
  | [] => rfl
  | b :: r => by simp only [List.map_cons, blsOf, blsOf_map r, Option.map_some]
theorem intsOf_map : ∀ bs : List Int, intsOf (bs.map D.int) = some bs
  | [] => rfl
  | b :: r => by simp only [List.map_cons, intsOf, intsOf_map r, Option.map_some]
theorem blsOf_inv {ds : List D} : ∀ {bs : List Bool}, blsOf ds = some bs → ds = bs.map D.bl := by
  induction ds with
  | nil =>
    intro bs e
    obtain rfl := Option.some.inj e
    rfl
  | cons d r ih =>
    intro bs e
    cases d with
    | bl b =>
      have e : (blsOf r).map (b :: ·) = some bs := e
      cases q : blsOf r with
      | none => rw [q] at e; exact EV.nnS e
      | some cs =>
        rw [q] at e
        obtain rfl := Option.some.inj e
        rw [ih q]
        rfl
    | _ => exact EV.nnS e
theorem intsOf_inv {ds : List D} : ∀ {bs : List Int}, intsOf ds = some bs → ds = bs.map D.int := by
  induction ds with
  | nil =>
    intro bs e
    obtain rfl := Option.some.inj e
    rfl
  | cons d r ih =>
    intro bs e
    cases d with
    | int b =>
      have e : (intsOf r).map (b :: ·) = some bs := e
      cases q : intsOf r with
      | none => rw [q] at e; exact EV.nnS e
      | some cs =>
        rw [q] at e
        obtain rfl := Option.some.inj e
        rw [ih q]
        rfl
    | _ => exact EV.nnS e
theorem rpL_mapI {α : Type} {K : PySem.W.Frag} {G : Hp} {f : α → D} {g : α → V} (h : ∀ v a, Rp K G v (f a) → v = g a) {bs : List α} : ∀ {vs : List V}, RpL K G vs (bs.map f) → vs = bs.map g := by
  induction bs with
  | nil =>
    intro vs r
    exact List.length_eq_zero_iff.mp r.1
  | cons b bs ih =>
    intro vs r
    cases vs with
    | nil => exact absurd r.1 (by simp)
    | cons v vs =>
      have z : RpL K G (v :: vs) (f b :: bs.map f) := r
      show v :: vs = g b :: bs.map g
      rw [h _ _ z.tail.1, ih z.tail.2]
theorem blsOf_rp {K : PySem.W.Frag} {G : Hp} {vs : List V} {ds : List D} {bs : List Bool} (r : RpL K G vs ds) (e : blsOf ds = some bs) : vs = bs.map V.bl := by
  rw [blsOf_inv e] at r
  exact rpL_mapI (fun v a z => by cases z; rfl) r
theorem intsOf_rp {K : PySem.W.Frag} {G : Hp} {vs : List V} {ds : List D} {bs : List Int} (r : RpL K G vs ds) (e : intsOf ds = some bs) : vs = bs.map V.int := by
  rw [intsOf_inv e] at r
  exact rpL_mapI (fun v a z => by cases z; rfl) r
noncomputable def anyF : List D → PM D
  | [.lst xs] => match blsOf xs with | some bs => pure (.bl (bs.any id)) | none => bad
  | _ => bad
noncomputable def allF : List D → PM D
  | [.lst xs] => match blsOf xs with | some bs => pure (.bl (bs.all id)) | none => bad
  | _ => bad
theorem cd_any (hc : X.calm = true) : CallD X (.builtin "any") anyF := by
  refine EV.in1_2 _ (cr_any hc) (fun W pa σ G H s xs ds Q hs hp rs P => ?_)
  match ds, rs, P with
  | [d], rs, P =>
    (refine EV.el1_2 (rp1 rs) fun v q31_ r => ?_; obtain rfl := q31_)
    cases r with
    | @lst a vs es h n r =>
      have P : Pst X.K W X.mg pa σ (FD X.K Q) G H ((match blsOf es with | some bs => pure (.bl (bs.any id)) | none => bad : PM D) s) := P
      cases e : blsOf es with
      | none => rw [e] at P; exact P.elim
      | some bs =>
        rw [e] at P
        exact EV.in2_3 _ bs rfl (by rw [← blsOf_rp ⟨n, r⟩ e]; exact SqL.of (hs _ _ h)) (P G H (Ext.refl hs) hp _ (.bl _))
    | _ => exact P.elim
  | [], _, P => exact P.elim
  | a :: _ :: _, _, P => cases a <;> exact P.elim
theorem cd_all (hc : X.calm = true) : CallD X (.builtin "all") allF := by
  refine EV.in1_2 _ (cr_all hc) (fun W pa σ G H s xs ds Q hs hp rs P => ?_)
  match ds, rs, P with
  | [d], rs, P =>
    (refine EV.el1_2 (rp1 rs) fun v q32_ r => ?_; obtain rfl := q32_)
    cases r with
    | @lst a vs es h n r =>
      have P : Pst X.K W X.mg pa σ (FD X.K Q) G H ((match blsOf es with | some bs => pure (.bl (bs.all id)) | none => bad : PM D) s) := P
      cases e : blsOf es with
      | none => rw [e] at P; exact P.elim
      | some bs =>
        rw [e] at P
        exact EV.in2_3 _ bs rfl (by rw [← blsOf_rp ⟨n, r⟩ e]; exact SqL.of (hs _ _ h)) (P G H (Ext.refl hs) hp _ (.bl _))
    | _ => exact P.elim
  | [], _, P => exact P.elim
  | a :: _ :: _, _, P => cases a <;> exact P.elim
/-- sorted of ints -/
noncomputable def insI (x : Int) : List Int → List Int
  | [] => [x]
  | y :: r => if x ≤ y then x :: y :: r else y :: insI x r
noncomputable def sortI : List Int → List Int
  | [] => []
  | x :: r => insI x (sortI r)
theorem insI_perm (x : Int) : ∀ l, (insI x l).Perm (x :: l)
  | [] => .refl _
  | y :: r => by
    unfold insI
    split
    · exact .refl _
    · exact ((insI_perm x r).cons y).trans (.swap x y r)
theorem sortI_perm : ∀ l, (sortI l).Perm l
  | [] => .refl _
  | x :: r => (insI_perm x (sortI r)).trans ((sortI_perm r).cons x)
theorem insI_sorted (x : Int) : ∀ l, l.Pairwise (· ≤ ·) → (insI x l).Pairwise (· ≤ ·)
  | [], _ => by simp [insI]
  | y :: r, h => by
    unfold insI
    have h' := List.pairwise_cons.mp h
    split
    · rename_i hxy
      refine List.pairwise_cons.mpr ⟨fun z hz => ?_, h⟩
      rcases List.mem_cons.mp hz with rfl | hz
      · exact hxy
      · exact Int.le_trans hxy (h'.1 z hz)
    · rename_i hxy
      refine List.pairwise_cons.mpr ⟨fun z hz => ?_, insI_sorted x r h'.2⟩
      have hz' := (insI_perm x r).mem_iff.mp hz
      rcases List.mem_cons.mp hz' with rfl | hz'
      · omega
      · exact h'.1 z hz'
theorem sortI_sorted : ∀ l, (sortI l).Pairwise (· ≤ ·)
  | [] => .nil
  | x :: r => insI_sorted x _ (sortI_sorted r)
theorem sorted_eq {l r : List Int} (p : l.Perm r) (hl : l.Pairwise (· ≤ ·)) (hr : r.Pairwise (· ≤ ·)) : l = r :=
  List.Perm.eq_of_pairwise (fun a b _ _ h1 h2 => Int.le_antisymm h1 h2) hl hr p
noncomputable def sortedF : List D → PM D
  | [.lst xs] => match intsOf xs with | some ns => mkL ((sortI ns).map D.int) | none => bad
  | _ => bad
theorem rpl_ints {K : PySem.W.Frag} {G : Hp} (ns : List Int) : RpL K G (ns.map V.int) (ns.map D.int) := RpL.map_of ns fun x _ => .int x
theorem cd_sortedI : CallD X (.builtin "sorted") sortedF := by
  refine EV.in1_2 _ cr_sortedI (fun W pa σ G H s xs ds Q hs hp rs P => ?_)
  match ds, rs, P with
  | [d], rs, P =>
    (refine EV.el1_2 (rp1 rs) fun v q33_ r => ?_; obtain rfl := q33_)
    cases r with
    | @lst a vs es h n r =>
      have P : Pst X.K W X.mg pa σ (FD X.K Q) G H ((match intsOf es with | some ns => mkL ((sortI ns).map D.int) | none => bad : PM D) s) := P
      cases e : intsOf es with
      | none => rw [e] at P; exact P.elim
      | some bs =>
        rw [e] at P
        refine EV.in2_3 _ bs rfl (by rw [← intsOf_rp ⟨n, r⟩ e]; exact SqL.of (hs _ _ h)) (fun ns' p q1 q2 np => ?_)
        have e2 : ns' = sortI bs := sorted_eq (q1.trans (sortI_perm bs).symm) q2 (sortI_sorted bs)
        rw [e2]
        exact mkL_use (P : Pst X.K W X.mg pa σ (FD X.K Q) G H (mkL _ s)) (rpl_ints _) hs hp np
    | _ => exact P.elim
  | [], _, P => exact P.elim
  | a :: _ :: _, _, P => cases a <;> exact P.elim
mutual
noncomputable def okD : D → Bool
  | .non => true
  | .bl _ => true
  | .int i => decide (i.natAbs.log2 < 1920)
  | .str _ => true
  | .tup xs => okDL xs
  | .lst xs => okDL xs
  | .dct _ => false
  | .obj _ _ => false
  | .cls _ => false
noncomputable def okDL : List D → Bool
  | [] => true
  | x :: xs => okD x && okDL xs
end
mutual
theorem okD_py : ∀ d : D, okD d = true → (toPy d).showable = true ∧ (toPy d).hasDict = false
  | .non, _ => ⟨rfl, rfl⟩
  | .bl _, _ => ⟨rfl, rfl⟩
  | .int i, h => ⟨by simpa [toPy, PyData.showable, okD] using h, rfl⟩
  | .str _, _ => ⟨rfl, rfl⟩
  | .tup xs, h => by
    have z := okDL_py xs (by simpa [okD] using h)
    exact ⟨by simpa [toPy, PyData.showable] using z.1, by simpa [toPy, PyData.hasDict] using z.2⟩
  | .lst xs, h => by
    have z := okDL_py xs (by simpa [okD] using h)
    exact ⟨by simpa [toPy, PyData.showable] using z.1, by simpa [toPy, PyData.hasDict] using z.2⟩
  | .dct _, h => by simp [okD] at h
  | .obj _ _, h => by simp [okD] at h
  | .cls _, h => by simp [okD] at h
theorem okDL_py : ∀ ds : List D, okDL ds = true → PyData.showableAll (toPyL ds) = true ∧ PyData.hasDictAll (toPyL ds) = false
  | [], _ => ⟨rfl, rfl⟩
  | x :: xs, h => by
    simp only [okDL, Bool.and_eq_true] at h
    have z1 := okD_py x h.1
    have z2 := okDL_py xs h.2
    exact ⟨by simp [toPyL, PyData.showableAll, z1.1, z2.1], by simp [toPyL, PyData.hasDictAll, z1.2, z2.2]⟩
end
noncomputable def reprF : List D → PM D
  | [d] => if okD d = true ∧ (toPy d).depth ≤ 60 ∧ (shown d).length ≤ lim then pure (.str (shown d)) else bad
  | _ => bad
noncomputable def rRepr (K : PySem.W.Frag) : List V → Hp → VK → Prop := fun xs H Q => ∃ x d, xs = [x] ∧ Dp K H x d ∧ d.showable = true ∧ d.hasDict = false ∧ d.depth ≤ 60 ∧ d.shown.length ≤ sizeLine ∧ Q (.str d.shown) H
theorem call_reprD (hr : Room k X.A) (hg : X.A.guards = some []) : CallR X (.builtin "repr") (rRepr X.K) := by
  intro pins s σ H xs us Q I r h
  (refine EV.el2_2 h ?_; try clear h; intro x d q34_ q35_; obtain rfl := q34_; (refine EV.el0_6 q35_ ?_; try clear q35_; intro dp h1 h2 h3 h4 q))
  (refine EV.el1_2 (vals1 r) fun u q36_ ru => ?_; obtain rfl := q36_)
  refine EV.el1_1 (Dp.reads I d x u dp ru) fun as rd => ?_
  have hu := hr.un
  cases rd with
  | none => exact PySem.P.repr_of_none ⟨.str _, H, I.tok _, ⟨_, rfl⟩, q⟩
  | bool b => exact PySem.P.repr_of_bool ⟨.str _, H, I.tok _, ⟨_, rfl⟩, by cases b <;> exact q⟩
  | int i t => exact PySem.P.repr_of_int (by simpa [PyData.showable] using h1) ⟨.str _, H, I.tok _, ⟨_, rfl⟩, q⟩
  | str z t => exact PySem.P.repr_of_str ⟨.str _, H, I.tok _, ⟨_, rfl⟩, q⟩ h4
  | list a1 a2 a3 a4 => exact repr_of_reads' (.list a1 a2 a3 a4) h1 (fun e => by rw [h2] at e; cases e) hg (by omega) (fun _ _ e => e) (fun h' u tk hk => ⟨.str _, H, I.kept (t' := tk) hk, ⟨_, rfl⟩, q⟩) h4
  | tuple a1 a2 a3 a4 => exact repr_of_reads' (.tuple a1 a2 a3 a4) h1 (fun e => by rw [h2] at e; cases e) hg (by omega) (fun _ _ e => e) (fun h' u tk hk => ⟨.str _, H, I.kept (t' := tk) hk, ⟨_, rfl⟩, q⟩) h4
  | dict a1 a2 a3 a4 a5 => simp [PyData.hasDict] at h2
end
end EV
namespace EV
open PySem PySem.Spec PyProof.Rows L2
theorem pure_any {α : Type} {M : Model} {A : Around} {Q : α → Shared → Prop} {E : Value → Shared → Prop} {s : Shared} {x : α} (h : ∀ b, Q b s) : wpAny M A (pure x) Q E s := wpAny_pure (h x)
set_option tactic.hygienic true in
theorem newEnumB {v : Value} {o : Obj} {H : Heap → Prop} (B : Begins v o H) :
    Meets (Builtin.«enumerate.__new__» ⟨[.type "enumerate", v], []⟩)
      (fun _ R s => H s.heap ∧ R (.ok (.ret (.ref (s.heap.push o).objs.size)))
        { s with heap := (s.heap.push o).push { cls := .type "enumerate", data := .fields #[.none, .bool false, .ref s.heap.objs.size, rawInt 0, .none, .none] } }) :=
  .of_wp fun prog w A R s h => by
    obtain ⟨hp, g, d, tk, os⟩ := s
    obtain ⟨h1, h⟩ := h
    have hsub := sub_enumerate
    have q1 : ∀ {A' : Around} {E : Value → Shared → Prop} {Q : Value → Shared → Prop}, Q (.ref hp.objs.size) ⟨hp.push o, g, d, tk, os⟩ → wpAny (model prog w) A' (pyIter v) Q E ⟨hp, g, d, tk, os⟩ :=
      fun q => B.iter prog w _ _ ⟨hp, g, d, tk, os⟩ _ h1 q
    wp_walk using q1
    refine wpAny_stack_any fun st => pure_any fun b => ?_
    cases b <;> (wp_walk using q1; exact ⟨_, rfl, h⟩)
theorem callEnumT {prog : Program} {w : World} {A : Around} {E : Value → Shared → Prop} {s : Shared} {l : Addr} {items : Array Value} {Q : Value → Shared → Prop} (hT : s.heap.IsTuple l items)
    (h : ∀ h', IsEnum h' (s.heap.objs.size + 1) s.heap.objs.size 0 .none → h'.IsTupleIter s.heap.objs.size l 0 →
      (∀ b o, s.heap.get? b = some o → h'.get? b = some o) → Q (.ref (s.heap.objs.size + 1)) { s with heap := h' }) :
    wpAny (model prog w) A (call (.type "enumerate") [.ref l]) Q E s := by
  refine callType_new F.called_enumerate (by decide) (F.typeCall_enumerate_1 _) (F.newCall_enumerate_1 _) (fun obj => F.args_object_init_2 obj _)
    F.entry_enumerate_new (newEnumB (begins_tuple l items)) ⟨hT, ?_⟩
  generalize ho : ({ cls := .type "tuple_iterator", data := .fields #[.ref l, .int 0 0] } : Obj) = ob
  have hf : ob.isFreed = false := by rw [← ho]; rfl
  have hz : (s.heap.push ob).objs.size = s.heap.objs.size + 1 := Heap.size_push ..
  show _ ∧ _
  rw [hz]
  generalize he0 : ({ cls := .type "enumerate", data := .fields #[.none, .bool false, .ref s.heap.objs.size, rawInt 0, .none, .none] } : Obj) = oe
  have hfe : oe.isFreed = false := by rw [← he0]; rfl
  have he : ((s.heap.push ob).push oe).get? (s.heap.objs.size + 1) = some oe := by
    have := Heap.get?_push_size (s.heap.push ob) (o := oe) hfe
    rw [hz] at this
    exact this
  have he2 : IsEnum ((s.heap.push ob).push oe) (s.heap.objs.size + 1) s.heap.objs.size 0 .none := by
    subst he0
    exact he
  refine ⟨⟨_, he2, rfl⟩, h _ he2 ?_ fun b o x => Heap.get?_push_of_some _ (Heap.get?_push_of_some _ x)⟩
  subst ho
  exact EV.in1_3 _ (Heap.get?_push_of_some _ (Heap.get?_push_size _ hf)) rfl rfl
/-- the tuple at a, each item in a new pair -/
noncomputable def IteT (K : PySem.W.Frag) (a : Addr) : It :=
  ⟨fun i H => ∃ (xs : List V) (x : V), SqT K H a xs ∧ xs[i]? = some x,
    fun i H v H' => ∃ T x, v = .ref T ∧ H T = none ∧ H' = upd H T (.tup [.int (i : Nat), x]) ∧ ∀ xs, SqT K H a xs → xs[i]? = some x,
    fun i H => ∃ xs : List V, SqT K H a xs ∧ xs.length ≤ i⟩
theorem turnEnumT {P : Program} {w : World} {K : PySem.W.Frag} {elts : List Expr} {kk : Nat} {tpos : Pos} (a e it : Addr) :
    Turn P w K (.Tuple elts kk tpos) (IteT K a) [e, it] e (fun i h => (∃ old, IsEnum h e it ((i : Nat) : Int) old) ∧ h.IsTupleIter it a i ∧ e ≠ it ∧ a ≠ it ∧ a ≠ e) where
  mem := by simp
  obj := fun i h st b hb => by
    (refine EV.el0_3 st ?_; try clear st; intro q37_ q38_ _; (refine EV.el1_1 q37_ ?_; try clear q37_; intro old he); (refine EV.el1_3 q38_ ?_; try clear q38_; intro o ho hc hd))
    have e' : b = e ∨ b = it := by simpa using hb
    rcases e' with z | z
    · rw [z]
      exact EV.in1_2 _ he (fun v q => nomatch q)
    · rw [z]
      exact EV.in1_2 o ho (fun v q => by rw [hd] at q; cases q)
  keep := fun i h h' st k => by
    (refine EV.el0_3 st ?_; try clear st; intro q39_ hi hne; (refine EV.el1_1 q39_ ?_; try clear q39_; intro old he))
    exact ⟨⟨old, k e (by simp) _ he⟩, hi.at fun o q => k it (by simp) o q, hne⟩
  item := by
    intro X hP hw hK hc i pins s σ H E I hf st hg
    subst hP hw hK
    (refine EV.el0_5 st ?_; try clear st; intro q40_ hit hne hai hae; (refine EV.el1_1 q40_ ?_; try clear q40_; intro old he))
    (refine EV.el2_2 hg ?_; try clear hg; intro xs x hq hx)
    refine EV.el1_3 (I.tuple hq) fun its rv p hz => ?_
    have hlt : i < its.toArray.size := by
      have h1 := (List.getElem?_eq_some_iff.mp hx).1
      have h2 := rv.length
      simp only [List.size_toArray]
      omega
    have hel : e < s.heap.objs.size := Heap.lt_size he
    have hil : it < s.heap.objs.size := by
      (refine EV.el1_2 hit ?_; try clear hit; intro _ q _)
      exact Heap.lt_size q
    refine wpAny_pyNext_enum_itemD (Draws.tuple (prog := X.prog) (w := X.w) (A := X.A.in1) (I.ok.hd hc) it a hai its.toArray) he ⟨hit, p⟩ hlt hne (by simp [hne, Ne.symm hae]) fun u h' tk hu ho hit' hT hsz hk => ?_
    refine EV.el1_2 (rv.get hx) fun u' hu' ru' => ?_
    have eu : u = u' := by
      have z : its[i]? = some u := by simpa using hu
      rw [hu'] at z
      exact (Option.some.inj z).symm
    subst eu
    refine EV.in1_2 _ rfl (wpAny_letOwnedTupleGo_enum (s := { s with heap := h', toks := tk + 1 }) ho fun h'' he' sb => ?_)
    have hT2 : h''.get? s.heap.objs.size = some { cls := .type "tuple", data := .seq #[.int i tk, u] } := (sb.2 _ (Nat.ne_of_gt hel)).trans hT
    have new : ObjOk X.prog X.w (upd H s.heap.objs.size (.tup [.int (i : Nat), x])) h'' s.heap.objs.size (.tup [.int (i : Nat), x]) :=
      ⟨(by show 2 ≤ sizeLine; decide), [.int i tk, u], .cons ⟨_, rfl⟩ (.cons ru' .nil), ⟨_, hT2, rfl, _, rfl⟩⟩
    have I1 : Inv X pins σ (upd H s.heap.objs.size (.tup [.int (i : Nat), x])) { s with heap := h'', toks := tk + 1 } := by
      refine I.turnedNew (ch := [e, it]) (fun b ob hb q => ?_) hf (Nat.le_refl _) new
      have n1 : b ≠ e := fun z => hb (by simp [z])
      have n2 : b ≠ it := fun z => hb (by simp [z])
      exact (sb.2 b n1).trans (hk b ob n1 n2 q)
    refine EV.in2_5 (.ref s.heap.objs.size) _ I1 rfl (⟨_, x, rfl, I.hok.fresh (Nat.le_refl _), rfl, fun ys hy => ?_⟩) (⟨⟨u, ?_⟩, ?_, hne, hai, hae⟩) (fun b hb => ?_)
    · rw [I.tuple_inj hy hq]
      exact hx
    · have e1 : ((i + 1 : Nat) : Int) = (i : Int) + 1 := by rfl
      rw [e1]
      exact he'
    · exact hit'.1.at fun o q => (sb.2 it (Ne.symm hne)).trans q
    · have hb' : b < s.heap.objs.size := by
        have e' : b = e ∨ b = it := by simpa using hb
        rcases e' with z | z <;> (rw [z]; assumption)
      rw [upd_ne (Nat.ne_of_lt hb')]
      exact (hf b hb).1
  done := by
    intro X hP hw hK hc i pins s σ H E I hf st hg
    subst hP hw hK
    (refine EV.el0_5 st ?_; try clear st; intro q41_ hit hne hai hae; (refine EV.el1_1 q41_ ?_; try clear q41_; intro old he))
    (refine EV.el1_2 hg ?_; try clear hg; intro xs hq hx)
    refine EV.el1_3 (I.tuple hq) fun its rv p hz => ?_
    refine EV.el0_6 (hf it (by simp)) fun f0 f1 f2 f3 f4 f5 => ?_
    have hl := rv.length
    have D0 := Draws.tuple (prog := X.prog) (w := X.w) (A := X.A.in1) (I.ok.hd hc) it a hai its.toArray
    have D : Draws X.prog X.w X.A.in1 it [it, a] i (fun _ _ => True) (fun j h => j = i ∧ h.IsTupleIter it a i ∧ h.IsTuple a its.toArray) := by
      refine ⟨fun _ _ st => ?_, fun _ _ _ st hk => ⟨st.1, st.2.1.at fun o e => hk it (by simp) o e, st.2.2.at fun o e => hk a (by simp) o e⟩, fun j s Q E hj st => ?_, fun s Q E st hE => ?_⟩
      · (refine EV.el0_3 st ?_; try clear st; intro _ q42_ _; (refine EV.el1_2 q42_ ?_; try clear q42_; intro o ho _))
        exact EV.in1_1 o ho
      · have := st.1
        omega
      · exact wpAny_nextOf_tuple_end (I.ok.hd hc) st.2.1 st.2.2 (by simp; omega) hE
    exact wpAny_pyNext_enum_endD D he ⟨rfl, hit, p⟩ fun h' eb => ⟨rfl, I.turned (t' := s.toks) (fun b o hb q => eb b o hb q) f0 f1 f3 f4 f5⟩
  self := fun A i s Q E st h => by
    (refine EV.el0_2 st ?_; try clear st; intro q43_ _; (refine EV.el1_1 q43_ ?_; try clear q43_; intro _ he))
    exact wpAny_pyIter_enum he h
noncomputable def IterOk (K : PySem.W.Frag) (J : It) (G : Hp) (xs : List D) : Prop := ∀ G' H', Same G G' → Same G' H' →
  (∀ (i : Nat) x, xs[i]? = some x → J.go i H' ∧ ∀ v H'', J.yld i H' v H'' → ∃ G'', Ext K none G' H' G'' H'' ∧ Rp K G'' v x) ∧ (∀ i : Nat, xs.length ≤ i → J.stop i H')
noncomputable def evI (X : Cx) (W : WX) (pa : Option Addr) (Γ : List Sl) (m : PM (List D)) : TI := fun σ H R => ∃ G0 H0 G s, Nv X.K pa G0 H0 G H σ Γ s ∧ Pst X.K W X.mg pa σ (fun G' H' xs _ => ∀ J, IterOk X.K J G' xs → R J H') G H (m s)
noncomputable abbrev EI (X : Cx) (W : WX) (pa : Option Addr) (Γ : List Sl) (tg iter : Expr) (m : PM (List D)) : Prop := PI X tg iter (evI X W pa Γ m)
theorem pi_imp {X : Cx} {tg iter : Expr} {t t' : TI} (h : PI X tg iter t) (i : ∀ σ H Q, t' σ H Q → t σ H Q) : PI X tg iter t' := ⟨fun pins s σ H Q I q => h.run pins s σ H Q I (i σ H Q q)⟩
theorem Ext.any {K : PySem.W.Frag} {pa : Option Addr} {G H G' H' : Hp} (x : Ext K none G H G' H') : Ext K pa G H G' H' := ⟨x.g, fun a o e _ t => x.h a o e (fun z => by exact EV.nnS z) t, x.t, x.n, x.sub, x.tk, x.gt⟩
theorem PenOk.ext {K : PySem.W.Frag} {pa : Option Addr} {G H G' H' : Hp} {s : List Int} (p : PenOk pa G H s) (x : Ext K Option.none G H G' H') : PenOk pa G' H' s := fun q e => by
  refine EV.el0_2 (p q e) fun h1 h2 => ?_
  exact ⟨x.n _ _ h2 h1, x.h _ _ h2 (fun z => by exact EV.nnS z)⟩
section
variable {K : PySem.W.Frag} {G : Hp} {vs : List V} {ds : List D} {a : Addr}
theorem iter_list (h : G a = some (.lst vs)) (r : RpL K G vs ds) : IterOk K (Itl K a) G ds := fun G' H' g s => by
  refine ⟨fun i x e => ?_, fun i hi => ⟨vs, SqL.of (s _ _ (g _ _ h)), by rw [r.1]; exact hi⟩⟩
  refine EV.el1_2 (r.get e) fun v e' rv => ?_
  refine ⟨⟨vs, v, SqL.of (s _ _ (g _ _ h)), e'⟩, fun w H'' y => ?_⟩
  (refine EV.el0_2 y ?_; try clear y; intro q44_ y; obtain rfl := q44_)
  have e2 := y vs (SqL.of (s _ _ (g _ _ h)))
  rw [e'] at e2
  obtain rfl := Option.some.inj e2
  exact EV.in1_2 G' (Ext.refl s) (rv.mono g)
theorem iter_tup (h : SqT K G a vs) (r : RpL K G vs ds) : IterOk K (Itt K a) G ds := fun G' H' g s => by
  refine ⟨fun i x e => ?_, fun i hi => ⟨vs, sameT s (sameT g h), by rw [r.1]; exact hi⟩⟩
  refine EV.el1_2 (r.get e) fun v e' rv => ?_
  refine ⟨⟨vs, v, sameT s (sameT g h), e'⟩, fun w H'' y => ?_⟩
  (refine EV.el0_2 y ?_; try clear y; intro q45_ y; obtain rfl := q45_)
  have e2 := y vs (sameT s (sameT g h))
  rw [e'] at e2
  obtain rfl := Option.some.inj e2
  exact EV.in1_2 G' (Ext.refl s) (rv.mono g)
noncomputable def pairsFrom : Nat → List D → List D
  | _, [] => []
  | n, x :: r => .tup [.int n, x] :: pairsFrom (n + 1) r
theorem pairsFrom_get : ∀ (xs : List D) (n i : Nat) (y : D), (pairsFrom n xs)[i]? = some y → ∃ x, xs[i]? = some x ∧ y = .tup [.int ((n + i : Nat) : Int), x]
  | [], _, _, _, h => by simp [pairsFrom] at h
  | x :: r, n, 0, y, h => by
    simp [pairsFrom] at h
    exact EV.in1_2 x rfl (h.symm)
  | x :: r, n, i + 1, y, h => by
    simp only [pairsFrom, List.getElem?_cons_succ] at h
    refine EV.el1_2 (pairsFrom_get r (n + 1) i y h) fun z h1 h2 => ?_
    refine EV.in1_2 z (by simpa using h1) ?_
    rw [h2]
    have : n + 1 + i = n + (i + 1) := by exact Nat.add_right_comm _ _ _
    rw [this]
theorem pairsFrom_len : ∀ (xs : List D) (n : Nat), (pairsFrom n xs).length = xs.length
  | [], _ => rfl
  | x :: r, n => by simp [pairsFrom, pairsFrom_len r]
theorem pairNew {G' H' : Hp} {T : Addr} {u v : V} {d e : D} (s : Same G' H') (nT : H' T = none) (r1 : Rp K G' u d) (r2 : Rp K G' v e) : ∃ G'', Ext K none G' H' G'' (upd H' T (.tup [u, v])) ∧ Rp K G'' (.ref T) (.tup [d, e]) := by
  have x := Ext.new (K := K) (pa := none) s nT (.tup [u, v])
  exact EV.in1_2 _ x (.mkT (SqT.of upd_same) (.cons (r1.mono x.g) (.cons (r2.mono x.g) .nil)))
theorem iter_enumL (h : G a = some (.lst vs)) (r : RpL K G vs ds) : IterOk K (Ite K a) G (pairsFrom 0 ds) := fun G' H' g s => by
  have hq := SqL.of (K := K) (s _ _ (g _ _ h))
  refine ⟨fun i x e => ?_, fun i hi => ⟨vs, hq, by rw [r.1, ← pairsFrom_len ds 0]; exact hi⟩⟩
  (refine EV.el1_2 (pairsFrom_get ds 0 i x e) fun z e1 q46_ => ?_; obtain rfl := q46_)
  refine EV.el1_2 (r.get e1) fun v e' rv => ?_
  refine ⟨⟨vs, v, hq, e'⟩, fun w H'' y => ?_⟩
  (refine EV.el2_2 y ?_; try clear y; intro T u q47_ q48_; obtain rfl := q47_; (refine EV.el0_3 q48_ ?_; try clear q48_; intro nT q49_ y; obtain rfl := q49_))
  have e2 := y vs hq
  rw [e'] at e2
  obtain rfl := Option.some.inj e2
  rw [Nat.zero_add]
  exact pairNew s nT (.int _) (rv.mono g)
theorem iter_enumT (h : SqT K G a vs) (r : RpL K G vs ds) : IterOk K (IteT K a) G (pairsFrom 0 ds) := fun G' H' g s => by
  have hq := sameT s (sameT g h)
  refine ⟨fun i x e => ?_, fun i hi => ⟨vs, hq, by rw [r.1, ← pairsFrom_len ds 0]; exact hi⟩⟩
  (refine EV.el1_2 (pairsFrom_get ds 0 i x e) fun z e1 q50_ => ?_; obtain rfl := q50_)
  refine EV.el1_2 (r.get e1) fun v e' rv => ?_
  refine ⟨⟨vs, v, hq, e'⟩, fun w H'' y => ?_⟩
  (refine EV.el2_2 y ?_; try clear y; intro T u q51_ q52_; obtain rfl := q51_; (refine EV.el0_3 q52_ ?_; try clear q52_; intro nT q53_ y; obtain rfl := q53_))
  have e2 := y vs hq
  rw [e'] at e2
  obtain rfl := Option.some.inj e2
  rw [Nat.zero_add]
  exact pairNew s nT (.int _) (rv.mono g)
noncomputable def zipT : List D → List D → List D
  | x :: xs, y :: ys => .tup [x, y] :: zipT xs ys
  | _, _ => []
theorem zipT_get : ∀ (xs ys : List D) (i : Nat) (p : D), (zipT xs ys)[i]? = some p → ∃ x y, xs[i]? = some x ∧ ys[i]? = some y ∧ p = .tup [x, y]
  | [], _, _, _, h => by simp [zipT] at h
  | _ :: _, [], _, _, h => by simp [zipT] at h
  | x :: xs, y :: ys, 0, p, h => by
    simp [zipT] at h
    exact EV.in2_3 x y rfl rfl (h.symm)
  | x :: xs, y :: ys, i + 1, p, h => by
    simp only [zipT, List.getElem?_cons_succ] at h
    refine EV.el2_3 (zipT_get xs ys i p h) fun a b h1 h2 h3 => ?_
    exact EV.in2_3 a b (by simpa using h1) (by simpa using h2) h3
theorem zipT_len : ∀ (xs ys : List D) (i : Nat), (zipT xs ys).length ≤ i → xs.length ≤ i ∨ ys.length ≤ i
  | [], _, _, _ => .inl (Nat.zero_le _)
  | _ :: _, [], _, _ => .inr (Nat.zero_le _)
  | x :: xs, y :: ys, 0, h => by simp [zipT] at h
  | x :: xs, y :: ys, i + 1, h => by
    have := zipT_len xs ys i (by simpa [zipT] using h)
    simpa using this
theorem iter_zipL {b : Addr} {ws : List V} {es : List D} (h : G a = some (.lst vs)) (r : RpL K G vs ds) (h' : G b = some (.lst ws)) (r' : RpL K G ws es) : IterOk K (Itz K a b) G (zipT ds es) := fun G' H' g s => by
  have hq := SqL.of (K := K) (s _ _ (g _ _ h))
  have hq' := SqL.of (K := K) (s _ _ (g _ _ h'))
  refine ⟨fun i x e => ?_, fun i hi => ⟨vs, ws, hq, hq', by rw [r.1, r'.1]; exact zipT_len ds es i hi⟩⟩
  (refine EV.el2_3 (zipT_get ds es i x e) fun z1 z2 e1 e2 q54_ => ?_; obtain rfl := q54_)
  refine EV.el1_2 (r.get e1) fun v ev rv => ?_
  refine EV.el1_2 (r'.get e2) fun w ew rw' => ?_
  refine ⟨⟨vs, ws, v, w, hq, hq', ev, ew⟩, fun q H'' y => ?_⟩
  (refine EV.el3_2 y ?_; try clear y; intro T u1 u2 q55_ q56_; obtain rfl := q55_; (refine EV.el0_3 q56_ ?_; try clear q56_; intro nT q57_ q58_; obtain rfl := q57_; (refine EV.el0_2 q58_ ?_; try clear q58_; intro y1 y2)))
  have q1 := y1 vs hq
  have q2 := y2 ws hq'
  rw [ev] at q1
  rw [ew] at q2
  obtain rfl := Option.some.inj q1
  obtain rfl := Option.some.inj q2
  exact pairNew s nT (rv.mono g) (rw'.mono g)
theorem iter_zipT {b : Addr} {ws : List V} {es : List D} (h : SqT K G a vs) (r : RpL K G vs ds) (h' : SqT K G b ws) (r' : RpL K G ws es) : IterOk K (RZ.ItzT K a b) G (zipT ds es) := fun G' H' g s => by
  have hq := sameT s (sameT g h)
  have hq' := sameT s (sameT g h')
  refine ⟨fun i x e => ?_, fun i hi => ⟨vs, ws, hq, hq', by rw [r.1, r'.1]; exact zipT_len ds es i hi⟩⟩
  (refine EV.el2_3 (zipT_get ds es i x e) fun z1 z2 e1 e2 q59_ => ?_; obtain rfl := q59_)
  refine EV.el1_2 (r.get e1) fun v ev rv => ?_
  refine EV.el1_2 (r'.get e2) fun w ew rw' => ?_
  refine ⟨⟨vs, ws, v, w, hq, hq', ev, ew⟩, fun q H'' y => ?_⟩
  (refine EV.el3_2 y ?_; try clear y; intro T u1 u2 q60_ q61_; obtain rfl := q60_; (refine EV.el0_3 q61_ ?_; try clear q61_; intro nT q62_ q63_; obtain rfl := q62_; (refine EV.el0_2 q63_ ?_; try clear q63_; intro y1 y2)))
  have q1 := y1 vs hq
  have q2 := y2 ws hq'
  rw [ev] at q1
  rw [ew] at q2
  obtain rfl := Option.some.inj q1
  obtain rfl := Option.some.inj q2
  exact pairNew s nT (rv.mono g) (rw'.mono g)
noncomputable def rangeL (lo : Int) (n : Nat) : List D := (List.range n).map fun (i : Nat) => D.int (lo + (i : Int))
theorem iter_range {lo : Int} {n : Nat} : IterOk K (Itr lo n) G (rangeL lo n) := fun G' H' g s => by
  refine ⟨fun i x e => ?_, fun i hi => by simpa [rangeL, Itr] using hi⟩
  unfold rangeL at e
  rw [List.getElem?_map] at e
  by_cases hi : i < n
  · rw [List.getElem?_range hi] at e
    obtain rfl := Option.some.inj e
    refine ⟨hi, fun v H'' y => ?_⟩
    (refine EV.el0_2 y ?_; try clear y; intro q64_ q65_; obtain rfl := q64_; obtain rfl := q65_)
    exact EV.in1_2 G' (Ext.refl s) (.int _)
  · rw [List.getElem?_eq_none (by simpa using hi)] at e
    exact EV.nnS e
end
section
variable {X : Cx} {W : WX} {pa : Option Addr} {Γ : List Sl} {tg : Expr} {p pos : Pos}
noncomputable def itemsD : D → PM (List D)
  | .lst xs => pure xs
  | .tup xs => pure xs
  | _ => bad
/-- a list or a tuple -/
theorem pi_seq {l : Expr} {tl : TE} (hl : PE X l tl) : PI X tg l (fun σ H R => tl σ H fun x H1 => ∃ a, x = .ref a ∧ ((∃ xs, SqL X.K H1 a xs ∧ R (Itl X.K a) H1) ∨ (∃ xs, SqT X.K H1 a xs ∧ R (Itt X.K a) H1))) := by
  refine ⟨fun pins s σ H R I h => ?_⟩
  refine thn (hl.run pins s σ H _ I h) fun v s1 h1_ => ?_; obtain ⟨x, H1, I1, r1, a, e, q⟩ := h1_
  subst e
  cases r1
  have fr := fun (b : Addr) (hb : b ∈ [s1.heap.objs.size]) => (by
    have e : b = s1.heap.objs.size := by simpa using hb
    subst e
    exact I1.fpOk (Nat.le_refl _) (I1.hok.fresh (Nat.le_refl _)) : FpOk X pins H1 b)
  rcases q with ⟨xs, hq, q⟩ | ⟨xs, hq, q⟩
  · refine EV.el1_3 (I1.list hq) fun its rv pl hz => ?_
    refine wpAny_pyIter_list pl.isList ?_
    exact ⟨s1.heap.objs.size, [s1.heap.objs.size], _, _, H1, rfl, I1.kept (t' := s1.toks) fun b o e => Heap.get?_push_of_some _ e, turn_list a _, ⟨_, Heap.get?_push_size _ rfl, rfl, rfl⟩, fr, q⟩
  · refine EV.el1_3 (I1.tuple hq) fun its rv pl hz => ?_
    refine wpAny_pyIter_tuple (show s1.heap.IsTuple a its.toArray from pl) ?_
    exact ⟨s1.heap.objs.size, [s1.heap.objs.size], _, _, H1, rfl, I1.kept (t' := s1.toks) fun b o e => Heap.get?_push_of_some _ e, turn_tuple a _, ⟨_, Heap.get?_push_size _ rfl, rfl, rfl⟩, fr, q⟩
theorem ei_seq {l : Expr} {m : PM D} (h : EV X W pa Γ l m) : EI X W pa Γ tg l (m >>= itemsD) := pi_imp (pi_seq h) fun σ H R h_ => EV.ex4 h_ fun G0 H0 G s E P => ⟨G0, H0, G, s, E, P.bind.imp fun G1 H1 d s1 x1 p1 P1 v r => by
  cases r with
  | lst h n r => exact EV.in1_2 _ rfl (.inl ⟨_, SqL.of (x1.sub _ _ h), P1.now x1.sub p1 _ (iter_list h ⟨n, r⟩)⟩)
  | tup h n r => exact EV.in1_2 _ rfl (.inr ⟨_, sameT x1.sub h, P1.now x1.sub p1 _ (iter_tup h ⟨n, r⟩)⟩)
  | _ => exact P1.elim⟩
noncomputable def rangeF : List D → PM (List D)
  | [.int j] => if -(2 ^ 62) ≤ j ∧ j < 2 ^ 62 then pure (rangeL 0 j.toNat) else bad
  | [.int i, .int j] => if -(2 ^ 62) ≤ i ∧ i < 2 ^ 62 ∧ -(2 ^ 62) ≤ j ∧ j < 2 ^ 62 then pure (rangeL i (j - i).toNat) else bad
  | _ => bad
noncomputable def rangeF1 : List D → PM (List D)
  | [d] => rangeF [d]
  | _ => bad
theorem ei_range1 {a : Expr} {ml : PM (List D)} (hg : Gl X "range") (hm : X.mg "range" = none) (ha : EL X W pa Γ [a] ml) (hs : autoParam (starEach [a] X.env = [(false, eval a X.env)]) EV.tac2) :
    EI X W pa Γ tg (.Call (.Name "range" p) [a] [] pos) (ml >>= rangeF1) := pi_imp (pi_range1 hg hm ha hs) fun σ H R h_ => EV.ex4 h_ fun G0 H0 G s E P =>
  ⟨G0, H0, G, s, E, P.bind.imp fun G1 H1 ds s1 x1 p1 P1 vs rs => by
    match ds, rs, P1 with
    | [d], rs, P1 =>
      (refine EV.el1_2 (rp1 rs) fun v q66_ r => ?_; obtain rfl := q66_)
      cases r with
      | int j =>
        have P1 : Pst X.K W X.mg pa σ (fun G' H' xs _ => ∀ J, IterOk X.K J G' xs → R J H') G1 H1 ((if -(2 ^ 62) ≤ j ∧ j < 2 ^ 62 then pure (rangeL 0 j.toNat) else bad : PM (List D)) s1) := P1
        split at P1
        · rename_i hj
          exact EV.in1_4 j rfl (hj.1) (hj.2) (P1.now x1.sub p1 _ iter_range)
        · exact P1.elim
      | _ => exact P1.elim
    | [], _, P1 => exact P1.elim
    | _ :: _ :: _, _, P1 => exact P1.elim⟩
noncomputable def enumF : List D → PM (List D)
  | [.lst xs] => pure (pairsFrom 0 xs)
  | [.tup xs] => pure (pairsFrom 0 xs)
  | _ => bad
theorem pi_enumA {e : Expr} {ta : TA} {tpos : Pos} {elts : List Expr} {kk : Nat} (hg : Gl X "enumerate") (hm : X.mg "enumerate" = none) (ha : PA X [e] ta) (hs : autoParam (starEach [e] X.env = [(false, eval e X.env)]) EV.tac2) :
    PI X (.Tuple elts kk tpos) (.Call (.Name "enumerate" p) [e] [] pos) (fun σ H R => ta σ H fun vs H1 => ∃ a xs, vs = [.ref a] ∧ ((SqL X.K H1 a xs ∧ R (Ite X.K a) H1) ∨ (SqT X.K H1 a xs ∧ R (IteT X.K a) H1))) := by
  refine ⟨fun pins s σ H R I h => ?_⟩
  refine Call_ (ld_blt I hg hm boot_enumerate (PyProof.Rows.callWith_type1 (thn (ha.run pos pins s σ H _ I h) fun us s1 h2_ => ?_) hs rfl)); obtain ⟨vs, H1, I1, r1, a, xs, ex, q⟩ := h2_
  subst ex
  cases r1 with
  | cons r rr =>
    cases rr
    cases r
    have fr := fun (b : Addr) (hb : b ∈ [s1.heap.objs.size + 1, s1.heap.objs.size]) => (by
      have e' : b = s1.heap.objs.size + 1 ∨ b = s1.heap.objs.size := by simpa using hb
      have hle : s1.heap.objs.size ≤ b := by
        rcases e' with z | z
        · rw [z]; exact Nat.le_succ _
        · rw [z]; exact Nat.le_refl _
      exact I1.fpOk hle (I1.hok.fresh hle) : FpOk X pins H1 b)
    rcases q with ⟨hq, q⟩ | ⟨hq, q⟩
    · refine EV.el1_3 (I1.list hq) fun its rv p' hz => ?_
      refine call_enumerate_list p'.isList fun h' he hit hsz hk => wpAny_pyIter_enum he ?_
      exact ⟨s1.heap.objs.size + 1, [s1.heap.objs.size + 1, s1.heap.objs.size], _, _, H1, rfl, I1.kept (t' := s1.toks) hk, turn_enum a _ _, ⟨⟨.none, he⟩, hit, Nat.succ_ne_self _⟩, fr, q⟩
    · refine EV.el1_3 (I1.tuple hq) fun its rv p' hz => ?_
      have hlt : a < s1.heap.objs.size := by
        (refine EV.el1_2 p' ?_; try clear p'; intro o ho _)
        exact Heap.lt_size ho
      refine callEnumT (show s1.heap.IsTuple a its.toArray from p') fun h' he hit hk => wpAny_pyIter_enum he ?_
      exact ⟨s1.heap.objs.size + 1, [s1.heap.objs.size + 1, s1.heap.objs.size], _, _, H1, rfl, I1.kept (t' := s1.toks) hk, turnEnumT a _ _, ⟨⟨.none, he⟩, hit, Nat.succ_ne_self _, Nat.ne_of_lt hlt, Nat.ne_of_lt (Nat.lt_succ_of_lt hlt)⟩, fr, q⟩
theorem ei_enum {e : Expr} {ml : PM (List D)} {tpos : Pos} {elts : List Expr} {kk : Nat} (hg : Gl X "enumerate") (hm : X.mg "enumerate" = none) (ha : EL X W pa Γ [e] ml) (hs : autoParam (starEach [e] X.env = [(false, eval e X.env)]) EV.tac2) :
    EI X W pa Γ (.Tuple elts kk tpos) (.Call (.Name "enumerate" p) [e] [] pos) (ml >>= enumF) := pi_imp (pi_enumA hg hm ha hs) fun σ H R h_ => EV.ex4 h_ fun G0 H0 G s E P =>
  ⟨G0, H0, G, s, E, P.bind.imp fun G1 H1 ds s1 x1 p1 P1 vs rs => by
    match ds, rs, P1 with
    | [d], rs, P1 =>
      (refine EV.el1_2 (rp1 rs) fun v q67_ r => ?_; obtain rfl := q67_)
      cases r with
      | lst h n r => exact EV.in2_2 _ _ rfl (.inl ⟨SqL.of (x1.sub _ _ h), P1.now x1.sub p1 _ (iter_enumL h ⟨n, r⟩)⟩)
      | tup h n r => exact EV.in2_2 _ _ rfl (.inr ⟨sameT x1.sub h, P1.now x1.sub p1 _ (iter_enumT h ⟨n, r⟩)⟩)
      | _ => exact P1.elim
    | [], _, P1 => exact P1.elim
    | a :: _ :: _, _, P1 => cases a <;> exact P1.elim⟩
noncomputable def zipF : List D → PM (List D)
  | [a, b] => (match a with
    | .lst xs => (match b with
      | .lst ys => pure (zipT xs ys)
      | _ => bad)
    | .tup xs => (match b with
      | .tup ys => pure (zipT xs ys)
      | _ => bad)
    | _ => bad)
  | _ => bad
theorem ei_zip {e e2 : Expr} {ml : PM (List D)} {tpos : Pos} {elts : List Expr} {kk : Nat} (hg : Gl X "zip") (hm : X.mg "zip" = none) (ha : EL X W pa Γ [e, e2] ml) (hs : autoParam (starEach [e, e2] X.env = [(false, eval e X.env), (false, eval e2 X.env)]) EV.tac2)
    (hs2 : autoParam (starEach [e2] X.env = [(false, eval e2 X.env)]) EV.tac2) :
    EI X W pa Γ (.Tuple elts kk tpos) (.Call (.Name "zip" p) [e, e2] [] pos) (ml >>= zipF) := pi_imp (RZ.pi_zipA hg hm ha (by rw [hs, hs2]) (by rw [hs2]; rfl)) fun σ H R h_ => EV.ex4 h_ fun G0 H0 G s E P =>
  ⟨G0, H0, G, s, E, P.bind.imp fun G1 H1 ds s1 x1 p1 P1 vs rs => by
    match ds, rs, P1 with
    | [d, d'], rs, P1 =>
      (refine EV.el2_2 (rp2 rs) fun v w q68_ q69_ => ?_; obtain rfl := q68_; (refine EV.el0_2 q69_ ?_; try clear q69_; intro r r'))
      cases r with
      | lst h n r =>
        cases r' with
        | lst h' n' r' => exact EV.in4_2 _ _ _ _ rfl (.inl ⟨SqL.of (x1.sub _ _ h), SqL.of (x1.sub _ _ h'), P1.now x1.sub p1 _ (iter_zipL h ⟨n, r⟩ h' ⟨n', r'⟩)⟩)
        | _ => exact P1.elim
      | tup h n r =>
        cases r' with
        | tup h' n' r' => exact EV.in4_2 _ _ _ _ rfl (.inr ⟨sameT x1.sub h, sameT x1.sub h', P1.now x1.sub p1 _ (iter_zipT h ⟨n, r⟩ h' ⟨n', r'⟩)⟩)
        | _ => exact P1.elim
      | _ => exact P1.elim
    | [], _, P1 => exact P1.elim
    | [a], _, P1 => exact P1.elim
    | a :: b :: _ :: _, _, P1 => exact P1.elim⟩
end
end EV
namespace EV
open PySem PySem.Spec PyProof.Rows L2
noncomputable abbrev W0 : WX := fun _ _ _ _ => False
noncomputable def noExc {α : Type} (m : PM α) : PM α := fun s => match m s with
  | .ok a s1 => .ok a s1
  | _ => .bad
theorem noExc_pure {α : Type} (a : α) : noExc (pure a : PM α) = pure a := rfl
noncomputable def compG {ι : Type} (dec : D → Option ι) (mt : ι → PM Bool) (me : ι → PM D) : List D → PM (List D)
  | [] => pure []
  | x :: xs => match dec x with
    | none => bad
    | some z => noExc (mt z) >>= fun b => if b = true then noExc (me z) >>= fun y => compG dec mt me xs >>= fun r => pure (y :: r) else compG dec mt me xs
noncomputable def compL {ι : Type} (dec : D → Option ι) (mt : ι → PM Bool) (me : ι → PM D) (xs : List D) : PM (List D) := if xs.length ≤ lim then compG dec mt me xs else bad
/-- one name, a pair of names, three -/
noncomputable def dec1 : D → Option D := some
noncomputable def dec2 : D → Option (D × D)
  | .tup [a, b] => some (a, b)
  | _ => none
noncomputable def wipeG (Γ : List Sl) : List Nat → List Sl
  | [] => Γ
  | v :: vs => (wipeG Γ vs).set v .junk
section
variable {K : PySem.W.Frag} {W : WX} {mg : Str → Option Value} {pa : Option Addr} {σ : L2.St} {G0 H0 G H G1 H1 : Hp} {Γ : List Sl} {s : List Int}
theorem Nv.wipe1 (E : Nv K pa G0 H0 G H σ Γ s) (v : Nat) : Nv K pa G0 H0 G H (σ.set v none) (Γ.set v .junk) s where
  len := by simp [E.len]
  val := fun i d e => by
    by_cases hi : v = i
    · subst hi
      have := (List.getElem?_eq_some_iff.mp e).1
      rw [List.getElem?_set_self (by simpa using this)] at e
      cases e
    · rw [List.getElem?_set_ne hi] at e ⊢
      exact E.val i d e
  own := fun i d e => by
    by_cases hi : v = i
    · subst hi
      have := (List.getElem?_eq_some_iff.mp e).1
      rw [List.getElem?_set_self (by simpa using this)] at e
      cases e
    · rw [List.getElem?_set_ne hi] at e ⊢
      exact E.own i d e
  inj := fun i j p xs ys e1 e2 => by
    have n1 : v ≠ i := fun hi => by
      subst hi
      have := (List.getElem?_eq_some_iff.mp e1).1
      rw [List.getElem?_set_self (by simpa using this)] at e1
      cases e1
    have n2 : v ≠ j := fun hi => by
      subst hi
      have := (List.getElem?_eq_some_iff.mp e2).1
      rw [List.getElem?_set_self (by simpa using this)] at e2
      cases e2
    rw [List.getElem?_set_ne n1] at e1 ⊢
    rw [List.getElem?_set_ne n2] at e2 ⊢
    exact E.inj i j p xs ys e1 e2
  pen := fun i e => by
    have n1 : v ≠ i := fun hi => by
      subst hi
      have := (List.getElem?_eq_some_iff.mp e).1
      rw [List.getElem?_set_self (by simpa using this)] at e
      cases e
    rw [List.getElem?_set_ne n1] at e ⊢
    exact E.pen i e
  scr := fun i ns e => by
    have n1 : v ≠ i := fun hi => by
      subst hi
      have := (List.getElem?_eq_some_iff.mp e).1
      rw [List.getElem?_set_self (by simpa using this)] at e
      cases e
    rw [List.getElem?_set_ne n1] at e ⊢
    exact E.scr i ns e
  ps := E.ps
  ext := E.ext
  x := E.x.put v rfl
theorem Nv.wipe (E : Nv K pa G0 H0 G H σ Γ s) : ∀ vs : List Nat, Nv K pa G0 H0 G H (L2.wipe σ vs) (wipeG Γ vs) s
  | [] => E
  | v :: vs => (E.wipe vs).wipe1 v
theorem Pst.bind0 {α β : Type} {F : Hp → Hp → β → List Int → Prop} {m : PM α} {f : α → PM β} {s : List Int} (x : Ext K pa G1 H1 G H) (h : Pst K W mg pa σ F G1 H1 ((m >>= f) s)) : Pst K W mg pa σ (fun _ _ a s' => Pst K W mg pa σ F G1 H1 (f a s')) G H (m s) := by
  rw [PM.bind_def] at h
  cases e : m s with
  | ok a s1 =>
    rw [e] at h
    exact fun _ _ _ _ => h
  | exc z =>
    rw [e] at h
    exact fun cls dx G' H' y q => h cls dx G' H' (x.trans y) q
  | bad => rw [e] at h; exact h
theorem Pst.noExc {α : Type} {W' : WX} {F : Hp → Hp → α → List Int → Prop} {m : PM α} {s : List Int} {σ' : L2.St} (h : Pst K W mg pa σ F G H (noExc m s)) : Pst K W' mg pa σ' F G H (m s) := by
  unfold EV.noExc at h
  cases e : m s with
  | ok a s1 => rw [e] at h; exact h
  | exc z => rw [e] at h; exact h.elim
  | bad => rw [e] at h; exact h.elim
end
/-- the target of a comprehension or of a loop: from an item to what the slots know -/
noncomputable def TgOk (X : Cx) (pa : Option Addr) {ι : Type} (dec : D → Option ι) (g : TG) (vs : List Nat) (Γ : List Sl) (Γz : ι → List Sl) : Prop :=
  ∀ (G0 H0 G H : Hp) (σ : L2.St) (s : List Int) (v : V) (d : D) (z : ι) (Q : L2.St → Hp → Prop), Nv X.K pa G0 H0 G H σ Γ s → Rp X.K G v d → dec d = some z →
    (∀ σ', Nv X.K pa G0 H0 G H σ' (Γz z) s → L2.wipe σ' vs = L2.wipe σ vs → Q σ' H) → g v σ H Q
theorem wipe_set {σ : L2.St} {i : Nat} {x : Option V} : ∀ {vs : List Nat}, i ∈ vs → L2.wipe (σ.set i x) vs = L2.wipe σ vs
  | v :: vs, h => by
    unfold L2.wipe
    by_cases hv : i ∈ vs
    · rw [wipe_set hv]
    · have e : i = v := by
        rcases List.mem_cons.mp h with z | z
        · exact z
        · exact absurd z hv
      subst e
      clear h
      have step : ∀ us : List Nat, i ∉ us → (L2.wipe (σ.set i x) us) = (L2.wipe σ us).set i x := by
        intro us
        induction us with
        | nil => intro _; rfl
        | cons u us ih =>
          intro hu
          have h1 : u ≠ i := fun z => hu (by simp [z])
          have h2 : i ∉ us := fun z => hu (List.mem_cons_of_mem _ z)
          unfold L2.wipe
          rw [ih h2, List.set_comm _ _ (Ne.symm h1)]
      rw [step vs hv]
      simp
theorem tg_name {X : Cx} {pa : Option Addr} {i : Nat} {Γ : List Sl} {vs : List Nat} (hi : i ∈ vs) : TgOk X pa dec1 (gName i) vs Γ (fun d => Γ.set i (.val d)) := by
  intro G0 H0 G H σ s v d z Q E r e h
  obtain rfl := Option.some.inj e
  exact h _ (E.set i r) (wipe_set hi)
set_option tactic.hygienic true in
theorem tg_pair {X : Cx} {pa : Option Addr} {i j : Nat} {Γ : List Sl} {vs : List Nat} (hi : i ∈ vs) (hj : j ∈ vs) : TgOk X pa dec2 (gTup X.K 2 (gCons (gName i) (gCons (gName j) gNil))) vs Γ (fun z => (Γ.set i (.val z.1)).set j (.val z.2)) := by
  intro G0 H0 G H σ s v d z Q E r e h
  cases r with
  | tup hq n rr =>
    rename_i vs' ds
    match ds, e, n, rr with
    | [a, b], e, n, rr =>
      obtain rfl := Option.some.inj e
      (refine EV.el2_2 (rp2 ⟨n, rr⟩) fun x y q70_ q71_ => ?_; obtain rfl := q70_; (refine EV.el0_2 q71_ ?_; try clear q71_; intro r1 r2))
      refine ⟨_, _, rfl, sameT E.sub hq, rfl, x, [y], rfl, y, [], rfl, rfl, ?_⟩
      exact h _ ((E.set i r1).set j r2) (by rw [wipe_set hj, wipe_set hi])
    | [], e, _, _ => exact EV.nnS e
    | [_], e, _, _ => exact EV.nnS e
    | _ :: _ :: _ :: _, e, _, _ => exact EV.nnS e
  | _ => exact EV.nnS e
theorem pt_ex {X : Cx} {ι : Type} {e : Expr} {t : ι → TT} (h : ∀ z, PT X e (t z)) : PT X e (fun σ H Q => ∃ z, t z σ H Q) := ⟨fun pins s σ H Q I h3_ => by (refine EV.el1_1 h3_ ?_; try clear h3_; intro z q); exact (h z).run pins s σ H Q I q⟩
theorem pe_ex {X : Cx} {ι : Type} {e : Expr} {t : ι → TE} (h : ∀ z, PE X e (t z)) : PE X e (fun σ H Q => ∃ z, t z σ H Q) := ⟨fun pins s σ H Q I h4_ => by (refine EV.el1_1 h4_ ?_; try clear h4_; intro z q); exact (h z).run pins s σ H Q I q⟩
theorem pts_ex {X : Cx} {ι : Type} {e : List Expr} {t : ι → TT} (h : ∀ z, PTs X e (t z)) : PTs X e (fun σ H Q => ∃ z, t z σ H Q) := ⟨fun pins s σ H Q I h5_ => by (refine EV.el1_1 h5_ ?_; try clear h5_; intro z q); exact (h z).run pins s σ H Q I q⟩
theorem pts_imp {X : Cx} {e : List Expr} {t t' : TT} (h : PTs X e t) (i : ∀ σ H Q, t' σ H Q → t σ H Q) : PTs X e t' := ⟨fun pins s σ H Q I q => h.run pins s σ H Q I (i σ H Q q)⟩
noncomputable abbrev ETs (X : Cx) (W : WX) (pa : Option Addr) (Γ : List Sl) (es : List Expr) (m : PM Bool) : Prop := PTs X es (evB X W pa Γ m)
theorem ets_nil {X : Cx} {W : WX} {pa : Option Addr} {Γ : List Sl} : ETs X W pa Γ [] (pure true) := pts_imp pts_nil fun σ H Q h_ => EV.ex4 h_ fun G0 H0 G s E P => P.now E.sub E.ps
theorem ets_one {X : Cx} {W : WX} {pa : Option Addr} {Γ : List Sl} {e : Expr} {m : PM Bool} (h : EB X W pa Γ e m) : ETs X W pa Γ [e] m := pts_one h
theorem lcCore {X : Cx} {W : WX} {pa : Option Addr} {Γ : List Sl} {ι β : Type} {dec : D → Option ι} {mt : ι → PM Bool} {me : ι → PM D} {g : TG} {vs : List Nat} {Γz : ι → List Sl} {σ : L2.St} {J : It} {xs : List D} {D0 : Addr}
    {G0 H0 G1 H1 : Hp} {s1 : List Int} {F : Hp → Hp → β → List Int → Prop} {cont : List D → PM β} {Qd : Hp → Prop}
    (hg : TgOk X pa dec g vs (wipeG Γ vs) Γz) (E : Nv X.K pa G0 H0 G1 H1 σ Γ s1) (hJ : IterOk X.K J G1 xs) (nD : H1 D0 = none)
    (P : Pst X.K W X.mg pa σ F G1 H1 ((compL dec mt me xs >>= cont) s1))
    (fin : ∀ G H accV accD s', Ext X.K pa G1 H1 G H → PenOk pa G H s' → H D0 = some (.lst accV) → G D0 = none → RpL X.K G accV accD → Pst X.K W X.mg pa σ F G1 H1 (cont accD s') → Qd H) :
    ∃ Wv : Nat → Nat → Hp → Prop, (∃ m, Wv 0 m (upd H1 D0 (.lst []))) ∧ ∀ i m H, Wv i m H →
      (J.stop i H ∧ Qd H) ∨ (J.go i H ∧ ∃ Nx : Hp → Prop, (∀ H', Nx H' → ∃ m', m' < m ∧ Wv (i + 1) m' H') ∧ ∀ x H', J.yld i H x H' → g x (L2.wipe σ vs) H' fun σ2 H2 => L2.wipe σ2 vs = L2.wipe σ vs ∧
        (fun σ H Q => ∃ z, evB X W0 pa (Γz z) (mt z) σ H Q : TT) σ2 H2 fun b H3 =>
          if b = true then (fun σ H Q => ∃ z, evT X W0 pa (Γz z) (me z) σ H Q : TE) σ2 H3 fun y H4 => ∃ acc, H4 D0 = some (.lst acc) ∧ acc.length < sizeLine ∧ Nx (upd H4 D0 (.lst (acc ++ [y]))) else Nx H3) := by
  have hlen : xs.length ≤ lim := by
    by_cases h : xs.length ≤ lim
    · exact h
    · unfold compL at P
      rw [if_neg h] at P
      exact P.elim
  unfold compL at P
  rw [if_pos hlen] at P
  let Wv : Nat → Nat → Hp → Prop := fun i m H => m = xs.length - i ∧ i ≤ xs.length ∧ ∃ G accV accD s', Ext X.K pa G1 H1 G H ∧ PenOk pa G H s' ∧ H D0 = some (.lst accV) ∧ G D0 = none ∧ RpL X.K G accV accD ∧ accD.length ≤ i ∧
    Pst X.K W X.mg pa σ F G1 H1 ((compG dec mt me (xs.drop i) >>= fun r => cont (accD ++ r)) s')
  refine EV.in1_2 Wv (⟨xs.length, by simp, Nat.zero_le _, G1, [], [], s1, Ext.newH E.sub nD _, E.ps.updH nD _, upd_same, E.sub.free nD, .nil, Nat.le_refl _, by simpa using P⟩) ?_
  rintro i m H ⟨rfl, hi, G, accV, accD, s', x1, p1, hD, gD, racc, hacc, P⟩
  by_cases hlt : i < xs.length
  · obtain ⟨x, hx⟩ : ∃ x, xs[i]? = some x := ⟨_, List.getElem?_eq_getElem hlt⟩
    refine EV.el0_2 ((hJ G H x1.g x1.sub).1 i x hx) fun hgo hyld => ?_
    have hdrop : xs.drop i = x :: xs.drop (i + 1) := by
      rw [List.drop_eq_getElem_cons hlt]
      congr 1
      rw [List.getElem?_eq_getElem hlt] at hx
      exact Option.some.inj hx
    rw [hdrop] at P
    refine .inr ⟨hgo, fun H' => Wv (i + 1) (xs.length - (i + 1)) H', fun H' w => ⟨_, Nat.sub_lt_sub_left (by assumption) (Nat.lt_succ_self i), w⟩, fun v H2 hy => ?_⟩
    refine EV.el1_2 (hyld v H2 hy) fun G2 x2 rv => ?_
    have x2 : Ext X.K pa G H G2 H2 := x2.any
    have hD2 : H2 D0 = some (.lst accV) := (by assumption : Ext X.K none G H G2 H2).h _ _ hD (fun z => by exact EV.nnS z)
    have gD2 : G2 D0 = none := x2.n _ _ hD gD
    have p2 : PenOk pa G2 H2 s' := p1.ext (by assumption)
    have E2 : Nv X.K pa G0 H0 G2 H2 σ Γ s' := E.step (x1.trans x2) p2
    unfold compG at P
    cases hd : dec x with
    | none => rw [hd] at P; exact P.elim
    | some z =>
      rw [hd] at P
      dsimp only at P
      have P : Pst X.K W X.mg pa σ F G1 H1 ((noExc (mt z) >>= fun b => (if b = true then noExc (me z) >>= fun y => compG dec mt me (xs.drop (i + 1)) >>= fun r => pure (y :: r) else compG dec mt me (xs.drop (i + 1))) >>= fun r => cont (accD ++ r)) s') := by
        rw [bind_assoc] at P
        exact P
      refine hg G0 H0 G2 H2 (L2.wipe σ vs) s' v x z _ (E2.wipe vs) rv hd fun σ3 E3 hw => ⟨?_, z, G0, H0, G2, s', E3, ?_⟩
      · have ww : L2.wipe (L2.wipe σ vs) vs = L2.wipe σ vs := by
          have : ∀ us : List Nat, (∀ u ∈ us, u ∈ vs) → L2.wipe (L2.wipe σ us) vs = L2.wipe σ vs := by
            intro us
            induction us with
            | nil => intro _; rfl
            | cons u us ih =>
              intro hu
              show L2.wipe ((L2.wipe σ us).set u none) vs = _
              rw [wipe_set (hu u List.mem_cons_self)]
              exact ih fun w hw => hu w (List.mem_cons_of_mem _ hw)
          exact this vs fun _ h => h
        rw [hw, ww]
      · have Q1 := P.bind0 (x1.trans x2)
        refine (Pst.noExc Q1).imp fun G3 H3 b s3 x3 p3 P3 => ?_
        have hD3 : H3 D0 = some (.lst accV) := x3.h _ _ hD2 (fun z => by
          have := (p1 D0 z).2
          have := p1 D0 z
          have e1 := E.ps D0 z
          rw [e1.2] at nD
          exact EV.nnS (Eq.symm nD))
        have gD3 : G3 D0 = none := x3.n _ _ hD2 gD2
        cases b with
        | false =>
          rw [if_neg Bool.false_ne_true] at P3
          show Wv (i + 1) (xs.length - (i + 1)) H3
          exact ⟨rfl, hlt, G3, accV, accD, s3, (x1.trans x2).trans x3, p3, hD3, gD3, racc.mono (x2.g.trans x3.g), by omega, P3⟩
        | true =>
          rw [if_pos rfl] at P3
          rw [bind_assoc] at P3
          show ∃ z, evT X W0 pa (Γz z) (me z) σ3 H3 _
          refine EV.in5_2 z G0 H0 G3 s3 (E3.step x3 p3) ?_
          have Q3 := P3.bind0 ((x1.trans x2).trans x3)
          refine (Pst.noExc Q3).imp fun G4 H4 y s4 x4 p4 P4 => fun w rw4 => ?_
          have hD4 : H4 D0 = some (.lst accV) := x4.h _ _ hD3 (fun z => by
            have e1 := E.ps D0 z
            rw [e1.2] at nD
            exact EV.nnS (Eq.symm nD))
          have gD4 : G4 D0 = none := x4.n _ _ hD3 gD3
          have xx := ((x1.trans x2).trans x3).trans x4
          have racc4 := racc.mono ((x2.g.trans x3.g).trans x4.g)
          have hl : accV.length < sizeLine := by
            rw [racc.1]
            exact lim_lt (by omega)
          refine ⟨accV, hD4, hl, rfl, hlt, G4, accV ++ [w], accD ++ [y], s4, ?_, ?_, upd_same, gD4, racc4.app (.cons rw4 .nil), by simp; assumption, ?_⟩
          · refine ⟨xx.g, fun a o e np nt => ?_, fun a o e => ?_, xx.n, fun a o e => ?_, fun h => (xx.tk h).updL hD4, xx.gt⟩
            · rw [upd_ne (ne_of_none e nD)]
              exact xx.h a o e np nt
            · rw [upd_ne (ne_of_none e nD)]
              exact xx.t a o e
            · have : a ≠ D0 := ne_of_none e gD4
              rw [upd_ne this]
              exact xx.sub a o e
          · intro q e
            refine EV.el0_2 (p4 q e) fun q1 q2 => ?_
            have : q ≠ D0 := fun z => by
              rw [z] at e
              have e1 := E.ps D0 e
              rw [e1.2] at nD
              exact EV.nnS (Eq.symm nD)
            rw [upd_ne this]
            exact ⟨q1, q2⟩
          · rw [bind_assoc] at P4
            have e5 : (fun r => cont (accD ++ [y] ++ r)) = fun r => (pure (y :: r) : PM (List D)) >>= fun r => cont (accD ++ r) := by
              funext r
              rw [pure_bind]
              simp
            rw [e5]
            exact P4
  · have e : i = xs.length := by exact EV.w_eq (by assumption) (by assumption)
    subst e
    refine .inl ⟨(hJ G H x1.g x1.sub).2 _ (Nat.le_refl _), fin G H accV accD s' x1 p1 hD gD racc ?_⟩
    rw [List.drop_length] at P
    have P : Pst X.K W X.mg pa σ F G1 H1 (((pure [] : PM (List D)) >>= fun r => cont (accD ++ r)) s') := P
    rw [pure_bind, List.append_nil] at P
    exact P
end EV
namespace EV
open PySem PySem.Spec PyProof.Rows L2
theorem Cok.blk {X : Cx} {W : WX} {k : Nat} (C : Cok X W k) {s : Shared} {H : Hp} {scope : Scope} {cenv : PySem.Env} {fp : List Addr} : Cok (X.blk s H scope cenv fp) W0 k where
  calm := C.calm
  nd := C.nd
  takes := takes0
  room := C.room
  guards := C.guards
  passes := PassesOwn.never
theorem Cok.mono {X : Cx} {W : WX} {j k : Nat} (C : Cok X W k) (h : j ≤ k) : Cok X W j := ⟨C.calm, C.nd, C.takes, C.room.mono h, fun q => C.guards (Nat.le_trans q h), C.passes⟩
/-- the rest after a list that is made: it is public -/
theorem lc_pub {X : Cx} {W : WX} {pa : Option Addr} {σ : L2.St} {G1 H1 : Hp} {D0 : Addr} {Q : VK} {s1 : List Int} (nD : H1 D0 = none) (hs1 : Same G1 H1) (hp1 : PenOk pa G1 H1 s1) (G H : Hp) (accV : List V) (accD : List D) (s' : List Int) (x : Ext X.K pa G1 H1 G H) (p : PenOk pa G H s') (hD : H D0 = some (.lst accV))
    (gD : G D0 = none) (r : RpL X.K G accV accD) (P : Pst X.K W X.mg pa σ (FD X.K Q) G1 H1 ((pure (.lst accD) : PM D) s')) : Q (.ref D0) H := by
  have sg : Same G (upd G D0 (.lst accV)) := fun a o e => by
    rw [upd_ne (ne_of_none e gD)]
    exact e
  have x' : Ext X.K pa G1 H1 (upd G D0 (.lst accV)) H := by
    refine ⟨x.g.trans sg, x.hh, x.t, fun a o e n => ?_, fun a o e => ?_, x.tk, fun h => (x.gt h).upd (nt_lst _)⟩
    · rw [upd_ne (ne_of_none e nD)]
      exact x.n a o e n
    · by_cases h : a = D0
      · subst h
        rw [upd_same] at e
        rw [← e]
        exact hD
      · rw [upd_ne h] at e
        exact x.sub a o e
  refine P _ _ x' (fun q e => ?_) _ (.mkL upd_same (r.mono sg))
  refine EV.el0_2 (p q e) fun q1 q2 => ?_
  refine ⟨?_, q2⟩
  rw [upd_ne (ne_of_none (hp1 q e).2 nD)]
  exact q1
section
variable {X : Cx} {W : WX} {pa : Option Addr} {Γ : List Sl} {k : Nat} {pos : Pos} {ι : Type}
theorem lc_read {dec : D → Option ι} {mt : ι → PM Bool} {me : ι → PM D} {mi : PM (List D)} {g : TG} {vs : List Nat} {Γz : ι → List Sl} (hg : TgOk X pa dec g vs (wipeG Γ vs) Γz) (σ : L2.St) (H : Hp) (Q : VK)
    (h : evT X W pa Γ (mi >>= fun xs => compL dec mt me xs >>= fun r => pure (.lst r)) σ H Q) :
    tLc (evI X W pa Γ mi) g (fun σ H Q => ∃ z, evB X W0 pa (Γz z) (mt z) σ H Q) (fun σ H Q => ∃ z, evT X W0 pa (Γz z) (me z) σ H Q) vs σ H Q := by
  (refine EV.el4_2 h ?_; try clear h; intro G0 H0 G s E P)
  refine EV.in4_2 G0 H0 G s E (P.bind.imp fun G1 H1 xs s1 x1 p1 P1 J hJ D0 nD => ?_)
  exact lcCore hg (E.step x1 p1) hJ nD P1 fun G H accV accD s' x p hD gD r P => lc_pub nD x1.sub p1 G H accV accD s' x p hD gD r P
/-- [elt for tg in iter if ..] -/
theorem ev_lc {elt tg iter : Expr} {ifs : List Expr} {scope : Scope} {own : List (Str × Nat)} {dec : D → Option ι} {mt : ι → PM Bool} {me : ι → PM D} {mi : PM (List D)} {g : TG} {Γz : ι → List Sl} (C : Cok X W k) (hi : EI X W pa Γ tg iter mi) (ok : BlkOk X.N X.env.scope scope own)
    (hg : TgOk X pa dec g (own.map (·.2)) (wipeG Γ (own.map (·.2))) Γz)
    (hp : ∀ (s : Shared) (H : Hp) (C : Addr) (cl : List (Str × Addr)) (fp : List Addr), PG (X.blk s H scope (compEnvC scope cl C X.env) fp) tg g)
    (ht : ∀ (z : ι) (s : Shared) (H : Hp) (C : Addr) (cl : List (Str × Addr)) (fp : List Addr), ETs (X.blk s H scope (compEnvC scope cl C X.env) fp) W0 pa (Γz z) ifs (mt z))
    (he : ∀ (z : ι) (s : Shared) (H : Hp) (C : Addr) (cl : List (Str × Addr)) (fp : List Addr), EV (X.blk s H scope (compEnvC scope cl C X.env) fp) W0 pa (Γz z) elt (me z))
    (hs : autoParam (∀ x, foldedSetIterable iter X.env x = pure x) EV.tac3) :
    EV X W pa Γ (.ListComp elt [⟨tg, iter, ifs, 0⟩] scope pos) (mi >>= fun xs => compL dec mt me xs >>= fun r => pure (.lst r)) :=
  pe_imp (pe_lc C.calm C.nd hi ok hp (fun s H C cl fp => pts_ex fun z => ht z s H C cl fp) (fun s H C cl fp => pe_ex fun z => he z s H C cl fp) hs) fun σ H Q h => lc_read hg σ H Q h
noncomputable def tyName : D → String
  | .non => "NoneType"
  | .bl _ => "bool"
  | .int _ => "int"
  | .str _ => "str"
  | .tup _ => "tuple"
  | .lst _ => "list"
  | .dct _ => "dict"
  | .obj _ _ => "object"
  | .cls _ => "type"
theorem Rp.ty {K : PySem.W.Frag} {G H : Hp} {v : V} {d : D} (hs : Same G H) (h : Rp K G v d) (hd : ∀ C fs, d ≠ .obj C fs) (hq : ∀ C, d ≠ .cls C) : TyX K H v (.type (tyName d)) := by
  cases h with
  | obj _ _ _ _ => exact absurd rfl (hd _ _)
  | cls _ => exact absurd rfl (hq _)
  | @dct a sh vs kvs h hk n r =>
    have h := hs _ _ h
    cases sh with
    | t ks => exact .base (.dT h)
    | k ks => exact .base (.dK h)
    | tu m => exact EV.nnS hk
    | tn o m => exact EV.nnS hk
    | ins _ _ _ _ => exact EV.nnS hk
  | non => exact .base .non
  | bl b => exact .base (.bl b)
  | int i => exact .base (.int i)
  | str x => exact .base (.str x)
  | lst h _ _ => exact .base (.lst (hs _ _ h))
  | tup h _ _ =>
    rcases h with (h | ⟨o, h⟩) | ⟨o, its, n, h1, h2, _⟩
    · exact .base (.tup (hs _ _ h))
    · exact .fTuple (hs _ _ h)
    · exact .kTuple h1 h2
/-- one of int, bool, tuple, str, list -/
noncomputable def isTy (T : String) (d : D) : Bool := tyName d == T || (tyName d == "bool" && T == "int")
noncomputable def isF (T : String) : D → PM D
  | .obj _ _ => pure (.bl false)
  | .cls _ => bad
  | d => pure (.bl (isTy T d))
theorem kitTable : ∀ a ∈ ["NoneType", "bool", "int", "str", "tuple", "list", "dict"], ∀ T ∈ ["int", "bool", "tuple", "str", "list"], kitB a T = some (a == T || (a == "bool" && T == "int")) := by decide +kernel
theorem kit_isTy (T : String) (hT : T ∈ ["int", "bool", "tuple", "str", "list"]) (d : D) (K : PySem.W.Frag) (h : ∀ c fs, d ≠ .obj c fs) (hq : ∀ c, d ≠ .cls c) : PySem.W.kitOne K (.type (tyName d)) (.type T) = some (isTy T d) := by
  refine kit_ty (kitTable (tyName d) ?_ T hT)
  cases d with
  | obj c fs => exact absurd rfl (h c fs)
  | cls c => exact absurd rfl (hq c)
  | _ => simp [tyName]
theorem ev_isi {e : Expr} {T : String} {x : Str} {m : PM D} {p p2 : Pos} (hT : T ∈ ["int", "bool", "tuple", "str", "list"]) (h : EV X W pa Γ e m) (hg : Gl X "isinstance") (hm : X.mg "isinstance" = none) (hg2 : Gl X x) (hm2 : X.mg x = none) (hv : bootBuiltins x = some (.type T))
    (hn : autoParam (x ≠ "__name__") EV.tac1) (hdb : autoParam ((x == ("__debug__" : Str)) = false) EV.tac1)
    (hs : autoParam (starEach [e, .Name x p2] X.env = (false, eval e X.env) :: starEach [.Name x p2] X.env) EV.tac2) (hs2 : autoParam (starEach [.Name x p2] X.env = (false, eval (.Name x p2) X.env) :: starEach [] X.env) EV.tac2)
    (hpl : autoParam ((backTo pos (starEach [.Name x p2] X.env)).any (·.1) = false) EV.tac2) :
    EV X W pa Γ (.Call (.Name "isinstance" p) [e, .Name x p2] [] pos) (m >>= isF T) := by
  have hb : PE X (.Name x p2) (tC (.ty T)) := pe_bltn hg2 hm2 hv rfl hn hdb
  refine pe_imp (pe_callB call_isi hg hm (by decide +kernel) (pa_cons h (pa_cons hb pa_nil hs2) hs) (by decide) (by decide) hs hpl) fun σ H Q h_ => EV.ex4 h_ fun G0 H0 G s E P =>
    ⟨G0, H0, G, s, E, P.bind.imp fun G1 H1 d s1 x1 p1 P1 v r => ?_⟩
  by_cases ho : ∃ c fs, d = .obj c fs
  · (refine EV.el2_1 ho ?_; try clear ho; intro c fs q72_; obtain rfl := q72_)
    cases r with
    | @obj a C dx fvs fs h hc hk rr => exact ⟨.ref a, .ty T, _, _, false, rfl, .ty T, .base (.ins (x1.sub _ _ h) hc.cl hc.ha hc.hn hc.htk hc.hm), hc.bt T hT, P1.now x1.sub p1 _ (.bl _)⟩
  · by_cases hq : ∃ c, d = .cls c
    · (refine EV.el1_1 hq ?_; try clear hq; intro c q73_; obtain rfl := q73_)
      exact P1.elim
    have e : isF T d = pure (.bl (isTy T d)) := by
      cases d <;> first | rfl | exact absurd ⟨_, _, rfl⟩ ho | exact absurd ⟨_, rfl⟩ hq
    rw [e] at P1
    exact ⟨v, .ty T, _, _, isTy T d, rfl, .ty T, r.ty x1.sub (fun c fs z => ho ⟨c, fs, z⟩) (fun c z => hq ⟨c, z⟩), kit_isTy T hT d X.K (fun c fs z => ho ⟨c, fs, z⟩) (fun c z => hq ⟨c, z⟩), P1.now x1.sub p1 _ (.bl _)⟩
end
/-- a def's promise, where no guard is held around -/
structure FnG (P : Program) (w : World) (K : PySem.W.Frag) (mg : Str → Option Value) (base : Heap) (k : Nat) (f : Addr) (fd : FuncData) (ps : List Str) (sp : Sp) : Prop where
  len : ∀ vs H Q E, sp vs H Q E → vs.length = ps.length
  run : ∀ (A : Around) (outer : List PySem.Env) (s : Shared) (H : Hp) (args : Args) (us : List Value) (vs : List V) (Q : VK) (E : XK), (32 ≤ k → A.guards = some []) → Room k A →
    Env0 P w K mg base A outer s H → BindsTo s fd args (ps.zip us) → Vals vs us → sp vs H Q E → codeAny (model P w) A (.call (.ref f) args) (CR (L2.CX P w) outer P w H s Q E) s
theorem FnG.mono {P : Program} {w : World} {K : PySem.W.Frag} {mg : Str → Option Value} {base : Heap} {j k : Nat} {f : Addr} {fd : FuncData} {ps : List Str} {sp : Sp} (F : FnG P w K mg base j f fd ps sp) (h : j ≤ k) : FnG P w K mg base k f fd ps sp :=
  ⟨F.len, fun A outer s H args us vs Q E hg hr => F.run A outer s H args us vs Q E (fun q => hg (Nat.le_trans q h)) (hr.mono h)⟩
section
variable {X : Cx} {W : WX} {pa : Option Addr} {Γ : List Sl} {k : Nat} {f : Addr} {fd : FuncData} {ps : List Str} {sp : Sp} {ds : List Value} {dvs : List V} {E : L2.St → XK}
/-- as CallSlots' run of a def, for these promises -/
theorem runG {pins : List (Addr × Obj)} {σ : L2.St} {H : Hp} {s : Shared} {Q : VK} {us : List Value} {vs : List V} (C : Cok X W k) (F : FnG X.prog X.w X.K X.mg X.base k f fd ps sp) (hb : Binds X.K fd ps []) (I : Inv X pins σ H s) (r : Vals vs us)
    (h : sp vs H Q (fun cls d H' => W cls d σ H')) : wpAny (model X.prog X.w) X.A (call (.ref f) us) (EP X pins σ Q) X.xe s := by
  have hl : us.length = ps.length := by
    rw [← r.length]
    exact F.len _ _ _ _ h
  have hbd := hb s us I.kIn (by rw [List.append_nil]; exact hl)
  rw [List.append_nil] at hbd
  have key := F.run X.A X.stack s H ⟨us, []⟩ us vs Q _ C.guards C.room I.env0 hbd r h
  refine wpAny_call (codeAny_mono key fun r s' hq => ?_)
  cases r with
  | error e => exact C.takes e s' (XE.of_call I (fun cls d H' q => q) hq)
  | ok fl =>
    cases fl with
    | ret u => exact I.after hq
    | next => exact hq.elim
    | brk => exact hq.elim
    | cont => exact hq.elim
theorem pe_callG {x : Str} {p pos : Pos} {e : Expr} {es : List Expr} {t : TA} (C : Cok X W k) (F : FnG X.prog X.w X.K X.mg X.base k f fd ps sp) (hg : Gl X x) (hm : X.mg x = some (.ref f)) (hk : PySem.W.keepIn X.K (.ref f) = true) (hb : Binds X.K fd ps []) (ha : PA X (e :: es) t)
    (hdb : autoParam ((x == ("__debug__" : Str)) = false) EV.tac1) (he : autoParam (starEach (e :: es) X.env = (false, eval e X.env) :: starEach es X.env) EV.tac2) (hpl : autoParam ((backTo pos (starEach es X.env)).any (·.1) = false) EV.tac2) :
    PE X (.Call (.Name x p) (e :: es) [] pos) (fun σ H Q => t σ H fun vs H1 => sp vs H1 Q (fun cls d H' => W cls d σ H')) := by
  refine ⟨fun pins s σ H Q I h => ?_⟩
  have step := fun (us : List Value) (s1 : Shared) (q : AP X pins σ (fun vs H1 => sp vs H1 Q (fun cls d H' => W cls d σ H')) us s1) => (by
    (refine EV.el2_3 q ?_; try clear q; intro vs H1 I1 r q)
    exact ⟨I1.kIn, runG C F hb I1 r q⟩ : X.K.In s1.heap ∧ wpAny (model X.prog X.w) X.A (call (.ref f) us) (EP X pins σ Q) X.xe s1)
  exact wpAny_Call_Name_kw (ld_glob I hg hm (PySem.W.callWith_K (h₀ := X.base) I.ok.mod.kin hk (thn (ha.run pos pins s σ H _ I h) step) he hpl) hdb)
theorem pe_callG0 {x : Str} {p pos : Pos} (C : Cok X W k) (F : FnG X.prog X.w X.K X.mg X.base k f fd ps sp) (hg : Gl X x) (hm : X.mg x = some (.ref f)) (hk : PySem.W.keepIn X.K (.ref f) = true) (hb : Binds X.K fd ps []) (hdb : autoParam ((x == ("__debug__" : Str)) = false) EV.tac1) :
    PE X (.Call (.Name x p) [] [] pos) (fun σ H Q => sp [] H Q (fun cls d H' => W cls d σ H')) := by
  refine ⟨fun pins s σ H Q I h => ?_⟩
  refine wpAny_Call_Name_kw (ld_glob I hg hm ?_ hdb)
  exact PySem.W.callWith_K0 I.kIn hk (runG (us := []) C F hb I .nil h)
end
end EV
namespace EV
open PySem PySem.Spec PyProof.Rows L2
noncomputable def fn0 (g : PM D) : List D → PM D
  | [] => g
  | _ => bad
noncomputable def fn1 (g : D → PM D) : List D → PM D
  | [a] => g a
  | _ => bad
noncomputable def fn2 (g : D → D → PM D) : List D → PM D
  | [a, b] => g a b
  | _ => bad
noncomputable def fn3 (g : D → D → D → PM D) : List D → PM D
  | [a, b, c] => g a b c
  | _ => bad
noncomputable def fn4 (g : D → D → D → D → PM D) : List D → PM D
  | [a, b, c, d] => g a b c d
  | _ => bad
noncomputable def fn5 (g : D → D → D → D → D → PM D) : List D → PM D
  | [a, b, c, d, e] => g a b c d e
  | _ => bad
noncomputable def Arity (n : Nat) (f : List D → PM D) : Prop := ∀ ds s, ds.length ≠ n → f ds s = .bad
theorem ar0 {g} : Arity 0 (fn0 g) := fun ds s h => by
  match ds, h with
  | [], h => exact absurd rfl h
  | _ :: _, _ => rfl
theorem ar1 {g} : Arity 1 (fn1 g) := fun ds s h => by
  match ds, h with
  | [_], h => exact absurd rfl h
  | [], _ => rfl
  | _ :: _ :: _, _ => rfl
theorem ar2 {g} : Arity 2 (fn2 g) := fun ds s h => by
  match ds, h with
  | [_, _], h => exact absurd rfl h
  | [], _ => rfl
  | [_], _ => rfl
  | _ :: _ :: _ :: _, _ => rfl
theorem ar3 {g} : Arity 3 (fn3 g) := fun ds s h => by
  match ds, h with
  | [_, _, _], h => exact absurd rfl h
  | [], _ => rfl
  | [_], _ => rfl
  | [_, _], _ => rfl
  | _ :: _ :: _ :: _ :: _, _ => rfl
theorem ar4 {g} : Arity 4 (fn4 g) := fun ds s h => by
  match ds, h with
  | [_, _, _, _], h => exact absurd rfl h
  | [], _ => rfl
  | [_], _ => rfl
  | [_, _], _ => rfl
  | [_, _, _], _ => rfl
  | _ :: _ :: _ :: _ :: _ :: _, _ => rfl
theorem ar5 {g} : Arity 5 (fn5 g) := fun ds s h => by
  match ds, h with
  | [_, _, _, _, _], h => exact absurd rfl h
  | [], _ => rfl
  | [_], _ => rfl
  | [_, _], _ => rfl
  | [_, _, _], _ => rfl
  | [_, _, _, _], _ => rfl
  | _ :: _ :: _ :: _ :: _ :: _ :: _, _ => rfl
/-- what a def with a pen (pn) or without makes of its arguments -/
noncomputable def spF (K : PySem.W.Frag) (mg : Str → Option Value) (pn : Bool) (n : Nat) (f : List D → PM D) : Sp := fun vs H Q E => ∃ (pa : Option Addr) (G : Hp) (s : List Int) (vs' : List V) (ds : List D),
  pa.isSome = pn ∧ vs = pa.toList.map V.ref ++ vs' ∧ (Same G H ∧ TabK K H ∧ NoT G) ∧ PenOk pa G H s ∧ RpL K G vs' ds ∧ ds.length = n ∧
    Pst K (fun cls dx _ H' => E cls dx H') mg pa [] (FD K Q) G H (f ds s)
section
variable {X : Cx} {W : WX} {pa : Option Addr} {Γ : List Sl} {k : Nat} {f : Addr} {fd : FuncData} {ps : List Str} {n : Nat} {F : List D → PM D} {x : Str} {p pos : Pos}
theorem pst_run0 {K : PySem.W.Frag} {mg : Str → Option Value} {σ : L2.St} {G H : Hp} {s : List Int} {Q : VK} {m : PM D} (hp : PenOk pa G H s) (hP : Pst K W mg pa σ (FD K Q) G H (run0 m s)) : Pst K (fun cls dx _ H' => W cls dx σ H') mg none [] (FD K Q) G H (m []) := by
  unfold run0 at hP
  cases e : m [] with
  | ok a s1 =>
    rw [e] at hP
    exact fun G' H' y _ => hP G' H' y.any (hp.ext y)
  | exc z =>
    rw [e] at hP
    exact fun cls dx G' H' y q => hP cls dx G' H' y.any q
  | bad => rw [e] at hP; exact hP.elim
theorem run0_len {m : List D → PM D} (ar : Arity n m) {ds : List D} {K : PySem.W.Frag} {mg : Str → Option Value} {σ : L2.St} {G H : Hp} {s : List Int} {Q : VK} (hP : Pst K W mg pa σ (FD K Q) G H (run0 (m ds) s)) : ds.length = n := by
  by_cases h : ds.length = n
  · exact h
  · unfold run0 at hP
    rw [ar ds [] h] at hP
    exact hP.elim
/-- f(e, ..), a def without a pen -/
theorem ev_call {e : Expr} {es : List Expr} {ml : PM (List D)} (C : Cok X W k) (FG : FnG X.prog X.w X.K X.mg X.base k f fd ps (spF X.K X.mg false n F)) (ar : Arity n F) (hg : Gl X x) (hm : X.mg x = some (.ref f)) (hk : PySem.W.keepIn X.K (.ref f) = true) (hb : Binds X.K fd ps [])
    (ha : EL X W pa Γ (e :: es) ml) (hdb : autoParam ((x == ("__debug__" : Str)) = false) EV.tac1) (he : autoParam (starEach (e :: es) X.env = (false, eval e X.env) :: starEach es X.env) EV.tac2) (hpl : autoParam ((backTo pos (starEach es X.env)).any (·.1) = false) EV.tac2) :
    EV X W pa Γ (.Call (.Name x p) (e :: es) [] pos) (ml >>= fun ds => run0 (F ds)) :=
  pe_imp (pe_callG C FG hg hm hk hb ha hdb he hpl) fun σ H Q h_ => EV.ex4 h_ fun G0 H0 G s E P => ⟨G0, H0, G, s, E, P.bind.imp fun G1 H1 ds s1 x1 p1 P1 vs r =>
    ⟨none, G1, [], vs, ds, rfl, rfl, ⟨x1.sub, x1.tk E.tk, x1.gt E.x.nt⟩, PenOk.none, r, run0_len ar P1, pst_run0 p1 P1⟩⟩
theorem ev_call0 (C : Cok X W k) (FG : FnG X.prog X.w X.K X.mg X.base k f fd ps (spF X.K X.mg false n F)) (ar : Arity n F) (hg : Gl X x) (hm : X.mg x = some (.ref f)) (hk : PySem.W.keepIn X.K (.ref f) = true) (hb : Binds X.K fd ps [])
    (hdb : autoParam ((x == ("__debug__" : Str)) = false) EV.tac1) : EV X W pa Γ (.Call (.Name x p) [] [] pos) (run0 (F [])) :=
  pe_imp (pe_callG0 C FG hg hm hk hb hdb) fun σ H Q h_ => EV.ex4 h_ fun G0 H0 G s E P =>
    ⟨none, G, [], [], [], rfl, rfl, ⟨E.sub, E.tk, E.x.nt⟩, PenOk.none, .nil, run0_len ar P, pst_run0 E.ps P⟩
/-- f(pen, e, ..), a def with the pen -/
theorem ev_callP {q : Addr} {i : Nat} {y : Str} {p2 : Pos} {es : List Expr} {ml : PM (List D)} (C : Cok X W k) (FG : FnG X.prog X.w X.K X.mg X.base k f fd ps (spF X.K X.mg true n F)) (ar : Arity n F) (hg : Gl X x) (hm : X.mg x = some (.ref f)) (hk : PySem.W.keepIn X.K (.ref f) = true) (hb : Binds X.K fd ps [])
    (hΓ : Γ[i]? = some .pen) (hN : X.N[i]? = some y) (hv : Vis X.env.scope y) (ha : EL X W (some q) Γ es ml) (hdb : autoParam ((x == ("__debug__" : Str)) = false) EV.tac1)
    (he : autoParam (starEach (.Name y p2 :: es) X.env = (false, eval (.Name y p2) X.env) :: starEach es X.env) EV.tac2) (hpl : autoParam ((backTo pos (starEach es X.env)).any (·.1) = false) EV.tac2)
    (hd : autoParam ((y == ("__debug__" : Str)) = false) EV.tac1) (hcd : autoParam ((y == ("__classdict__" : Str)) = false) EV.tac1) :
    EV X W (some q) Γ (.Call (.Name x p) (.Name y p2 :: es) [] pos) (ml >>= F) :=
  pe_imp (pe_callG C FG hg hm hk hb (pa_cons (pe_var hN hv hd hcd) ha he) hdb he hpl) fun σ H Q h_ => EV.ex4 h_ fun G0 H0 G s E P => by
    obtain ⟨q', e1, e2⟩ := E.pen i hΓ
    cases e1
    refine ⟨.ref q, e2, G0, H0, G, s, E, P.bind.imp fun G1 H1 ds s1 x1 p1 P1 vs r => ?_⟩
    refine ⟨some q, G1, s1, vs, ds, rfl, rfl, ⟨x1.sub, x1.tk E.tk, x1.gt E.x.nt⟩, p1, r, ?_, ?_⟩
    · by_cases h : ds.length = n
      · exact h
      · rw [ar ds s1 h] at P1
        exact P1.elim
    · cases e : F ds s1 with
      | ok a s2 => rw [e] at P1; exact P1
      | exc z => rw [e] at P1; exact P1
      | bad => rw [e] at P1; exact P1.elim
end
inductive Out where
  | fall (Γ : List Sl) | ret (d : D) | brk (Γ : List Sl) | cnt (Γ : List Sl) | retG (d : D) (Γ : List Sl)
noncomputable def SPost (K : PySem.W.Frag) (W : WX) (mg : Str → Option Value) (pa : Option Addr) (G0 H0 : Hp) (Dn : Ends) : R Out → Prop
  | .ok (.fall Γ') s => ∀ σ' G' H', Nv K pa G0 H0 G' H' σ' Γ' s → Dn.nx σ' H'
  | .ok (.ret d) s => ∀ v G' H', Ext K pa G0 H0 G' H' → PenOk pa G' H' s → Rp K G' v d → Dn.rt v H'
  | .ok (.brk Γ') s => ∀ σ' G' H', Nv K pa G0 H0 G' H' σ' Γ' s → Dn.bk σ' H'
  | .ok (.cnt Γ') s => ∀ σ' G' H', Nv K pa G0 H0 G' H' σ' Γ' s → Dn.ct σ' H'
  | .ok (.retG d Γ') s => ∀ v σ' G' H', Nv K pa G0 H0 G' H' σ' Γ' s → Rp K G' v d → Dn.rt v H'
  | .exc e => ∀ cls dx σ' G' H', Ext K pa G0 H0 G' H' → ExcIs K mg G' H' e cls dx → W cls dx σ' H'
  | .bad => False
noncomputable def svT (X : Cx) (W : WX) (pa : Option Addr) (Γ : List Sl) (m : PM Out) : TS := fun Dn σ H => ∃ G0 H0 G s, Nv X.K pa G0 H0 G H σ Γ s ∧ SPost X.K W X.mg pa G0 H0 Dn (m s)
/-- a block, its outcome m read by out -/
noncomputable def SV (X : Cx) (W : WX) (pa : Option Addr) (Γ : List Sl) {α : Type} (out : α → Out) (sts : List Stmt) (m : PM α) : Prop := PSs X sts (svT X W pa Γ (m >>= fun a => pure (out a)))
section
variable {K : PySem.W.Frag} {W : WX} {mg : Str → Option Value} {pa : Option Addr} {G0 H0 G H : Hp} {Dn : Ends} {σ : L2.St} {Γ : List Sl} {s : List Int}
theorem SPost.bind {α : Type} {m : PM α} {f : α → PM Out} (E : Nv K pa G0 H0 G H σ Γ s) (h : SPost K W mg pa G0 H0 Dn ((m >>= f) s)) : Pst K W mg pa σ (fun _ _ a s' => SPost K W mg pa G0 H0 Dn (f a s')) G H (m s) := by
  rw [PM.bind_def] at h
  cases e : m s with
  | ok a s1 =>
    rw [e] at h
    exact fun _ _ _ _ => h
  | exc z =>
    rw [e] at h
    exact fun cls dx G' H' y q => h cls dx σ G' H' (E.ext.trans y) q
  | bad => rw [e] at h; exact h
end
theorem pss_imp {X : Cx} {sts : List Stmt} {t t' : TS} (h : PSs X sts t) (i : ∀ Dn σ H, t' Dn σ H → t Dn σ H) : PSs X sts t' := ⟨fun pins s σ H D I q => h.run pins s σ H D I (i D σ H q)⟩
theorem pss_ex {X : Cx} {ι : Type} {sts : List Stmt} {t : ι → TS} (h : ∀ z, PSs X sts (t z)) : PSs X sts (fun D σ H => ∃ z, t z D σ H) := ⟨fun pins s σ H D I h6_ => by (refine EV.el1_1 h6_ ?_; try clear h6_; intro z q); exact (h z).run pins s σ H D I q⟩
section
variable {X : Cx} {W : WX} {pa : Option Addr} {Γ Γ' : List Sl} {k : Nat} {pos : Pos} {α β : Type} {out : α → Out} {rest : List Stmt}
/-- the block's end -/
theorem sv_nil {a : α} (h : out a = .fall Γ') (w : Weak Γ Γ') : SV X W pa Γ out [] (pure a) := by
  unfold SV
  rw [pure_bind, h]
  exact pss_imp pss_nil fun Dn σ H h_ => EV.ex4 h_ fun G0 H0 G s E P => P σ G H (E.weak w)
/-- x = e -/
theorem sv_set (i : Nat) {x : Str} {e : Expr} {pos' : Pos} {me : PM D} {kk : D → PM α} (hN : X.N.Nodup) (he : EV X W pa Γ e me) (hr : ∀ d, SV X W pa (Γ.set i (.val d)) out rest (kk d)) (hi : autoParam (X.N[i]? = some x) EV.tac2) (hx : autoParam (Loc X.env.scope x) EV.tac5)
    (hs : autoParam (swapsWith e (some (.Name x pos')) pos.line X.env = pure false) EV.tac2) (hf : autoParam (X.fn x = true ∨ X.env.scope.names.lookup x = some .local) EV.tac6) :
    SV X W pa Γ out (.Assign [.Name x pos'] e pos :: rest) (me >>= kk) := by
  unfold SV
  rw [bind_assoc]
  exact pss_imp (pss_cons (ps_set (i := i) hN hi hx he hs hf) (pss_ex hr)) fun Dn σ H h_ => EV.ex4 h_ fun G0 H0 G s E P =>
    ⟨G0, H0, G, s, E, (P.bind E).imp fun G1 H1 d s1 x1 p1 P1 v r => ⟨d, G0, H0, G1, s1, (E.step x1 p1).set i r, P1⟩⟩
/-- return e -/
theorem sv_ret {e : Expr} {me : PM D} {inj : D → α} (hi : ∀ d, out (inj d) = .ret d) (he : EV X W pa Γ e me) : SV X W pa Γ out (.Return (some e) pos :: rest) (me >>= fun d => pure (inj d)) := by
  unfold SV
  rw [bind_assoc]
  refine pss_imp (pss_cons (ps_ret he) (pss_never (sts := rest))) fun Dn σ H h_ => EV.ex4 h_ fun G0 H0 G s E P => ⟨G0, H0, G, s, E, (P.bind E).imp fun G1 H1 d s1 x1 p1 P1 v r => ?_⟩
  rw [pure_bind, hi] at P1
  exact P1 v G1 H1 (E.ext.trans x1) p1 r
/-- an expression alone -/
theorem sv_expr {e : Expr} {me : PM D} {kk : PM α} (he : EV X W pa Γ e me) (hr : SV X W pa Γ out rest kk) (hs : autoParam (swapsWith e none pos.line X.env = pure false) EV.tac2) : SV X W pa Γ out (.Expr e pos :: rest) (me >>= fun _ => kk) := by
  unfold SV
  rw [bind_assoc]
  exact pss_imp (pss_cons (ps_expr he hs) hr) fun Dn σ H h_ => EV.ex4 h_ fun G0 H0 G s E P => ⟨G0, H0, G, s, E, (P.bind E).imp fun G1 H1 d s1 x1 p1 P1 v r => ⟨G0, H0, G1, s1, E.step x1 p1, P1⟩⟩
/-- if c: .. that leaves the block by return; then the rest -/
theorem sv_ifR {c : Expr} {A : List Stmt} {mc : PM Bool} {mA kk : PM α} (hc : EB X W pa Γ c mc) (hA : SV X W pa Γ out A mA) (hn : ∀ a s s' Γ', mA s = .ok a s' → out a ≠ .fall Γ') (hr : SV X W pa Γ out rest kk) :
    SV X W pa Γ out (.If c A [] pos :: rest) (mc >>= fun b => if b = true then mA else kk) := by
  unfold SV
  rw [bind_assoc]
  refine pss_imp (pss_cons (ps_if hc hA pss_nil) hr) fun Dn σ H h_ => EV.ex4 h_ fun G0 H0 G s E P => ⟨G0, H0, G, s, E, (P.bind E).imp fun G1 H1 b s1 x1 p1 P1 => ?_⟩
  cases b with
  | false => exact (show svT X W pa Γ (kk >>= fun a => pure (out a)) Dn σ H1 from ⟨G0, H0, G1, s1, E.step x1 p1, P1⟩)
  | true =>
    refine (show svT X W pa Γ (mA >>= fun a => pure (out a)) _ σ H1 from ⟨G0, H0, G1, s1, E.step x1 p1, ?_⟩)
    have P1 : SPost X.K W X.mg pa G0 H0 Dn ((mA >>= fun a => pure (out a)) s1) := P1
    rw [PM.bind_def] at P1 ⊢
    cases e : mA s1 with
    | ok a s2 =>
      rw [e] at P1
      have h := hn a s1 s2
      show SPost X.K W X.mg pa G0 H0 _ (.ok (out a) s2)
      have P1 : SPost X.K W X.mg pa G0 H0 Dn (.ok (out a) s2) := P1
      cases q : out a with
      | fall Γ' => exact absurd q (h Γ' e)
      | ret d => rw [q] at P1; exact P1
      | brk Γ' => rw [q] at P1; exact P1
      | cnt Γ' => rw [q] at P1; exact P1
      | retG d Γ' => rw [q] at P1; exact P1
    | exc z => rw [e] at P1; exact P1
    | bad => rw [e] at P1; exact P1.elim
/-- if c: A else: B, both fall into the rest; a tells what they changed -/
theorem sv_ifJ {c : Expr} {A B : List Stmt} {mc : PM Bool} {mA mB : PM β} {mk : β → List Sl} {kk : β → PM α} (hc : EB X W pa Γ c mc) (hA : SV X W pa Γ (fun b => Out.fall (mk b)) A mA) (hB : SV X W pa Γ (fun b => Out.fall (mk b)) B mB)
    (hr : ∀ b, SV X W pa (mk b) out rest (kk b)) : SV X W pa Γ out (.If c A B pos :: rest) (mc >>= fun b => (if b = true then mA else mB) >>= kk) := by
  unfold SV
  rw [bind_assoc]
  refine pss_imp (pss_cons (ps_if hc hA hB) (pss_ex hr)) fun Dn σ H h_ => EV.ex4 h_ fun G0 H0 G s E P => ⟨G0, H0, G, s, E, (P.bind E).imp fun G1 H1 b s1 x1 p1 P1 => ?_⟩
  have go : ∀ m : PM β, SPost X.K W X.mg pa G0 H0 Dn (((m >>= kk) >>= fun a => pure (out a)) s1) →
      svT X W pa Γ (m >>= fun b => pure (Out.fall (mk b))) { Dn with nx := fun σ H => ∃ z, svT X W pa (mk z) (kk z >>= fun a => pure (out a)) Dn σ H } σ H1 := fun m P => by
    refine EV.in4_2 G0 H0 G1 s1 (E.step x1 p1) ?_
    rw [bind_assoc, PM.bind_def] at P
    rw [PM.bind_def]
    cases e : m s1 with
    | ok a s2 =>
      rw [e] at P
      exact fun σ' G' H' E' => ⟨a, G0, H0, G', s2, E', P⟩
    | exc z => rw [e] at P; exact P
    | bad => rw [e] at P; exact P.elim
  cases b with
  | false => exact go mB P1
  | true => exact go mA P1
end
end EV
namespace EV
open PySem PySem.Spec PyProof.Rows L2
noncomputable def NF {α : Type} (out : α → Out) (m : PM α) : Prop := ∀ a s s' Γ', m s = .ok a s' → out a ≠ .fall Γ'
theorem nf_ret {α : Type} {out : α → Out} {inj : D → α} {m : PM D} (h : ∀ d, out (inj d) = .ret d) : NF out (m >>= fun d => pure (inj d)) := fun a s s' Γ' e q => by
  rw [PM.bind_def] at e
  cases h1 : m s with
  | ok d s1 =>
    rw [h1] at e
    cases e
    rw [h] at q
    cases q
  | exc z => rw [h1] at e; cases e
  | bad => rw [h1] at e; cases e
theorem nf_bad {α : Type} {out : α → Out} : NF out (bad : PM α) := fun a s s' Γ' e => by cases e
theorem nf_bind {α β : Type} {out : α → Out} {m : PM β} {f : β → PM α} (h : ∀ b, NF out (f b)) : NF out (m >>= f) := fun a s s' Γ' e => by
  rw [PM.bind_def] at e
  cases h1 : m s with
  | ok d s1 => rw [h1] at e; exact h d a s1 s' Γ' e
  | exc z => rw [h1] at e; cases e
  | bad => rw [h1] at e; cases e
theorem nf_ite {α : Type} {out : α → Out} {c : Prop} [Decidable c] {m n : PM α} (h : NF out m) (h' : NF out n) : NF out (if c then m else n) := by
  split <;> assumption
section
variable {K : PySem.W.Frag} {W : WX} {mg : Str → Option Value} {pa : Option Addr} {G0 H0 G1 H1 G H : Hp} {σ : L2.St} {Γ : List Sl} {s : List Int}
theorem Ext.base (x : Ext K pa G0 H0 G1 H1) : Ext K pa G1 H0 G1 H1 := ⟨Same.refl _, x.hh, x.t, fun a o e n => n, x.sub, x.tk, fun h => h⟩
theorem Ext.back (x : Ext K pa G0 H0 G1 H1) (y : Ext K pa G1 H0 G H) : Ext K pa G0 H0 G H := ⟨x.g.trans y.g, y.hh, y.t, fun a o e n => y.n a o e (x.n a o e n), y.sub, y.tk, fun h => y.gt (x.gt h)⟩
theorem Nv.base (E : Nv K pa G0 H0 G1 H1 σ Γ s) : Nv K pa G1 H0 G1 H1 σ Γ s := ⟨E.len, E.val, E.own, E.inj, E.pen, E.scr, E.ps, E.ext.base, E.x⟩
theorem Nv.back (x : Ext K pa G0 H0 G1 H1) (E : Nv K pa G1 H0 G H σ Γ s) : Nv K pa G0 H0 G H σ Γ s := ⟨E.len, E.val, E.own, E.inj, E.pen, E.scr, E.ps, x.back E.ext, E.x⟩
theorem SPost.base {Dn : Ends} {r : R Out} (x : Ext K pa G0 H0 G1 H1) (h : SPost K W mg pa G0 H0 Dn r) : SPost K W mg pa G1 H0 Dn r := by
  cases r with
  | ok o s =>
    cases o with
    | fall Γ' => exact fun σ' G' H' E => h σ' G' H' (E.back x)
    | ret d => exact fun v G' H' y p r => h v G' H' (x.back y) p r
    | brk Γ' => exact fun σ' G' H' E => h σ' G' H' (E.back x)
    | cnt Γ' => exact fun σ' G' H' E => h σ' G' H' (E.back x)
    | retG d Γ' => exact fun v σ' G' H' E r => h v σ' G' H' (E.back x) r
  | exc e => exact fun cls dx σ' G' H' y q => h cls dx σ' G' H' (x.back y) q
  | bad => exact h
end
inductive Lp (C : Type) where
  | go (c : C) | ret (d : D)
noncomputable def forS {ι C : Type} (dec : D → Option ι) (mb : C → ι → PM C) : List D → C → PM C
  | [], c => pure c
  | x :: xs, c => match dec x with
    | none => bad
    | some z => mb c z >>= forS dec mb xs
noncomputable def forL {ι C : Type} (dec : D → Option ι) (mb : C → ι → PM (Lp C)) : List D → C → PM (Lp C)
  | [], c => pure (.go c)
  | x :: xs, c => match dec x with
    | none => bad
    | some z => mb c z >>= fun r => match r with
      | .go c' => forL dec mb xs c'
      | .ret d => pure (.ret d)
noncomputable def lpOut {C : Type} (mk : C → List Sl) : Lp C → Out
  | .go c => .fall (mk c)
  | .ret d => .ret d
noncomputable def lpK {C α : Type} (inj : D → α) (kk : C → PM α) : Lp C → PM α
  | .go c => kk c
  | .ret d => pure (inj d)
section
variable {X : Cx} {W : WX} {pa : Option Addr} {Γ : List Sl} {k : Nat} {pos : Pos} {α : Type} {out : α → Out} {rest : List Stmt} {ι C : Type} {dec : D → Option ι} {tg iter : Expr} {body : List Stmt} {g : TG} {vs : List Nat} {mk : C → List Sl} {Γz : C → ι → List Sl} {mi : PM (List D)} {c0 : C}
theorem sv_forL {mb : C → ι → PM (Lp C)} {kk : C → PM α} {inj : D → α} (Cx : Cok X W k) (hi : EI X W pa Γ tg iter mi) (hp : PG X tg g) (hg : ∀ c, TgOk X pa dec g vs (mk c) (Γz c)) (w : Weak Γ (mk c0)) (hj : ∀ d, out (inj d) = .ret d)
    (hb : ∀ c z, SV X W pa (Γz c z) (lpOut mk) body (mb c z)) (hr : ∀ c, SV X W pa (mk c) out rest (kk c)) (hs : autoParam (∀ x, foldedSetIterable iter X.env x = pure x) EV.tac3) :
    SV X W pa Γ out (.For tg iter body [] pos :: rest) (mi >>= fun xs => forL dec mb xs c0 >>= lpK inj kk) := by
  have hbody : PSs X body (fun D σ H => ∃ p : C × ι, svT X W pa (Γz p.1 p.2) (mb p.1 p.2 >>= fun a => pure (lpOut mk a)) D σ H) := pss_ex (ι := C × ι) fun p => hb p.1 p.2
  unfold SV
  rw [bind_assoc]
  refine pss_imp (pss_cons (ps_for Cx.passes Cx.calm hi hp hbody hs) (pss_ex hr)) fun Dn σ H h_ => EV.ex4 h_ fun G0 H0 G s E P => ⟨G0, H0, G, s, E, (P.bind E).imp fun G1 H1 xs s1 x1 p1 P1 J hJ => ?_⟩
  have E1 := (E.step x1 p1).weak w
  have P1 : SPost X.K W X.mg pa G1 H0 Dn (((forL dec mb xs c0 >>= lpK inj kk) >>= fun a => pure (out a)) s1) := P1.base E1.ext
  have E1b : Nv X.K pa G1 H0 G1 H1 σ (mk c0) s1 := E1.base
  refine ⟨fun i m σ H => m = xs.length - i ∧ i ≤ xs.length ∧ ∃ G c s', Nv X.K pa G1 H0 G H σ (mk c) s' ∧ SPost X.K W X.mg pa G1 H0 Dn (((forL dec mb (xs.drop i) c >>= lpK inj kk) >>= fun a => pure (out a)) s'),
    ⟨xs.length, by simp, Nat.zero_le _, G1, c0, s1, E1b, by simpa using P1⟩, ?_⟩
  rintro i m σ2 H2 ⟨rfl, hi', G2, c, s2, E2, P2⟩
  have jk := hJ G2 H2 E2.ext.g E2.sub
  by_cases hlt : i < xs.length
  · obtain ⟨x, hx⟩ : ∃ x, xs[i]? = some x := ⟨_, List.getElem?_eq_getElem hlt⟩
    refine EV.el0_2 (jk.1 i x hx) fun hgo hyld => ?_
    have hdrop : xs.drop i = x :: xs.drop (i + 1) := by
      rw [List.drop_eq_getElem_cons hlt]
      congr 1
      rw [List.getElem?_eq_getElem hlt] at hx
      exact Option.some.inj hx
    rw [hdrop] at P2
    unfold forL at P2
    refine .inr ⟨hgo, fun σ H => ∃ G c s', Nv X.K pa G1 H0 G H σ (mk c) s' ∧ SPost X.K W X.mg pa G1 H0 Dn (((forL dec mb (xs.drop (i + 1)) c >>= lpK inj kk) >>= fun a => pure (out a)) s'), fun σ' H' q => ⟨_, Nat.sub_lt_sub_left (by assumption) (Nat.lt_succ_self i), rfl, hlt, q⟩, fun v H3 hy => ?_⟩
    refine EV.el1_2 (hyld v H3 hy) fun G3 x3 rv => ?_
    have p3 := E2.ps.ext x3
    have E3 := E2.step x3.any p3
    cases hd : dec x with
    | none => rw [hd] at P2; exact P2.elim
    | some z =>
      rw [hd] at P2
      dsimp only at P2
      refine hg c G1 H0 G3 H3 σ2 s2 v x z _ E3 rv hd fun σ4 E4 _ => ⟨(c, z), G1, H0, G3, s2, E4, ?_⟩
      rw [bind_assoc, bind_assoc, PM.bind_def] at P2
      rw [PM.bind_def]
      cases e : mb c z s2 with
      | ok r s5 =>
        rw [e] at P2
        dsimp only at P2
        cases r with
        | go c' => exact fun σ' G' H' E' => ⟨G', c', s5, E', by rw [bind_assoc]; exact P2⟩
        | ret d =>
          have P2 : SPost X.K W X.mg pa G1 H0 Dn ((((pure (.ret d) : PM (Lp C)) >>= lpK inj kk) >>= fun a => pure (out a)) s5) := by rw [bind_assoc]; exact P2
          rw [pure_bind] at P2
          have P2 : SPost X.K W X.mg pa G1 H0 Dn ((((pure (inj d)) : PM α) >>= fun a => pure (out a)) s5) := P2
          rw [pure_bind, hj] at P2
          exact P2
      | exc q => rw [e] at P2; exact P2
      | bad => rw [e] at P2; exact P2.elim
  · have e : i = xs.length := by exact EV.w_eq (by assumption) (by assumption)
    subst e
    rw [List.drop_length] at P2
    exact .inl ⟨jk.2 _ (Nat.le_refl _), c, G1, H0, G2, s2, E2, P2⟩
theorem sv_forS {mb : C → ι → PM C} {kk : C → PM α} (Cx : Cok X W k) (hi : EI X W pa Γ tg iter mi) (hp : PG X tg g) (hg : ∀ c, TgOk X pa dec g vs (mk c) (Γz c)) (w : Weak Γ (mk c0))
    (hb : ∀ c z, SV X W pa (Γz c z) (fun c => Out.fall (mk c)) body (mb c z)) (hr : ∀ c, SV X W pa (mk c) out rest (kk c)) (hs : autoParam (∀ x, foldedSetIterable iter X.env x = pure x) EV.tac3) :
    SV X W pa Γ out (.For tg iter body [] pos :: rest) (mi >>= fun xs => forS dec mb xs c0 >>= kk) := by
  have hbody : PSs X body (fun D σ H => ∃ p : C × ι, svT X W pa (Γz p.1 p.2) (mb p.1 p.2 >>= fun a => pure (Out.fall (mk a))) D σ H) := pss_ex (ι := C × ι) fun p => hb p.1 p.2
  unfold SV
  rw [bind_assoc]
  refine pss_imp (pss_cons (ps_for Cx.passes Cx.calm hi hp hbody hs) (pss_ex hr)) fun Dn σ H h_ => EV.ex4 h_ fun G0 H0 G s E P => ⟨G0, H0, G, s, E, (P.bind E).imp fun G1 H1 xs s1 x1 p1 P1 J hJ => ?_⟩
  have E1 := (E.step x1 p1).weak w
  have P1 : SPost X.K W X.mg pa G1 H0 Dn (((forS dec mb xs c0 >>= kk) >>= fun a => pure (out a)) s1) := P1.base E1.ext
  have E1b : Nv X.K pa G1 H0 G1 H1 σ (mk c0) s1 := E1.base
  refine ⟨fun i m σ H => m = xs.length - i ∧ i ≤ xs.length ∧ ∃ G c s', Nv X.K pa G1 H0 G H σ (mk c) s' ∧ SPost X.K W X.mg pa G1 H0 Dn (((forS dec mb (xs.drop i) c >>= kk) >>= fun a => pure (out a)) s'),
    ⟨xs.length, by simp, Nat.zero_le _, G1, c0, s1, E1b, by simpa using P1⟩, ?_⟩
  rintro i m σ2 H2 ⟨rfl, hi', G2, c, s2, E2, P2⟩
  have jk := hJ G2 H2 E2.ext.g E2.sub
  by_cases hlt : i < xs.length
  · obtain ⟨x, hx⟩ : ∃ x, xs[i]? = some x := ⟨_, List.getElem?_eq_getElem hlt⟩
    refine EV.el0_2 (jk.1 i x hx) fun hgo hyld => ?_
    have hdrop : xs.drop i = x :: xs.drop (i + 1) := by
      rw [List.drop_eq_getElem_cons hlt]
      congr 1
      rw [List.getElem?_eq_getElem hlt] at hx
      exact Option.some.inj hx
    rw [hdrop] at P2
    unfold forS at P2
    refine .inr ⟨hgo, fun σ H => ∃ G c s', Nv X.K pa G1 H0 G H σ (mk c) s' ∧ SPost X.K W X.mg pa G1 H0 Dn (((forS dec mb (xs.drop (i + 1)) c >>= kk) >>= fun a => pure (out a)) s'), fun σ' H' q => ⟨_, Nat.sub_lt_sub_left (by assumption) (Nat.lt_succ_self i), rfl, hlt, q⟩, fun v H3 hy => ?_⟩
    refine EV.el1_2 (hyld v H3 hy) fun G3 x3 rv => ?_
    have p3 := E2.ps.ext x3
    have E3 := E2.step x3.any p3
    cases hd : dec x with
    | none => rw [hd] at P2; exact P2.elim
    | some z =>
      rw [hd] at P2
      dsimp only at P2
      refine hg c G1 H0 G3 H3 σ2 s2 v x z _ E3 rv hd fun σ4 E4 _ => ⟨(c, z), G1, H0, G3, s2, E4, ?_⟩
      rw [bind_assoc, bind_assoc, PM.bind_def] at P2
      rw [PM.bind_def]
      cases e : mb c z s2 with
      | ok c' s5 =>
        rw [e] at P2
        dsimp only at P2
        exact fun σ' G' H' E' => ⟨G', c', s5, E', by rw [bind_assoc]; exact P2⟩
      | exc q => rw [e] at P2; exact P2
      | bad => rw [e] at P2; exact P2.elim
  · have e : i = xs.length := by exact EV.w_eq (by assumption) (by assumption)
    subst e
    rw [List.drop_length] at P2
    have P2 : SPost X.K W X.mg pa G1 H0 Dn ((((pure c : PM C) >>= kk) >>= fun a => pure (out a)) s2) := P2
    rw [pure_bind] at P2
    exact .inl ⟨jk.2 _ (Nat.le_refl _), c, G1, H0, G2, s2, E2, P2⟩
noncomputable def whileS {C : Type} (mc : C → PM Bool) (mb : C → PM C) : Nat → C → PM C
  | 0, _ => bad
  | n + 1, c => mc c >>= fun b => if b = true then mb c >>= whileS mc mb n else pure c
theorem sv_while (n : Nat) {cnd : Expr} {mc : C → PM Bool} {mb : C → PM C} {kk : C → PM α} (Cx : Cok X W k) (w : Weak Γ (mk c0)) (hc : ∀ c, EB X W pa (mk c) cnd (mc c)) (hb : ∀ c, SV X W pa (mk c) (fun c => Out.fall (mk c)) body (mb c)) (hr : ∀ c, SV X W pa (mk c) out rest (kk c)) :
    SV X W pa Γ out (.While cnd body [] pos :: rest) (whileS mc mb n c0 >>= kk) := by
  unfold SV
  rw [bind_assoc]
  have hcc : PT X cnd (fun σ H Q => ∃ c, evB X W pa (mk c) (mc c) σ H Q) := pt_ex hc
  have hbb : PSs X body (fun D σ H => ∃ c, svT X W pa (mk c) (mb c >>= fun a => pure (Out.fall (mk a))) D σ H) := pss_ex hb
  refine pss_imp (pss_cons (ps_while Cx.passes hcc hbb) (pss_ex hr)) fun Dn σ H h_ => EV.ex4 h_ fun G0 H0 G s E P => ?_
  refine EV.in1_2 (fun m σ H => ∃ G c s', Nv X.K pa G0 H0 G H σ (mk c) s' ∧ SPost X.K W X.mg pa G0 H0 Dn ((whileS mc mb m c >>= fun c => kk c >>= fun a => pure (out a)) s')) (⟨n, G, c0, s, E.weak w, P⟩) ?_
  rintro m σ1 H1 ⟨G1, c, s1, E1, P1⟩
  cases m with
  | zero => exact P1.elim
  | succ m =>
    unfold whileS at P1
    rw [bind_assoc] at P1
    refine EV.in5_2 c G0 H0 G1 s1 E1 ((P1.bind E1).imp fun G2 H2 b s2 x2 p2 P2 => ?_)
    have E2 := E1.step x2 p2
    cases b with
    | false =>
      have P2 : SPost X.K W X.mg pa G0 H0 Dn (((pure c : PM C) >>= fun c => kk c >>= fun a => pure (out a)) s2) := P2
      rw [pure_bind] at P2
      exact (show ∃ z, svT X W pa (mk z) (kk z >>= fun a => pure (out a)) Dn σ1 H2 from ⟨c, G0, H0, G2, s2, E2, P2⟩)
    | true =>
      have P2 : SPost X.K W X.mg pa G0 H0 Dn (((mb c >>= whileS mc mb m) >>= fun c => kk c >>= fun a => pure (out a)) s2) := P2
      refine (show ∃ N : L2.St → Hp → Prop, _ from ⟨fun σ H => ∃ G c s', Nv X.K pa G0 H0 G H σ (mk c) s' ∧ SPost X.K W X.mg pa G0 H0 Dn ((whileS mc mb m c >>= fun c => kk c >>= fun a => pure (out a)) s'), fun σ' H' q => ⟨m, Nat.lt_succ_self _, q⟩, c, G0, H0, G2, s2, E2, ?_⟩)
      rw [bind_assoc, PM.bind_def] at P2
      rw [PM.bind_def]
      cases e : mb c s2 with
      | ok c' s5 =>
        rw [e] at P2
        exact fun σ' G' H' E' => ⟨G', c', s5, E', P2⟩
      | exc q => rw [e] at P2; exact P2
      | bad => rw [e] at P2; exact P2.elim
end
end EV
namespace EV
open PySem PySem.Spec PyProof.Rows L2
section
variable {K : PySem.W.Frag} {pa : Option Addr} {G0 H0 G H : Hp} {σ : L2.St} {Γ : List Sl} {s : List Int}
theorem Nv.lt (E : Nv K pa G0 H0 G H σ Γ s) {i : Nat} {x : Sl} (h : Γ[i]? = some x) : i < Γ.length := (List.getElem?_eq_some_iff.mp h).1
/-- an own list seen as a value -/
theorem Nv.pubW (E : Nv K pa G0 H0 G H σ Γ s) {i : Nat} {xs : List D} (h : Γ[i]? = some (.own xs)) :
    ∃ p vs, σ[i]? = some (some (.ref p)) ∧ H p = some (.lst vs) ∧ G p = none ∧ RpL K G vs xs ∧ H0 p = none ∧ pa ≠ some p ∧ Nv K pa G0 H0 (upd G p (.lst vs)) H σ (Γ.set i (.val (.lst xs))) s := by
  refine EV.el2_6 (E.own i xs h) fun p vs h1 h2 h3 h4 h5 h6 => ?_
  have sg : Same G (upd G p (.lst vs)) := fun a o e => by
    rw [upd_ne (ne_of_none e h3)]
    exact e
  refine EV.in2_7 p vs h1 h2 h3 h4 h5 h6 ?_
  have hlt := E.lt h
  refine ⟨by simp [E.len], fun j d e => ?_, fun j ys e => ?_, fun j l q ys zs e1 e2 e3 e4 => ?_, fun j e => ?_, fun j ns e => ?_, fun q e => ?_, ?_, (E.x.pubL h2 h3).putG i rfl⟩
  · by_cases hj : i = j
    · subst hj
      rw [List.getElem?_set_self hlt] at e
      cases e
      exact EV.in1_2 _ h1 (.mkL upd_same (h4.mono sg))
    · rw [List.getElem?_set_ne hj] at e
      refine EV.el1_2 (E.val j d e) fun v q1 q2 => ?_
      exact EV.in1_2 v q1 (q2.mono sg)
  · by_cases hj : i = j
    · subst hj
      rw [List.getElem?_set_self hlt] at e
      cases e
    · rw [List.getElem?_set_ne hj] at e
      refine EV.el2_6 (E.own j ys e) fun q ws q1 q2 q3 q4 q5 q6 => ?_
      have : q ≠ p := fun z => by
        rw [z] at q1
        exact hj (E.inj i j p _ _ h e h1 q1)
      exact EV.in2_6 q ws q1 q2 (by rw [upd_ne this]; exact q3) (q4.mono sg) q5 q6
  · have n1 : i ≠ j := fun z => by
      subst z
      rw [List.getElem?_set_self hlt] at e1
      cases e1
    have n2 : i ≠ l := fun z => by
      subst z
      rw [List.getElem?_set_self hlt] at e2
      cases e2
    rw [List.getElem?_set_ne n1] at e1
    rw [List.getElem?_set_ne n2] at e2
    exact E.inj j l q ys zs e1 e2 e3 e4
  · have n1 : i ≠ j := fun z => by
      subst z
      rw [List.getElem?_set_self hlt] at e
      cases e
    rw [List.getElem?_set_ne n1] at e
    exact E.pen j e
  · have n1 : i ≠ j := fun z => by
      subst z
      rw [List.getElem?_set_self hlt] at e
      cases e
    rw [List.getElem?_set_ne n1] at e
    refine EV.el1_2 (E.scr j ns e) fun a q1 q2 => ?_
    exact EV.in1_2 a q1 (sg.seq q2)
  · refine EV.el0_2 (E.ps q e) fun q1 q2 => ?_
    have : q ≠ p := fun z => h6 (by rw [← z]; exact e)
    rw [upd_ne this]
    exact ⟨q1, q2⟩
  · refine ⟨E.ext.g.trans sg, E.ext.hh, E.ext.t, fun a o e n => ?_, fun a o e => ?_, E.ext.tk, fun h => (E.ext.gt h).upd (nt_lst _)⟩
    · rw [upd_ne (ne_of_none e h5)]
      exact E.ext.n a o e n
    · by_cases ha : a = p
      · subst ha
        rw [upd_same] at e
        rw [← e]
        exact h2
      · rw [upd_ne ha] at e
        exact E.sub a o e
/-- back from a peek -/
theorem unpeek {p : Addr} {vs : List V} {G' H' : Hp} (hG : G p = none) (hp : H p = some (.lst vs)) (x : Ext K pa (upd G p (.lst vs)) H G' H') :
    ∃ G'', Ext K pa G H G'' H' ∧ (∀ s, PenOk pa G' H' s → PenOk pa G'' H' s) := by
  refine ⟨fun a => if a = p then none else G' a, ⟨fun a o e => ?_, x.hh, x.t, fun a o e n => ?_, fun a o e => ?_, x.tk, fun h P ps e => by
    have e : (if P = p then none else G' P) = some (.tbl ps) := e
    by_cases z : P = p
    · rw [if_pos z] at e
      exact EV.nnS e
    · rw [if_neg z] at e
      exact x.gt (h.upd (nt_lst _)) P ps e⟩, fun s q a e => ?_⟩
  · have : a ≠ p := ne_of_none e hG
    show (if a = p then none else G' a) = some o
    rw [if_neg this]
    refine x.g a o ?_
    rw [upd_ne this]
    exact e
  · show (if a = p then none else G' a) = none
    by_cases ha : a = p
    · rw [if_pos ha]
    · rw [if_neg ha]
      exact x.n a o e (by rw [upd_ne ha]; exact n)
  · have e : (if a = p then none else G' a) = some o := e
    by_cases ha : a = p
    · rw [if_pos ha] at e
      exact EV.nnS e
    · rw [if_neg ha] at e
      exact x.sub a o e
  · refine EV.el0_2 (q a e) fun q1 q2 => ?_
    refine ⟨?_, q2⟩
    show (if a = p then none else G' a) = none
    by_cases ha : a = p
    · rw [if_pos ha]
    · rw [if_neg ha]
      exact q1
/-- an own list is changed -/
theorem Nv.mut (E : Nv K pa G0 H0 G H σ Γ s) {i : Nat} {xs : List D} {p : Addr} {vs : List V} {ys : List D} (h : Γ[i]? = some (.own xs)) (hp : σ[i]? = some (some (.ref p))) (r : RpL K G vs ys) :
    Nv K pa G0 H0 G (upd H p (.lst vs)) σ (Γ.set i (.own ys)) s := by
  refine EV.el2_6 (E.own i xs h) fun p' vs' h1 h2 h3 h4 h5 h6 => ?_
  rw [hp] at h1
  cases h1
  have hlt := E.lt h
  refine ⟨by simp [E.len], fun j d e => ?_, fun j zs e => ?_, fun j l q ys' zs e1 e2 e3 e4 => ?_, fun j e => ?_, fun j ns e => ?_, fun q e => ?_, ?_, (E.x.updL h2).putG i rfl⟩
  · by_cases hj : i = j
    · subst hj
      rw [List.getElem?_set_self hlt] at e
      cases e
    · rw [List.getElem?_set_ne hj] at e
      exact E.val j d e
  · by_cases hj : i = j
    · subst hj
      rw [List.getElem?_set_self hlt] at e
      cases e
      exact EV.in2_6 p vs hp upd_same h3 r h5 h6
    · rw [List.getElem?_set_ne hj] at e
      refine EV.el2_6 (E.own j zs e) fun q ws q1 q2 q3 q4 q5 q6 => ?_
      have : q ≠ p := fun z => by
        rw [z] at q1
        exact hj (E.inj i j p _ _ h e hp q1)
      exact EV.in2_6 q ws q1 (by rw [upd_ne this]; exact q2) q3 q4 q5 q6
  · have back : ∀ (m : Nat) zs, (Γ.set i (.own ys))[m]? = some (.own zs) → ∃ zs', Γ[m]? = some (.own zs') := fun m zs e => by
      by_cases hm : i = m
      · subst hm
        exact EV.in1_1 xs h
      · rw [List.getElem?_set_ne hm] at e
        exact EV.in1_1 zs e
    refine EV.el1_1 (back j ys' e1) fun z1 f1 => ?_
    refine EV.el1_1 (back l zs e2) fun z2 f2 => ?_
    exact E.inj j l q z1 z2 f1 f2 e3 e4
  · have n1 : i ≠ j := fun z => by
      subst z
      rw [List.getElem?_set_self hlt] at e
      cases e
    rw [List.getElem?_set_ne n1] at e
    exact E.pen j e
  · have n1 : i ≠ j := fun z => by
      subst z
      rw [List.getElem?_set_self hlt] at e
      cases e
    rw [List.getElem?_set_ne n1] at e
    exact E.scr j ns e
  · refine EV.el0_2 (E.ps q e) fun q1 q2 => ?_
    have : q ≠ p := fun z => h6 (by rw [← z]; exact e)
    rw [upd_ne this]
    exact ⟨q1, q2⟩
  · refine ⟨E.ext.g, fun a o e n nt => ?_, fun a o e => ?_, E.ext.n, fun a o e => ?_, fun h => (E.ext.tk h).updL h2, E.ext.gt⟩
    · rw [upd_ne (ne_of_none e h5)]
      exact E.ext.h a o e n nt
    · rw [upd_ne (ne_of_none e h5)]
      exact E.ext.t a o e
    · rw [upd_ne (ne_of_none e h3)]
      exact E.sub a o e
end
section
variable {X : Cx} {W : WX} {pa : Option Addr} {Γ : List Sl} {k : Nat} {pos : Pos} {α : Type} {out : α → Out} {rest : List Stmt}
theorem eb_peek (i : Nat) {xs : List D} {e : Expr} {m : PM Bool} (h : Γ[i]? = some (.own xs)) (he : EB X W pa (Γ.set i (.val (.lst xs))) e m) : EB X W pa Γ e (noExc m) :=
  pt_imp he fun σ H Q h_ => EV.ex4 h_ fun G0 H0 G s E P => by
    (refine EV.el2_4 (E.pubW h) fun p vs h1 h2 h3 q74_ => ?_; refine EV.el0_4 q74_ ?_; try clear q74_; intro h4 h5 h6 E')
    refine EV.in4_2 G0 H0 _ s E' ?_
    unfold noExc at P
    cases e : m s with
    | ok b s1 =>
      rw [e] at P
      intro G' H' x q
      refine EV.el1_2 (unpeek h3 h2 x) fun G'' y z => ?_
      exact P G'' H' y (z _ q)
    | exc z => rw [e] at P; exact P.elim
    | bad => rw [e] at P; exact P.elim
noncomputable def scalD : D → Bool
  | .non | .bl _ | .int _ | .str _ => true
  | _ => false
theorem Rp.scal {K : PySem.W.Frag} {G G' : Hp} {v : V} {d : D} (h : scalD d = true) (r : Rp K G v d) : Rp K G' v d := by
  cases r with
  | non => exact .non
  | bl b => exact .bl b
  | int b => exact .int b
  | str b => exact .str b
  | lst _ _ _ => exact EV.nnB h
  | tup _ _ _ => exact EV.nnB h
  | dct _ _ _ _ => exact EV.nnB h
  | obj _ _ _ _ => exact EV.nnB h
  | cls _ => exact EV.nnB h
theorem sv_pub (i : Nat) {xs : List D} {sts : List Stmt} {m : PM α} (h : Γ[i]? = some (.own xs)) (hr : SV X W pa (Γ.set i (.val (.lst xs))) out sts m) : SV X W pa Γ out sts m :=
  pss_imp hr fun Dn σ H h_ => EV.ex4 h_ fun G0 H0 G s E P => by
    (refine EV.el2_4 (E.pubW h) fun p vs h1 h2 h3 q75_ => ?_; refine EV.el0_4 q75_ ?_; try clear q75_; intro h4 h5 h6 E')
    exact EV.in4_2 G0 H0 _ s E' P
/-- nothing is said -/
theorem sv_bad {sts : List Stmt} : SV X W pa Γ out sts bad := pss_imp pss_never fun Dn σ H h_ => EV.ex4 h_ fun G0 H0 G s E P => P.elim
noncomputable def okLen (xs : List D) : PM Unit := if xs.length ≤ lim then pure () else bad
theorem okLen_ok {xs : List D} (h : xs.length ≤ lim) : okLen xs = pure () := if_pos h
theorem sv_append (i : Nat) {x : Str} {e : Expr} {xs : List D} {me : PM D} {kk : D → PM α} {p1 apos cpos : Pos} (h : Γ[i]? = some (.own xs)) (he : EV X W pa Γ e me) (hr : ∀ d, SV X W pa (Γ.set i (.own (xs ++ [d]))) out rest (kk d))
    (hN : autoParam (X.N[i]? = some x) EV.tac2) (hv : autoParam (Vis X.env.scope x) EV.tac7) (hd : autoParam ((x == ("__debug__" : Str)) = false) EV.tac1) (hcd : autoParam ((x == ("__classdict__" : Str)) = false) EV.tac1)
    (hbase : autoParam (attributeBase (.Name x p1) "append" X.env (eval (.Name x p1) X.env) = eval (.Name x p1) X.env) EV.tac2)
    (hfew : autoParam (((backTo cpos (starEach [e] X.env)).all (fun x => !x.1) && (backToKw cpos (keywordEach [] X.env)).all (fun x => x.1.isSome)
      && decide ([e].length + ([] : List Keyword).length + (if ([] : List Keyword).isEmpty then 0 else 1) < 30)) = true) EV.tac2)
    (hline : autoParam ((apos.endLine == cpos.line) = true) EV.tac2) (hs : autoParam (starEach [e] X.env = (false, eval e X.env) :: starEach [] X.env) EV.tac2) (hplain : autoParam ((backTo cpos (starEach [] X.env)).any (·.1) = false) EV.tac2)
    (hsw : autoParam (swapsWith (.Call (.Attribute (.Name x p1) "append" apos) [e] [] cpos) none pos.line X.env = pure false) EV.tac2) :
    SV X W pa Γ out (.Expr (.Call (.Attribute (.Name x p1) "append" apos) [e] [] cpos) pos :: rest) (me >>= fun d => okLen (xs ++ [d]) >>= fun _ => kk d) := by
  unfold SV
  rw [bind_assoc]
  refine pss_imp (pss_cons (ps_expr (pe_bm PySem.F.plainAttrs_list PySem.F.slot_list_append PySem.F.type_list_append mt_append (pe_var hN hv hd hcd) (pa_cons he pa_nil hs) hbase hfew hline hs hplain) hsw) (pss_ex hr)) fun Dn σ H h_ => EV.ex4 h_ fun G0 H0 G s E P => ?_
  refine EV.el2_6 (E.own i xs h) fun p vs h1 h2 h3 h4 h5 h6 => ?_
  refine ⟨.ref p, h1, .inl ⟨rfl, vs, SqL.of h2⟩, G0, H0, G, s, E, (P.bind E).imp fun G1 H1 d s1 x1 p1 P1 v r => ?_⟩
  have h2' := x1.h _ _ h2 h6
  by_cases hl : (xs ++ [d]).length ≤ lim
  · rw [okLen_ok hl, pure_bind] at P1
    have hv' : vs.length < sizeLine := by
      rw [h4.1]
      rw [List.length_append, List.length_singleton] at hl
      exact lim_lt (by exact Nat.le_of_lt (by assumption))
    have E1 := E.step x1 p1
    exact ⟨p, vs, v, rfl, rfl, h2', hv', d, G0, H0, G1, s1, E1.mut h h1 ((h4.mono x1.g).app (.cons r .nil)), P1⟩
  · unfold okLen at P1
    rw [if_neg hl] at P1
    exact P1.elim
noncomputable def scalL : D → PM (List D)
  | .lst ys => if ys.all scalD = true then pure ys else bad
  | _ => bad
theorem rpl_scal {K : PySem.W.Frag} {G G' : Hp} {vs : List V} {ds : List D} (h : ds.all scalD = true) (r : RpL K G vs ds) : RpL K G' vs ds :=
  ⟨r.1, fun i v d h1 h2 => (r.2 i v d h1 h2).scal (List.all_eq_true.mp h d (List.mem_of_getElem? h2))⟩
/-- x.extend(e), e looks at x; its items are numbers, texts -/
theorem sv_extendP (i : Nat) {x : Str} {e : Expr} {xs : List D} {me : PM D} {kk : List D → PM α} {p1 apos cpos : Pos} (h : Γ[i]? = some (.own xs)) (he : EV X W pa (Γ.set i (.val (.lst xs))) e me) (hr : ∀ ys, SV X W pa (Γ.set i (.own (xs ++ ys))) out rest (kk ys))
    (hN : autoParam (X.N[i]? = some x) EV.tac2) (hv : autoParam (Vis X.env.scope x) EV.tac7) (hd : autoParam ((x == ("__debug__" : Str)) = false) EV.tac1) (hcd : autoParam ((x == ("__classdict__" : Str)) = false) EV.tac1)
    (hbase : autoParam (attributeBase (.Name x p1) "extend" X.env (eval (.Name x p1) X.env) = eval (.Name x p1) X.env) EV.tac2)
    (hfew : autoParam (((backTo cpos (starEach [e] X.env)).all (fun x => !x.1) && (backToKw cpos (keywordEach [] X.env)).all (fun x => x.1.isSome)
      && decide ([e].length + ([] : List Keyword).length + (if ([] : List Keyword).isEmpty then 0 else 1) < 30)) = true) EV.tac2)
    (hline : autoParam ((apos.endLine == cpos.line) = true) EV.tac2) (hs : autoParam (starEach [e] X.env = (false, eval e X.env) :: starEach [] X.env) EV.tac2) (hplain : autoParam ((backTo cpos (starEach [] X.env)).any (·.1) = false) EV.tac2)
    (hsw : autoParam (swapsWith (.Call (.Attribute (.Name x p1) "extend" apos) [e] [] cpos) none pos.line X.env = pure false) EV.tac2) :
    SV X W pa Γ out (.Expr (.Call (.Attribute (.Name x p1) "extend" apos) [e] [] cpos) pos :: rest) (noExc me >>= scalL >>= fun ys => okLen (xs ++ ys) >>= fun _ => kk ys) := by
  unfold SV
  rw [bind_assoc, bind_assoc]
  refine pss_imp (pss_cons (ps_expr (pe_bm PySem.F.plainAttrs_list PySem.F.slot_list_extend PySem.F.type_list_extend mt_extend (pe_var hN hv hd hcd) (pa_cons he pa_nil hs) hbase hfew hline hs hplain) hsw) (pss_ex hr)) fun Dn σ H h_ => EV.ex4 h_ fun G0 H0 G s E P => ?_
  (refine EV.el2_4 (E.pubW h) fun p vs h1 h2 h3 q76_ => ?_; refine EV.el0_4 q76_ ?_; try clear q76_; intro h4 h5 h6 E')
  refine ⟨.ref p, h1, .inl ⟨rfl, vs, SqL.of h2⟩, G0, H0, _, s, E', ?_⟩
  rw [PM.bind_def] at P
  unfold noExc at P
  cases em : me s with
  | exc z => rw [em] at P; exact P.elim
  | bad => rw [em] at P; exact P.elim
  | ok d s1 =>
    rw [em] at P
    intro G1 H1 x1 p1 v r
    cases r with
    | @lst b zs ys hb n rr =>
      have P : SPost X.K W X.mg pa G0 H0 Dn (((if ys.all scalD = true then pure ys else bad : PM (List D)) >>= fun ys => (okLen (xs ++ ys) >>= fun _ => kk ys) >>= fun a => pure (out a)) s1) := P
      by_cases hsc : ys.all scalD = true
      · rw [if_pos hsc, pure_bind] at P
        by_cases hl : (xs ++ ys).length ≤ lim
        · rw [okLen_ok hl, pure_bind] at P
          refine EV.el1_2 (unpeek h3 h2 x1) fun G2 y2 z2 => ?_
          have h2' := x1.h _ _ h2 h6
          have E2 := E.step y2 (z2 _ p1)
          refine ⟨p, b, vs, zs, rfl, rfl, h2', x1.sub _ _ hb, ?_, ys, G0, H0, G2, s1, E2.mut h h1 ((h4.mono y2.g).app (rpl_scal hsc ⟨n, rr⟩)), P⟩
          rw [h4.1, n]
          rw [List.length_append] at hl
          exact lim_le hl
        · unfold okLen at P
          rw [if_neg hl] at P
          exact P.elim
      · rw [if_neg hsc] at P
        exact P.elim
    | _ => exact P.elim
noncomputable def FO (K : PySem.W.Frag) (Hb : Hp) (Q : VK) : Hp → Hp → List D → List Int → Prop := fun G' H' ds _ => ∀ p vs, Hb p = none → H' p = some (.lst vs) → G' p = none → RpL K G' vs ds → Q (.ref p) H'
noncomputable def evO (X : Cx) (W : WX) (pa : Option Addr) (Γ : List Sl) (m : PM (List D)) : TE := fun σ H Q => ∃ G0 H0 G s, Nv X.K pa G0 H0 G H σ Γ s ∧ Pst X.K W X.mg pa σ (FO X.K H Q) G H (m s)
noncomputable abbrev EO' (X : Cx) (W : WX) (pa : Option Addr) (Γ : List Sl) (e : Expr) (m : PM (List D)) : Prop := PE X e (evO X W pa Γ m)
noncomputable def okL (xs : List D) : PM (List D) := if xs.length ≤ lim then pure xs else bad
theorem eo_lst {es : List Expr} {ml : PM (List D)} (h : EL X W pa Γ es ml) : EO' X W pa Γ (.List es pos) (ml >>= okL) :=
  pe_imp (L2.pe_lst h) fun σ H Q h_ => EV.ex4 h_ fun G0 H0 G s E P => ⟨G0, H0, G, s, E, P.bind.imp fun G1 H1 ds s1 x1 p1 P1 vs r => by
    unfold okL at P1
    split at P1
    · rename_i hl
      refine ⟨by rw [r.1]; exact lim_le hl, fun p np => ?_⟩
      have hb : H p = none := by
        cases q : H p with
        | none => rfl
        | some o =>
          refine EV.el1_1 (x1.t p o q) fun o' z => ?_
          rw [np] at z
          exact EV.nnS z
      exact P1 G1 _ (Ext.newH x1.sub np _) (p1.updH np _) p vs hb upd_same (x1.sub.free np) r
    · exact P1.elim⟩
theorem eo_lcR {ι : Type} {own : List (Str × Nat)} {dec : D → Option ι} {mt : ι → PM Bool} {me : ι → PM D} {mi : PM (List D)} {g : TG} {Γz : ι → List Sl} (hg : TgOk X pa dec g (own.map (·.2)) (wipeG Γ (own.map (·.2))) Γz) (σ : L2.St) (H : Hp) (Q : VK)
    (h : evO X W pa Γ (mi >>= fun xs => compL dec mt me xs) σ H Q) :
    tLc (evI X W pa Γ mi) g (fun σ H Q => ∃ z, evB X W0 pa (Γz z) (mt z) σ H Q) (fun σ H Q => ∃ z, evT X W0 pa (Γz z) (me z) σ H Q) (own.map (·.2)) σ H Q := by
  obtain ⟨G0, H0, G, s, E, P⟩ := h
  refine ⟨G0, H0, G, s, E, P.bind.imp fun G1 H1 xs s1 x1 p1 P1 J hJ D0 nD => ?_⟩
  have P1 : Pst X.K W X.mg pa σ (FO X.K H Q) G1 H1 ((compL dec mt me xs >>= fun r => (pure r : PM (List D))) s1) := by
    rw [bind_pure]
    exact P1
  refine lcCore hg (E.step x1 p1) hJ nD P1 fun G2 H2 accV accD s' x p hD gD r P2 => ?_
  have hb : H D0 = none := by
    cases q : H D0 with
    | none => rfl
    | some o =>
      obtain ⟨o', z⟩ := x1.t D0 o q
      rw [nD] at z
      cases z
  exact P2 G2 H2 x p D0 accV hb hD gD r
theorem sv_setO (i : Nat) {st : Stmt} {me : PM (List D)} {kk : List D → PM α} (he : PS X st (tAsg (evO X W pa Γ me) (gName i))) (hr : ∀ ds, SV X W pa (Γ.set i (.own ds)) out rest (kk ds)) :
    SV X W pa Γ out (st :: rest) (me >>= kk) := by
  unfold SV
  rw [bind_assoc]
  refine pss_imp (pss_cons he (pss_ex hr)) fun Dn σ H h_ => EV.ex4 h_ fun G0 H0 G s E P =>
    ⟨G0, H0, G, s, E, (P.bind E).imp fun G1 H1 ds s1 x1 p1 P1 p vs hb hp hg r => ⟨ds, G0, H0, G1, s1, ?_, P1⟩⟩
  have E1 := E.step x1 p1
  refine E1.setOwn i hp hg r ?_ (fun e => ?_) fun j ys hj e q => ?_
  · cases z : H0 p with
    | none => rfl
    | some o =>
      refine EV.el1_1 (E.ext.t p o z) fun o' z' => ?_
      rw [hb] at z'
      exact EV.nnS z'
  · have := (E.ps p e).2
    rw [hb] at this
    exact EV.nnS this
  · refine EV.el2_3 (E.own j ys e) fun p' vs' q1 q2 _ => ?_
    rw [q] at q1
    cases q1
    rw [hb] at q2
    exact EV.nnS q2
theorem sv_setV (i : Nat) {st : Stmt} {me : PM D} {kk : D → PM α} (he : PS X st (tAsg (evT X W pa Γ me) (gName i))) (hr : ∀ d, SV X W pa (Γ.set i (.val d)) out rest (kk d)) :
    SV X W pa Γ out (st :: rest) (me >>= kk) := by
  unfold SV
  rw [bind_assoc]
  exact pss_imp (pss_cons he (pss_ex hr)) fun Dn σ H h_ => EV.ex4 h_ fun G0 H0 G s E P =>
    ⟨G0, H0, G, s, E, (P.bind E).imp fun G1 H1 d s1 x1 p1 P1 v r => ⟨d, G0, H0, G1, s1, (E.step x1 p1).set i r, P1⟩⟩
theorem ps_imp {st : Stmt} {t t' : TS} (h : PS X st t) (i : ∀ Dn σ H, t' Dn σ H → t Dn σ H) : PS X st t' := ⟨fun pins s σ H D I q => h.run pins s σ H D I (i D σ H q)⟩
/-- y = [..] on one line, y a plain local: as a value, as a list of one's own -/
theorem ps_lcV {ι : Type} {i : Nat} {y : Str} {py spos : Pos} {elt tg iter : Expr} {ifs : List Expr} {scope : Scope} {own : List (Str × Nat)} {dec : D → Option ι} {mt : ι → PM Bool} {me : ι → PM D} {mi : PM (List D)} {g : TG} {Γz : ι → List Sl} (C : Cok X W k) (hy : X.N[i]? = some y) (hyl : X.env.scope.names.lookup y = some .local)
    (hsw : swapsWith (.ListComp elt [⟨tg, iter, ifs, 0⟩] scope pos) (some (.Name y py)) spos.line X.env = pure true) (hi : EI X W pa Γ tg iter mi) (ok : BlkOk X.N X.env.scope scope own)
    (hg : TgOk X pa dec g (own.map (·.2)) (wipeG Γ (own.map (·.2))) Γz)
    (hp : ∀ (s : Shared) (H : Hp) (C : Addr) (cl : List (Str × Addr)) (fp : List Addr), PG (X.blk s H scope (compEnvC scope cl C X.env) fp) tg g)
    (ht : ∀ (z : ι) (s : Shared) (H : Hp) (C : Addr) (cl : List (Str × Addr)) (fp : List Addr), ETs (X.blk s H scope (compEnvC scope cl C X.env) fp) W0 pa (Γz z) ifs (mt z))
    (he : ∀ (z : ι) (s : Shared) (H : Hp) (C : Addr) (cl : List (Str × Addr)) (fp : List Addr), EV (X.blk s H scope (compEnvC scope cl C X.env) fp) W0 pa (Γz z) elt (me z))
    (hs : autoParam (∀ x, foldedSetIterable iter X.env x = pure x) EV.tac3) :
    PS X (.Assign [.Name y py] (.ListComp elt [⟨tg, iter, ifs, 0⟩] scope pos) spos) (tAsg (evT X W pa Γ (mi >>= fun xs => compL dec mt me xs >>= fun r => pure (.lst r))) (gName i)) :=
  ps_imp (ps_setLc C.calm C.nd hy hyl hsw hi ok hp (fun s H C cl fp => pts_ex fun z => ht z s H C cl fp) (fun s H C cl fp => pe_ex fun z => he z s H C cl fp) hs) fun Dn σ H h => lc_read hg σ H _ h
theorem ps_lcO {ι : Type} {i : Nat} {y : Str} {py spos : Pos} {elt tg iter : Expr} {ifs : List Expr} {scope : Scope} {own : List (Str × Nat)} {dec : D → Option ι} {mt : ι → PM Bool} {me : ι → PM D} {mi : PM (List D)} {g : TG} {Γz : ι → List Sl} (C : Cok X W k) (hy : X.N[i]? = some y) (hyl : X.env.scope.names.lookup y = some .local)
    (hsw : swapsWith (.ListComp elt [⟨tg, iter, ifs, 0⟩] scope pos) (some (.Name y py)) spos.line X.env = pure true) (hi : EI X W pa Γ tg iter mi) (ok : BlkOk X.N X.env.scope scope own)
    (hg : TgOk X pa dec g (own.map (·.2)) (wipeG Γ (own.map (·.2))) Γz)
    (hp : ∀ (s : Shared) (H : Hp) (C : Addr) (cl : List (Str × Addr)) (fp : List Addr), PG (X.blk s H scope (compEnvC scope cl C X.env) fp) tg g)
    (ht : ∀ (z : ι) (s : Shared) (H : Hp) (C : Addr) (cl : List (Str × Addr)) (fp : List Addr), ETs (X.blk s H scope (compEnvC scope cl C X.env) fp) W0 pa (Γz z) ifs (mt z))
    (he : ∀ (z : ι) (s : Shared) (H : Hp) (C : Addr) (cl : List (Str × Addr)) (fp : List Addr), EV (X.blk s H scope (compEnvC scope cl C X.env) fp) W0 pa (Γz z) elt (me z))
    (hs : autoParam (∀ x, foldedSetIterable iter X.env x = pure x) EV.tac3) :
    PS X (.Assign [.Name y py] (.ListComp elt [⟨tg, iter, ifs, 0⟩] scope pos) spos) (tAsg (evO X W pa Γ (mi >>= fun xs => compL dec mt me xs)) (gName i)) :=
  ps_imp (ps_setLc C.calm C.nd hy hyl hsw hi ok hp (fun s H C cl fp => pts_ex fun z => ht z s H C cl fp) (fun s H C cl fp => pe_ex fun z => he z s H C cl fp) hs) fun Dn σ H h => eo_lcR hg σ H _ h
/-- y = [..], y a name that is captured -/
theorem ps_o {i : Nat} {x : Str} {e : Expr} {pos' : Pos} {me : PM (List D)} (hN : X.N.Nodup) (he : EO' X W pa Γ e me) (hi : autoParam (X.N[i]? = some x) EV.tac2) (hx : autoParam (Loc X.env.scope x) EV.tac5)
    (hs : autoParam (swapsWith e (some (.Name x pos')) pos.line X.env = pure false) EV.tac2) (hf : autoParam (X.fn x = true ∨ X.env.scope.names.lookup x = some .local) EV.tac6) :
    PS X (.Assign [.Name x pos'] e pos) (tAsg (evO X W pa Γ me) (gName i)) := ps_set hN hi hx he hs hf
noncomputable def penGet : D → PM D
  | .int i => fun s => match atI s i with
    | some n => .ok (.int n) s
    | none => .bad
  | _ => bad
noncomputable def penSet (i : D) (d : D) : PM Unit := match i, d with
  | .int i, .int n => fun s => match ixN s.length i with
    | some j => .ok () (s.set j n)
    | none => .bad
  | _, _ => bad
theorem atI_map {α β : Type} (g : α → β) (xs : List α) (i : Int) : atI (xs.map g) i = (atI xs i).map g := by
  unfold atI
  rw [List.length_map]
  cases ixN xs.length i with
  | none => rfl
  | some j => simp
theorem ev_pen {q : Addr} {i : Nat} {y : Str} {b : Expr} {p2 : Pos} {mb : PM D} (hΓ : Γ[i]? = some .pen) (hN : X.N[i]? = some y) (hv : Vis X.env.scope y) (hb : EV X W (some q) Γ b mb) (hs : PlainIx b) (hd : autoParam ((y == ("__debug__" : Str)) = false) EV.tac1) (hcd : autoParam ((y == ("__classdict__" : Str)) = false) EV.tac1) :
    EV X W (some q) Γ (.Subscript (.Name y p2) b pos) (mb >>= penGet) := pe_imp (pe_ix ix_list (pe_var hN hv hd hcd) hb hs) fun σ H Q h_ => EV.ex4 h_ fun G0 H0 G s E P => by
  obtain ⟨q', e1, e2⟩ := E.pen i hΓ
  cases e1
  refine ⟨.ref q, e2, G0, H0, G, s, E, P.bind.imp fun G1 H1 d s1 x1 p1 P1 v r => ?_⟩
  cases r with
  | int n =>
    have P1 : Pst X.K W X.mg (some q) σ (FD X.K Q) G1 H1 (match atI s1 n with | some n => R.ok (D.int n) s1 | none => .bad) := P1
    cases e : atI s1 n with
    | none => rw [e] at P1; exact P1.elim
    | some m =>
      rw [e] at P1
      exact ⟨q, s1.map V.int, n, .int m, rfl, rfl, SqL.of (p1 q rfl).2, by rw [atI_map, e]; rfl, P1 G1 H1 (Ext.refl x1.sub) p1 _ (.int m)⟩
  | _ => exact P1.elim
theorem Nv.pens {K : PySem.W.Frag} {q : Addr} {G0 H0 G H : Hp} {σ : L2.St} {s s' : List Int} (E : Nv K (some q) G0 H0 G H σ Γ s) : Nv K (some q) G0 H0 G (upd H q (.lst (s'.map V.int))) σ Γ s' := by
  have h := E.ps q rfl
  have hH : ∀ a o, H a = some o → a ≠ q → (upd H q (.lst (s'.map V.int))) a = some o := fun a o e n => by rw [upd_ne n]; exact e
  refine ⟨E.len, E.val, fun i xs e => ?_, E.inj, E.pen, E.scr, fun a e => ?_, ?_, E.x.updL h.2⟩
  · obtain ⟨p, vs, h1, h2, h3, h4, h5, h6⟩ := E.own i xs e
    exact ⟨p, vs, h1, hH _ _ h2 (fun z => h6 (by rw [z])), h3, h4, h5, h6⟩
  · cases e
    exact ⟨h.1, upd_same⟩
  · refine ⟨E.ext.g, fun a o e n nt => hH a o (E.ext.h a o e n nt) (fun z => n (by rw [z])), fun a o e => ?_, E.ext.n, fun a o e => ?_, fun hK => (E.ext.tk hK).updL h.2, E.ext.gt⟩
    · by_cases ha : a = q
      · subst ha
        exact ⟨_, upd_same⟩
      · rw [upd_ne ha]
        exact E.ext.t a o e
    · rw [upd_ne (ne_of_none e h.1)]
      exact E.sub a o e
/-- pen[i] = e -/
theorem sv_pen {q : Addr} {i : Nat} {y : Str} {b e : Expr} {p2 p3 : Pos} {mb me : PM D} {kk : PM α} (hΓ : Γ[i]? = some .pen) (hN : X.N[i]? = some y) (hv : Vis X.env.scope y) (he : EV X W (some q) Γ e me) (hb : EV X W (some q) Γ b mb) (hr : SV X W (some q) Γ out rest kk)
    (hd : autoParam ((y == ("__debug__" : Str)) = false) EV.tac1) (hcd : autoParam ((y == ("__classdict__" : Str)) = false) EV.tac1) (hs : autoParam (swapsWithSole [.Subscript (.Name y p2) b p3] e pos.line X.env = pure false) EV.tac2) (hw : autoParam (swappedStores [.Subscript (.Name y p2) b p3] e X.env = pure none) EV.tac2)
    (h1 : autoParam ((assignEach [.Subscript (.Name y p2) b p3] X.env).map (·.2) = [assign (.Subscript (.Name y p2) b p3) X.env]) EV.tac2)
    (ha : autoParam (∀ v, assign (.Subscript (.Name y p2) b p3) X.env v = (do let ov ← holding [v] (eval (.Name y p2) X.env); let iv ← holding [v, ov] (eval b X.env); standAt p3; holding [v, ov, iv] (setItem ov iv v); release [v, ov, iv] [])) EV.tac3) :
    SV X W (some q) Γ out (.Assign [.Subscript (.Name y p2) b p3] e pos :: rest) (me >>= fun d => mb >>= fun ix => penSet ix d >>= fun _ => kk) := by
  unfold SV
  rw [bind_assoc]
  refine pss_imp (pss_cons (ps_asg he (pg_sub (pe_var hN hv hd hcd) hb set_list ha) hs hw h1) hr) fun Dn σ H h_ => EV.ex4 h_ fun G0 H0 G s E P => ⟨G0, H0, G, s, E, (P.bind E).imp fun G1 H1 d s1 x1 p1 P1 v r => ?_⟩
  rw [bind_assoc] at P1
  have E1 := E.step x1 p1
  obtain ⟨q', e1, e2⟩ := E1.pen i hΓ
  cases e1
  refine ⟨.ref q, e2, G0, H0, G1, s1, E1, (P1.bind E1).imp fun G2 H2 ix s2 x2 p2 P2 w rw2 => ?_⟩
  have E2 := E1.step x2 p2
  cases rw2 with
  | int n =>
    cases r with
    | int m =>
      rw [bind_assoc, PM.bind_def] at P2
      have ee : penSet (.int n) (.int m) s2 = match ixN s2.length n with | some j => R.ok () (s2.set j m) | none => .bad := rfl
      rw [ee] at P2
      cases e : ixN s2.length n with
      | none => rw [e] at P2; exact P2.elim
      | some j =>
        rw [e] at P2
        refine ⟨q, s2.map V.int, n, j, rfl, rfl, (p2 q rfl).2, by rw [List.length_map]; exact e, G0, H0, G2, s2.set j m, ?_, P2⟩
        have z := E2.pens (s' := s2.set j m)
        rw [List.map_set] at z
        exact z
    | _ => exact P2.elim
  | _ => cases r <;> exact P2.elim
end
end EV
namespace EV
open PySem PySem.Spec PyProof.Rows L2
section
variable {P : Program} {w : World} {K : PySem.W.Frag} {mg : Str → Option Value} {base : Heap}
theorem fnG_of {x qual : Str} {st : Stmt} {f : Addr} {fd : FuncData} {N ps : List Str} {k : Nat} {sp : Sp} (F : Fun K x qual st f fd) (S : FnScope N ps (defScope st)) (len : ∀ vs H Q E, sp vs H Q E → vs.length = ps.length)
    (hbody : ∀ (cdv : Value), fd.code = cdv → ∀ (A : Around) (outer : List PySem.Env) (s : Shared) (H : Hp) (vs : List V) (Q : VK) (E : XK), (32 ≤ k → A.guards = some []) → Room k (A.deeper (envOfC qual (defScope st) s.heap.objs.size f cdv)) → sp vs H Q E →
      ∃ t, PSs (cxOf (L2.CX P w) P w K mg base N qual (defScope st) f cdv A outer s H E) (defBody st) t ∧ t { nx := fun _ H' => Q .non H', rt := Q } (start N vs) H) :
    FnG P w K mg base (k + 1) f fd ps sp := by
  (refine EV.el4_1 (F.ex) fun oc od kV doc q79_ => ?_; refine EV.el5_2 q79_ ?_; try clear q79_; intro pm an cdv ct osl q77_ q78_; obtain rfl := q77_; (refine EV.el0_2 q78_ ?_; try clear q78_; intro lk hcd))
  refine ⟨len, fun A outer s H args us vs Q E hgu hr e0 hb r hsp => ?_⟩
  have hl := len _ _ _ _ hsp
  have KX : K.In s.heap := e0.mod.kin.keeps fun b o e => (e0.bs b o e).1
  have lim : s.heap.NoLimit := e0.mod.nolimit.keeps fun b o e => (e0.bs b o e).1
  have hkind : ∀ y ∈ ps.zip us, (defScope st).names.lookup y.1 = some .local ∨ ((defScope st).names.lookup y.1 = some .cell ∧ ((cellsFrom (s.heap.objs.size + 1) (defScope st).names []).lookup y.1).isSome = true) := by
    intro y hy
    obtain ⟨n, v⟩ := y
    rcases S.par n (List.of_mem_zip hy).1 with q | q
    · exact .inl q
    · exact .inr ⟨q, PySem.W.cellsFrom_some _ _ _ (.inl q)⟩
  refine codeAny_call_function hr.depth (KX _ _ lk) rfl S.co S.gen rfl (PySem.W.codeRec_of KX hcd) (hb _ _ _ _ ?_)
  refine wpAny_newFunctionEnv_cells S.kind hkind fun env he s1 x => ?_
  subst he
  refine ⟨lim.keeps x.toInCall.keep, codeAny_func ?_⟩
  refine EV.el1_2 (hbody cdv rfl A outer s H vs Q E (fun q => hgu (Nat.le_succ_of_le q)) (hr.deeper _) hsp) fun t ht hq => ?_
  have I : Inv (cxOf (L2.CX P w) P w K mg base N qual (defScope st) f cdv A outer s H E) [] (start N vs) H s1 := inv_start S hr.hd e0 hl r x
  refine wpAny_mono (ht.run [] s1 (start N vs) H _ I hq) (fun fl s' hs => ?_) fun e s' hs => hs
  cases fl with
  | ret u =>
    (refine EV.el3_3 hs ?_; try clear hs; intro v σ' H' J rv q)
    exact EV.in2_6 v H' (J.os) (J.bare) (J.base) (J.hok) rv q
  | next =>
    (refine EV.el2_2 hs ?_; try clear hs; intro σ' H' J q)
    exact EV.in2_6 (V.non) H' (J.os) (J.bare) (J.base) (J.hok) rfl q
  | brk =>
    (refine EV.el2_2 hs ?_; try clear hs; intro _ _ _ q)
    exact q.elim
  | cont =>
    (refine EV.el2_2 hs ?_; try clear hs; intro _ _ _ q)
    exact q.elim
/-- the context of a def's body -/
theorem cok_fn {N : List Str} {qual : Str} {scope : Scope} {f : Addr} {cdv : Value} {A : Around} {outer : List PySem.Env} {s : Shared} {H : Hp} {E : XK} {k : Nat} (nd : N.Nodup) (hg : 32 ≤ k → A.guards = some []) (hr : Room k (A.deeper (envOfC qual scope s.heap.objs.size f cdv))) :
    Cok (cxOf (L2.CX P w) P w K mg base N qual scope f cdv A outer s H E) (fun cls d _ H => E cls d H) k where
  calm := rfl
  nd := nd
  takes := takes_of rfl rfl rfl rfl
  room := hr
  guards := hg
  passes := passes_of rfl
end
section
variable {K : PySem.W.Frag} {W : WX} {mg : Str → Option Value} {G H : Hp} {s : List Int} {N : List Str} {vs : List V} {ds : List D}
theorem start_get {vs : List V} {i : Nat} {v : V} (h : vs[i]? = some v) : (start N vs)[i]? = some (some v) := by
  have hi := (List.getElem?_eq_some_iff.mp h).1
  unfold L2.start
  rw [List.getElem?_append_left (by simpa using hi), List.getElem?_map, h]
  rfl
theorem start_len {vs : List V} (h : vs.length ≤ N.length) : (start N vs).length = N.length := by
  unfold L2.start
  rw [List.length_append, List.length_map, List.length_replicate]
  omega
theorem get_vals {l : List Sl} {m i : Nat} {x : Sl} (h : (l ++ List.replicate m Sl.junk)[i]? = some x) (hx : x ≠ .junk) : l[i]? = some x := by
  by_cases hi : i < l.length
  · rwa [List.getElem?_append_left hi] at h
  · rw [List.getElem?_append_right (by exact Nat.not_lt.mp (by assumption)), List.getElem?_replicate] at h
    split at h
    · obtain rfl := Option.some.inj h
      exact absurd rfl hx
    · exact EV.nnS h
noncomputable def slots0 (N : List Str) (ds : List D) : List Sl := ds.map .val ++ List.replicate (N.length - ds.length) .junk
noncomputable def slotsP (N : List Str) (ds : List D) : List Sl := (.pen :: ds.map .val) ++ List.replicate (N.length - (ds.length + 1)) .junk
noncomputable def slotsS (N : List Str) (ns : List Int) (ds : List D) : List Sl := (.scr ns :: ds.map .val) ++ List.replicate (N.length - (ds.length + 1)) .junk
theorem plain0 (l : List D) (m : Nat) : ∀ z ∈ l.map Sl.val ++ List.replicate m Sl.junk, plainS z = true := fun z h => by
  rcases List.mem_append.mp h with h | h
  · (refine EV.el1_2 (List.mem_map.mp h) fun d _ q80_ => ?_; obtain rfl := q80_)
    rfl
  · rw [List.eq_of_mem_replicate h]
    rfl
theorem nv_start0 (hs : Same G H ∧ TabK K H ∧ NoT G) (r : RpL K G vs ds) (hn : vs.length ≤ N.length) : Nv K none G H G H (start N vs) (slots0 N ds) s where
  len := by
    rw [start_len hn]
    unfold slots0
    have := r.1
    simp
    omega
  val := fun i d e => by
    have e := get_vals e (fun z => by cases z)
    rw [List.getElem?_map] at e
    cases q : ds[i]? with
    | none => rw [q] at e; exact EV.nnS e
    | some d' =>
      rw [q] at e
      cases e
      refine EV.el1_2 (r.get q) fun v h1 h2 => ?_
      exact EV.in1_2 v (start_get h1) h2
  own := fun i xs e => by
    have e := get_vals e (fun z => by cases z)
    rw [List.getElem?_map] at e
    cases q : ds[i]? <;> rw [q] at e <;> cases e
  inj := fun i j p xs ys e => by
    have e := get_vals e (fun z => by cases z)
    rw [List.getElem?_map] at e
    cases q : ds[i]? <;> rw [q] at e <;> cases e
  pen := fun i e => by
    have e := get_vals e (fun z => by cases z)
    rw [List.getElem?_map] at e
    cases q : ds[i]? <;> rw [q] at e <;> cases e
  scr := fun i ns e => by
    have e := get_vals e (fun z => by cases z)
    rw [List.getElem?_map] at e
    cases q : ds[i]? <;> rw [q] at e <;> cases e
  ps := PenOk.none
  ext := Ext.refl hs.1
  x := NvX.none (plain0 ds _) hs.2.1 hs.2.2
theorem nv_startP {q : Addr} (hs : Same G H ∧ TabK K H ∧ NoT G) (r : RpL K G vs ds) (hn : vs.length + 1 ≤ N.length) (hp : PenOk (some q) G H s) : Nv K (some q) G H G H (start N (.ref q :: vs)) (slotsP N ds) s where
  len := by
    rw [start_len (by simpa using hn)]
    unfold slotsP
    have := r.1
    simp
    omega
  val := fun i d e => by
    have e := get_vals e (fun z => by cases z)
    cases i with
    | zero => cases e
    | succ i =>
      rw [List.getElem?_cons_succ, List.getElem?_map] at e
      cases q : ds[i]? with
      | none => rw [q] at e; cases e
      | some d' =>
        rw [q] at e
        cases e
        obtain ⟨v, h1, h2⟩ := r.get q
        exact ⟨v, start_get (by simpa using h1), h2⟩
  own := fun i xs e => by
    have e := get_vals e (fun z => by cases z)
    cases i with
    | zero => cases e
    | succ i =>
      rw [List.getElem?_cons_succ, List.getElem?_map] at e
      cases q : ds[i]? <;> rw [q] at e <;> cases e
  inj := fun i j p xs ys e => by
    have e := get_vals e (fun z => by cases z)
    cases i with
    | zero => cases e
    | succ i =>
      rw [List.getElem?_cons_succ, List.getElem?_map] at e
      cases q : ds[i]? <;> rw [q] at e <;> cases e
  pen := fun i e => by
    have e := get_vals e (fun z => by cases z)
    cases i with
    | zero => exact ⟨q, rfl, start_get rfl⟩
    | succ i =>
      rw [List.getElem?_cons_succ, List.getElem?_map] at e
      cases q : ds[i]? <;> rw [q] at e <;> cases e
  scr := fun i ns e => by
    have e := get_vals e (fun z => by cases z)
    cases i with
    | zero => cases e
    | succ i =>
      rw [List.getElem?_cons_succ, List.getElem?_map] at e
      cases q : ds[i]? <;> rw [q] at e <;> cases e
  ps := hp
  ext := Ext.refl hs.1
  x := NvX.none (fun z h => by
    rcases List.mem_cons.mp h with rfl | h
    · rfl
    · exact plain0 ds _ z h) hs.2.1 hs.2.2
theorem nv_startS {a : Addr} {ns : List Int} (hs : Same G H ∧ TabK K H ∧ NoT G) (hq : SqL K G a (ns.map V.int)) (r : RpL K G vs ds) (hn : vs.length + 1 ≤ N.length) : Nv K none G H G H (start N (.ref a :: vs)) (slotsS N ns ds) s where
  len := by
    rw [start_len (by simpa using hn)]
    unfold slotsS
    have := r.1
    simp
    omega
  val := fun i d e => by
    have e := get_vals e (fun z => by cases z)
    cases i with
    | zero => cases e
    | succ i =>
      rw [List.getElem?_cons_succ, List.getElem?_map] at e
      cases q : ds[i]? with
      | none => rw [q] at e; exact EV.nnS e
      | some d' =>
        rw [q] at e
        cases e
        refine EV.el1_2 (r.get q) fun v h1 h2 => ?_
        exact EV.in1_2 v (start_get (by simpa using h1)) h2
  own := fun i xs e => by
    have e := get_vals e (fun z => by cases z)
    cases i with
    | zero => cases e
    | succ i =>
      rw [List.getElem?_cons_succ, List.getElem?_map] at e
      cases q : ds[i]? <;> rw [q] at e <;> cases e
  inj := fun i j p xs ys e => by
    have e := get_vals e (fun z => by cases z)
    cases i with
    | zero => cases e
    | succ i =>
      rw [List.getElem?_cons_succ, List.getElem?_map] at e
      cases q : ds[i]? <;> rw [q] at e <;> cases e
  pen := fun i e => by
    have e := get_vals e (fun z => by cases z)
    cases i with
    | zero => cases e
    | succ i =>
      rw [List.getElem?_cons_succ, List.getElem?_map] at e
      cases q : ds[i]? <;> rw [q] at e <;> cases e
  scr := fun i ns' e => by
    have e := get_vals e (fun z => by cases z)
    cases i with
    | zero =>
      cases e
      exact EV.in1_2 a (start_get rfl) hq
    | succ i =>
      rw [List.getElem?_cons_succ, List.getElem?_map] at e
      cases q : ds[i]? <;> rw [q] at e <;> cases e
  ps := PenOk.none
  ext := Ext.refl hs.1
  x := NvX.none (fun z h => by
    rcases List.mem_cons.mp h with rfl | h
    · rfl
    · exact plain0 ds _ z h) hs.2.1 hs.2.2
noncomputable def outD : Out → PM D
  | .ret d => pure d
  | .fall _ => pure .non
  | _ => bad
theorem spost_fn {α : Type} {out : α → Out} {m : PM α} {pa : Option Addr} {Q : VK} {E : XK} (h : Pst K (fun cls dx _ H' => E cls dx H') mg pa [] (FD K Q) G H ((m >>= fun a => outD (out a)) s)) :
    SPost K (fun cls d _ H => E cls d H) mg pa G H { nx := fun _ H' => Q .non H', rt := Q } ((m >>= fun a => pure (out a)) s) := by
  rw [PM.bind_def] at h ⊢
  cases e : m s with
  | ok a s1 =>
    rw [e] at h
    have h : Pst K (fun cls dx _ H' => E cls dx H') mg pa [] (FD K Q) G H (outD (out a) s1) := h
    show SPost K _ mg pa G H _ (.ok (out a) s1)
    cases q : out a with
    | fall Γ' =>
      rw [q] at h
      exact fun σ' G' H' E' => h G' H' E'.ext E'.ps _ .non
    | ret d =>
      rw [q] at h
      exact fun v G' H' x p r => h G' H' x p v r
    | brk Γ' => rw [q] at h; exact h.elim
    | cnt Γ' => rw [q] at h; exact h.elim
    | retG d Γ' => rw [q] at h; exact h.elim
  | exc z =>
    rw [e] at h
    exact fun cls dx σ' G' H' x q => h cls dx G' H' x q
  | bad => rw [e] at h; exact h.elim
end
section
variable {P : Program} {w : World} {K : PySem.W.Frag} {mg : Str → Option Value} {base : Heap} {x qual : Str} {st : Stmt} {f : Addr} {fd : FuncData} {N ps : List Str} {k n : Nat}
theorem scope_le {sc : Scope} (S : FnScope N ps sc) : ps.length ≤ N.length := by
  have := congrArg List.length S.pre
  rw [List.length_take] at this
  omega
/-- a def without a pen -/
theorem fn_pure {F : List D → PM D} (FU : Fun K x qual st f fd) (S : FnScope N ps (defScope st)) (hps : ps.length = n)
    (hb : ∀ (cdv : Value) (A : Around) (outer : List PySem.Env) (s : Shared) (H : Hp) (E : XK), Cok (cxOf (L2.CX P w) P w K mg base N qual (defScope st) f cdv A outer s H E) (fun cls d _ H => E cls d H) k → ∀ ds : List D, ds.length = n →
      ∃ (α : Type) (out : α → Out) (m : PM α), SV (cxOf (L2.CX P w) P w K mg base N qual (defScope st) f cdv A outer s H E) (fun cls d _ H => E cls d H) none (slots0 N ds) out (defBody st) m ∧ F ds = (m >>= fun a => outD (out a))) :
    FnG P w K mg base (k + 1) f fd ps (spF K mg false n F) := by
  refine fnG_of FU S (fun vs H Q E h => ?_) fun cdv _ A outer s H vs Q E hg hr h => ?_
  · (refine EV.el5_3 h ?_; try clear h; intro pa G s vs' ds hpa q81_ q82_; obtain rfl := q81_; (refine EV.el0_5 q82_ ?_; try clear q82_; intro _ _ r hn _))
    cases pa with
    | some _ => exact EV.nnB (Eq.symm hpa)
    | none => rw [show (Option.toList (none : Option Addr)).map V.ref ++ vs' = vs' from rfl, r.1, hn, hps]
  · (refine EV.el5_3 h ?_; try clear h; intro pa G s' vs' ds hpa q83_ q84_; obtain rfl := q83_; (refine EV.el0_5 q84_ ?_; try clear q84_; intro hs hp r hn hP))
    cases pa with
    | some _ => exact EV.nnB (Eq.symm hpa)
    | none =>
      obtain ⟨α, out, m, sv, e⟩ := hb cdv A outer s H E (cok_fn S.nd hg hr) ds hn
      rw [e] at hP
      exact ⟨_, sv, G, H, G, s', nv_start0 hs r (by show vs'.length ≤ _; rw [r.1, hn, ← hps]; exact scope_le S), spost_fn hP⟩
/-- a def with the pen -/
theorem fn_pen {F : List D → PM D} (FU : Fun K x qual st f fd) (S : FnScope N ps (defScope st)) (hps : ps.length = n + 1)
    (hb : ∀ (cdv : Value) (A : Around) (outer : List PySem.Env) (s : Shared) (H : Hp) (E : XK), Cok (cxOf (L2.CX P w) P w K mg base N qual (defScope st) f cdv A outer s H E) (fun cls d _ H => E cls d H) k → ∀ (q : Addr) (ds : List D), ds.length = n →
      ∃ (α : Type) (out : α → Out) (m : PM α), SV (cxOf (L2.CX P w) P w K mg base N qual (defScope st) f cdv A outer s H E) (fun cls d _ H => E cls d H) (some q) (slotsP N ds) out (defBody st) m ∧ F ds = (m >>= fun a => outD (out a))) :
    FnG P w K mg base (k + 1) f fd ps (spF K mg true n F) := by
  refine fnG_of FU S (fun vs H Q E h => ?_) fun cdv _ A outer s H vs Q E hg hr h => ?_
  · obtain ⟨pa, G, s, vs', ds, hpa, rfl, _, _, r, hn, _⟩ := h
    cases pa with
    | none => cases hpa
    | some p =>
      show vs'.length + 1 = _
      rw [r.1, hn, hps]
  · obtain ⟨pa, G, s', vs', ds, hpa, rfl, hs, hp, r, hn, hP⟩ := h
    cases pa with
    | none => cases hpa
    | some p =>
      obtain ⟨α, out, m, sv, e⟩ := hb cdv A outer s H E (cok_fn S.nd hg hr) p ds hn
      rw [e] at hP
      exact ⟨_, sv, G, H, G, s', nv_startP hs r (by show vs'.length + 1 ≤ _; rw [r.1, hn, ← hps]; exact scope_le S) hp, spost_fn hP⟩
/-- a def of the script -/
noncomputable def spS (K : PySem.W.Frag) (mg : Str → Option Value) (n : Nat) (f : List Int → List D → PM D) : Sp := fun vs H Q E => ∃ (a : Addr) (ns : List Int) (G : Hp) (vs' : List V) (ds : List D),
  vs = .ref a :: vs' ∧ (Same G H ∧ TabK K H ∧ NoT G) ∧ SqL K G a (ns.map V.int) ∧ RpL K G vs' ds ∧ ds.length = n ∧ Pst K (fun cls dx _ H' => E cls dx H') mg none [] (FD K Q) G H (f ns ds [])
theorem fn_scr {F : List Int → List D → PM D} (FU : Fun K x qual st f fd) (S : FnScope N ps (defScope st)) (hps : ps.length = n + 1)
    (hb : ∀ (cdv : Value) (A : Around) (outer : List PySem.Env) (s : Shared) (H : Hp) (E : XK), Cok (cxOf (L2.CX P w) P w K mg base N qual (defScope st) f cdv A outer s H E) (fun cls d _ H => E cls d H) k → ∀ (ns : List Int) (ds : List D), ds.length = n →
      ∃ (α : Type) (out : α → Out) (m : PM α), SV (cxOf (L2.CX P w) P w K mg base N qual (defScope st) f cdv A outer s H E) (fun cls d _ H => E cls d H) none (slotsS N ns ds) out (defBody st) m ∧ F ns ds = (m >>= fun a => outD (out a))) :
    FnG P w K mg base (k + 1) f fd ps (spS K mg n F) := by
  refine fnG_of FU S (fun vs H Q E h => ?_) fun cdv _ A outer s H vs Q E hg hr h => ?_
  · (refine EV.el5_2 h ?_; try clear h; intro a ns G vs' ds q89_ q90_; obtain rfl := q89_; (refine EV.el0_5 q90_ ?_; try clear q90_; intro _ _ r hn _))
    show vs'.length + 1 = _
    rw [r.1, hn, hps]
  · (refine EV.el5_2 h ?_; try clear h; intro a ns G vs' ds q91_ q92_; obtain rfl := q91_; (refine EV.el0_5 q92_ ?_; try clear q92_; intro hs hq r hn hP))
    obtain ⟨α, out, m, sv, e⟩ := hb cdv A outer s H E (cok_fn S.nd hg hr) ns ds hn
    rw [e] at hP
    exact ⟨_, sv, G, H, G, [], nv_startS hs hq r (by rw [r.1, hn, ← hps]; exact scope_le S), spost_fn hP⟩
/-- a def that makes a pen -/
noncomputable def spM (K : PySem.W.Frag) (mg : Str → Option Value) (n : Nat) (f : List D → PM (List Int)) : Sp := fun vs H Q E => ∃ (G : Hp) (ds : List D), (Same G H ∧ TabK K H ∧ NoT G) ∧ RpL K G vs ds ∧ ds.length = n ∧
  Pst K (fun cls dx _ H' => E cls dx H') mg none [] (fun G' H' ns _ => ∀ p, H p = none → H' p = some (.lst (ns.map V.int)) → G' p = none → Q (.ref p) H') G H (f ds [])
noncomputable def asInts (ds : List D) : PM (List Int) := match intsOf ds with
  | some ns => if ns.length ≤ lim then pure ns else bad
  | none => bad
theorem fn_mk {F : List D → PM (List Int)} {es : List Expr} {p1 p2 : Pos} (FU : Fun K x qual st f fd) (S : FnScope N ps (defScope st)) (hps : ps.length = n) (hst : defBody st = [.Return (some (.List es p1)) p2])
    (hb : ∀ (cdv : Value) (A : Around) (outer : List PySem.Env) (s : Shared) (H : Hp) (E : XK), Cok (cxOf (L2.CX P w) P w K mg base N qual (defScope st) f cdv A outer s H E) (fun cls d _ H => E cls d H) k → ∀ ds : List D, ds.length = n →
      ∃ m, EL (cxOf (L2.CX P w) P w K mg base N qual (defScope st) f cdv A outer s H E) (fun cls d _ H => E cls d H) none (slots0 N ds) es m ∧ F ds = (m >>= asInts)) :
    FnG P w K mg base (k + 1) f fd ps (spM K mg n F) := by
  refine fnG_of FU S (fun vs H Q E h => ?_) fun cdv _ A outer s H vs Q E hg hr h => ?_
  · obtain ⟨G, ds, _, r, hn, _⟩ := h
    rw [r.1, hn, hps]
  · obtain ⟨G, ds, hs, r, hn, hP⟩ := h
    obtain ⟨m, el, e⟩ := hb cdv A outer s H E (cok_fn S.nd hg hr) ds hn
    rw [e] at hP
    rw [hst]
    refine ⟨_, pss_one (ps_ret (L2.pe_lst el)), G, H, G, [], nv_start0 hs r (by rw [r.1, hn, ← hps]; exact scope_le S), ?_⟩
    have hP : Pst K (fun cls d _ H => E cls d H) mg none (L2.start N vs) (fun G' H' ns _ => ∀ p, H p = none → H' p = some (.lst (ns.map V.int)) → G' p = none → Q (.ref p) H') G H ((m >>= asInts) []) := by
      cases q : (m >>= asInts) [] with
      | ok a s => rw [q] at hP; exact hP
      | exc z => rw [q] at hP; exact hP
      | bad => rw [q] at hP; exact hP.elim
    refine hP.bind.imp fun G1 H1 ds1 s1 x1 p1 P1 vs1 r1 => ?_
    unfold asInts at P1
    cases q : intsOf ds1 with
    | none => rw [q] at P1; exact P1.elim
    | some ns =>
      rw [q] at P1
      have P1 : Pst K (fun cls d _ H => E cls d H) mg none (L2.start N vs) (fun G' H' ns _ => ∀ p, H p = none → H' p = some (.lst (ns.map V.int)) → G' p = none → Q (.ref p) H') G1 H1 ((if ns.length ≤ lim then pure ns else bad : PM (List Int)) s1) := P1
      split at P1
      · rename_i hl
        have ev := intsOf_rp r1 q
        refine ⟨by rw [ev, List.length_map]; exact lim_le hl, fun p np => ?_⟩
        have hb : H p = none := by
          cases q : H p with
          | none => rfl
          | some o =>
            obtain ⟨o', z⟩ := x1.t p o q
            rw [np] at z
            cases z
        exact P1 G1 _ (Ext.newH x1.sub np _) PenOk.none p hb (by rw [upd_same, ev]) (x1.sub.free np)
      · exact P1.elim
end
end EV
namespace EV
open PySem PySem.Spec PyProof.Rows L2
section
variable {X : Cx} {W : WX} {pa : Option Addr} {Γ : List Sl} {k : Nat} {pos : Pos} {α : Type} {out : α → Out} {rest : List Stmt} {f : Addr} {fd : FuncData} {ps : List Str} {n : Nat} {x : Str} {p : Pos}
theorem ev_lenScr {i : Nat} {y : Str} {ns : List Int} {p2 : Pos} (hg : Gl X "len") (hm : X.mg "len" = none) (hΓ : Γ[i]? = some (.scr ns)) (hN : X.N[i]? = some y) (hv : Vis X.env.scope y)
    (hs : autoParam (starEach [.Name y p2] X.env = (false, eval (.Name y p2) X.env) :: starEach [] X.env) EV.tac2) (hpl : autoParam ((backTo pos (starEach [] X.env)).any (·.1) = false) EV.tac2) (hd : autoParam ((y == ("__debug__" : Str)) = false) EV.tac1) (hcd : autoParam ((y == ("__classdict__" : Str)) = false) EV.tac1) :
    EV X W pa Γ (.Call (.Name "len" p) [.Name y p2] [] pos) (pure (.int ns.length)) :=
  pe_imp (pe_callB call_len_seq hg hm PySem.boot_len (pa_cons (pe_var hN hv hd hcd) pa_nil hs) (by decide) (by decide) hs hpl) fun σ H Q h_ => EV.ex4 h_ fun G0 H0 G s E P => by
    refine EV.el1_2 (E.scr i ns hΓ) fun a h1 h2 => ?_
    refine ⟨.ref a, h1, a, ns.map V.int, rfl, .inl (E.sub.seq h2), ?_⟩
    rw [List.length_map]
    exact P.now E.sub E.ps _ (.int _)
noncomputable def scrGet (ns : List Int) : D → PM D
  | .int i => match atI ns i with
    | some m => pure (.int m)
    | none => bad
  | _ => bad
theorem ev_scr {i : Nat} {y : Str} {ns : List Int} {b : Expr} {p2 : Pos} {mb : PM D} (hΓ : Γ[i]? = some (.scr ns)) (hN : X.N[i]? = some y) (hv : Vis X.env.scope y) (hb : EV X W pa Γ b mb) (hs : PlainIx b) (hd : autoParam ((y == ("__debug__" : Str)) = false) EV.tac1) (hcd : autoParam ((y == ("__classdict__" : Str)) = false) EV.tac1) :
    EV X W pa Γ (.Subscript (.Name y p2) b pos) (mb >>= scrGet ns) := pe_imp (pe_ix ix_list (pe_var hN hv hd hcd) hb hs) fun σ H Q h_ => EV.ex4 h_ fun G0 H0 G s E P => by
  refine EV.el1_2 (E.scr i ns hΓ) fun a e2 h2 => ?_
  refine ⟨.ref a, e2, G0, H0, G, s, E, P.bind.imp fun G1 H1 d s1 x1 p1 P1 v r => ?_⟩
  cases r with
  | int j =>
    have P1 : Pst X.K W X.mg pa σ (FD X.K Q) G1 H1 ((match atI ns j with | some m => pure (.int m) | none => bad : PM D) s1) := P1
    cases e : atI ns j with
    | none => rw [e] at P1; exact P1.elim
    | some m =>
      rw [e] at P1
      exact EV.in4_5 a (ns.map V.int) j (.int m) rfl rfl ((x1.g.trans x1.sub).seq h2) (by rw [atI_map, e]; rfl) (P1.now x1.sub p1 _ (.int m))
  | _ => exact P1.elim
/-- f(script, e, ..) -/
theorem ev_callS {F : List Int → List D → PM D} {i : Nat} {y : Str} {ns : List Int} {p2 : Pos} {es : List Expr} {ml : PM (List D)} (C : Cok X W k) (FG : FnG X.prog X.w X.K X.mg X.base k f fd ps (spS X.K X.mg n F)) (ar : ∀ ns, Arity n (F ns)) (hg : Gl X x) (hm : X.mg x = some (.ref f)) (hk : PySem.W.keepIn X.K (.ref f) = true) (hb : Binds X.K fd ps [])
    (hΓ : Γ[i]? = some (.scr ns)) (hN : X.N[i]? = some y) (hv : Vis X.env.scope y) (ha : EL X W pa Γ es ml) (hdb : autoParam ((x == ("__debug__" : Str)) = false) EV.tac1)
    (he : autoParam (starEach (.Name y p2 :: es) X.env = (false, eval (.Name y p2) X.env) :: starEach es X.env) EV.tac2) (hpl : autoParam ((backTo pos (starEach es X.env)).any (·.1) = false) EV.tac2)
    (hd : autoParam ((y == ("__debug__" : Str)) = false) EV.tac1) (hcd : autoParam ((y == ("__classdict__" : Str)) = false) EV.tac1) :
    EV X W pa Γ (.Call (.Name x p) (.Name y p2 :: es) [] pos) (ml >>= fun ds => run0 (F ns ds)) :=
  pe_imp (pe_callG C FG hg hm hk hb (pa_cons (pe_var hN hv hd hcd) ha he) hdb he hpl) fun σ H Q h_ => EV.ex4 h_ fun G0 H0 G s E P => by
    refine EV.el1_2 (E.scr i ns hΓ) fun a e2 h2 => ?_
    exact ⟨.ref a, e2, G0, H0, G, s, E, P.bind.imp fun G1 H1 ds s1 x1 p1 P1 vs r => ⟨a, ns, G1, vs, ds, rfl, ⟨x1.sub, x1.tk E.tk, x1.gt E.x.nt⟩, x1.g.seq h2, r, run0_len (ar ns) P1, pst_run0 p1 P1⟩⟩
noncomputable def withPen {α : Type} (ns : List Int) (m : PM α) : PM α := fun s => match m ns with
  | .ok a _ => .ok a s
  | .exc e => .exc e
  | .bad => .bad
noncomputable def noPen : List Sl → Bool
  | [] => true
  | .pen :: _ => false
  | _ :: r => noPen r
theorem noPen_get : ∀ {l : List Sl} {i : Nat}, noPen l = true → l[i]? ≠ some .pen
  | [], _, _, h => by simp at h
  | x :: r, 0, h, e => by
    simp at e
    subst e
    cases h
  | x :: r, i + 1, h, e => by
    simp at e
    refine noPen_get (l := r) ?_ e
    cases x <;> first | exact h | cases h
theorem Nv.toPen {K : PySem.W.Frag} {G0 H0 G H : Hp} {σ : L2.St} {s : List Int} (E : Nv K none G0 H0 G H σ Γ s) (i : Nat) {q : Addr} {ns : List Int} (hq : H q = some (.lst (ns.map V.int))) (gq : G q = none) (h0 : H0 q = none)
    (hn : ∀ (j : Nat) xs, Γ[j]? = some (.own xs) → σ[j]? ≠ some (some (.ref q))) : Nv K (some q) G0 H0 G H (σ.set i (some (.ref q))) (Γ.set i .pen) ns where
  len := by simp [E.len]
  val := fun j d e => by
    by_cases hj : i = j
    · subst hj
      have := (List.getElem?_eq_some_iff.mp e).1
      rw [List.getElem?_set_self (by simpa using this)] at e
      cases e
    · rw [List.getElem?_set_ne hj] at e ⊢
      exact E.val j d e
  own := fun j d e => by
    by_cases hj : i = j
    · subst hj
      have := (List.getElem?_eq_some_iff.mp e).1
      rw [List.getElem?_set_self (by simpa using this)] at e
      cases e
    · rw [List.getElem?_set_ne hj] at e ⊢
      obtain ⟨p, vs, h1, h2, h3, h4, h5, h6⟩ := E.own j d e
      exact ⟨p, vs, h1, h2, h3, h4, h5, fun z => by
        cases z
        exact hn j d e h1⟩
  inj := fun j l p xs ys e1 e2 => by
    have n1 : i ≠ j := fun hj => by
      subst hj
      have := (List.getElem?_eq_some_iff.mp e1).1
      rw [List.getElem?_set_self (by simpa using this)] at e1
      cases e1
    have n2 : i ≠ l := fun hj => by
      subst hj
      have := (List.getElem?_eq_some_iff.mp e2).1
      rw [List.getElem?_set_self (by simpa using this)] at e2
      cases e2
    rw [List.getElem?_set_ne n1] at e1 ⊢
    rw [List.getElem?_set_ne n2] at e2 ⊢
    exact E.inj j l p xs ys e1 e2
  pen := fun j e => by
    by_cases hj : i = j
    · subst hj
      have hi := (List.getElem?_eq_some_iff.mp e).1
      exact ⟨q, rfl, List.getElem?_set_self (by rw [← E.len]; simpa using hi)⟩
    · rw [List.getElem?_set_ne hj] at e
      obtain ⟨p, h, _⟩ := E.pen j e
      cases h
  scr := fun j d e => by
    by_cases hj : i = j
    · subst hj
      have := (List.getElem?_eq_some_iff.mp e).1
      rw [List.getElem?_set_self (by simpa using this)] at e
      cases e
    · rw [List.getElem?_set_ne hj] at e ⊢
      exact E.scr j d e
  ps := fun a e => by
    cases e
    exact ⟨gq, hq⟩
  ext := E.ext.any
  x := E.x.put i rfl
theorem Nv.unPen {K : PySem.W.Frag} {G0 H0 G H : Hp} {σ : L2.St} {s s' : List Int} {q : Addr} (E : Nv K (some q) G0 H0 G H σ Γ s) (h0 : H0 q = none) (hn : noPen Γ = true) : Nv K none G0 H0 G H σ Γ s' where
  len := E.len
  val := E.val
  own := fun j d e => by
    obtain ⟨p, vs, h1, h2, h3, h4, h5, h6⟩ := E.own j d e
    exact ⟨p, vs, h1, h2, h3, h4, h5, fun z => by cases z⟩
  inj := E.inj
  pen := fun j e => absurd e (noPen_get hn)
  scr := E.scr
  ps := PenOk.none
  ext := ⟨E.ext.g, fun a o e _ nt => E.ext.h a o e (fun z => by
    cases z
    rw [h0] at e
    cases e) nt, E.ext.t, E.ext.n, E.ext.sub, E.ext.tk, E.ext.gt⟩
  x := E.x
theorem sv_penNew (i : Nat) {F : List D → PM (List Int)} {y : Str} {p0 : Pos} {e : Expr} {es : List Expr} {ml : PM (List D)} {kk : PM α} (C : Cok X W k) (FG : FnG X.prog X.w X.K X.mg X.base k f fd ps (spM X.K X.mg n F)) (ar : ∀ ds s, ds.length ≠ n → F ds s = .bad) (hg : Gl X x) (hm : X.mg x = some (.ref f)) (hk : PySem.W.keepIn X.K (.ref f) = true) (hb : Binds X.K fd ps [])
    (ha : EL X W none Γ (e :: es) ml) (hr : ∀ q, SV X W (some q) (Γ.set i .pen) out rest kk) (hnp : ∀ a, match out a with | .fall Γ' => noPen Γ' = true | .ret _ => True | _ => False)
    (hi : autoParam (X.N[i]? = some y) EV.tac2) (hx : autoParam (Loc X.env.scope y) EV.tac5) (hdb : autoParam ((x == ("__debug__" : Str)) = false) EV.tac1) (he : autoParam (starEach (e :: es) X.env = (false, eval e X.env) :: starEach es X.env) EV.tac2) (hpl : autoParam ((backTo pos (starEach es X.env)).any (·.1) = false) EV.tac2)
    {spos : Pos} (hs : autoParam (swapsWith (.Call (.Name x p) (e :: es) [] pos) (some (.Name y p0)) spos.line X.env = pure false) EV.tac2) (hf : autoParam (X.fn y = true ∨ X.env.scope.names.lookup y = some .local) EV.tac6) :
    SV X W none Γ out (.Assign [.Name y p0] (.Call (.Name x p) (e :: es) [] pos) spos :: rest) (ml >>= fun ds => run0 (F ds) >>= fun ns => withPen ns kk) := by
  unfold SV
  rw [bind_assoc]
  have hrest : PSs X rest (fun D σ H => ∃ q, svT X W (some q) (Γ.set i .pen) (kk >>= fun a => pure (out a)) D σ H) := pss_ex hr
  refine pss_imp (pss_cons (ps_set (i := i) C.nd hi hx (pe_callG C FG hg hm hk hb ha hdb he hpl) hs hf) hrest) fun Dn σ H h_ => EV.ex4 h_ fun G0 H0 G s E P => ⟨G0, H0, G, s, E, (P.bind E).imp fun G1 H1 ds s1 x1 p1 P1 vs r => ?_⟩
  have E1 := E.step x1 p1
  rw [bind_assoc, PM.bind_def] at P1
  unfold run0 at P1
  have hlen : ds.length = n := by
    by_cases h : ds.length = n
    · exact h
    · rw [ar ds [] h] at P1
      exact P1.elim
  refine ⟨G1, ds, ⟨x1.sub, x1.tk E.tk, x1.gt E.x.nt⟩, r, hlen, ?_⟩
  cases q : F ds [] with
  | exc z =>
    rw [q] at P1
    exact fun cls dx G' H' y q' => P1 cls dx σ G' H' (E1.ext.trans y) q'
  | bad => rw [q] at P1; exact P1.elim
  | ok ns s2 =>
    rw [q] at P1
    have P1 : SPost X.K W X.mg none G0 H0 Dn ((withPen ns kk >>= fun a => pure (out a)) s1) := P1
    intro G' H' y yp p' np hp' gp'
    have E2 := E1.step (s' := s1) y PenOk.none
    have h0 : H0 p' = none := by
      cases z : H0 p' with
      | none => rfl
      | some o =>
        obtain ⟨o', z'⟩ := E1.ext.t p' o z
        rw [np] at z'
        cases z'
    have E3 := E2.toPen i hp' gp' h0 (fun j xs e z => by
      obtain ⟨p2, vs2, h1, h2, _⟩ := E1.own j xs e
      rw [z] at h1
      cases h1
      rw [np] at h2
      cases h2)
    refine ⟨p', G0, H0, G', ns, E3, ?_⟩
    rw [PM.bind_def] at P1 ⊢
    unfold withPen at P1
    cases e5 : kk ns with
    | exc z => rw [e5] at P1; exact fun cls dx σ' G' H' w q => P1 cls dx σ' G' H' ⟨w.g, fun a o e _ nt => w.h a o e (fun z => by
        cases z
        rw [h0] at e
        cases e) nt, w.t, w.n, w.sub, w.tk, w.gt⟩ q
    | bad => rw [e5] at P1; exact P1.elim
    | ok a s3 =>
      rw [e5] at P1
      have P1 : SPost X.K W X.mg none G0 H0 Dn (.ok (out a) s1) := P1
      show SPost X.K W X.mg (some p') G0 H0 Dn (.ok (out a) s3)
      have cv : ∀ G' H', Ext X.K (some p') G0 H0 G' H' → Ext X.K none G0 H0 G' H' := fun G' H' w => ⟨w.g, fun a o e _ nt => w.h a o e (fun z => by
        cases z
        rw [h0] at e
        cases e) nt, w.t, w.n, w.sub, w.tk, w.gt⟩
      have hnpa := hnp a
      cases e6 : out a with
      | fall Γ' =>
        rw [e6] at P1 hnpa
        exact fun σ' G' H' E' => P1 σ' G' H' (E'.unPen h0 hnpa)
      | ret d => rw [e6] at P1; exact fun v G' H' w _ r => P1 v G' H' (cv _ _ w) PenOk.none r
      | brk Γ' => rw [e6] at hnpa; exact hnpa.elim
      | cnt Γ' => rw [e6] at hnpa; exact hnpa.elim
      | retG d Γ' => rw [e6] at hnpa; exact hnpa.elim
noncomputable def two {β : Type} (kk : D → D → PM β) : List D → PM β
  | [a, b] => kk a b
  | _ => bad
noncomputable def unp2 {β : Type} (kk : D → D → PM β) (d : D) : PM β := match dec2 d with
  | some z => kk z.1 z.2
  | none => bad
/-- a, b = e1, e2, plain locals -/
theorem sv_par (i j : Nat) {y z : Str} {a b : Expr} {px py pt : Pos} {kt k2 pt2} {ml : PM (List D)} {kk : D → D → PM α} (hc : X.calm = true) (hN : X.N.Nodup) (ha : EL X W pa Γ [a, b] ml) (hij : i ≠ j)
    (hr : ∀ u v, SV X W pa ((Γ.set i (.val u)).set j (.val v)) out rest (kk u v)) (hi : autoParam (X.N[i]? = some y) EV.tac2) (hj : autoParam (X.N[j]? = some z) EV.tac2)
    (hx : autoParam (X.env.scope.names.lookup y = some .local) EV.tac2) (hy : autoParam (X.env.scope.names.lookup z = some .local) EV.tac2)
    (hw : autoParam (swappedStores [.Tuple [.Name y px, .Name z py] kt pt] (.Tuple [a, b] k2 pt2) X.env = pure (some [y, z])) EV.tac2)
    (hs : autoParam (swapsWithSole [.Tuple [.Name y px, .Name z py] kt pt] (.Tuple [a, b] k2 pt2) pos.line X.env = pure false) EV.tac2) :
    SV X W pa Γ out (.Assign [.Tuple [.Name y px, .Name z py] kt pt] (.Tuple [a, b] k2 pt2) pos :: rest) (ml >>= two kk) := by
  unfold SV
  rw [bind_assoc]
  have hrest : PSs X rest (fun D σ H => ∃ q : EV.D × EV.D, svT X W pa ((Γ.set i (.val q.1)).set j (.val q.2)) (kk q.1 q.2 >>= fun a => pure (out a)) D σ H) := pss_ex (ι := EV.D × EV.D) fun q => hr q.1 q.2
  refine pss_imp (pss_cons (ps_par (i := i) (j := j) hc hN hi hj hij hx hy ha hw hs) hrest) fun Dn σ H h_ => EV.ex4 h_ fun G0 H0 G s E P => ⟨G0, H0, G, s, E, (P.bind E).imp fun G1 H1 ds s1 x1 p1 P1 vs r => ?_⟩
  match ds, r, P1 with
  | [u, v], r, P1 =>
    (refine EV.el2_2 (rp2 r) fun v1 v2 q93_ q94_ => ?_; obtain rfl := q93_; (refine EV.el0_2 q94_ ?_; try clear q94_; intro r1 r2))
    exact ⟨v1, v2, rfl, (u, v), G0, H0, G1, s1, ((E.step x1 p1).set i r1).set j r2, P1⟩
  | [], _, P1 => exact P1.elim
  | [_], _, P1 => exact P1.elim
  | _ :: _ :: _ :: _, _, P1 => exact P1.elim
end
theorem law_end {l : PySem.W.OpenLaw} {n k : Nat} {q : Program} {loose : List Str} {XP : (Str → Option Value) → Heap → Prop} {YP : World → Heap → Prop} {d : DefRec} {K : Params → PySem.W.Frag} {x : Str} {F : List Int → List D → PM D} (cs : List (Addr × Addr))
    (hn : l.most = some n) (hn2 : n ≤ sizeLine) (hdf : d.params.defaults = []) (hr : Room k callerA) (hY : ∀ (w : World) (h : Heap), YP w h → (K w.params).In h) (hT : ∀ (w : World) (h : Heap), YP w h → ∀ p ∈ cs, h.get? p.2 = some { cls := .none, data := .fields #[] })
    (hC : ∀ (w : World) (h : Heap), (K w.params).In h → ∀ p ∈ cs, PySem.W.CodeHd h p.1 p.2) (nT : ∀ w : World, ∀ p ∈ cs, (K w.params).lookup p.2 = none) (hN : ∀ (w : World) (P : Addr), NeedT (K w.params) P → ∃ p ∈ cs, p.2 = P)
    (hF : ∀ (w : World) (mg : Str → Option Value) (fa : Addr) (h : Heap), (K w.params).In h → h.Ns mainGlobals mg → mg d.name = some (.ref fa) →
      ∃ fd : FuncData, (∀ (s : Shared) (u : Value), BindsTo s fd ⟨[u], []⟩ [(x, u)]) ∧ ∀ base : Heap, (K w.params).In base → base.Ns mainGlobals mg → (∀ p ∈ cs, LamX.TabB base mg p.1 p.2) → FnG l.prog w (K w.params) mg base k fa fd [x] (spS (K w.params) mg 0 F))
    (hlaw : ∀ ns : List Int, ns.length ≤ n → ∃ s, F ns [] [] = .ok (.bl true) s) :
    PySem.W.WalkO q loose XP YP l.row.toRowW d [] (fun f vs => PySem.call f vs) := by
  refine Att.attach_call hn hdf fun w s₀ s₁ mg mb fa o pm cd doc a vs ns G Y ho hd hcd hmg hobj hints hlen hg => ?_
  have KX := hY w _ Y
  have tabs := hT w _ Y
  have heads := hC w _ KX
  refine EV.el1_2 (hF w mg fa _ KX G.T.g hmg) fun fd hb hFF => ?_
  have rv := vals_ints hints
  have lenV := hints.length
  have lz : ns.length ≤ sizeLine := Nat.le_trans hlen hn2
  have aNo : ∀ p ∈ cs, p.2 ≠ a := fun p hp z => by
    have q := tabs p hp
    rw [z, hobj] at q
    cases (show Data.seq vs.toArray _ = Data.fields #[] from congrArg Obj.data (Option.some.inj q))
  have core : ∀ G0 H : Hp, Same G0 H → NoT G0 → (∀ p ∈ cs, H p.2 = some (.tbl #[])) → (∀ b, H b = none ∨ (H b = some (.tbl #[]) ∧ ∃ p ∈ cs, p.2 = b) ∨ ∃ oz xs, H b = some (.frz oz (.lst xs))) → SqL (K w.params) G0 a (ns.map V.int) → HOk l.prog w H s₁.heap →
      (∀ b, H b ≠ none → b = a ∨ ∃ p ∈ cs, p.2 = b) → (H a ≠ none → (K w.params).lookup a = none) →
      codeAny (model l.prog w) callerA (.call (.ref fa) ⟨[.ref a], []⟩) (fun r s' => r = .ok (.ret (.bool true)) ∧ OldK s₁.heap s'.heap ∧ s'.os = s₁.os ∧ AllBare s'.gens) s₁ := by
    intro G0 H hGH hG0 hTb hO hS hok hA hK
    have offT : ∀ {b : Addr} {ob : Obj}, s₁.heap.get? b = some ob → (∀ us n, ob.data ≠ .seq us n) → ob.data ≠ .fields #[] → H b = none := by
      intro b ob e ne1 ne2
      refine Classical.byContradiction fun q => ?_
      rcases hA b q with e' | ⟨p, hp, e'⟩
      · subst e'
        rw [hobj] at e
        obtain rfl := Option.some.inj e
        exact ne1 _ _ rfl
      · subst e'
        rw [tabs p hp] at e
        obtain rfl := Option.some.inj e
        exact ne2 rfl
    have nodict : ∀ {b : Addr} {ob : Obj} {es : Array DictEntry} {ep : Nat}, s₁.heap.get? b = some ob → ob.data = .dict es ep → H b = none := fun {b ob es ep} e dd =>
      offT e (fun us n z => by rw [dd] at z; cases z) fun z => by rw [dd] at z; cases z
    have nsK : ∀ {b : Addr} {m : Str → Option Value}, s₁.heap.Ns b m → (hidT s₁.heap H).Ns b m := by
      intro b m hm
      (refine EV.el3_3 hm ?_; try clear hm; intro ob es ep e dd r)
      exact EV.in3_3 ob es ep (hidT_get e (nodict e dd)) dd r
    have hKb : (K w.params).In (hidT s₁.heap H) := by
      intro b ob e
      refine hidT_get (KX b ob e) ?_
      refine Classical.byContradiction fun q => ?_
      rcases hA b q with e' | ⟨p, hp, e'⟩
      · subst e'
        rw [hK q] at e
        exact EV.nnS e
      · subst e'
        rw [nT w p hp] at e
        exact EV.nnS e
    have hM : Mod (K w.params) mg (hidT s₁.heap H) := by
      refine EV.el1_2 (G.T.nolimit) fun mc l1 l2 => ?_
      exact ⟨hKb, nsK G.T.g, ⟨mb, nsK G.T.b, G.T.builtins⟩, mc, nsK l1, l2⟩
    have hTB : ∀ p ∈ cs, LamX.TabB (hidT s₁.heap H) mg p.1 p.2 := by
      intro p hp
      refine EV.el3_3 (G.T.g) fun gm ges gep ge gd _ => ?_
      refine ⟨?_, ?_, fun z => ?_⟩
      · (refine EV.el4_1 (heads p hp) fun co us fi tf q95_ => ?_; refine EV.el4_1 q95_ ?_; try clear q95_; intro fl tg inF tx q96_; refine EV.el1_5 q96_ ?_; try clear q96_; intro tt c1 c2 c3 c4 rest)
        refine ⟨co, us, fi, tf, fl, tg, inF, tx, tt, hidT_get c1 (offT c1 (fun us' n z => ?_) fun z => ?_), c2, c3, c4, rest⟩ <;> rw [c3] at z <;> cases z
        exact EV.nnS c4
      · refine EV.el2_6 (G.T.bmain) fun bm ob b1 b2 b3 b4 b5 b6 => ?_
        refine ⟨bm, ob, b1, b2, fun z => ?_, fun z => ?_, hidT_get b3 (offT b3 (fun us' n z => ?_) fun z => ?_), b4, b5, b6⟩
        · rw [z, ge] at b3
          obtain rfl := Option.some.inj b3
          rw [gd] at b6
          cases b6
        · rw [z, tabs p hp] at b3
          obtain rfl := Option.some.inj b3
          cases b6
        · rw [b6] at z
          cases z
        · rw [b6] at z
          cases z
      · rw [z, tabs p hp] at ge
        obtain rfl := Option.some.inj ge
        cases gd
    have nil0 : ∀ b : Addr, b ∉ frs [] := fun b hb => absurd (show b ∈ ([] : List Addr) from hb) (by simp)
    have e0 : Env0 l.prog w (K w.params) mg (hidT s₁.heap H) callerA [] s₁ H :=
      ⟨rfl, hM, fun b ob e => of_hidT e, Nat.le_of_eq (hidT_size _ _), trivial, fun b hb => absurd hb (nil0 b), hok, .of_eq hg⟩
    refine EV.el1_1 (hlaw ns hlen) fun sf hlf => ?_
    have tk1 : ∀ P ps, H P = some (.tbl ps) → LamX.TabS H P (tauK (K w.params) P) := fun P ps e => by
      rcases hO P with z | ⟨z, _⟩ | ⟨oz, xs, z⟩
      · rw [z] at e
        exact EV.nnS e
      · exact LamX.TabS.nil z
      · rw [z] at e
        cases e
    have tk : TabK (K w.params) H := ⟨tk1, fun P nd => by
      refine EV.el1_2 (hN w P nd) fun p hp e => ?_
      rw [← e]
      exact ⟨_, hTb p hp⟩⟩
    have hsp : spS (K w.params) mg 0 F [.ref a] H (fun v _ => v = .bl true) (fun _ _ _ => False) := by
      refine ⟨a, ns, G0, [], [], rfl, ⟨hGH, tk, hG0⟩, hS, .nil, rfl, ?_⟩
      rw [hlf]
      intro G' H' _ _ v rr
      cases rr
      rfl
    refine codeAny_mono ((hFF _ hKb (nsK G.T.g) hTB).run callerA [] s₁ H ⟨[.ref a], []⟩ [.ref a] [.ref a] _ _ (fun _ => rfl) hr e0 (hb s₁ (.ref a)) (.cons rfl .nil) hsp) fun r s' h => ?_
    cases r with
    | error e =>
      (refine EV.el4_1 h ?_; try clear h; intro _ _ _ _ q97_; refine EV.el1_4 q97_ ?_; try clear q97_; intro _ _ _ _ q98_; refine EV.el0_5 q98_ ?_; try clear q98_; intro _ _ _ _ z)
      exact z.elim
    | ok fl =>
      cases fl with
      | next => exact h.elim
      | brk => exact h.elim
      | cont => exact h.elim
      | ret u =>
        (refine EV.el2_6 h ?_; try clear h; intro v H' os bare un hok' r' q')
        have q' : v = .bl true := q'
        subst q'
        obtain rfl : u = Value.bool true := r'
        have each : ∀ b ob, s₁.heap.get? b = some ob → s'.heap.get? b = some ob ∨ ∃ p ∈ cs, p.2 = b ∧ ∃ more, s'.heap.get? b = some { cls := .none, data := .fields more } := fun b ob e => by
          rcases hO b with z | ⟨z, p, hp, ep⟩ | ⟨oz, xs, z⟩
          · exact .inl (un.keep b ob e z (nil0 b) (by simp))
          · refine EV.el1_1 (un.tbls b #[] z) fun more z2 => ?_
            exact .inr ⟨p, hp, ep, _, hok' b _ z2⟩
          · have z2 := un.frzs b oz _ z
            refine EV.el0_2 (hok b _ z) fun e1 _ => ?_
            refine EV.el0_2 (hok' b _ z2) fun e2 _ => ?_
            rw [e] at e1
            obtain rfl := Option.some.inj e1
            exact .inl e2
        refine ⟨rfl, ⟨fun b ob e => ?_, fun b ob e => ?_⟩, os, bare⟩
        · rcases each b ob e with z | ⟨p, hp, rfl, more, z⟩
          · exact .inl z
          · have e1 := tabs p hp
            rw [e1] at e
            obtain rfl := Option.some.inj e
            exact .inr (.inl ⟨((heads p hp).tab e1).isCodeTable, rfl, #[], more, rfl, by rw [Array.empty_append]; exact z⟩)
        · rcases each b ob e with z | ⟨p, hp, rfl, more, z⟩
          · exact EV.in1_1 _ z
          · exact EV.in1_1 _ z
  have laid : ∀ G0 : Hp, (∀ b, G0 b = none ∨ (b = a ∧ G0 b = some (.frz { cls := .type "list", data := .seq vs.toArray } (.lst (ns.map V.int))))) → SqL (K w.params) G0 a (ns.map V.int) → (G0 a ≠ none → (K w.params).lookup a = none) →
      codeAny (model l.prog w) callerA (.call (.ref fa) ⟨[.ref a], []⟩) (fun r s' => r = .ok (.ret (.bool true)) ∧ OldK s₁.heap s'.heap ∧ s'.os = s₁.os ∧ AllBare s'.gens) s₁ := by
    intro G0 h0 hS hK
    have inT : ∀ {b : Addr}, b ∈ cs.map (·.2) → ∃ p ∈ cs, p.2 = b := fun {b} m => by
      refine EV.el1_2 (List.mem_map.mp m) fun p hp e => ?_
      exact EV.in1_2 p hp e
    have aT : a ∉ cs.map (·.2) := fun m => by
      refine EV.el1_2 (inT m) fun p hp e => ?_
      exact aNo p hp e
    refine core G0 (fun b => if b ∈ cs.map (·.2) then some (.tbl #[]) else G0 b) (fun b u e => ?_) (fun P ps e => ?_) (fun p hp => if_pos (List.mem_map.mpr ⟨p, hp, rfl⟩)) (fun b => ?_) hS (fun b u e => ?_) (fun b z => ?_) fun z => hK (by rwa [if_neg aT] at z)
    · rcases h0 b with z | ⟨rfl, _⟩
      · rw [z] at e
        exact EV.nnS e
      · exact (if_neg aT).trans e
    · rcases h0 P with z | ⟨_, z⟩ <;> rw [z] at e <;> cases e
    · by_cases m : b ∈ cs.map (·.2)
      · exact .inr (.inl ⟨if_pos m, inT m⟩)
      · rcases h0 b with z | ⟨_, z⟩
        · exact .inl ((if_neg m).trans z)
        · exact .inr (.inr ⟨_, _, (if_neg m).trans z⟩)
    · by_cases m : b ∈ cs.map (·.2)
      · cases (if_pos m).symm.trans e
        (refine EV.el1_2 (inT m) fun p hp q99_ => ?_; obtain rfl := q99_)
        exact tabs p hp
      · have e := (if_neg m).symm.trans e
        rcases h0 b with z | ⟨rfl, z⟩
        · rw [z] at e
          exact EV.nnS e
        · rw [z] at e
          obtain rfl := Option.some.inj e
          exact ⟨hobj, by rw [List.length_map]; exact lz, vs, _, rv, hobj⟩
    · by_cases m : b ∈ cs.map (·.2)
      · exact .inr (inT m)
      · rcases h0 b with y | ⟨y, _⟩
        · exact absurd ((if_neg m).trans y) z
        · exact .inl y
  cases hk : (K w.params).lookup a with
  | some ok =>
    have e := KX a ok hk
    rw [hobj] at e
    obtain rfl := Option.some.inj e
    refine laid (fun _ => none) (fun _ => .inl rfl) (.inr ⟨_, vs.toArray, _, hk, rfl, rfl, rfl, ?_, ?_⟩) fun z => absurd rfl z
    · rw [List.size_toArray, lenV]
      exact lz
    · simpa using rv
  | none =>
    refine laid (fun b => if b = a then some (.frz { cls := .type "list", data := .seq vs.toArray } (.lst (ns.map V.int))) else none) (fun b => ?_) (.inl (.inr ⟨{ cls := .type "list", data := .seq vs.toArray }, if_pos rfl⟩)) fun _ => hk
    by_cases hb : b = a
    · exact .inr ⟨hb, if_pos hb⟩
    · exact .inl (if_neg hb)
end EV
namespace EV
open PySem PySem.Spec PyProof.Rows L2
section
variable {X : Cx} {W : WX} {pa : Option Addr} {Γ : List Sl} {k : Nat} {pos : Pos}
theorem vv (i : Nat) {x : Str} {d : D} (hΓ : autoParam (Γ[i]? = some (.val d)) EV.tac2) (hN : autoParam (X.N[i]? = some x) EV.tac2) (hv : autoParam (Vis X.env.scope x) EV.tac7)
    (hd : autoParam ((x == ("__debug__" : Str)) = false) EV.tac1) (hcd : autoParam ((x == ("__classdict__" : Str)) = false) EV.tac1) : EV X W pa Γ (.Name x pos) (pure d) := ev_var hΓ hN hv hd hcd
/-- a def of the text that keeps its promise -/
structure Cal (P : Program) (w : World) (K : PySem.W.Frag) (mg : Str → Option Value) (base : Heap) (k : Nat) (x : Str) (ps : List Str) (sp : Sp) : Prop where
  ex : ∃ f fd, FnG P w K mg base k f fd ps sp ∧ mg x = some (.ref f) ∧ PySem.W.keepIn K (.ref f) = true ∧ Binds K fd ps []
theorem Cal.mono {P : Program} {w : World} {K : PySem.W.Frag} {mg : Str → Option Value} {base : Heap} {j k : Nat} {x : Str} {ps : List Str} {sp : Sp} (F : Cal P w K mg base j x ps sp) (h : j ≤ k) : Cal P w K mg base k x ps sp := by
  refine EV.el2_4 (F.ex) fun f fd h1 h2 h3 h4 => ?_
  exact ⟨f, fd, h1.mono h, h2, h3, h4⟩
structure FunAt (K : PySem.W.Frag) (mg : Str → Option Value) (x : Str) (st : Stmt) : Prop where
  ex : ∃ f fd, Fun K x x st f fd ∧ mg x = some (.ref f)
theorem call {x : Str} {p : Pos} {n : Nat} {F : List D → PM D} {ps : List Str} {j : Nat} {e : Expr} {es : List Expr} {ml : PM (List D)} (C : Cok X W k) (FC : Cal X.prog X.w X.K X.mg X.base j x ps (spF X.K X.mg false n F)) (ar : Arity n F)
    (ha : EL X W pa Γ (e :: es) ml) (hj : autoParam (j ≤ k) EV.tac1) (hg : autoParam (Gl X x) EV.tac2) (hdb : autoParam ((x == ("__debug__" : Str)) = false) EV.tac1) (he : autoParam (starEach (e :: es) X.env = (false, eval e X.env) :: starEach es X.env) EV.tac2) (hpl : autoParam ((backTo pos (starEach es X.env)).any (·.1) = false) EV.tac2) :
    EV X W pa Γ (.Call (.Name x p) (e :: es) [] pos) (ml >>= fun ds => run0 (F ds)) := by
  refine EV.el2_4 (FC.ex) fun f fd h1 h2 h3 h4 => ?_
  exact ev_call C (h1.mono hj) ar hg h2 h3 h4 ha hdb he hpl
theorem callN {x : Str} {p : Pos} {n : Nat} {F : List D → PM D} {ps : List Str} {j : Nat} (C : Cok X W k) (FC : Cal X.prog X.w X.K X.mg X.base j x ps (spF X.K X.mg false n F)) (ar : Arity n F)
    (hj : autoParam (j ≤ k) EV.tac1) (hg : autoParam (Gl X x) EV.tac2) (hdb : autoParam ((x == ("__debug__" : Str)) = false) EV.tac1) : EV X W pa Γ (.Call (.Name x p) [] [] pos) (run0 (F [])) := by
  obtain ⟨f, fd, h1, h2, h3, h4⟩ := FC.ex
  exact ev_call0 C (h1.mono hj) ar hg h2 h3 h4 hdb
theorem callP (i : Nat) {q : Addr} {x y : Str} {p p2 : Pos} {n : Nat} {F : List D → PM D} {ps : List Str} {j : Nat} {es : List Expr} {ml : PM (List D)} (C : Cok X W k) (FC : Cal X.prog X.w X.K X.mg X.base j x ps (spF X.K X.mg true n F)) (ar : Arity n F)
    (ha : EL X W (some q) Γ es ml) (hj : autoParam (j ≤ k) EV.tac1) (hΓ : autoParam (Γ[i]? = some .pen) EV.tac2) (hN : autoParam (X.N[i]? = some y) EV.tac2) (hv : autoParam (Vis X.env.scope y) EV.tac7) (hg : autoParam (Gl X x) EV.tac2) (hdb : autoParam ((x == ("__debug__" : Str)) = false) EV.tac1)
    (he : autoParam (starEach (.Name y p2 :: es) X.env = (false, eval (.Name y p2) X.env) :: starEach es X.env) EV.tac2) (hpl : autoParam ((backTo pos (starEach es X.env)).any (·.1) = false) EV.tac2)
    (hd : autoParam ((y == ("__debug__" : Str)) = false) EV.tac1) (hcd : autoParam ((y == ("__classdict__" : Str)) = false) EV.tac1) :
    EV X W (some q) Γ (.Call (.Name x p) (.Name y p2 :: es) [] pos) (ml >>= F) := by
  obtain ⟨f, fd, h1, h2, h3, h4⟩ := FC.ex
  exact ev_callP C (h1.mono hj) ar hg h2 h3 h4 hΓ hN hv ha hdb he hpl hd hcd
theorem callS (i : Nat) {x y : Str} {ns : List Int} {p p2 : Pos} {n : Nat} {F : List Int → List D → PM D} {ps : List Str} {j : Nat} {es : List Expr} {ml : PM (List D)} (C : Cok X W k) (FC : Cal X.prog X.w X.K X.mg X.base j x ps (spS X.K X.mg n F)) (ar : ∀ ns, Arity n (F ns))
    (ha : EL X W pa Γ es ml) (hj : autoParam (j ≤ k) EV.tac1) (hΓ : autoParam (Γ[i]? = some (.scr ns)) EV.tac2) (hN : autoParam (X.N[i]? = some y) EV.tac2) (hv : autoParam (Vis X.env.scope y) EV.tac7) (hg : autoParam (Gl X x) EV.tac2) (hdb : autoParam ((x == ("__debug__" : Str)) = false) EV.tac1)
    (he : autoParam (starEach (.Name y p2 :: es) X.env = (false, eval (.Name y p2) X.env) :: starEach es X.env) EV.tac2) (hpl : autoParam ((backTo pos (starEach es X.env)).any (·.1) = false) EV.tac2)
    (hd : autoParam ((y == ("__debug__" : Str)) = false) EV.tac1) (hcd : autoParam ((y == ("__classdict__" : Str)) = false) EV.tac1) :
    EV X W pa Γ (.Call (.Name x p) (.Name y p2 :: es) [] pos) (ml >>= fun ds => run0 (F ns ds)) := by
  refine EV.el2_4 (FC.ex) fun f fd h1 h2 h3 h4 => ?_
  exact ev_callS C (h1.mono hj) ar hg h2 h3 h4 hΓ hN hv ha hdb he hpl hd hcd
theorem pget (i : Nat) {q : Addr} {y : Str} {b : Expr} {p2 : Pos} {mb : PM D} (hb : EV X W (some q) Γ b mb) (hs : PlainIx b) (hΓ : autoParam (Γ[i]? = some .pen) EV.tac2) (hN : autoParam (X.N[i]? = some y) EV.tac2) (hv : autoParam (Vis X.env.scope y) EV.tac7) (hd : autoParam ((y == ("__debug__" : Str)) = false) EV.tac1) (hcd : autoParam ((y == ("__classdict__" : Str)) = false) EV.tac1) :
    EV X W (some q) Γ (.Subscript (.Name y p2) b pos) (mb >>= penGet) := ev_pen hΓ hN hv hb hs hd hcd
theorem sget (i : Nat) {y : Str} {ns : List Int} {b : Expr} {p2 : Pos} {mb : PM D} (hb : EV X W pa Γ b mb) (hs : PlainIx b) (hΓ : autoParam (Γ[i]? = some (.scr ns)) EV.tac2) (hN : autoParam (X.N[i]? = some y) EV.tac2) (hv : autoParam (Vis X.env.scope y) EV.tac7) (hd : autoParam ((y == ("__debug__" : Str)) = false) EV.tac1) (hcd : autoParam ((y == ("__classdict__" : Str)) = false) EV.tac1) :
    EV X W pa Γ (.Subscript (.Name y p2) b pos) (mb >>= scrGet ns) := ev_scr hΓ hN hv hb hs hd hcd
theorem slen (i : Nat) {y : Str} {ns : List Int} {p p2 : Pos} (hm : X.mg "len" = none) (hg : autoParam (Gl X "len") EV.tac2) (hΓ : autoParam (Γ[i]? = some (.scr ns)) EV.tac2) (hN : autoParam (X.N[i]? = some y) EV.tac2) (hv : autoParam (Vis X.env.scope y) EV.tac7)
    (hs : autoParam (starEach [.Name y p2] X.env = (false, eval (.Name y p2) X.env) :: starEach [] X.env) EV.tac2) (hpl : autoParam ((backTo pos (starEach [] X.env)).any (·.1) = false) EV.tac2) (hd : autoParam ((y == ("__debug__" : Str)) = false) EV.tac1) (hcd : autoParam ((y == ("__classdict__" : Str)) = false) EV.tac1) :
    EV X W pa Γ (.Call (.Name "len" p) [.Name y p2] [] pos) (pure (.int ns.length)) := ev_lenScr hg hm hΓ hN hv hs hpl hd hcd
noncomputable def negD : D → PM D
  | .int i => pure (.int (-i))
  | _ => bad
theorem ev_neg {e : Expr} {m : PM D} (h : EV X W pa Γ e m) : EV X W pa Γ (.UnaryOp .USub e pos) (m >>= negD) := pe_imp (pe_un un_neg h) fun σ H Q h_ => EV.ex4 h_ fun G0 H0 G s E P => ⟨G0, H0, G, s, E, P.bind.imp fun G1 H1 d s1 x1 p1 P1 v r => by
  cases r with
  | int i => exact EV.in1_2 i rfl (P1.now x1.sub p1 _ (.int _))
  | _ => exact P1.elim⟩
theorem eb_chain {op op' : CmpOp} {g g' : D → D → PM D} {a b c : Expr} {ma mb mc : PM D} (ho : OpD X (compareOp op) g) (ho' : OpD X (compareOp op') g') (ha : EV X W pa Γ a ma) (hb : EV X W pa Γ b mb) (hc : EV X W pa Γ c mc)
    (hm : autoParam (lastMarks [op, op'] [b, c] = false) EV.tac4) : EB X W pa Γ (.Compare a [op, op'] [b, c] pos) (ma >>= fun x => mb >>= fun y => g x y >>= fun r => asB r >>= fun t => if t = true then mc >>= fun z => g' y z >>= asB else pure false) := by
  (refine EV.el1_2 ho ?_; try clear ho; intro r h1 h2)
  (refine EV.el1_2 ho' ?_; try clear ho'; intro r' h1' h2')
  refine pt_imp (pt_chain h1 h1' ha hb hc hm) fun σ H Q h_ => EV.ex4 h_ fun G0 H0 G s E P =>
    ⟨G0, H0, G, s, E, P.bind.imp fun G1 H1 a s1 x1 p1 P1 v rv => ⟨G0, H0, G1, s1, E.step x1 p1, P1.bind.imp fun G2 H2 b s2 x2 p2 P2 w rw => ?_⟩⟩
  refine h2 W pa σ G2 H2 s2 v w a b _ x2.sub p2 (rv.mono x2.g) rw (P2.bind.imp fun G3 H3 d s3 x3 p3 P3 u ru => ?_)
  cases ru with
  | bl t =>
    refine EV.in1_2 t rfl ?_
    have P4 := (P3.bind).now x3.sub p3
    cases t with
    | false =>
      have q : Q false H3 := P4.now x3.sub p3
      exact (show ∃ k, V.bl false = V.bl k ∧ Q k H3 from ⟨false, rfl, q⟩)
    | true =>
      refine (show evT X W pa Γ mc σ H3 _ from ⟨G0, H0, G3, s3, ((E.step x1 p1).step x2 p2).step x3 p3, (P4.bind : Pst X.K W X.mg pa σ _ G3 H3 (mc s3)).imp fun G5 H5 z s5 x5 p5 P5 u' ru' => ?_⟩)
      refine h2' W pa σ G5 H5 s5 w u' b z _ x5.sub p5 (rw.mono (x3.g.trans x5.g)) ru' (P5.bind.imp fun G6 H6 d s6 x6 p6 P6 u2 ru2 => ?_)
      cases ru2 with
      | bl c => exact EV.in1_2 c rfl (P6.now x6.sub p6)
      | _ => exact P6.elim
  | _ => exact P3.elim
end
section
variable {X : Cx} {pos : Pos}
theorem pgn (i : Nat) {x : Str} (nd : X.N.Nodup) (hi : autoParam (X.N[i]? = some x) EV.tac2) (hx : autoParam (Loc X.env.scope x) EV.tac5) (hf : autoParam (X.fn x = true ∨ X.env.scope.names.lookup x = some .local) EV.tac6) : PG X (.Name x pos) (gName i) := pg_name nd hi hx hf
end
theorem wn : Weak [] [] := trivial
theorem wk {x : Sl} {xs ys : List Sl} (h : Weak xs ys) : Weak (x :: xs) (x :: ys) := ⟨.inr rfl, h⟩
theorem wj {x : Sl} {xs ys : List Sl} (h : Weak xs ys) : Weak (x :: xs) (.junk :: ys) := ⟨.inl rfl, h⟩
theorem out_ret (m : PM D) : m = (m >>= fun a => outD (Out.ret a)) := (bind_pure m).symm
/-- built-in names that the module leaves as they are -/
structure Bn (mg : Str → Option Value) : Prop where
  len : mg "len" = none
  tuple : mg "tuple" = none
  list : mg "list" = none
  sorted : mg "sorted" = none
  set : mg "set" = none
  range : mg "range" = none
  enumerate : mg "enumerate" = none
  zip : mg "zip" = none
  any : mg "any" = none
  all : mg "all" = none
  max : mg "max" = none
  min : mg "min" = none
  repr : mg "repr" = none
  isinstance : mg "isinstance" = none
  int : mg "int" = none
  bool : mg "bool" = none
  str : mg "str" = none
  dict : mg "dict" = none
theorem len0 {ds : List D} (h : ds.length = 0) : ds = [] := List.length_eq_zero_iff.mp h
theorem len1 {ds : List D} (h : ds.length = 1) : ∃ a, ds = [a] := List.length_eq_one_iff.mp h
theorem len2 {ds : List D} (h : ds.length = 2) : ∃ a b, ds = [a, b] := by
  match ds, h with
  | [a, b], _ => exact EV.in2_1 a b rfl
theorem len3 {ds : List D} (h : ds.length = 3) : ∃ a b c, ds = [a, b, c] := by
  match ds, h with
  | [a, b, c], _ => exact EV.in3_1 a b c rfl
theorem len4 {ds : List D} (h : ds.length = 4) : ∃ a b c d, ds = [a, b, c, d] := by
  match ds, h with
  | [a, b, c, d], _ => exact EV.in4_1 a b c d rfl
theorem len5 {ds : List D} (h : ds.length = 5) : ∃ a b c d e, ds = [a, b, c, d, e] := by
  match ds, h with
  | [a, b, c, d, e], _ => exact ⟨a, b, c, d, e, rfl⟩
section
variable {P : Program} {w : World} {K : PySem.W.Frag} {mg : Str → Option Value} {base : Heap} {x : Str} {st : Stmt} {N ps : List Str} {k n : Nat}
theorem mk_pure {F : List D → PM D} (FA : FunAt K mg x st) (S : FnScope N ps (defScope st)) (hps : ps.length = n)
    (hbd : ∀ (kV doc pm : Value) (an : Option Addr) (cdv ct : Value) (us : List Value), us.length = ps.length → bindArgs (PySem.W.fnOf x x (defArgs st) (defBody st) (defScope st) .none kV doc pm an cdv ct) ⟨us, []⟩ = pure (ps.zip us))
    (hb : ∀ (f : Addr) (cdv : Value) (A : Around) (outer : List PySem.Env) (s : Shared) (H : Hp) (E : XK), Cok (cxOf (L2.CX P w) P w K mg base N x (defScope st) f cdv A outer s H E) (fun cls d _ H => E cls d H) k → ∀ ds : List D, ds.length = n →
      ∃ (α : Type) (out : α → Out) (m : PM α), SV (cxOf (L2.CX P w) P w K mg base N x (defScope st) f cdv A outer s H E) (fun cls d _ H => E cls d H) none (slots0 N ds) out (defBody st) m ∧ F ds = (m >>= fun a => outD (out a))) :
    Cal P w K mg base (k + 1) x ps (spF K mg false n F) := by
  refine EV.el2_2 (FA.ex) fun f fd FU hm => ?_
  exact ⟨f, fd, fn_pure FU S hps (hb f), hm, FU.kp, FU.binds hbd⟩
theorem mk_pen {F : List D → PM D} (FA : FunAt K mg x st) (S : FnScope N ps (defScope st)) (hps : ps.length = n + 1)
    (hbd : ∀ (kV doc pm : Value) (an : Option Addr) (cdv ct : Value) (us : List Value), us.length = ps.length → bindArgs (PySem.W.fnOf x x (defArgs st) (defBody st) (defScope st) .none kV doc pm an cdv ct) ⟨us, []⟩ = pure (ps.zip us))
    (hb : ∀ (f : Addr) (cdv : Value) (A : Around) (outer : List PySem.Env) (s : Shared) (H : Hp) (E : XK), Cok (cxOf (L2.CX P w) P w K mg base N x (defScope st) f cdv A outer s H E) (fun cls d _ H => E cls d H) k → ∀ (q : Addr) (ds : List D), ds.length = n →
      ∃ (α : Type) (out : α → Out) (m : PM α), SV (cxOf (L2.CX P w) P w K mg base N x (defScope st) f cdv A outer s H E) (fun cls d _ H => E cls d H) (some q) (slotsP N ds) out (defBody st) m ∧ F ds = (m >>= fun a => outD (out a))) :
    Cal P w K mg base (k + 1) x ps (spF K mg true n F) := by
  obtain ⟨f, fd, FU, hm⟩ := FA.ex
  exact ⟨f, fd, fn_pen FU S hps (hb f), hm, FU.kp, FU.binds hbd⟩
theorem mk_scr {F : List Int → List D → PM D} (FA : FunAt K mg x st) (S : FnScope N ps (defScope st)) (hps : ps.length = n + 1)
    (hbd : ∀ (kV doc pm : Value) (an : Option Addr) (cdv ct : Value) (us : List Value), us.length = ps.length → bindArgs (PySem.W.fnOf x x (defArgs st) (defBody st) (defScope st) .none kV doc pm an cdv ct) ⟨us, []⟩ = pure (ps.zip us))
    (hb : ∀ (f : Addr) (cdv : Value) (A : Around) (outer : List PySem.Env) (s : Shared) (H : Hp) (E : XK), Cok (cxOf (L2.CX P w) P w K mg base N x (defScope st) f cdv A outer s H E) (fun cls d _ H => E cls d H) k → ∀ (ns : List Int) (ds : List D), ds.length = n →
      ∃ (α : Type) (out : α → Out) (m : PM α), SV (cxOf (L2.CX P w) P w K mg base N x (defScope st) f cdv A outer s H E) (fun cls d _ H => E cls d H) none (slotsS N ns ds) out (defBody st) m ∧ F ns ds = (m >>= fun a => outD (out a))) :
    Cal P w K mg base (k + 1) x ps (spS K mg n F) := by
  refine EV.el2_2 (FA.ex) fun f fd FU hm => ?_
  exact ⟨f, fd, fn_scr FU S hps (hb f), hm, FU.kp, FU.binds hbd⟩
theorem mk_mk {F : List D → PM (List Int)} {es : List Expr} {p1 p2 : Pos} (FA : FunAt K mg x st) (S : FnScope N ps (defScope st)) (hps : ps.length = n)
    (hbd : ∀ (kV doc pm : Value) (an : Option Addr) (cdv ct : Value) (us : List Value), us.length = ps.length → bindArgs (PySem.W.fnOf x x (defArgs st) (defBody st) (defScope st) .none kV doc pm an cdv ct) ⟨us, []⟩ = pure (ps.zip us)) (hst : defBody st = [.Return (some (.List es p1)) p2])
    (hb : ∀ (f : Addr) (cdv : Value) (A : Around) (outer : List PySem.Env) (s : Shared) (H : Hp) (E : XK), Cok (cxOf (L2.CX P w) P w K mg base N x (defScope st) f cdv A outer s H E) (fun cls d _ H => E cls d H) k → ∀ ds : List D, ds.length = n →
      ∃ m, EL (cxOf (L2.CX P w) P w K mg base N x (defScope st) f cdv A outer s H E) (fun cls d _ H => E cls d H) none (slots0 N ds) es m ∧ F ds = (m >>= asInts)) :
    Cal P w K mg base (k + 1) x ps (spM K mg n F) := by
  obtain ⟨f, fd, FU, hm⟩ := FA.ex
  exact ⟨f, fd, fn_mk FU S hps hst (hb f), hm, FU.kp, FU.binds hbd⟩
theorem sv_new {X : Cx} {W : WX} {Γ : List Sl} {pos : Pos} {α : Type} {out : α → Out} {rest : List Stmt} (i : Nat) {F : List D → PM (List Int)} {x y : Str} {p p0 : Pos} {e : Expr} {es : List Expr} {ml : PM (List D)} {kk : PM α} {j : Nat} (C : Cok X W k) (FC : Cal X.prog X.w X.K X.mg X.base j x ps (spM X.K X.mg n F)) (ar : ∀ ds s, ds.length ≠ n → F ds s = .bad)
    (ha : EL X W none Γ (e :: es) ml) (hnp : ∀ a, match out a with | .fall Γ' => noPen Γ' = true | .ret _ => True | _ => False) (hr : ∀ q, SV X W (some q) (Γ.set i .pen) out rest kk)
    (hj : autoParam (j ≤ k) EV.tac1) (hg : autoParam (Gl X x) EV.tac2) (hi : autoParam (X.N[i]? = some y) EV.tac2) (hx : autoParam (Loc X.env.scope y) EV.tac5) (hdb : autoParam ((x == ("__debug__" : Str)) = false) EV.tac1) (he : autoParam (starEach (e :: es) X.env = (false, eval e X.env) :: starEach es X.env) EV.tac2) (hpl : autoParam ((backTo pos (starEach es X.env)).any (·.1) = false) EV.tac2)
    {spos : Pos} (hs : autoParam (swapsWith (.Call (.Name x p) (e :: es) [] pos) (some (.Name y p0)) spos.line X.env = pure false) EV.tac2) (hf : autoParam (X.fn y = true ∨ X.env.scope.names.lookup y = some .local) EV.tac6) :
    SV X W none Γ out (.Assign [.Name y p0] (.Call (.Name x p) (e :: es) [] pos) spos :: rest) (ml >>= fun ds => run0 (F ds) >>= fun ns => withPen ns kk) := by
  obtain ⟨f, fd, h1, h2, h3, h4⟩ := FC.ex
  exact sv_penNew i C (h1.mono hj) ar hg h2 h3 h4 ha hr hnp hi hx hdb he hpl hs hf
end
noncomputable def mfn1 (g : D → PM (List Int)) : List D → PM (List Int)
  | [a] => g a
  | _ => bad
theorem mar1 {g} : ∀ ds s, ds.length ≠ 1 → mfn1 g ds s = .bad := fun ds s h => by
  match ds, h with
  | [_], h => exact absurd rfl h
  | [], _ => rfl
  | _ :: _ :: _, _ => rfl
structure DefF (K : PySem.W.Frag) (x : Str) (st : Stmt) : Prop where
  ex : ∃ f fd, Fun K x x st f fd ∧ PySem.W.nsIn K mainGlobals x = some (some (.ref f))
theorem defF {K : PySem.W.Frag} {x : Str} {st : Stmt} {f : Addr} {oc : Value} {od an : Option Addr} {osl : Array (Option Value)} {kV doc pm cdv ct : Value} (a : PySem.W.nsIn K mainGlobals x = some (some (.ref f)))
    (l : K.lookup f = some ⟨oc, od, .func (PySem.W.fnOf x x (defArgs st) (defBody st) (defScope st) .none kV doc pm an cdv ct), osl⟩) (c : PySem.W.codeIn K cdv x = true) (k : PySem.W.keepIn K (.ref f) = true) : DefF K x st := ⟨f, _, fun_mk l c k, a⟩
theorem DefF.at {K : PySem.W.Frag} {x : Str} {st : Stmt} {h : Heap} {mg : Str → Option Value} (X : K.In h) (G : h.Ns mainGlobals mg) (d : DefF K x st) : FunAt K mg x st := by
  refine EV.el2_2 (d.ex) fun f fd F a => ?_
  exact ⟨f, fd, F, PySem.W.mg_of X G a⟩
section
variable {X : Cx} {W : WX} {pa : Option Addr} {Γ : List Sl} {k : Nat} {pos : Pos} {α : Type} {out : α → Out} {rest : List Stmt}
theorem peekB (Γ' : List Sl) (i : Nat) {xs : List D} {e : Expr} {m : PM Bool} (h : Γ[i]? = some (.own xs)) (hG : Γ.set i (.val (.lst xs)) = Γ') (he : EB X W pa Γ' e m) : EB X W pa Γ e (noExc m) :=
  eb_peek i h (hG ▸ he)
theorem sv_ext (Γ' : List Sl) (i : Nat) {x : Str} {e : Expr} {xs : List D} {me : PM D} {kk : List D → PM α} {p1 apos cpos : Pos} (h : Γ[i]? = some (.own xs)) (hG : Γ.set i (.val (.lst xs)) = Γ') (he : EV X W pa Γ' e me) (hr : ∀ ys, SV X W pa (Γ.set i (.own (xs ++ ys))) out rest (kk ys))
    (hN : autoParam (X.N[i]? = some x) EV.tac2) (hv : autoParam (Vis X.env.scope x) EV.tac7) (hd : autoParam ((x == ("__debug__" : Str)) = false) EV.tac1) (hcd : autoParam ((x == ("__classdict__" : Str)) = false) EV.tac1)
    (hbase : autoParam (attributeBase (.Name x p1) "extend" X.env (eval (.Name x p1) X.env) = eval (.Name x p1) X.env) EV.tac2)
    (hfew : autoParam (((backTo cpos (starEach [e] X.env)).all (fun x => !x.1) && (backToKw cpos (keywordEach [] X.env)).all (fun x => x.1.isSome)
      && decide ([e].length + ([] : List Keyword).length + (if ([] : List Keyword).isEmpty then 0 else 1) < 30)) = true) EV.tac2)
    (hline : autoParam ((apos.endLine == cpos.line) = true) EV.tac2) (hs : autoParam (starEach [e] X.env = (false, eval e X.env) :: starEach [] X.env) EV.tac2) (hplain : autoParam ((backTo cpos (starEach [] X.env)).any (·.1) = false) EV.tac2)
    (hsw : autoParam (swapsWith (.Call (.Attribute (.Name x p1) "extend" apos) [e] [] cpos) none pos.line X.env = pure false) EV.tac2) :
    SV X W pa Γ out (.Expr (.Call (.Attribute (.Name x p1) "extend" apos) [e] [] cpos) pos :: rest) (noExc me >>= scalL >>= fun ys => okLen (xs ++ ys) >>= fun _ => kk ys) :=
  sv_extendP i h (hG ▸ he) hr hN hv hd hcd hbase hfew hline hs hplain hsw
end
end EV
namespace L2
open PySem PySem.Spec PyProof.Rows
noncomputable abbrev nset (w : World) : Obj := { cls := .type "set", dict := none, data := .set #[] 0 (.fresh 0 0 (!w.params.followText "set-order")) }
section
variable {P : Program} {w : World} {A : Around} {E : Value → Shared → Prop} {s : Shared}
set_option maxHeartbeats 3000000 in
theorem call_set_lsI {l : Addr} {items0 : Array Value} (ns0 : List Int) {Q : Value → Shared → Prop} (hh0 : A.handled = none) (hl0 : s.heap.IsList l items0) (hit0 : IntsAre items0.toList ns0) (hb0 : ns0.length + 1 < scanBound)
    (h0 : ∀ (h' : Heap) (tk y62 : Nat), SetR w h' s.heap.objs.size (fun j => decide (j ∈ ns0)) y62 → y62 ≤ ns0.length → (∀ y54 y55, s.heap.get? y54 = some y55 → h'.get? y54 = some y55) → Q (.ref s.heap.objs.size) { s with heap := h', toks := tk }) :
    wpAny (model P w) A (call (.type "set") [Value.ref l]) Q E s := by
  have y5 : items0.size = ns0.length := by
    have y6 := IntsAre.length hit0
    rw [Array.length_toList] at y6
    exact y6
  obtain ⟨y62, y63, y7⟩ := F.called_set.mro
  have y8 := F.called_set.made
  have y9 := F.called_set.sub
  refine wpAny_call (codeAny_of_tree (show wpAny _ _ (callAny (.type "set") _) _ _ _ from ?_))
  refine wpAny_pure (And.intro (Code.quiet_builtin _ (by decide +kernel)) (codeAny_builtin F.entry_type_call ?_))
  rw [Around.under_plain (weight_type_call_type "set" [Value.ref l] []) rfl]
  have y10 := F.called_set.notType
  have y11 := F.called_set.canCreate
  have y12 := F.typeCall_set_1 (.ref l)
  repeat (any_goals first | assumption | wp_step)

  refine codeAny_mono (code_set_led1 (.ref l) (E := E) (Q₁ := fun y69 y64 => y69 = .ref s.heap.objs.size ∧ y64 = { s with heap := s.heap.push (nset w) }) ⟨rfl, rfl⟩) fun y70 y64 y13 => ?_
  cases y70 with
  | error y61 => exact y13
  | ok y68 =>
    cases y68 with
    | ret y69 =>
      obtain ⟨rfl, rfl⟩ := y13
      have y14 : (s.heap.push (nset w)).get? s.heap.objs.size = some (nset w) := Heap.get?_push_size _ rfl
      have y15 : Shared.TypeIs { s with heap := s.heap.push (nset w) } (.ref s.heap.objs.size) "set" := ⟨_, y14, rfl⟩
      have y16 := F.called_set.init.lookup
      have y17 := F.called_set.init.bind (.ref s.heap.objs.size)
      repeat (any_goals first | assumption | wp_step)

      refine codeAny_mono (codeAny_call_builtin (R := wants (fun y70 y65 => y70 = .none ∧ ∃ h' tk y62, y65 = { s with heap := h', toks := tk } ∧ SetR w h' s.heap.objs.size (fun j => decide (j ∈ ns0)) y62 ∧ y62 ≤ ns0.length ∧
          (∀ y54 y55, s.heap.get? y54 = some y55 → h'.get? y54 = some y55)) E) F.called_set.init.plain F.entry_set_init (check_set_init_1 y15 ?_)) fun y66 y65 y18 => ?_
      · obtain ⟨y19, y20, y21, y22, y23⟩ := hl0
        obtain ⟨y24, y25, y26, y27⟩ := y19
        simp only at y21 y23
        subst y21; subst y23
        have y28 : (s.heap.push (nset w)).get? l = some { cls := .type "list", dict := y25, data := .seq items0 y22, slots := y27 } := Heap.get?_push_of_some _ y20
        have y29 := F.sub_list_set
        have y30 := F.sub_list_frozenset
        have y31 : (Value.type "list" == Value.type "dict") = false := by decide
        have y32 : (s.heap.push (nset w)).IsList l items0 := ⟨_, y28, rfl, y22, rfl⟩
        unfold Builtin.«set.__init__» Builtin.Frozenset.updateFrom noKeywords
        generalize y34 : pyIter = y33
        wp_walk
        subst y34

        refine wpAny_pyIter_list y32 ?_
        refine wpAny_bind (wpAny_runValue (?_ : _))
        have y35 : l < s.heap.objs.size := Heap.lt_size y20
        have y36 : A.in1.in1.in1.handled = none := by simp [hh0]
        have y37 : (s.heap.push (nset w)).objs.size = s.heap.objs.size + 1 := Heap.size_push ..
        have y38 : l ≠ (s.heap.push (nset w)).objs.size := by
          rw [Heap.size_push]; exact Nat.ne_of_lt (Nat.lt_succ_of_lt y35)
        have y39 : s.heap.objs.size ∉ [(s.heap.push (nset w)).objs.size, l] := by
          simp only [Heap.size_push, List.mem_cons, List.mem_singleton, List.not_mem_nil, or_false, not_or]
          exact ⟨Nat.ne_of_lt (Nat.lt_succ_self _), Nat.ne_of_gt y35⟩
        have y40 : ∀ (i : Nat) (v : Value), items0[i]? = some v → ∃ k t, ns0[i]? = some k ∧ v = .int k t := fun i v y41 => by
          have y42 : i < ns0.length := by rw [← y5]; exact (Array.getElem?_eq_some_iff.mp y41).1
          obtain ⟨t, y61⟩ := PyProof.Rows.IntsAre.int_at hit0 i v (by rw [Array.getElem?_toList]; exact y41)
          refine ⟨ns0[i], t, List.getElem?_eq_getElem y42, ?_⟩
          rw [y61, List.getD_eq_getElem?_getD, List.getElem?_eq_getElem y42] <;> rfl
        refine set_update_ints ((Walks.list y36 _ l y38 items0).toS) s.heap.objs.size
          y39 ns0 y5 hb0 y40 (items0.size - 0) 0 _ (by omega) (Nat.zero_le _)
          ⟨⟨_, Heap.get?_push_size _ rfl, rfl, rfl⟩, (y32.push _)⟩ ?hS0 ?hR
        case hS0 =>
          have y43 : ((s.heap.push (nset w)).push { cls := .type "list_iterator", data := .fields #[.ref l, .int 0 0] }).get? s.heap.objs.size
              = some (nset w) := Heap.get?_push_of_some _ y14
          exact ⟨0, Nat.le_refl 0, setR_new_at y43⟩
        case hR =>
          intro y73 y60 y44 y46 y45
          obtain ⟨h', y47, y48, y49, y50⟩ := y73
          have y51 : y47 = s.gens := y44.gens
          have y52 : y48 = s.drawn := y44.drawn
          have y53 : y50 = s.os := y44.os
          subst y51; subst y52; subst y53
          show wpAny _ _ _ _ _ _
          refine wpAny_pure ?_
          show wpAny _ _ (ret (.none : Value)) _ _ _
          rw [y5] at y46
          refine wpAny_pure ⟨rfl, h', y49, y60, rfl, y45, y46, fun y54 y55 y61 => ?_⟩
          have y56 : y54 < s.heap.objs.size := Heap.lt_size y61
          have y57 : y54 ≠ s.heap.objs.size := Nat.ne_of_lt y56
          have y58 : y54 ≠ (s.heap.push (nset w)).objs.size := by
            rw [Heap.size_push]; exact Nat.ne_of_lt (Nat.lt_succ_of_lt y56)
          exact y44.heap y54 y55 (by simp only [List.mem_cons, List.mem_singleton, List.not_mem_nil, or_false, not_or]; exact ⟨y57, y58⟩) (Heap.get?_push_of_some _ (Heap.get?_push_of_some _ y61))

      · cases y66 with
        | error y61 => exact y18
        | ok y67 =>
          cases y67 with
          | ret y70 =>
            obtain ⟨rfl, h', tk, y60, rfl, y45, y46, y59⟩ := y18
            repeat (any_goals first | assumption | wp_step)
            exact h0 _ _ _ y45 y46 y59
          | _ => exact y18.elim
    | _ => exact y13.elim
end
end L2
namespace EV
open PySem PySem.Spec PyProof.Rows L2
noncomputable def putI (x : Int) : List Int → List Int
  | [] => [x]
  | y :: r => if x < y then x :: y :: r else if x = y then y :: r else y :: putI x r
noncomputable def setI : List Int → List Int
  | [] => []
  | x :: r => putI x (setI r)
theorem mem_putI {x k : Int} : ∀ {l : List Int}, k ∈ putI x l ↔ k = x ∨ k ∈ l
  | [] => by simp [putI]
  | y :: r => by
    unfold putI
    split
    · simp
    · split
      · rename_i h
        subst h
        simp
      · rw [List.mem_cons, mem_putI (l := r), List.mem_cons]
        constructor
        · rintro (h | h | h)
          · exact .inr (.inl h)
          · exact .inl h
          · exact .inr (.inr h)
        · rintro (h | h | h)
          · exact .inr (.inl h)
          · exact .inl h
          · exact .inr (.inr h)
theorem mem_setI {k : Int} : ∀ {l : List Int}, k ∈ setI l ↔ k ∈ l
  | [] => .rfl
  | x :: r => by
    unfold setI
    rw [mem_putI, mem_setI (l := r), List.mem_cons]
theorem putI_asc {x : Int} : ∀ {l : List Int}, l.Pairwise (· < ·) → (putI x l).Pairwise (· < ·)
  | [], _ => by simp [putI]
  | y :: r, h => by
    have q := List.pairwise_cons.mp h
    unfold putI
    split
    · rename_i h1
      refine List.pairwise_cons.mpr ⟨fun z hz => ?_, h⟩
      rcases List.mem_cons.mp hz with rfl | hz
      · exact h1
      · exact Int.lt_trans h1 (q.1 z hz)
    · split
      · exact h
      · refine List.pairwise_cons.mpr ⟨fun z hz => ?_, putI_asc q.2⟩
        rcases mem_putI.mp hz with rfl | hz
        · omega
        · exact q.1 z hz
theorem setI_asc : ∀ (l : List Int), (setI l).Pairwise (· < ·)
  | [] => .nil
  | x :: r => putI_asc (setI_asc r)
theorem asc_eq : ∀ {l r : List Int}, l.Pairwise (· < ·) → r.Pairwise (· < ·) → (∀ k, k ∈ l ↔ k ∈ r) → l = r
  | [], [], _, _, _ => rfl
  | [], y :: r, _, _, h => absurd ((h y).mpr List.mem_cons_self) (by simp)
  | x :: l, [], _, _, h => absurd ((h x).mp List.mem_cons_self) (by simp)
  | x :: l, y :: r, hl, hr, h => by
    have p := List.pairwise_cons.mp hl
    have q := List.pairwise_cons.mp hr
    have e : x = y := by
      rcases List.mem_cons.mp ((h x).mp List.mem_cons_self) with e | m
      · exact e
      · rcases List.mem_cons.mp ((h y).mpr List.mem_cons_self) with e | m'
        · exact e.symm
        · have h1 := q.1 x m
          have h2 := p.1 y m'
          omega
    subst e
    rw [asc_eq p.2 q.2 fun k => ?_]
    constructor
    · intro m
      rcases List.mem_cons.mp ((h k).mp (List.mem_cons_of_mem _ m)) with e | m'
      · have := p.1 k m
        omega
      · exact m'
    · intro m
      rcases List.mem_cons.mp ((h k).mpr (List.mem_cons_of_mem _ m)) with e | m'
      · have := q.1 k m
        omega
      · exact m'
section
variable {X : Cx} {W : WX} {pa : Option Addr} {Γ : List Sl} {k : Nat} {pos : Pos}
noncomputable def tSetI (K : PySem.W.Frag) (ta : TE) : TE := fun σ H Q => ta σ H fun x H1 => ∃ (l : Addr) (ns : List Int), x = V.ref l ∧ (SqL K H1 l (ns.map V.int) ∨ SqT K H1 l (ns.map V.int)) ∧ (ns.length < 1000 ∧ (setI ns).length < 64) ∧ ∀ p, H1 p = none → Q (.ref p) (upd H1 p (.lst ((setI ns).map V.int)))
/-- as many as there are different ones -/
theorem setR_count {w : World} {h : Heap} {a : Addr} {ns : List Int} {c : Nat} (R : SetR w h a (fun j => decide (j ∈ ns)) c) : c = (setI ns).length := by
  obtain ⟨o, es, ep, t, _, _, _, _, nd, hm, _, _, hn, _, _⟩ := R
  have p : (es.toList.map keyOf).Perm (setI ns) := (List.perm_ext_iff_of_nodup nd ((setI_asc ns).imp fun h => by omega)).mpr fun k => by
    rw [← hm k, decide_eq_true_eq, mem_setI]
  have l := p.length_eq
  rw [List.length_map, Array.length_toList] at l
  omega
theorem sorted_setR {pins : List (Addr × Obj)} {σ : L2.St} {H : Hp} {s : Shared} {a : Addr} {S : Int → Bool} {n : Nat} {Q : VK} (I : Inv X pins σ H s) (hc : X.calm = true) (R : SetR X.w s.heap a S n) (h64 : n < 64)
    (q : ∀ (ns : List Int) (p : Addr), ns.Pairwise (· < ·) → (∀ k : Int, k ∈ ns ↔ S k = true) → ns.length = n → H p = none → Q (.ref p) (upd H p (.lst (ns.map V.int)))) :
    wpAny (model X.prog X.w) X.A (PySem.call (.builtin "sorted") [Value.ref a]) (EP X pins σ Q) X.xe s := by
  refine sorted_set R (I.ok.hd hc) h64 fun t p out c ns k g o hp hgt hi hs hm hl => ?_
  have hz : (ns.map V.int).length ≤ sizeLine := by
    rw [List.length_map, hl, sizeLine_eq]
    omega
  have hn : H p = none := I.hok.fresh hp
  have J : Inv X pins σ (upd H p (.lst (ns.map V.int))) { s with heap := t.heap, gens := t.gens, drawn := t.drawn, toks := t.toks } :=
    I.call (ch := []) (Un.laid k hp hn) (I.hok.laid k hp ⟨hz, out.toList, c, vals_of_ints hi, hgt⟩) (by rw [g]; exact I.bare) (fun _ z => nomatch z)
  have e : t = { s with heap := t.heap, gens := t.gens, drawn := t.drawn, toks := t.toks } := by
    cases t
    cases s
    cases o
    rfl
  rw [e]
  exact ⟨.ref p, _, J, rfl, q ns p hs hm hl hn⟩
theorem pe_setI {a : Expr} {ta : TE} {p p2 q pos : Pos} (hc : X.calm = true) (hg : Gl X "sorted") (hm : X.mg "sorted" = none) (hg2 : Gl X "set") (hm2 : X.mg "set" = none) (ha : PE X a ta)
    (na : autoParam (starEach [a] X.env = (false, eval a X.env) :: starEach [] X.env) EV.tac2) : PE X (.Call (.Name "sorted" p) [.Call (.Name "set" p2) [a] [] q] [] pos) (tSetI X.K ta) := by
  refine ⟨fun pins s σ H Q I h => ?_⟩
  refine Call_ (ld_blt I hg hm (by decide +kernel : bootBuiltins ("sorted" : Str) = some (.builtin "sorted")) ?_)
  refine callWith_builtin1 (args_cons ?_ rfl) rfl rfl
  refine Call_ (ld_blt I hg2 hm2 boot_set ?_)
  refine callWith_type1 (args_cons (thn (ha.run pins s σ H _ I h) fun v s1 ⟨x, H1, I1, r1, q1⟩ => args_nil ?_) na) na rfl
  obtain ⟨l, ns, rfl, hq, ⟨h63, h64⟩, q1⟩ := q1
  cases r1
  have go : ∀ (h' : Heap) (tk c : Nat), SetR X.w h' s1.heap.objs.size (fun j => decide (j ∈ ns)) c → c ≤ ns.length → (∀ b o, s1.heap.get? b = some o → h'.get? b = some o) →
      wpAny (model X.prog X.w) X.A (PySem.call (.builtin "sorted") [Value.ref s1.heap.objs.size]) (EP X pins σ Q) X.xe { s1 with heap := h', toks := tk } := fun h' tk c R hc' k =>
    sorted_setR (I1.kept fun b o e => k b o e) hc R (by rw [setR_count R]; exact h64) fun ms p hs hm3 hl hn => by
      have e1 : ms = setI ns := asc_eq hs (setI_asc ns) fun j => by rw [hm3 j, decide_eq_true_eq, mem_setI]
      rw [e1]
      exact q1 p hn
  rcases hq with hq | hq
  · obtain ⟨its, r, pl, hz⟩ := I1.list hq
    exact call_set_lsI ns (I.ok.hd hc) pl.isList (by simpa using r.ints) (by unfold scanBound; omega) fun h' tk c R hc' k => args_nil (go h' tk c R hc' k)
  · obtain ⟨its, r, hT, hz⟩ := I1.tuple hq
    exact call_set_tupI ns (I.ok.hd hc) hT (by simpa using r.ints) (by unfold scanBound; omega) fun h' tk c R hc' k => args_nil (go h' tk c R hc' k)
/-- sorted(set(..)) -/
noncomputable def sortSetD : D → PM D
  | .lst xs | .tup xs => match intsOf xs with
    | some ns => if ns.length < 1000 ∧ (setI ns).length < 64 then mkL ((setI ns).map D.int) else bad
    | none => bad
  | _ => bad
theorem ev_setI {a : Expr} {m : PM D} {p p2 q pos : Pos} (hc : X.calm = true) (hg : Gl X "sorted") (hm : X.mg "sorted" = none) (hg2 : Gl X "set") (hm2 : X.mg "set" = none) (ha : EV X W pa Γ a m)
    (na : autoParam (starEach [a] X.env = (false, eval a X.env) :: starEach [] X.env) EV.tac2) : EV X W pa Γ (.Call (.Name "sorted" p) [.Call (.Name "set" p2) [a] [] q] [] pos) (m >>= sortSetD) :=
  pe_imp (pe_setI hc hg hm hg2 hm2 ha na) fun σ H Q h_ => EV.ex4 h_ fun G0 H0 G s E P => ⟨G0, H0, G, s, E, P.bind.imp fun G1 H1 d s1 x1 p1 P1 v r => by
    have main : ∀ (l : Addr) (xs : List V) (ds : List D), RpL X.K G1 xs ds → (SqL X.K H1 l xs ∨ SqT X.K H1 l xs) → v = V.ref l →
        Pst X.K W X.mg pa σ (FD X.K Q) G1 H1 ((match intsOf ds with | some ns => if ns.length < 1000 ∧ (setI ns).length < 64 then mkL ((setI ns).map D.int) else bad | none => bad : PM D) s1) →
        ∃ (l : Addr) (ns : List Int), v = V.ref l ∧ (SqL X.K H1 l (ns.map V.int) ∨ SqT X.K H1 l (ns.map V.int)) ∧ (ns.length < 1000 ∧ (setI ns).length < 64) ∧ ∀ p, H1 p = none → Q (.ref p) (upd H1 p (.lst ((setI ns).map V.int))) := by
      intro l xs ds rr hq ev P2
      cases e : intsOf ds with
      | none => rw [e] at P2; exact P2.elim
      | some bs =>
        rw [e] at P2
        by_cases hb : bs.length < 1000 ∧ (setI bs).length < 64
        · have P2 : Pst X.K W X.mg pa σ (FD X.K Q) G1 H1 ((if bs.length < 1000 ∧ (setI bs).length < 64 then mkL ((setI bs).map D.int) else bad : PM D) s1) := P2
          rw [if_pos hb] at P2
          rw [intsOf_rp rr e] at hq
          exact ⟨l, bs, ev, hq, hb, fun p np => mkL_use P2 (rpl_ints _) x1.sub p1 np⟩
        · have P2 : Pst X.K W X.mg pa σ (FD X.K Q) G1 H1 ((if bs.length < 1000 ∧ (setI bs).length < 64 then mkL ((setI bs).map D.int) else bad : PM D) s1) := P2
          rw [if_neg hb] at P2
          exact P2.elim
    cases r with
    | @lst a vs es h n r => exact main a vs es ⟨n, r⟩ (.inl (SqL.of (x1.sub _ _ h))) rfl P1
    | @tup a vs es h n r => exact main a vs es ⟨n, r⟩ (.inr (sameT x1.sub h)) rfl P1
    | non => exact P1.elim
    | bl _ => exact P1.elim
    | int _ => exact P1.elim
    | str _ => exact P1.elim
    | dct _ _ _ _ => exact P1.elim
    | obj _ _ _ _ => exact P1.elim
    | cls _ => exact P1.elim⟩
end
theorem cstI {K : PySem.W.Frag} {x : Str} {h : Heap} {mg : Str → Option Value} {i : Int} {t : Tok} (X : K.In h) (G : h.Ns mainGlobals mg) (a : PySem.W.nsIn K mainGlobals x = some (some (.int i t))) : ∃ t, mg x = some (.int i t) := ⟨t, PySem.W.mg_of X G a⟩
theorem cstS {K : PySem.W.Frag} {x : Str} {h : Heap} {mg : Str → Option Value} {i : Str} {t : Tok} (X : K.In h) (G : h.Ns mainGlobals mg) (a : PySem.W.nsIn K mainGlobals x = some (some (.str i t))) : ∃ t, mg x = some (.str i t) := ⟨t, PySem.W.mg_of X G a⟩
end EV
namespace EV
open PySem PySem.Spec PyProof.Rows L2
section
variable {X : Cx} {W : WX} {pa : Option Addr} {Γ : List Sl} {k : Nat} {pos : Pos}
theorem rgV_rp {K : PySem.W.Frag} {G : Hp} (a b : Int) : RpL K G (rgV a b) (rangeL a (b - a).toNat) := by
  refine ⟨by rw [rgV_length]; simp [rangeL], fun i v d h1 h2 => ?_⟩
  unfold rgV at h1
  unfold rangeL at h2
  rw [List.getElem?_map] at h1 h2
  cases e : (List.range (b - a).toNat)[i]? with
  | none => rw [e] at h1; exact EV.nnS h1
  | some j =>
    rw [e] at h1 h2
    obtain rfl := Option.some.inj h1
    obtain rfl := Option.some.inj h2
    exact .int _
noncomputable def rgD (a b : Int) : PM (List D) := if -(2 ^ 62) ≤ a ∧ a < 2 ^ 62 ∧ -(2 ^ 62) ≤ b ∧ b < 2 ^ 62 ∧ (b - a).toNat ≤ lim then pure (rangeL a (b - a).toNat) else bad
noncomputable def rg1 : D → PM (List D)
  | .int n => rgD 0 n
  | _ => bad
theorem rg_use {K : PySem.W.Frag} {mg : Str → Option Value} {σ : L2.St} {F : Hp → Hp → D → List Int → Prop} {G H : Hp} {a b : Int} {f : List D → PM D} {s : List Int} (P : Pst K W mg pa σ F G H ((rgD a b >>= f) s)) : RgOk a b ∧ Pst K W mg pa σ F G H (f (rangeL a (b - a).toNat) s) := by
  unfold rgD at P
  by_cases h : -(2 ^ 62) ≤ a ∧ a < 2 ^ 62 ∧ -(2 ^ 62) ≤ b ∧ b < 2 ^ 62 ∧ (b - a).toNat ≤ lim
  · rw [if_pos h] at P
    (refine EV.el0_5 h ?_; try clear h; intro h1 h2 h3 h4 h5)
    exact ⟨⟨h1, h2, h3, h4, Nat.le_trans h5 (by decide)⟩, P⟩
  · rw [if_neg h] at P
    exact P.elim
theorem ev_lstRg1 {a : Expr} {m : PM D} {p p2 pos2 : Pos} (C : Cok X W k) (hg : Gl X "list") (hm : X.mg "list" = none) (hg2 : Gl X "range") (hm2 : X.mg "range" = none) (h : EV X W pa Γ a m)
    (na : autoParam (starEach [a] X.env = (false, eval a X.env) :: starEach [] X.env) EV.tac2) (na2 : autoParam (starEach [.Call (.Name "range" p2) [a] [] pos2] X.env = (false, eval (.Call (.Name "range" p2) [a] [] pos2) X.env) :: starEach [] X.env) EV.tac2) :
    EV X W pa Γ (.Call (.Name "list" p) [.Call (.Name "range" p2) [a] [] pos2] [] pos) (m >>= fun d => rg1 d >>= mkL) :=
  pe_imp (pe_listRg C.calm hg hm (prg_1 hg2 hm2 h na) na2) fun σ H Q h_ => EV.ex4 h_ fun G0 H0 G s E P => ⟨G0, H0, G, s, E, P.bind.imp fun G1 H1 d s1 x1 p1 P1 v r => by
    cases r with
    | int n =>
      refine EV.el0_2 (rg_use (P1 : Pst X.K W X.mg pa σ (FD X.K Q) G1 H1 ((rgD 0 n >>= mkL) s1))) fun h1 P2 => ?_
      exact EV.in1_3 n rfl h1 (fun q nq => mkL_use P2 (rgV_rp 0 n) x1.sub p1 nq)
    | _ => exact P1.elim⟩
end
inductive Mv where
  | v (d : D) | o (xs : List D)
noncomputable def mvS : Mv → Sl
  | .v d => .val d
  | .o xs => .own xs
/-- no list of one's own among these is p -/
noncomputable def NoOwn (p : Addr) : List V → List Mv → Prop
  | v :: vs, .o _ :: ms => v ≠ .ref p ∧ NoOwn p vs ms
  | _ :: vs, .v _ :: ms => NoOwn p vs ms
  | _, _ => True
noncomputable def MR (K : PySem.W.Frag) (pa : Option Addr) (G H Hb : Hp) : List V → List Mv → Prop
  | [], [] => True
  | v :: vs, .v d :: ms => Rp K G v d ∧ MR K pa G H Hb vs ms
  | v :: vs, .o xs :: ms => (∃ p ws, v = .ref p ∧ Hb p = none ∧ H p = some (.lst ws) ∧ G p = none ∧ RpL K G ws xs ∧ pa ≠ some p ∧ NoOwn p vs ms) ∧ MR K pa G H Hb vs ms
  | _, _ => False
theorem MR.base {K : PySem.W.Frag} {pa : Option Addr} {G H Hb Hb' : Hp} (i : ∀ p, Hb p = none → Hb' p = none) : ∀ {vs : List V} {ms : List Mv}, MR K pa G H Hb vs ms → MR K pa G H Hb' vs ms
  | [], [], h => h
  | _ :: _, .v _ :: _, h => ⟨h.1, MR.base i h.2⟩
  | _ :: _, .o _ :: _, h => by
    (refine EV.el0_2 h ?_; try clear h; intro q106_ h4; (refine EV.el2_3 q106_ ?_; try clear q106_; intro p ws h1 h2 h3))
    exact ⟨⟨p, ws, h1, i p h2, h3⟩, MR.base i h4⟩
  | [], .v _ :: _, h => h.elim
  | [], .o _ :: _, h => h.elim
  | _ :: _, [], h => h.elim
theorem MR.noOwn {K : PySem.W.Frag} {pa : Option Addr} {G H Hb : Hp} {p : Addr} {o : HO} (e : Hb p = some o) : ∀ {vs : List V} {ms : List Mv}, MR K pa G H Hb vs ms → NoOwn p vs ms
  | [], [], h => trivial
  | _ :: vs, .v _ :: ms, h => by
    have z : NoOwn p vs ms := MR.noOwn (K := K) (pa := pa) (G := G) (H := H) e h.2
    exact z
  | _ :: _, .o _ :: _, h => by
    (refine EV.el0_2 h ?_; try clear h; intro q107_ h4; (refine EV.el2_3 q107_ ?_; try clear q107_; intro q ws h1 h2 h3))
    refine ⟨fun z => ?_, MR.noOwn (K := K) (pa := pa) (G := G) (H := H) e h4⟩
    rw [h1] at z
    injection z with z
    rw [z, e] at h2
    exact EV.nnS (Eq.symm h2)
  | [], .v _ :: _, h => h.elim
  | [], .o _ :: _, h => h.elim
  | _ :: _, [], h => h.elim
section
variable {X : Cx} {W : WX} {pa : Option Addr} {Γ : List Sl} {k : Nat} {pos : Pos}
noncomputable def FM (K : PySem.W.Frag) (pa : Option Addr) (Hb : Hp) (Q : List V → Hp → Prop) : Hp → Hp → List Mv → List Int → Prop := fun G' H' ms _ => ∀ vs, MR K pa G' H' Hb vs ms → Q vs H'
noncomputable def evM (X : Cx) (W : WX) (pa : Option Addr) (Γ : List Sl) (m : PM (List Mv)) : TA := fun σ H Q => ∃ G0 H0 G s, Nv X.K pa G0 H0 G H σ Γ s ∧ Pst X.K W X.mg pa σ (FM X.K pa H Q) G H (m s)
noncomputable abbrev EM (X : Cx) (W : WX) (pa : Option Addr) (Γ : List Sl) (es : List Expr) (m : PM (List Mv)) : Prop := PA X es (evM X W pa Γ m)
theorem em_nil : EM X W pa Γ [] (pure []) := pa_imp pa_nil fun σ H Q h_ => EV.ex4 h_ fun G0 H0 G s E P => P.now E.sub E.ps [] trivial
theorem ext_free {K : PySem.W.Frag} {G H G' H' : Hp} (x : Ext K pa G H G' H') {p : Addr} (h : H' p = none) : H p = none := by
  cases e : H p with
  | none => rfl
  | some o =>
    refine EV.el1_1 (x.t p o e) fun o' e' => ?_
    rw [h] at e'
    exact EV.nnS e'
theorem em_v {e : Expr} {es : List Expr} {m : PM D} {ml : PM (List Mv)} (h : EV X W pa Γ e m) (t : EM X W pa Γ es ml) (hs : autoParam (starEach (e :: es) X.env = (false, eval e X.env) :: starEach es X.env) EV.tac2) :
    EM X W pa Γ (e :: es) (m >>= fun d => ml >>= fun ds => pure (.v d :: ds)) := pa_imp (pa_cons h t hs) fun σ H Q h_ => EV.ex4 h_ fun G0 H0 G s E P =>
  ⟨G0, H0, G, s, E, P.bind.imp fun G1 H1 a s1 x1 p1 P1 v r => ⟨G0, H0, G1, s1, E.step x1 p1, P1.bind.imp fun G2 H2 as s2 x2 p2 P2 vs rs => P2.now x2.sub p2 (v :: vs) ⟨r.mono x2.g, rs.base fun p h => ext_free x1 h⟩⟩⟩
theorem em_o {e : Expr} {es : List Expr} {m : PM (List D)} {ml : PM (List Mv)} (h : EO' X W pa Γ e m) (t : EM X W pa Γ es ml) (hs : autoParam (starEach (e :: es) X.env = (false, eval e X.env) :: starEach es X.env) EV.tac2) :
    EM X W pa Γ (e :: es) (m >>= fun d => ml >>= fun ds => pure (.o d :: ds)) := pa_imp (pa_cons h t hs) fun σ H Q h_ => EV.ex4 h_ fun G0 H0 G s E P =>
  ⟨G0, H0, G, s, E, P.bind.imp fun G1 H1 a s1 x1 p1 P1 p ws hb hp hg r => ⟨G0, H0, G1, s1, E.step x1 p1, P1.bind.imp fun G2 H2 as s2 x2 p2 P2 vs rs => by
    have hpa : pa ≠ some p := fun e => by
      have z := (E.ps p e).2
      rw [hb] at z
      exact EV.nnS z
    exact P2.now x2.sub p2 (.ref p :: vs) ⟨⟨p, ws, rfl, hb, x2.h _ _ hp hpa, x2.n _ _ hp hg, r.mono x2.g, hpa, rs.noOwn hp⟩, rs.base fun p h => ext_free x1 h⟩⟩⟩
end
section
variable {K : PySem.W.Frag} {pa : Option Addr} {G0 H0 G H : Hp} {σ : L2.St} {Γ : List Sl} {s : List Int}
noncomputable def FreshIn (Γ : List Sl) (σ : L2.St) (p : Addr) : Prop := ∀ (j : Nat) ys, Γ[j]? = some (.own ys) → σ[j]? ≠ some (some (.ref p))
theorem Nv.freshIn (E : Nv K pa G0 H0 G H σ Γ s) {p : Addr} (h : H p = none) : FreshIn Γ σ p := fun j ys e q => by
  refine EV.el2_3 (E.own j ys e) fun p' vs' q1 q2 _ => ?_
  rw [q] at q1
  cases q1
  rw [h] at q2
  exact EV.nnS q2
theorem FreshIn.set {p : Addr} (f : FreshIn Γ σ p) (i : Nat) {v : V} {m : Mv} (h : ∀ xs, m = .o xs → v ≠ .ref p) : FreshIn (Γ.set i (mvS m)) (σ.set i (some v)) p := fun j ys e q => by
  by_cases hj : i = j
  · subst hj
    have hi : i < Γ.length := by
      have := (List.getElem?_eq_some_iff.mp e).1
      simpa using this
    rw [List.getElem?_set_self hi] at e
    have hi2 : i < σ.length := by
      have := (List.getElem?_eq_some_iff.mp q).1
      simpa using this
    rw [List.getElem?_set_self hi2] at q
    cases m with
    | v d => cases e
    | o xs =>
      have := h xs rfl
      injection q with q
      injection q with q
      exact this q
  · rw [List.getElem?_set_ne hj] at e q
    exact f j ys e q
/-- one of them is stored -/
theorem Nv.setM (E : Nv K pa G0 H0 G H σ Γ s) {Hb : Hp} {v : V} {m : Mv} {vs : List V} {ms : List Mv} (i : Nat) (r : MR K pa G H Hb (v :: vs) (m :: ms)) (h0 : ∀ p, Hb p = none → H0 p = none) (f : ∀ p, v = .ref p → Hb p = none → FreshIn Γ σ p) :
    Nv K pa G0 H0 G H (σ.set i (some v)) (Γ.set i (mvS m)) s := by
  cases m with
  | v d => exact E.set i r.1
  | o xs =>
    (refine EV.el0_2 r ?_; try clear r; intro q108_ _; (refine EV.el2_2 q108_ ?_; try clear q108_; intro p ws q109_ q110_; obtain rfl := q109_; (refine EV.el0_6 q110_ ?_; try clear q110_; intro h1 h2 h3 h4 h5 h6)))
    exact E.setOwn i h2 h3 h4 (h0 p h1) h5 fun j ys _ e => f p rfl h1 j ys e
theorem MR.tail {Hb : Hp} {v : V} {m : Mv} {vs : List V} {ms : List Mv} (r : MR K pa G H Hb (v :: vs) (m :: ms)) : MR K pa G H Hb vs ms := by
  cases m with
  | v d => exact r.2
  | o xs => exact r.2
theorem mr_one {Hb : Hp} {vs : List V} {m : Mv} (r : MR K pa G H Hb vs [m]) : ∃ v, vs = [v] := by
  match vs, r with
  | [v], _ => exact EV.in1_1 v rfl
  | [], r => cases m <;> exact r.elim
  | _ :: _ :: _, r => cases m <;> exact r.2.elim
theorem mr_two {Hb : Hp} {vs : List V} {m n : Mv} (r : MR K pa G H Hb vs [m, n]) : ∃ v w, vs = [v, w] := by
  match vs, r with
  | v :: vs, r =>
    (refine EV.el1_1 (mr_one r.tail) fun w q111_ => ?_; obtain rfl := q111_)
    exact EV.in2_1 v w rfl
  | [], r => cases m <;> exact r.elim
/-- a later one is not an earlier one -/
theorem mr_apart {Hb : Hp} {v w : V} {m n : Mv} {vs : List V} {ms : List Mv} (r : MR K pa G H Hb (v :: w :: vs) (m :: n :: ms)) {p : Addr} (e : w = .ref p) (hn : ∃ xs, n = .o xs) : ∀ xs, m = .o xs → v ≠ .ref p := fun xs em z => by
  subst em
  (refine EV.el1_1 hn ?_; try clear hn; intro ys q112_; obtain rfl := q112_)
  (refine EV.el0_2 r ?_; try clear r; intro q113_ _; (refine EV.el2_4 q113_ ?_; try clear q113_; intro q ws h1 _ _ q114_; refine EV.el0_4 q114_ ?_; try clear q114_; intro _ _ _ h6))
  rw [h1] at z
  injection z with z
  rw [z] at h6
  exact h6.1 e
theorem Nv.set2 (E : Nv K pa G0 H0 G H σ Γ s) {Hb : Hp} {v w : V} {m n : Mv} (i j : Nat) (r : MR K pa G H Hb [v, w] [m, n]) (h0 : ∀ p, Hb p = none → H0 p = none) (f : ∀ p, Hb p = none → FreshIn Γ σ p) :
    Nv K pa G0 H0 G H ((σ.set i (some v)).set j (some w)) ((Γ.set i (mvS m)).set j (mvS n)) s := by
  have E1 := E.setM i r h0 fun p _ hb => f p hb
  cases n with
  | v d => exact E1.set j r.tail.1
  | o xs => exact E1.setM j r.tail h0 fun p e hb => (f p hb).set i (mr_apart r e ⟨xs, rfl⟩)
end
section
variable {X : Cx} {W : WX} {pa : Option Addr} {Γ : List Sl} {k : Nat} {pos : Pos} {α : Type} {out : α → Out} {rest : List Stmt}
noncomputable def two2 {β : Type} (kk : Mv → Mv → PM β) : List Mv → PM β
  | [a, b] => kk a b
  | _ => bad
noncomputable def kVO {β : Type} (kk : D → List D → PM β) : Mv → Mv → PM β
  | .v d, .o xs => kk d xs
  | _, _ => bad
theorem h_vo {i j : Nat} {kk : D → List D → PM α} (h : ∀ d xs, SV X W pa ((Γ.set i (.val d)).set j (.own xs)) out rest (kk d xs)) : ∀ a b, SV X W pa ((Γ.set i (mvS a)).set j (mvS b)) out rest (kVO kk a b)
  | .v d, .o xs => h d xs
  | .v _, .v _ => sv_bad
  | .o _, .v _ => sv_bad
  | .o _, .o _ => sv_bad
/-- a, b = e1, e2, plain locals -/
theorem sv_parM (i j : Nat) {y z : Str} {a b : Expr} {px py pt : Pos} {kt k2 pt2} {ml : PM (List Mv)} {kk : Mv → Mv → PM α} (hc : X.calm = true) (hN : X.N.Nodup) (ha : EM X W pa Γ [a, b] ml) (hij : i ≠ j)
    (hr : ∀ u v, SV X W pa ((Γ.set i (mvS u)).set j (mvS v)) out rest (kk u v)) (hi : autoParam (X.N[i]? = some y) EV.tac2) (hj : autoParam (X.N[j]? = some z) EV.tac2)
    (hx : autoParam (X.env.scope.names.lookup y = some .local) EV.tac2) (hy : autoParam (X.env.scope.names.lookup z = some .local) EV.tac2)
    (hw : autoParam (swappedStores [.Tuple [.Name y px, .Name z py] kt pt] (.Tuple [a, b] k2 pt2) X.env = pure (some [y, z])) EV.tac2)
    (hs : autoParam (swapsWithSole [.Tuple [.Name y px, .Name z py] kt pt] (.Tuple [a, b] k2 pt2) pos.line X.env = pure false) EV.tac2) :
    SV X W pa Γ out (.Assign [.Tuple [.Name y px, .Name z py] kt pt] (.Tuple [a, b] k2 pt2) pos :: rest) (ml >>= two2 kk) := by
  unfold SV
  rw [bind_assoc]
  have hrest : PSs X rest (fun D σ H => ∃ q : Mv × Mv, svT X W pa ((Γ.set i (mvS q.1)).set j (mvS q.2)) (kk q.1 q.2 >>= fun a => pure (out a)) D σ H) := pss_ex (ι := Mv × Mv) fun q => hr q.1 q.2
  refine pss_imp (pss_cons (ps_par (i := i) (j := j) hc hN hi hj hij hx hy ha hw hs) hrest) fun Dn σ H h_ => EV.ex4 h_ fun G0 H0 G s E P => ⟨G0, H0, G, s, E, (P.bind E).imp fun G1 H1 ds s1 x1 p1 P1 vs r => ?_⟩
  match ds, r, P1 with
  | [u, v], r, P1 =>
    obtain ⟨v1, v2, rfl⟩ := mr_two r
    exact ⟨v1, v2, rfl, (u, v), G0, H0, G1, s1, (E.step x1 p1).set2 i j r (fun p h => ext_free E.ext h) (fun p h => E.freshIn h), P1⟩
  | [], _, P1 => exact P1.elim
  | [_], _, P1 => exact P1.elim
  | _ :: _ :: _ :: _, _, P1 => exact P1.elim
/-- a, b = e1, e2, by a tuple -/
theorem sv_unpM (i j : Nat) {y z : Str} {a b : Expr} {px py pt : Pos} {kt k2 pt2} {ml : PM (List Mv)} {kk : Mv → Mv → PM α} (C : Cok X W k) (ha : EM X W pa Γ [a, b] ml)
    (hr : ∀ u v, SV X W pa ((Γ.set i (mvS u)).set j (mvS v)) out rest (kk u v)) (hp : PG X (.Tuple [.Name y px, .Name z py] kt pt) (gTup X.K 2 (gCons (gName i) (gCons (gName j) gNil))))
    (hs : autoParam (swapsWithSole [.Tuple [.Name y px, .Name z py] kt pt] (.Tuple [a, b] k2 pt2) pos.line X.env = pure false) EV.tac2) (hw : autoParam (swappedStores [.Tuple [.Name y px, .Name z py] kt pt] (.Tuple [a, b] k2 pt2) X.env = pure none) EV.tac2)
    (h1 : autoParam ((assignEach [.Tuple [.Name y px, .Name z py] kt pt] X.env).map (·.2) = [assign (.Tuple [.Name y px, .Name z py] kt pt) X.env]) EV.tac2) :
    SV X W pa Γ out (.Assign [.Tuple [.Name y px, .Name z py] kt pt] (.Tuple [a, b] k2 pt2) pos :: rest) (ml >>= two2 kk) := by
  unfold SV
  rw [bind_assoc]
  have hrest : PSs X rest (fun D σ H => ∃ q : Mv × Mv, svT X W pa ((Γ.set i (mvS q.1)).set j (mvS q.2)) (kk q.1 q.2 >>= fun a => pure (out a)) D σ H) := pss_ex (ι := Mv × Mv) fun q => hr q.1 q.2
  refine pss_imp (pss_cons (ps_asg (L2.pe_tup ha) hp hs hw h1) hrest) fun Dn σ H h_ => EV.ex4 h_ fun G0 H0 G s E P => ⟨G0, H0, G, s, E, (P.bind E).imp fun G1 H1 ds s1 x1 p1 P1 vs r => ?_⟩
  match ds, r, P1 with
  | [u, v], r, P1 =>
    (refine EV.el2_1 (mr_two r) fun v1 v2 q116_ => ?_; obtain rfl := q116_)
    refine ⟨by show 2 ≤ sizeLine; decide, fun q nq => ⟨q, [v1, v2], rfl, .inl (.inl upd_same), rfl, v1, [v2], rfl, v2, [], rfl, rfl, (u, v), G0, H0, G1, s1, ?_, P1⟩⟩
    have E1 := (E.step x1 p1).set2 i j r (fun p h => ext_free E.ext h) (fun p h => E.freshIn h)
    exact E1.step (Ext.newH x1.sub nq _) (p1.updH nq _)
  | [], _, P1 => exact P1.elim
  | [_], _, P1 => exact P1.elim
  | _ :: _ :: _ :: _, _, P1 => exact P1.elim
noncomputable def lstOf : D → PM (List D)
  | .lst ys => pure ys
  | _ => bad
/-- x.extend(e), e does not look at x -/
theorem sv_extV (i : Nat) {x : Str} {e : Expr} {xs : List D} {me : PM D} {kk : List D → PM α} {p1 apos cpos : Pos} (h : Γ[i]? = some (.own xs)) (he : EV X W pa Γ e me) (hr : ∀ ys, SV X W pa (Γ.set i (.own (xs ++ ys))) out rest (kk ys))
    (hN : autoParam (X.N[i]? = some x) EV.tac2) (hv : autoParam (Vis X.env.scope x) EV.tac7) (hd : autoParam ((x == ("__debug__" : Str)) = false) EV.tac1) (hcd : autoParam ((x == ("__classdict__" : Str)) = false) EV.tac1)
    (hbase : autoParam (attributeBase (.Name x p1) "extend" X.env (eval (.Name x p1) X.env) = eval (.Name x p1) X.env) EV.tac2)
    (hfew : autoParam (((backTo cpos (starEach [e] X.env)).all (fun x => !x.1) && (backToKw cpos (keywordEach [] X.env)).all (fun x => x.1.isSome)
      && decide ([e].length + ([] : List Keyword).length + (if ([] : List Keyword).isEmpty then 0 else 1) < 30)) = true) EV.tac2)
    (hline : autoParam ((apos.endLine == cpos.line) = true) EV.tac2) (hs : autoParam (starEach [e] X.env = (false, eval e X.env) :: starEach [] X.env) EV.tac2) (hplain : autoParam ((backTo cpos (starEach [] X.env)).any (·.1) = false) EV.tac2)
    (hsw : autoParam (swapsWith (.Call (.Attribute (.Name x p1) "extend" apos) [e] [] cpos) none pos.line X.env = pure false) EV.tac2) :
    SV X W pa Γ out (.Expr (.Call (.Attribute (.Name x p1) "extend" apos) [e] [] cpos) pos :: rest) (me >>= lstOf >>= fun ys => okLen (xs ++ ys) >>= fun _ => kk ys) := by
  unfold SV
  refine pss_imp (pss_cons (ps_expr (pe_bm PySem.F.plainAttrs_list PySem.F.slot_list_extend PySem.F.type_list_extend mt_extend (pe_var hN hv hd hcd) (pa_cons he pa_nil hs) hbase hfew hline hs hplain) hsw) (pss_ex hr)) fun Dn σ H h_ => EV.ex4 h_ fun G0 H0 G s E P => ?_
  obtain ⟨p, vs, h1, h2, h3, h4, h5, h6⟩ := E.own i xs h
  rw [bind_assoc, bind_assoc] at P
  refine ⟨.ref p, h1, .inl ⟨rfl, vs, SqL.of h2⟩, G0, H0, G, s, E, (P.bind E).imp fun G1 H1 d s1 x1 p1 P1 v r => ?_⟩
  cases r with
  | @lst b zs ys hb n rr =>
    have P1 : SPost X.K W X.mg pa G0 H0 Dn ((((okLen (xs ++ ys) >>= fun _ => kk ys)) >>= fun a => pure (out a)) s1) := P1
    rw [bind_assoc] at P1
    have h2' := x1.h _ _ h2 h6
    by_cases hl : (xs ++ ys).length ≤ lim
    · rw [okLen_ok hl, pure_bind] at P1
      have E1 := E.step x1 p1
      refine ⟨p, b, vs, zs, rfl, rfl, h2', x1.sub _ _ hb, ?_, ys, G0, H0, G1, s1, E1.mut h h1 ((h4.mono x1.g).app ⟨n, rr⟩), P1⟩
      rw [h4.1, n]
      rw [List.length_append] at hl
      exact lim_le hl
    · unfold okLen at P1
      rw [if_neg hl] at P1
      exact P1.elim
  | _ => exact P1.elim
end
structure CT (K : PySem.W.Frag) (mg : Str → Option Value) (x : Str) (d : D) : Prop where
  ex : ∃ a, mg x = some (.ref a) ∧ ∀ G, Rp K G (.ref a) d
noncomputable def strsB : List Value → List Str → Bool
  | [], [] => true
  | .str s _ :: r, x :: xs => s == x && strsB r xs
  | _, _ => false
theorem strsB_vals {us : List Value} : ∀ {xs : List Str}, strsB us xs = true → Vals (xs.map V.str) us := by
  induction us with
  | nil =>
    intro xs h
    cases xs with
    | nil => exact .nil
    | cons _ _ => exact EV.nnB h
  | cons u r ih =>
    intro xs h
    cases xs with
    | nil => cases u <;> cases h
    | cons x xs =>
      cases u with
      | str s t =>
        have h : (s == x && strsB r xs) = true := h
        rw [Bool.and_eq_true, beq_iff_eq] at h
        rw [h.1]
        exact .cons ⟨t, rfl⟩ (ih h.2)
      | _ => exact EV.nnB h
theorem ctS {K : PySem.W.Frag} {x : Str} {h : Heap} {mg : Str → Option Value} {a : Addr} {od : Option Addr} {its : Array Value} {n : Nat} {sl : Array (Option Value)} {xs : List Str} (X : K.In h) (G : h.Ns mainGlobals mg)
    (e : PySem.W.nsIn K mainGlobals x = some (some (.ref a))) (l : K.lookup a = some ⟨.type "tuple", od, .seq its n, sl⟩) (v : strsB its.toList xs = true) (hz : autoParam (xs.length ≤ sizeLine) EV.tac1) : CT K mg x (.tup (xs.map .str)) := by
  have hv := strsB_vals v
  have hl : its.size ≤ sizeLine := by
    rw [← Array.length_toList, ← hv.length, List.length_map]
    exact hz
  exact ⟨a, PySem.W.mg_of X G e, fun G' => .tup (xs := xs.map V.str) (.inr ⟨_, its, n, l, rfl, rfl, hl, hv⟩) (by simp) fun i v d h1 h2 => by
    rw [List.getElem?_map] at h1 h2
    cases q : xs[i]? with
    | none => rw [q] at h1; exact EV.nnS h1
    | some y =>
      rw [q] at h1 h2
      obtain rfl := Option.some.inj h1
      obtain rfl := Option.some.inj h2
      exact .str y⟩
end EV
namespace PySem.SeqAt
open PySem PySem.Spec PyProof.Rows PySem.W
section
variable {prog : Program} {w : World} {A : Around} {E : Value → Shared → Prop} {s : Shared}
/-- the call of tuple's own __lt__ -/
theorem tup_lt_call {Q : Value → Shared → Prop} {l b : Addr} {us ts : Array Value} {e r : Nat → Bool} (hl : s.heap.IsTuple l us) (hb : s.heap.IsTuple b ts)
    (he : ∀ j (h1 : j < us.size) (h2 : j < ts.size), EqAt A.in1 s us[j] ts[j] (e j)) (hr : ∀ j (h1 : j < us.size) (h2 : j < ts.size), e j = false → RcLt A.in1 s us[j] ts[j] (r j))
    (h : Q (.bool (firstLt e r (decide (us.size < ts.size)) (List.range (min us.size ts.size)))) s) : wpAny (model prog w) A (call (.builtin "tuple.__lt__") [.ref l, .ref b]) Q E s := by
  obtain ⟨⟨c1, d1, x1, z1⟩, g1, q1, n1, r1⟩ := id hl
  obtain ⟨⟨c2, d2, x2, z2⟩, g2, q2, n2, r2⟩ := id hb
  simp only at q1 r1 q2 r2
  subst q1 r1 q2 r2
  exact call_meets F.slot_tuple_lt ⟨_, g1, rfl⟩ F.entry_tuple_lt (F.args_tuple_lt_2 _ _) (tuple_ltAt l b us ts n1 n2 d1 d2 z1 z2 e r) ⟨g1, g2, he, hr, h⟩
end
end PySem.SeqAt
namespace EV
open PySem PySem.Spec PyProof.Rows PySem.W PySem.SeqAt L2
section
variable {prog : Program} {w : World} {A : Around} {E : Value → Shared → Prop} {s : Shared}
theorem oneLt_tups {xs ys : List PyData} {a b : Value} {as bs : List Addr} {Q : Bool → Shared → Prop} (ra : Reads s.heap a (.tuple xs) as) (rb : Reads s.heap b (.tuple ys) bs) (h : alikeAll xs ys = true)
    (hu : A.units + min (PyData.tuple xs).depth (PyData.tuple ys).depth < cLine) (hq : Q (dataLt (.tuple xs) (.tuple ys)) s) : wpAny (model prog w) A (oneLt' true a b) Q E s := by
  cases ra with
  | @tuple l o vs n _ as₁ h1 h2 h3 h4 =>
    cases rb with
    | @tuple l' o' vs' n' _ bs₁ k1 k2 k3 k4 =>
      have n1 : vs.size = xs.length := by simpa using ReadsAll.length _ _ _ h4
      have n2 : vs'.size = ys.length := by simpa using ReadsAll.length _ _ _ k4
      rw [dataLt_tuple, ← firstLt_toks xs ys h, ← n1, ← n2] at hq
      rw [oneLt'_eq]
      simp only [if_true]
      refine wpAny_bind (wpAny_cRoomFor (room_here hu) ?_)
      refine wpAny_bind (wpAny_callSpecialIfBound?_slot (T := "tuple") ⟨_, h1, h2⟩ F.slot_tuple_lt (tup_lt_call (e := pairEq xs ys) (r := fun j => dataLt (xs.getD j .none) (ys.getD j .none)) ⟨_, h1, h2, _, h3⟩ ⟨_, k1, k2, _, k3⟩ (fun j j1 j2 => ?_) (fun j j1 j2 hj => ?_) ?_))
      · have z := eqAt_alikeAll xs ys A.in1 s vs.toList vs'.toList _ _ h4 k4 h (room_in hu) j (by simpa using j1) (by simpa using j2)
        simpa using z
      · have z := rcLt_alikeAll xs ys A.in1 s vs.toList vs'.toList _ _ h4 k4 h (room_in hu) j (by simpa using j1) (by simpa using j2) hj
        simpa using z
      · exact wpAny_truthy_bool hq
theorem mapM_each {M : Model} {α β : Type} {f : α → Sem β} {r : α → β} : ∀ (l : List α) {Q : List β → Shared → Prop}, (∀ v ∈ l, ∀ (Q' : β → Shared → Prop), Q' (r v) s → wpAny M A (f v) Q' E s) → Q (l.map r) s → wpAny M A (l.mapM f) Q E s
  | [], _, _, h => by
    rw [List.mapM_nil]
    exact wpAny_pure h
  | x :: l, Q, hf, h => by
    rw [List.mapM_cons]
    exact wpAny_bind (hf x (.head _) _ (wpAny_bind (mapM_each l (Q := fun bs s' => wpAny M A (pure (r x :: bs)) Q E s') (fun v hv => hf v (.tail _ hv)) (wpAny_pure h))))
noncomputable def fstH (h : Heap) : Value → Option Value
  | .ref a => match h.get? a with
    | some ⟨_, _, .seq its _, _⟩ => its[0]?
    | _ => none
  | _ => none
theorem kind_tups {vs : List Value} {Q : SortKind → Shared → Prop} (h2 : 2 ≤ vs.length) (hT : ∀ v ∈ vs, ∃ a its, v = .ref a ∧ s.heap.IsTuple a its) (h0 : ∃ a, vs[0]? = some (.ref a) ∧ s.heap.IsTuple a #[]) (h : Q oneType' s) :
    wpAny (model prog w) A (keyKind' vs.toArray) Q E s := by
  obtain ⟨v₁, v₂, rest, rfl⟩ : ∃ v₁ v₂ rest, vs = v₁ :: v₂ :: rest := by
    match vs, h2 with
    | [], h2 => simp at h2
    | [_], h2 => simp at h2
    | v₁ :: v₂ :: rest, _ => exact EV.in3_1 v₁ v₂ rest rfl
  (refine EV.el1_2 h0 ?_; try clear h0; intro a0 e0 t0)
  have e0 : v₁ = .ref a0 := Option.some.inj e0
  have z0 : fstH s.heap v₁ = none := by
    obtain ⟨⟨c, d, x, z⟩, g, q, n, r⟩ := t0
    simp only at q r
    subst q r
    rw [e0]
    unfold fstH
    simp only [g]
    rfl
  have lk : ∀ v ∈ v₁ :: v₂ :: rest, Looks (model prog w) s.heap (typeOf v) (Value.type "tuple") := fun v hv => by
    (refine EV.el2_2 (hT v hv) fun a its q120_ q121_ => ?_; obtain rfl := q120_; obtain ⟨o, g, q, n, r⟩ := q121_)
    exact q ▸ (Looks.ld g).andThen .now
  rw [keyKind'_eq, List.mapM_toArray, map_eq_pure_bind]
  refine wpAny_bind (wpAny_bind (mapM_each (r := fstH s.heap) _ (fun v hv Q' hq => ?_) (wpAny_pure ?_)))
  · rw [kas_first_eq]
    refine wpAny_bind ((lk v hv).here ?_)
    rw [if_neg (by simp)]
    (refine EV.el2_2 (hT v hv) fun a its q122_ q123_ => ?_; obtain rfl := q122_; obtain ⟨⟨c, d, x, z⟩, g, q, n, r⟩ := q123_)
    simp only at q r
    subst q r
    refine wpAny_bind (listItems_at g rfl (wpAny_pure ?_))
    have e : fstH s.heap (.ref a) = its[0]? := by
      unfold fstH
      simp only [g]
    rw [← e]
    exact hq
  · rw [if_neg (by simp [z0]), if_neg (by simp [z0])]
    rw [oneTypeOnly'_eq, List.mapM_toArray, map_eq_pure_bind]
    refine wpAny_bind (wpAny_bind (wpAny_bind (kas_mapM (r := Value.type "tuple") _ (fun v hv Q' hq => (lk v hv).here hq) (wpAny_pure ?_))))
    have hall : ((List.map (fun _ => Value.type "tuple") (v₁ :: v₂ :: rest)).toArray.all fun x => x == Value.type "tuple") = true := by
      simp only [List.all_toArray, List.all_map, List.all_eq_true]
      intro _ _
      exact beq_self_eq_true _
    have hh : (List.map (fun _ => Value.type "tuple") (v₁ :: v₂ :: rest)).toArray[0]? = some (Value.type "tuple") := by simp
    rw [hh]
    simp only [hall, if_true]
    exact wpAny_pure (wpAny_pure h)
/-- tuples, the first one without an item -/
noncomputable def Tups0 (ds : List PyData) : Prop := (∀ d ∈ ds, ∃ xs, d = .tuple xs) ∧ ∃ r, ds = .tuple [] :: r
theorem reads_tup {h : Heap} {v : Value} {xs : List PyData} {as : List Addr} (r : Reads h v (.tuple xs) as) : ∃ a its, v = .ref a ∧ h.IsTuple a its ∧ its.size = xs.length := by
  cases r with
  | @tuple l o vs n _ as₁ h1 h2 h3 h4 => exact EV.in2_3 l vs rfl (⟨o, h1, h2, n, h3⟩) (by simpa using ReadsAll.length _ _ _ h4)
theorem sortsAt_tups {vs : List Value} {ds : List PyData} (e : EachIs (fun v d => ∃ as, Reads s.heap v d as) vs ds) (hal : AllAlike ds) (hk : Tups0 ds) (hu : ∀ d, d ∈ ds → A.units + d.depth < cLine) : SortsAt prog w A s (dataKind s.heap ds) vs := by
  refine ⟨fun v hv => ?_, oneType', ?_, fun h2 E Q hq => ?_⟩
  · obtain ⟨d, hd, as, r⟩ := e.left v hv
    exact EV.in1_1 _ (dataKind_some hal hd r)
  · intro E x y a b Q ha hb hq
    (refine EV.el2_3 (dataKind_inv ha) fun d as hd ra q124_ => ?_; obtain rfl := q124_)
    (refine EV.el2_3 (dataKind_inv hb) fun d' as' hd' rb q125_ => ?_; obtain rfl := q125_)
    rw [keyLt'_oneType]
    (refine EV.el1_1 (hk.1 d hd) fun xs q126_ => ?_; obtain rfl := q126_)
    (refine EV.el1_1 (hk.1 d' hd') fun ys q127_ => ?_; obtain rfl := q127_)
    exact oneLt_tups ra rb (by simpa [alike] using hal _ hd _ hd') (Nat.lt_of_le_of_lt (Nat.add_le_add_left (Nat.min_le_left _ _) _) (hu _ hd)) hq
  · refine kind_tups h2 (fun v hv => ?_) ?_ hq
    · obtain ⟨d, hd, as, r⟩ := e.left v hv
      (refine EV.el1_1 (hk.1 d hd) fun xs q128_ => ?_; obtain rfl := q128_)
      refine EV.el2_3 (reads_tup r) fun a its e1 e2 _ => ?_
      exact EV.in2_2 a its e1 e2
    · (refine EV.el1_1 (hk.2) fun r q129_ => ?_; obtain rfl := q129_)
      cases e with
      | cons h1 t =>
        (refine EV.el1_1 h1 ?_; try clear h1; intro as h1)
        (refine EV.el2_2 (reads_tup h1) fun a its q130_ q131_ => ?_; obtain rfl := q130_; (refine EV.el0_2 q131_ ?_; try clear q131_; intro e2 e3))
        have : its = #[] := Array.size_eq_zero_iff.mp e3
        subst this
        exact EV.in1_2 a rfl e2
theorem sorted_any {β : Type} {vs : List Value} {bs : List β} {enc : β → PyData} {R : Value → β → Prop} {l : Addr} {Q : Value → Shared → Prop} (hl : s.heap.IsList l vs.toArray) (e : EachIs R vs bs) (er : EachIs (fun v b => ∃ as, Reads s.heap v (enc b) as) vs bs) (hal : AllAlike (bs.map enc))
    (hk : Sortable (bs.map enc) ∨ Tups0 (bs.map enc)) (hL : bs.length ≤ sizeLine) (hu : ∀ b, b ∈ bs → A.units + 2 + (enc b).depth < cLine) (h : ∀ out, out.length = bs.length → EachIs R out (bs.mergeSort (dataLe false enc)) → Q (.ref (s.heap.objs.size + 1)) { s with heap := sortedAll s.heap vs (List.toArray out) }) :
    wpAny (model prog w) A (PySem.call (.builtin "sorted") [.ref l]) Q E s := by
  rcases hk with hk | hk
  · exact sorted_data hl e er hal hk hL hu h
  · have er' : EachIs (fun v b => ∃ as, Reads (sortingHeap (copyHeap s.heap vs) (s.heap.objs.size + 1) vs) v (enc b) as) vs bs := er.mono fun _ _ ⟨as, r⟩ => ⟨as, PyProof.Rows.Reads.keeps (fun _ _ => sorting_copy_old) r⟩
    refine sorted_vals hl (sortsAt_tups (s := { s with heap := sortingHeap (copyHeap s.heap vs) (s.heap.objs.size + 1) vs }) (each_map (R := fun v d => ∃ as, Reads (sortingHeap (copyHeap s.heap vs) (s.heap.objs.size + 1) vs) v d as) enc er') hal hk fun d hd => ?_) (by rw [e.length]; exact hL) (h _ (by rw [sortVals_length false rfl]; exact e.length) (sortVals_data false e er' hal))
    (refine EV.el1_2 (List.mem_map.mp hd) fun b hb q132_ => ?_; obtain rfl := q132_)
    exact hu b hb
end
noncomputable def neTup : PyData → Bool
  | .tuple (_ :: _) => true
  | _ => false
noncomputable def noTup : PyData → Bool
  | .tuple _ => false
  | .none => false
  | _ => true
noncomputable def isTup : PyData → Bool
  | .tuple _ => true
  | _ => false
noncomputable def tup0 : List PyData → Bool
  | .tuple [] :: _ => true
  | _ => false
noncomputable def sortP (xs : List D) : Bool := (xs.all fun a => xs.all fun b => alike (toPy a) (toPy b)) && (xs.all fun a => decide ((toPy a).depth ≤ 60)) &&
  ((xs.all fun a => neTup (toPy a)) || (xs.all fun a => noTup (toPy a)) || ((xs.all fun a => isTup (toPy a)) && tup0 (xs.map toPy)))
noncomputable def leD2 (a b : D) : Bool := !dataLt (toPy b) (toPy a)
noncomputable def sortedA : List D → PM D
  | [.lst xs] => if sortP xs = true then mkL (xs.mergeSort leD2) else bad
  | _ => bad
theorem sortP_use {xs : List D} (h : sortP xs = true) : AllAlike (xs.map toPy) ∧ (∀ d ∈ xs, (toPy d).depth ≤ 60) ∧ (Sortable (xs.map toPy) ∨ Tups0 (xs.map toPy)) := by
  unfold sortP at h
  rw [Bool.and_eq_true, Bool.and_eq_true] at h
  (refine EV.el0_2 h ?_; try clear h; intro q133_ h3; (refine EV.el0_2 q133_ ?_; try clear q133_; intro h1 h2))
  refine ⟨fun d hd d' hd' => ?_, fun d hd => of_decide_eq_true (List.all_eq_true.mp h2 d hd), ?_⟩
  · (refine EV.el1_2 (List.mem_map.mp hd) fun a ha q134_ => ?_; obtain rfl := q134_)
    (refine EV.el1_2 (List.mem_map.mp hd') fun b hb q135_ => ?_; obtain rfl := q135_)
    exact List.all_eq_true.mp (List.all_eq_true.mp h1 a ha) b hb
  · rw [Bool.or_eq_true, Bool.or_eq_true, Bool.and_eq_true] at h3
    rcases h3 with (h3 | h3) | ⟨h3, h4⟩
    · refine .inl (.inl fun d hd => ?_)
      (refine EV.el1_2 (List.mem_map.mp hd) fun a ha q136_ => ?_; obtain rfl := q136_)
      have z := List.all_eq_true.mp h3 a ha
      cases e : toPy a with
      | tuple xs =>
        rw [e] at z
        cases xs with
        | nil => exact EV.nnB z
        | cons x r => exact EV.in2_1 x r rfl
      | _ => rw [e] at z; exact EV.nnB z
    · refine .inl (.inr fun d hd => ?_)
      (refine EV.el1_2 (List.mem_map.mp hd) fun a ha q137_ => ?_; obtain rfl := q137_)
      have z := List.all_eq_true.mp h3 a ha
      refine ⟨fun e => ?_, fun xs e => ?_⟩
      · rw [e] at z
        exact EV.nnB z
      · rw [e] at z
        exact EV.nnB z
    · refine .inr ⟨fun d hd => ?_, ?_⟩
      · (refine EV.el1_2 (List.mem_map.mp hd) fun a ha q138_ => ?_; obtain rfl := q138_)
        have z := List.all_eq_true.mp h3 a ha
        cases e : toPy a with
        | tuple xs => exact EV.in1_1 xs rfl
        | _ => rw [e] at z; exact EV.nnB z
      · cases e : xs.map toPy with
        | nil => rw [e] at h4; exact EV.nnB h4
        | cons d r =>
          rw [e] at h4
          cases d with
          | tuple ys =>
            cases ys with
            | nil => exact EV.in1_1 r rfl
            | cons _ _ => exact EV.nnB h4
          | _ => exact EV.nnB h4
theorem each_of {K : PySem.W.Frag} {G : Hp} {xs : List V} {us : List Value} (h : Vals xs us) : ∀ {ds : List D}, RpL K G xs ds → EachIs (fun u d => ∃ v, RelV v u ∧ Rp K G v d) us ds := by
  induction h with
  | nil =>
    intro ds r
    cases ds with
    | nil => exact .nil
    | cons _ _ => exact absurd r.1 (by simp)
  | cons h t ih =>
    intro ds r
    cases ds with
    | nil => exact absurd r.1 (by simp)
    | cons d ds => exact .cons ⟨_, h, (RpL.tail r).1⟩ (ih (RpL.tail r).2)
theorem each_ofN {K : PySem.W.Frag} {G : Hp} {xs : List V} {us : List Value} (h : Vals xs us) : ∀ {ds : List D}, RpL K G xs ds → (∀ d ∈ ds, (toPy d).hasDict = false) → EachIs (fun u d => ∃ v, RelV v u ∧ Rp K G v d ∧ (toPy d).hasDict = false) us ds := by
  induction h with
  | nil =>
    intro ds r _
    cases ds with
    | nil => exact .nil
    | cons _ _ => exact absurd r.1 (by simp)
  | cons h t ih =>
    intro ds r n
    cases ds with
    | nil => exact absurd r.1 (by simp)
    | cons d ds => exact .cons ⟨_, h, (RpL.tail r).1, n d List.mem_cons_self⟩ (ih (RpL.tail r).2 fun e m => n e (List.mem_cons_of_mem _ m))
mutual
theorem alike_nd : ∀ d : PyData, alike d d = true → d.hasDict = false
  | .none, _ => rfl
  | .bool _, _ => rfl
  | .int _, _ => rfl
  | .str _, _ => rfl
  | .list xs, h => by
    simp only [alike] at h
    simp only [PyData.hasDict]
    exact alikeAll_nd xs h
  | .tuple xs, h => by
    simp only [alike] at h
    simp only [PyData.hasDict]
    exact alikeAll_nd xs h
  | .dict _, h => by simp [alike] at h
theorem alikeAll_nd : ∀ xs : List PyData, alikeAll xs xs = true → PyData.hasDictAll xs = false
  | [], _ => rfl
  | x :: xs, h => by
    simp only [alikeAll, Bool.and_eq_true] at h
    simp only [PyData.hasDictAll, alike_nd x h.1, alikeAll_nd xs h.2, Bool.or_self]
end
theorem allAlike_nd {ds : List D} (h : AllAlike (ds.map toPy)) : ∀ d ∈ ds, (toPy d).hasDict = false := fun d m => alike_nd _ (h _ (List.mem_map.mpr ⟨d, m, rfl⟩) _ (List.mem_map.mpr ⟨d, m, rfl⟩))
theorem of_each {K : PySem.W.Frag} {G : Hp} {us : List Value} {ds : List D} (h : EachIs (fun u d => ∃ v, RelV v u ∧ Rp K G v d) us ds) : ∃ xs : List V, Vals xs us ∧ RpL K G xs ds := by
  induction h with
  | nil => exact ⟨[], .nil, .nil⟩
  | cons h t ih =>
    obtain ⟨v, h1, h2⟩ := h
    obtain ⟨xs, q1, q2⟩ := ih
    exact ⟨v :: xs, .cons h1 q1, .cons h2 q2⟩
section
variable {X : Cx} {k : Nat}
noncomputable def rSortA (K : PySem.W.Frag) : List V → Hp → VK → Prop := fun vs H Q => ∃ (G : Hp) (a : Addr) (xs : List V) (ds : List D), Same G H ∧ vs = [V.ref a] ∧ SqL K H a xs ∧ RpL K G xs ds ∧ sortP ds = true ∧
  ∀ (ys : List V) (p : Addr), RpL K G ys (ds.mergeSort leD2) → H p = none → Q (.ref p) (upd H p (.lst ys))
theorem cr_sortA (hr : Room k X.A) : CallR X (.builtin "sorted") (rSortA X.K) := by
  intro pins s σ H vs us Q I r h
  (refine EV.el4_3 h ?_; try clear h; intro G a xs ds hs q139_ q140_; obtain rfl := q139_; (refine EV.el0_4 q140_ ?_; try clear q140_; intro hq rr hp q))
  refine EV.el0_3 (sortP_use hp) fun h1 h2 h3 => ?_
  refine EV.el1_3 (I.list hq) fun its rv hl hz => ?_
  rw [Vals.ref1 r]
  have e := each_of rv rr
  have u := hr.units
  refine sorted_any (bs := ds) (enc := toPy) hl.isList e ((each_ofN rv rr (allAlike_nd h1)).mono fun v d h9_ => by (refine EV.el1_3 h9_ ?_; try clear h9_; intro x z1 z2 z3); exact Dp.reads I _ x v ((z2.mono hs).dp z3) z1) h1 h3 (by rw [← rr.1]; exact hz) (fun b hb => by have := h2 b hb; omega) fun out ho ho2 => ?_
  refine EV.el1_2 (of_each ho2) fun ys y1 y2 => ?_
  refine EV.el1_1 (PyProof.Rows.sortedAll_at s.heap its out.toArray) fun ep he' => ?_
  have hlen : ys.length ≤ sizeLine := by
    rw [y1.length, ho, ← rr.1]
    exact hz
  exact EV.in2_3 (.ref _) (upd H (s.heap.objs.size + 1) (.lst ys)) (I.laid (t' := s.toks) (fun _ _ => PyProof.Rows.sortedAll_old) (Nat.le_succ _) ⟨hlen, out, ep, y1, he'⟩) rfl (q _ _ y2 (I.hok.fresh (Nat.le_succ _)))
theorem cd_sortedA (hr : Room k X.A) : CallD X (.builtin "sorted") sortedA := by
  refine EV.in1_2 _ (cr_sortA hr) (fun W pa σ G H s xs ds Q hs hp rs P => ?_)
  match ds, rs, P with
  | [d], rs, P =>
    (refine EV.el1_2 (rp1 rs) fun v q141_ r => ?_; obtain rfl := q141_)
    cases r with
    | @lst a vs es h n r =>
      have P : Pst X.K W X.mg pa σ (FD X.K Q) G H ((if sortP es = true then mkL (es.mergeSort leD2) else bad : PM D) s) := P
      by_cases hc : sortP es = true
      · rw [if_pos hc] at P
        exact ⟨G, a, vs, es, hs, rfl, SqL.of (hs _ _ h), ⟨n, r⟩, hc, fun ys p ry np => mkL_use P ry hs hp np⟩
      · rw [if_neg hc] at P
        exact P.elim
    | _ => exact P.elim
  | [], _, P => exact P.elim
  | a :: _ :: _, _, P => cases a <;> exact P.elim
/-- ints by their own way -/
noncomputable def intsQ : List D → Bool
  | [.lst xs] => (intsOf xs).isSome
  | _ => false
noncomputable def sortedG (a : List D) : PM D := if intsQ a = true then sortedF a else sortedA a
theorem cd_sortedG (hr : Room k X.A) : CallD X (.builtin "sorted") sortedG := cd_sortedI.or (cd_sortedA hr)
end
structure DefC (K : PySem.W.Frag) (x : Str) (xs : List Str) : Prop where
  ex : ∃ a od its n sl, PySem.W.nsIn K mainGlobals x = some (some (.ref a)) ∧ K.lookup a = some ⟨.type "tuple", od, .seq its n, sl⟩ ∧ strsB its.toList xs = true
theorem defC {K : PySem.W.Frag} {x : Str} {xs : List Str} {a : Addr} {od : Option Addr} {its : Array Value} {n : Nat} {sl : Array (Option Value)} (e : PySem.W.nsIn K mainGlobals x = some (some (.ref a)))
    (l : K.lookup a = some ⟨.type "tuple", od, .seq its n, sl⟩) (v : strsB its.toList xs = true) : DefC K x xs := ⟨a, od, its, n, sl, e, l, v⟩
theorem DefC.at {K : PySem.W.Frag} {x : Str} {xs : List Str} {h : Heap} {mg : Str → Option Value} (X : K.In h) (G : h.Ns mainGlobals mg) (d : DefC K x xs) (hz : autoParam (xs.length ≤ sizeLine) EV.tac1) : CT K mg x (.tup (xs.map .str)) := by
  refine EV.el5_3 (d.ex) fun a od its n sl e l v => ?_
  exact ctS X G e l v hz
end EV
namespace EV
open PySem PySem.Spec PyProof.Rows L2
theorem rp3 {K : PySem.W.Frag} {G : Hp} {vs : List V} {a b c : D} (h : RpL K G vs [a, b, c]) : ∃ x y z, vs = [x, y, z] ∧ Rp K G x a ∧ Rp K G y b ∧ Rp K G z c := by
  match vs, h with
  | x :: vs, h =>
    obtain ⟨h1, h2⟩ := RpL.tail h
    obtain ⟨y, z, rfl, h3, h4⟩ := rp2 h2
    exact ⟨x, y, z, rfl, h1, h3, h4⟩
  | [], h => exact absurd h.1 (by simp)
noncomputable def unp3 {β : Type} (kk : D → D → D → PM β) : D → PM β
  | .tup [a, b, c] => kk a b c
  | _ => bad
section
variable {X : Cx} {W : WX} {pa : Option Addr} {Γ : List Sl} {k : Nat} {pos : Pos} {α : Type} {out : α → Out} {rest : List Stmt}
/-- a, b, c = e, by a tuple -/
theorem sv_unp3 (i j l : Nat) {tg : Expr} {e : Expr} {me : PM D} {kk : D → D → D → PM α} (C : Cok X W k) (he : EV X W pa Γ e me)
    (hr : ∀ u v w, SV X W pa (((Γ.set i (.val u)).set j (.val v)).set l (.val w)) out rest (kk u v w)) (hp : PG X tg (gTup X.K 3 (gCons (gName i) (gCons (gName j) (gCons (gName l) gNil)))))
    (hs : autoParam (swapsWithSole [tg] e pos.line X.env = pure false) EV.tac2) (hw : autoParam (swappedStores [tg] e X.env = pure none) EV.tac2)
    (h1 : autoParam ((assignEach [tg] X.env).map (·.2) = [assign tg X.env]) EV.tac2) :
    SV X W pa Γ out (.Assign [tg] e pos :: rest) (me >>= unp3 kk) := by
  unfold SV
  rw [bind_assoc]
  have hrest : PSs X rest (fun Dn σ H => ∃ q : EV.D × EV.D × EV.D, svT X W pa (((Γ.set i (.val q.1)).set j (.val q.2.1)).set l (.val q.2.2)) (kk q.1 q.2.1 q.2.2 >>= fun a => pure (out a)) Dn σ H) := pss_ex (ι := EV.D × EV.D × EV.D) fun q => hr q.1 q.2.1 q.2.2
  refine pss_imp (pss_cons (ps_asg he hp hs hw h1) hrest) fun Dn σ H h_ => EV.ex4 h_ fun G0 H0 G s E P => ⟨G0, H0, G, s, E, (P.bind E).imp fun G1 H1 d s1 x1 p1 P1 v r => ?_⟩
  have E1 := E.step x1 p1
  cases r with
  | @tup a xs ds hq n rr =>
    match ds, n, rr, P1 with
    | [u, v, w], n, rr, P1 =>
      obtain ⟨v1, v2, v3, rfl, r1, r2, r3⟩ := rp3 ⟨n, rr⟩
      exact ⟨a, [v1, v2, v3], rfl, sameT x1.sub hq, rfl, v1, [v2, v3], rfl, v2, [v3], rfl, v3, [], rfl, rfl, (u, v, w), G0, H0, G1, s1, ((E1.set i r1).set j r2).set l r3, P1⟩
    | [], _, _, P1 => exact P1.elim
    | [_], _, _, P1 => exact P1.elim
    | [_, _], _, _, P1 => exact P1.elim
    | _ :: _ :: _ :: _ :: _, _, _, P1 => exact P1.elim
  | _ => exact P1.elim
end
end EV
namespace EV
open PySem PySem.Spec PyProof.Rows L2
end EV
namespace EV
open PySem PySem.Spec PyProof.Rows L2
section
variable {X : Cx} {k : Nat}
noncomputable def rCntD (K : PySem.W.Frag) : V → List V → Hp → VK → Prop := fun x xs H Q => ∃ (a : Addr) (y : V) (d : PyData) (ds : List PyData), x = V.ref a ∧ xs = [y] ∧ Dp K H (V.ref a) (.list ds) ∧ Dp K H y d ∧
  SeqAt.shaped (.list ds) = true ∧ SeqAt.shaped d = true ∧ Q (.int ((ds.countP fun z => PyData.eqv z d : Nat) : Int)) H
theorem vals_one {y : V} {us : List Value} (h : Vals [y] us) : ∃ u, us = [u] ∧ RelV y u := by
  cases h with
  | cons r z => cases z; exact EV.in1_2 _ rfl r
theorem mt_countD (hu : X.A.units + 65 < cLine) : MtR X "list.count" (rCntD X.K) := fun pins s σ H x xs v us Q I rx rxs h => by
  (refine EV.el4_2 h ?_; try clear h; intro a y d ds q146_ q147_; obtain rfl := q146_; (refine EV.el0_2 q147_ ?_; try clear q147_; intro q148_ q149_; obtain rfl := q148_; (refine EV.el0_5 q149_ ?_; try clear q149_; intro hl hy sl sd q)))
  cases rx
  (refine EV.el1_2 (vals_one rxs) fun uy q150_ ry => ?_; obtain rfl := q150_)
  refine EV.el1_1 (Dp.reads I d y uy hy ry) fun bs r1 => ?_
  cases hl with
  | lst hs ha =>
    (refine EV.el1_3 (I.list hs) fun its rv q151_ hlen => ?_; (refine EV.el2_4 q151_ ?_; try clear q151_; intro q152_ n ho hc hdn hdt; obtain ⟨cls, dd, data, sls⟩ := q152_))
    cases hc
    cases hdt
    refine EV.el1_1 (Dp.readsAll I ds _ its ha rv) fun as h4 => ?_
    have hxs := SeqAt.canLay_of_shaped sl
    have hmap : its.map (SeqAt.readOf s.heap) = ds := SeqAt.readsAll_map ds its as hxs h4
    have ec : its.toArray.toList.countP (fun u => PyData.eqv (SeqAt.readOf s.heap u) d) = ds.countP fun z => PyData.eqv z d := by
      rw [← hmap, List.countP_map]
      rfl
    refine call_meets PySem.F.slot_list_count ⟨_, ho, rfl⟩ PySem.F.entry_list_count (PySem.F.args_list_count_2 _ _) (SeqAt.list_countAt a its.toArray n dd sls uy fun u => PyData.eqv (SeqAt.readOf s.heap u) d)
      ⟨ho, SeqAt.items_eqAt (vs := its.toArray) (show ReadsAll s.heap its.toArray.toList ds as from h4) r1 hxs (SeqAt.canLay_of_shaped sd) (room_in_shaped sd hu), ⟨.int ((ds.countP fun z => PyData.eqv z d : Nat) : Int), H, I.tok _, ⟨s.toks, ?_⟩, q⟩⟩
    show Value.int ((its.toArray.toList.countP _ : Nat) : Int) s.toks = _
    rw [ec]
end
/-- xs.index(y) of a list, y in it -/
noncomputable def indexD (xs : List D) (y : D) : PM D := if shp (.lst xs) = true ∧ shp y = true then (match xs.findIdx? fun z => eqvD z y with | some j => pure (.int (j : Nat)) | none => bad) else bad
section
variable {X : Cx} {W : WX} {pa : Option Addr} {Γ : List Sl} {k : Nat} {pos : Pos}
theorem dp_lst {K : PySem.W.Frag} {H : Hp} {a : Addr} {vs : List V} {ds : List D} (h : H a = some (.lst vs)) (r : RpL K H vs ds) (hs : shp (.lst ds) = true) : Dp K H (.ref a) (.list (ds.map toPy)) := by
  have z := (Rp.mkL h r).dpS hs
  simp only [toPy, toPyL_map] at z
  exact z
theorem shp_lst {ds : List D} (h : shp (.lst ds) = true) : SeqAt.shaped (.list (ds.map toPy)) = true := by
  unfold shp at h
  simp only [toPy, toPyL_map] at h
  exact h
/-- a method of a list, of one value -/
theorem ev_lm {o e : Expr} {name : Str} {id : String} {mo me : PM D} {f : List D → D → PM D} {r : V → List V → Hp → VK → Prop} {apos cpos : Pos} (slot : Slot "list" name id) (hty : typeOf (.builtin id) = pure (.type "method_descriptor")) (hm : MtR X id r)
    (hf : ∀ (σ : L2.St) (G H : Hp) (s : List Int) (a : Addr) (vs : List V) (ds : List D) (w : V) (y : D) (Q : VK), Same G H → PenOk pa G H s → H a = some (.lst vs) → RpL X.K G vs ds → Rp X.K G w y → Pst X.K W X.mg pa σ (FD X.K Q) G H (f ds y s) → r (.ref a) [w] H Q)
    (ho : EV X W pa Γ o mo) (he : EV X W pa Γ e me) (hbase : autoParam (attributeBase o name X.env (eval o X.env) = eval o X.env) EV.tac2)
    (hfew : autoParam (((backTo cpos (starEach [e] X.env)).all (fun x => !x.1) && (backToKw cpos (keywordEach [] X.env)).all (fun x => x.1.isSome)
      && decide ([e].length + ([] : List Keyword).length + (if ([] : List Keyword).isEmpty then 0 else 1) < 30)) = true) EV.tac2)
    (hline : autoParam ((apos.endLine == cpos.line) = true) EV.tac2) (hs : autoParam (starEach [e] X.env = (false, eval e X.env) :: starEach [] X.env) EV.tac2) (hplain : autoParam ((backTo cpos (starEach [] X.env)).any (·.1) = false) EV.tac2) :
    EV X W pa Γ (.Call (.Attribute o name apos) [e] [] cpos) (mo >>= fun d => lstOf d >>= fun xs => me >>= fun y => f xs y) :=
  pe_imp (pe_bm PySem.F.plainAttrs_list slot hty hm ho (pa_cons he pa_nil hs) hbase hfew hline hs hplain) fun σ H Q h_ => EV.ex4 h_ fun G0 H0 G s E P =>
    ⟨G0, H0, G, s, E, P.bind.imp fun G1 H1 d s1 x1 p1 P1 v rv => by
      cases rv with
      | @lst a vs ds h n rr =>
        have P1 : Pst X.K W X.mg pa σ (FD X.K Q) G1 H1 ((me >>= fun y => f ds y) s1) := P1
        exact ⟨.inl ⟨rfl, vs, SqL.of (x1.sub _ _ h)⟩, G0, H0, G1, s1, E.step x1 p1, P1.bind.imp fun G2 H2 d2 s2 x2 p2 P2 w rw => hf σ G2 H2 s2 a vs ds w d2 Q x2.sub p2 (x2.sub _ _ (x2.g _ _ h)) (RpL.mono x2.g ⟨n, rr⟩) rw P2⟩
      | _ => exact P1.elim⟩
theorem ev_index {o e : Expr} {mo me : PM D} {apos cpos : Pos} (C : Cok X W k) (ho : EV X W pa Γ o mo) (he : EV X W pa Γ e me)
    (hbase : autoParam (attributeBase o "index" X.env (eval o X.env) = eval o X.env) EV.tac2)
    (hfew : autoParam (((backTo cpos (starEach [e] X.env)).all (fun x => !x.1) && (backToKw cpos (keywordEach [] X.env)).all (fun x => x.1.isSome)
      && decide ([e].length + ([] : List Keyword).length + (if ([] : List Keyword).isEmpty then 0 else 1) < 30)) = true) EV.tac2)
    (hline : autoParam ((apos.endLine == cpos.line) = true) EV.tac2) (hs : autoParam (starEach [e] X.env = (false, eval e X.env) :: starEach [] X.env) EV.tac2) (hplain : autoParam ((backTo cpos (starEach [] X.env)).any (·.1) = false) EV.tac2) :
    EV X W pa Γ (.Call (.Attribute o "index" apos) [e] [] cpos) (mo >>= fun d => lstOf d >>= fun xs => me >>= fun y => indexD xs y) :=
  ev_lm PySem.F.slot_list_index PySem.F.type_list_index (mt_indexD (room65 C.room)) (fun σ G H s a vs ds w y Q hs hp h rr rw P => by
    unfold indexD at P
    by_cases hc : shp (.lst ds) = true ∧ shp y = true
    · rw [if_pos hc] at P
      cases e : ds.findIdx? fun z => eqvD z y with
      | none => rw [e] at P; exact P.elim
      | some j =>
        rw [e] at P
        obtain ⟨hj, h1, h2⟩ := List.findIdx?_eq_some_iff_getElem.mp e
        refine ⟨a, w, toPy y, ds.map toPy, j, toPy ds[j], rfl, rfl, dp_lst h (rr.mono hs) hc.1, (rw.mono hs).dpS hc.2, shp_lst hc.1, hc.2, by rw [List.getElem?_map, List.getElem?_eq_getElem hj]; rfl, h1, fun m z' hm hz => ?_, P.now hs hp _ (.int _)⟩
        rw [List.getElem?_map, List.getElem?_eq_getElem (by omega)] at hz
        have hz := Option.some.inj hz
        subst hz
        have := h2 m hm
        simpa [eqvD] using this
    · rw [if_neg hc] at P
      exact P.elim) ho he hbase hfew hline hs hplain
end
end EV
namespace EV
open PySem PySem.Spec PyProof.Rows L2 PySem.W
noncomputable def leR (a b : List Int) : Bool := decide (a ≤ b)
theorem leR_tr (a b c : List Int) (h : leR a b = true) (h2 : leR b c = true) : leR a c = true := decide_eq_true (List.le_trans (of_decide_eq_true h) (of_decide_eq_true h2))
theorem leR_tot (a b : List Int) : (leR a b || leR b a) = true := by
  rw [Bool.or_eq_true]
  rcases List.le_total a b with h | h
  · exact .inl (decide_eq_true h)
  · exact .inr (decide_eq_true h)
theorem leR_anti {a b : List Int} (h : leR a b = true) (h2 : leR b a = true) : a = b := List.le_antisymm (of_decide_eq_true h) (of_decide_eq_true h2)
noncomputable def ddR : List (List Int) → List (List Int)
  | [] => []
  | x :: r => if x ∈ ddR r then ddR r else x :: ddR r
theorem mem_ddR {x : List Int} : ∀ {l : List (List Int)}, x ∈ ddR l ↔ x ∈ l
  | [] => Iff.rfl
  | y :: r => by
    unfold ddR
    split
    · rename_i h
      rw [mem_ddR (l := r), List.mem_cons]
      constructor
      · exact .inr
      · rintro (e | m)
        · rw [e]
          exact mem_ddR.mp h
        · exact m
    · rw [List.mem_cons, mem_ddR (l := r), List.mem_cons]
theorem ddR_nodup : ∀ (l : List (List Int)), (ddR l).Nodup
  | [] => .nil
  | y :: r => by
    unfold ddR
    split
    · exact ddR_nodup r
    · rename_i h
      exact List.nodup_cons.mpr ⟨h, ddR_nodup r⟩
noncomputable def setT (l : List (List Int)) : List (List Int) := (ddR l).mergeSort leR
theorem mem_setT {x : List Int} {l : List (List Int)} : x ∈ setT l ↔ x ∈ l := by
  unfold setT
  rw [(List.mergeSort_perm _ _).mem_iff, mem_ddR]
theorem setT_sorted (l : List (List Int)) : (setT l).Pairwise fun a b => leR a b = true := List.pairwise_mergeSort leR_tr leR_tot _
theorem setT_nodup (l : List (List Int)) : (setT l).Nodup := (List.mergeSort_perm _ _).nodup_iff.mpr (ddR_nodup l)
theorem setT_uniq {A B : List (List Int)} (ha : A.Pairwise fun a b => leR a b = true) (hb : B.Pairwise fun a b => leR a b = true) (na : A.Nodup) (nb : B.Nodup) (e : ∀ x, x ∈ A ↔ x ∈ B) : A = B :=
  List.Perm.eq_of_pairwise (fun a b _ _ h1 h2 => leR_anti h1 h2) ha hb ((List.perm_ext_iff_of_nodup na nb).mpr e)
noncomputable def tR (r : List Int) : D := .tup (r.map D.int)
end EV
namespace EV
open PySem PySem.Spec PyProof.Rows L2
end EV
set_option maxHeartbeats 1000000
namespace EV
open PySem PySem.Spec PyProof.Rows L2 GenW
end EV
set_option maxHeartbeats 1000000
namespace EV
open PySem PySem.Spec PyProof.Rows L2 GenW
noncomputable def fnL2 (g : D → D → PM (List D)) : List D → PM (List D)
  | [a, b] => g a b
  | _ => bad
noncomputable def fnL1 (g : D → PM (List D)) : List D → PM (List D)
  | [a] => g a
  | _ => bad
theorem GFn.mono {P : Program} {w : World} {K : PySem.W.Frag} {mg : Str → Option Value} {base : Heap} {j k : Nat} {f : Addr} {fd : FuncData} {ps : List Str} {sp : SpG} (F : GFn P w K mg base j f fd ps sp) (h : j ≤ k) : GFn P w K mg base k f fd ps sp := by
  refine ⟨F.len, fun A outer s H args us vs Q E hr e0 hb r hsp => codeAny_mono (F.run A outer s H args us vs Q E (hr.mono h) e0 hb r hsp) fun r s' hq => ?_⟩
  cases r with
  | error e => exact hq
  | ok fl =>
    cases fl with
    | ret u =>
      (refine EV.el3_4 hq ?_; try clear hq; intro a g c h1 h2 h3 q153_; refine EV.el0_7 q153_ ?_; try clear q153_; intro h4 h5 h6 h7 h8 h9 h10)
      exact ⟨a, g, c, h1, h2, h3, h4, h5, h6, h7, h8, h9, fun A S s2 hr => h10 A S s2 (hr.mono h)⟩
    | next => exact hq.elim
    | brk => exact hq.elim
    | cont => exact hq.elim
theorem arL2 {g} : ∀ ds, ds.length ≠ 2 → fnL2 g ds [] = .bad := fun ds h => by
  match ds, h with
  | [_, _], h => exact absurd rfl h
  | [], _ => rfl
  | [_], _ => rfl
  | _ :: _ :: _ :: _, _ => rfl
end EV
namespace EV
open PySem PySem.Spec PyProof.Rows L2 PySem.W
end EV
namespace EV
open PySem PySem.Spec PyProof.Rows L2
section
variable {X : Cx} {k : Nat}
inductive MCs (X : Cx) : List MatchCase → (Str → Int → TS) → Prop
  | nil : MCs X [] (fun _ _ D σ H => D.nx σ H)
  | cons {s : Str} {n : Int} {j1 j2 : Nat} {p1 p2 p3 p4 p5 : Pos} {body : List Stmt} {t : TS} {cs : List MatchCase} {f : Str → Int → TS} : PSs X body t → MCs X cs f →
      MCs X (⟨.MatchSequence [.MatchValue (.Constant (.str s) j1 p1) p2, .MatchValue (.Constant (.int n) j2 p3) p4] p5, none, body⟩ :: cs) (fun a b D σ H => if (a == s && b == n) = true then t D σ H else f a b D σ H)
theorem eqS_run {pins : List (Addr × Obj)} {s : Shared} {σ : L2.St} {H : Hp} {a b : Str} {v u : Value} {Q : VK} (hr : Room k X.A) (I : Inv X pins σ H s) (rv : RelV (.str a) v) (ru : RelV (.str b) u) (q : Q (.bl (a == b)) H) : wpAny (model X.prog X.w) X.A (compareOp .Eq v u) (EP X pins σ Q) X.xe s :=
  (op_eq.or (op_eqD hr.units)) pins s σ H _ _ _ _ Q I rv ru (.inl ⟨rfl, by rw [dec_str]; exact q⟩)
theorem eqI_run {pins : List (Addr × Obj)} {s : Shared} {σ : L2.St} {H : Hp} {a b : Int} {v u : Value} {Q : VK} (hr : Room k X.A) (I : Inv X pins σ H s) (rv : RelV (.int a) v) (ru : RelV (.int b) u) (q : Q (.bl (a == b)) H) : wpAny (model X.prog X.w) X.A (compareOp .Eq v u) (EP X pins σ Q) X.xe s :=
  (op_eq.or (op_eqD hr.units)) pins s σ H _ _ _ _ Q I rv ru (.inr ⟨.int a, .int b, .int a, .int b, rfl, rfl, q⟩)
theorem match_cases (hr : Room k X.A) (hc : X.calm = true) {cs : List MatchCase} {f : Str → Int → TS} (h : MCs X cs f) : ∀ (pins : List (Addr × Obj)) (s : Shared) (σ : L2.St) (H : Hp) (D : Ends) (p : Addr) (a : Str) (b : Int) (first : Bool),
    Inv X pins σ H s → SqT X.K H p [.str a, .int b] → f a b D σ H → wpAny (model X.prog X.w) X.A (matchCases cs X.env (.ref p) first) (SP X pins D) X.xe s := by
  induction h with
  | nil => exact fun pins s σ H D p a b first I _ q => wpAny_matchCases_nil ⟨σ, H, I, q⟩
  | @cons c n j1 j2 p1 p2 p3 p4 p5 body t cs f hb _ ih =>
    intro pins s σ H D p a b first I hq q
    obtain ⟨its, rv, ht, hz⟩ := I.tuple hq
    obtain ⟨u1, u2, rfl, r1, r2⟩ : ∃ u1 u2, its = [u1, u2] ∧ RelV (.str a) u1 ∧ RelV (.int b) u2 := by
      cases rv with
      | cons r1 t =>
        cases t with
        | cons r2 t2 =>
          cases t2
          exact ⟨_, _, rfl, r1, r2⟩
    refine wpAny_matchCases_cons ?_
    have hsz : ([u1, u2] : List Value).toArray.size = 2 := rfl
    have hfit : (([u1, u2] : List Value).toArray.size : Int) < 2 ^ 63 := by rw [hsz]; omega
    have hst : ([Pattern.MatchValue (.Constant (.str c) j1 p1) p2, Pattern.MatchValue (.Constant (.int n) j2 p3) p4] : List Pattern).findIdx? (·.isStar) = none := rfl
    have hwi : (([Pattern.MatchValue (.Constant (.str c) j1 p1) p2, Pattern.MatchValue (.Constant (.int n) j2 p3) p4] : List Pattern).all fun p => p.isWildcard || (p.isStar && p.names.isEmpty)) = false := rfl
    refine matchSeq_tuple_hit (hstar := hst) (hwild := hwi) ht hfit hsz ?_
    have I0 : Inv X pins σ H { s with toks := s.toks + 1 + 1 } := I.kept (t' := s.toks + 1 + 1) fun b o e => e
    have ht0 : IsTup ({ s with toks := s.toks + 1 + 1 } : Shared).heap p ([u1, u2] : List Value).toArray := ht
    show wpAny (model X.prog X.w) X.A (unpackItems (.ref p) ([u1, u2] : List Value).toArray.size none) _ _ _
    refine unpackItems_tuple (items := ([u1, u2] : List Value).toArray) (I0.ok.hd hc) ht0 fun h' hx => ?_
    have I1 : Inv X pins σ H { ({ s with toks := s.toks + 1 + 1 } : Shared) with heap := h' } := I0.kept (t' := s.toks + 1 + 1) fun b o e => hx b o (Nat.ne_of_lt (Heap.lt_size e)) e
    have miss : (a == c && b == n) = false → ∀ s', Inv X pins σ H s' → wpAny (model X.prog X.w) X.A (matchCases cs X.env (.ref p) false) (SP X pins D) X.xe s' := fun e s' I' => by
      rw [e, if_neg (by decide)] at q
      exact ih pins s' σ H D p a b false I' hq q
    refine wpAny_matchEach_cons (wpAny_matchPattern_Value ?_)
    refine wpAny_mono (pe_str.run pins _ σ H (fun v H' => v = .str c ∧ H' = H) I1 ⟨rfl, rfl⟩) (fun w s2 hw => ?_) fun _ _ he => he
    obtain ⟨x, H', I2, rx, rfl, rfl⟩ := hw
    refine wpAny_mono (eqS_run (Q := fun v H'' => v = .bl (a == c) ∧ H'' = H') hr I2 r1 rx ⟨rfl, rfl⟩) (fun w s3 hw => ?_) fun _ _ he => he
    obtain ⟨y, H'', I3, ry, rfl, rfl⟩ := hw
    obtain rfl : w = .bool (a == c) := ry
    refine wpAny_truthy_bool ?_
    cases e1 : (a == c) with
    | false =>
      simp only [Bool.false_eq_true, if_false]
      exact miss (by rw [e1]; rfl) s3 I3
    | true =>
      simp only [if_true]
      refine wpAny_matchEach_cons (wpAny_matchPattern_Value ?_)
      refine wpAny_mono (pe_int.run pins _ σ H'' (fun v H' => v = .int n ∧ H' = H'') I3 ⟨rfl, rfl⟩) (fun w s4 hw => ?_) fun _ _ he => he
      obtain ⟨x, H', I4, rx, rfl, rfl⟩ := hw
      refine wpAny_mono (eqI_run (Q := fun v H'' => v = .bl (b == n) ∧ H'' = H') hr I4 r2 rx ⟨rfl, rfl⟩) (fun w s5 hw => ?_) fun _ _ he => he
      obtain ⟨y, H3, I5, ry, rfl, rfl⟩ := hw
      obtain rfl : w = .bool (b == n) := ry
      refine wpAny_truthy_bool ?_
      cases e2 : (b == n) with
      | false =>
        simp only [Bool.false_eq_true, if_false]
        exact miss (by rw [e1, e2]; rfl) s5 I5
      | true =>
        simp only [if_true]
        refine wpAny_matchEach_nil ?_
        refine wpAny_assignInOrder_none ?_
        rw [e1, e2, Bool.and_self, if_pos rfl] at q
        exact hb.run pins s5 σ H3 D I5 q
noncomputable def tMatch2 (te : TE) (f : Str → Int → TS) : TS := fun D σ H => te σ H fun v H1 => ∃ (p : Addr) (a : Str) (b : Int), v = .ref p ∧ SqT X.K H1 p [.str a, .int b] ∧ f a b D σ H1
theorem ps_match2 {subj : Expr} {pos : Pos} {te : TE} {cs : List MatchCase} {f : Str → Int → TS} (hr : Room k X.A) (hc : X.calm = true) (he : PE X subj te) (h : MCs X cs f) : PS X (.Match subj cs pos) (tMatch2 (X := X) te f) := by
  refine ⟨fun pins s σ H D I ht => wpAny_Match (wpAny_mono (he.run pins s σ H _ I ht) (fun v s1 hv => ?_) fun _ _ he => he)⟩
  obtain ⟨x, H1, I1, rx, p, a, b, rfl, hq, q⟩ := hv
  obtain rfl : v = Value.ref p := rx
  exact match_cases hr hc h pins s1 σ H1 D p a b true I1 hq q
end
noncomputable def matK {α : Type} (f : Str → Int → PM α) : List D → PM α
  | [.str a, .int b] => f a b
  | _ => bad
/-- the cases, each of which leaves the block; then the rest -/
inductive SMs (X : Cx) (W : WX) (pa : Option Addr) (Γ : List Sl) {α : Type} (out : α → Out) (kk : PM α) : List MatchCase → (Str → Int → PM α) → Prop
  | nil : SMs X W pa Γ out kk [] (fun _ _ => kk)
  | cons {s : Str} {n : Int} {j1 j2 : Nat} {p1 p2 p3 p4 p5 : Pos} {body : List Stmt} {m : PM α} {cs : List MatchCase} {f : Str → Int → PM α} : SV X W pa Γ out body m → (∀ a s s' Γ', m s = .ok a s' → out a ≠ .fall Γ') → SMs X W pa Γ out kk cs f →
      SMs X W pa Γ out kk (⟨.MatchSequence [.MatchValue (.Constant (.str s) j1 p1) p2, .MatchValue (.Constant (.int n) j2 p3) p4] p5, none, body⟩ :: cs) (fun a b => if (a == s && b == n) = true then m else f a b)
section
variable {X : Cx} {W : WX} {pa : Option Addr} {Γ : List Sl} {k : Nat} {α : Type} {out : α → Out} {rest : List Stmt}
theorem sms_mcs {kk : PM α} {cs : List MatchCase} {f : Str → Int → PM α} (h : SMs X W pa Γ out kk cs f) : ∃ F : Str → Int → TS, MCs X cs F ∧
    ∀ (a : Str) (b : Int) (Dn : Ends) (σ : L2.St) (H : Hp), svT X W pa Γ (f a b >>= fun a => pure (out a)) Dn σ H → F a b { Dn with nx := fun σ H => svT X W pa Γ (kk >>= fun a => pure (out a)) Dn σ H } σ H := by
  induction h with
  | nil => exact ⟨_, .nil, fun a b Dn σ H q => q⟩
  | @cons s n j1 j2 p1 p2 p3 p4 p5 body m cs f hb hn _ ih =>
    obtain ⟨F, hF, i⟩ := ih
    refine ⟨_, .cons hb hF, fun a b Dn σ H q => ?_⟩
    by_cases e : (a == s && b == n) = true
    · dsimp only at q ⊢
      rw [if_pos e] at q ⊢
      obtain ⟨G0, H0, G, s0, E, P⟩ := q
      refine ⟨G0, H0, G, s0, E, ?_⟩
      rw [PM.bind_def] at P ⊢
      cases e2 : m s0 with
      | ok a s2 =>
        rw [e2] at P
        have h := hn a s0 s2
        show SPost X.K W X.mg pa G0 H0 _ (.ok (out a) s2)
        have P : SPost X.K W X.mg pa G0 H0 Dn (.ok (out a) s2) := P
        cases q : out a with
        | fall Γ' => exact absurd q (h Γ' e2)
        | ret d => rw [q] at P; exact P
        | brk Γ' => rw [q] at P; exact P
        | cnt Γ' => rw [q] at P; exact P
        | retG d Γ' => rw [q] at P; exact P
      | exc z => rw [e2] at P; exact P
      | bad => rw [e2] at P; exact P.elim
    · dsimp only at q ⊢
      rw [if_neg e] at q ⊢
      exact i a b Dn σ H q
theorem sv_match {e1 e2 : Expr} {x1} {p pos : Pos} {ml : PM (List D)} {cs : List MatchCase} {f : Str → Int → PM α} {kk : PM α} (C : Cok X W k) (he : EL X W pa Γ [e1, e2] ml) (h : SMs X W pa Γ out kk cs f) (hr : SV X W pa Γ out rest kk) :
    SV X W pa Γ out (.Match (.Tuple [e1, e2] x1 p) cs pos :: rest) (ml >>= matK f) := by
  obtain ⟨F, hF, i⟩ := sms_mcs h
  unfold SV
  rw [bind_assoc]
  refine pss_imp (pss_cons (ps_match2 C.room C.calm (L2.pe_tup he) hF) hr) fun Dn σ H h_ => EV.ex4 h_ fun G0 H0 G s E P => ⟨G0, H0, G, s, E, (P.bind E).imp fun G1 H1 ds s1 x1 p1 P1 vs r => ?_⟩
  have two : ∃ a b, ds = [.str a, .int b] ∧ SPost X.K W X.mg pa G0 H0 Dn ((f a b >>= fun a => pure (out a)) s1) := by
    unfold matK at P1
    split at P1
    · exact ⟨_, _, rfl, P1⟩
    · exact P1.elim
  obtain ⟨a, b, rfl, P2⟩ := two
  obtain ⟨v, w, rfl, r1, r2⟩ := rp2 r
  cases r1
  cases r2
  refine ⟨small64 (by show 2 < 64; omega), fun q np => ⟨q, a, b, rfl, .inl (.inl upd_same), i a b Dn σ _ ?_⟩⟩
  have E1 := E.step x1 p1
  have xn := Ext.new (K := X.K) (pa := pa) x1.sub np (.tup [.str a, .int b])
  exact ⟨G0, H0, _, s1, E1.step xn (p1.upd np _), P2⟩
end
end EV
section
set_option maxHeartbeats 4000000
namespace EV
open PySem PySem.Spec PyProof.Rows L2
theorem tuple_mul1 (l : Addr) (items : Array Value) (n : Nat) (dd : Option Addr) (sl : Array (Option Value)) (x : Int) (u : Tok) (c0 : (decide (x < -(2 ^ 63)) || decide (x ≥ 2 ^ 63)) = false) (c1 : (items.isEmpty || x == 1) = true) :
    Meets (Builtin.«tuple.__mul__» ⟨[.ref l, .int x u], []⟩) (fun _ R s => s.heap.get? l = some { cls := .type "tuple", dict := dd, data := .seq items n, slots := sl } ∧ R (.ok (.ret (Value.ref l))) s) :=
  .of_wp fun prog w A R s h => by
    obtain ⟨hp, g, d, tk, os⟩ := s
    (refine EV.el0_2 h ?_; try clear h; intro hl h)
    have f1 := AutoSeq1.idx_int
    wp_walk using wpAny_loadPart' hl
    repeat (first
      | (refine wpAny_ite_false (decide_eq_false (by rw [c0]; exact Bool.false_ne_true)) ?_; wp_walk using wpAny_loadPart' hl)
      | (refine wpAny_ite_true (decide_eq_true c1) ?_; wp_walk using wpAny_loadPart' hl))
    exact EV.in1_2 _ rfl h
noncomputable def rRep1 (K : PySem.W.Frag) : R2 := fun x y H Q => ∃ l xs, x = .ref l ∧ y = .int 1 ∧ SqT K H l xs ∧ Q (.ref l) H
section
variable {X : Cx}
theorem op_rep1 : OpR X (binaryOp .Mult) (rRep1 X.K) := by
  intro pins s σ H x y v u Q I rx ry h
  (refine EV.el2_2 h ?_; try clear h; intro l xs q167_ q168_; obtain rfl := q167_; (refine EV.el0_2 q168_ ?_; try clear q168_; intro q169_ q170_; obtain rfl := q169_; (refine EV.el0_2 q170_ ?_; try clear q170_; intro hT q)))
  cases rx
  (refine EV.el1_1 ry ?_; try clear ry; intro t q171_; obtain rfl := q171_)
  (refine EV.el1_3 (I.tuple hT) fun its r q172_ hs => ?_; obtain ⟨⟨cls, dd, data, sl⟩, ho, hc, n, hd⟩ := q172_)
  simp only at hc hd
  subst hc hd
  have c0 : (decide ((1 : Int) < -(2 ^ 63)) || decide ((1 : Int) ≥ 2 ^ 63)) = false := by
    rw [decide_eq_false (by decide), decide_eq_false (by decide)] <;> rfl
  have c1 : (its.toArray.isEmpty || (1 : Int) == 1) = true := by
    rw [beq_self_eq_true, Bool.or_true]
  refine wpAny_binaryOp_repeat_ref (T := "tuple") (U := "int") (by decide) ⟨_, ho, rfl⟩ (fun s' => typeIs_int s' 1 t) noFill_tuple_mul F.fills_int_mul F.slot_int_rmul repeat_tuple F.slot_int_index.lookup
    (call_meets F.slot_int_rmul (typeIs_int s 1 t) F.entry_int_rmul (F.args_int_rmul_2 _ _) (int_rmul_tuple 1 t l its.toArray n dd sl)
      ⟨ho, rfl, ⟨_, ho, rfl⟩, call_meets F.slot_tuple_mul ⟨_, ho, rfl⟩ F.entry_tuple_mul (F.args_tuple_mul_2 _ _) (tuple_mul1 l its.toArray n dd sl 1 t c0 c1) ⟨ho, ?_⟩⟩)
  exact EV.in2_3 (.ref l) H I rfl q
end
noncomputable def repD (k : Int) (xs : List D) : List D := (List.replicate k.toNat xs).flatten
noncomputable def mulG : D → D → PM D
  | .tup xs, .int k => if k = 1 then pure (.tup xs) else if xs ≠ [] ∧ 2 ≤ k ∧ k ≤ 1000 ∧ xs.length ≤ 1000 then mkT (repD k xs) else bad
  | a, b => mulD a b
theorem rep_rp {K : PySem.W.Frag} {G : Hp} {vs : List V} {ds : List D} (r : RpL K G vs ds) : ∀ n : Nat, RpL K G (List.replicate n vs).flatten (List.replicate n ds).flatten
  | 0 => .nil
  | n + 1 => by
    rw [List.replicate_succ, List.replicate_succ, List.flatten_cons, List.flatten_cons]
    exact r.app (rep_rp r n)
section
variable {X : Cx}
theorem od_mulG : OpD X (binaryOp .Mult) mulG := by
  refine EV.el1_2 (od_mul (X := X)) fun r h1 h2 => ?_
  refine EV.in1_2 _ ((h1.or op_repT).or op_rep1) (fun W pa σ G H s x y a b Q hs hp ra rb P => ?_)
  by_cases ht : ∃ xs k, a = .tup xs ∧ b = .int k
  · (refine EV.el2_2 ht ?_; try clear ht; intro xs k q174_ q175_; obtain rfl := q174_; obtain rfl := q175_)
    cases rb
    have P : Pst X.K W X.mg pa σ (FD X.K Q) G H ((if k = 1 then pure (.tup xs) else if xs ≠ [] ∧ 2 ≤ k ∧ k ≤ 1000 ∧ xs.length ≤ 1000 then mkT (repD k xs) else bad : PM D) s) := P
    cases ra with
    | @tup l vs ds h n rr =>
      by_cases k1 : k = 1
      · subst k1
        rw [if_pos rfl] at P
        exact .inr ⟨l, vs, rfl, rfl, sameT hs h, P.now hs hp _ (.tup h n rr)⟩
      · rw [if_neg k1] at P
        by_cases g : xs ≠ [] ∧ 2 ≤ k ∧ k ≤ 1000 ∧ xs.length ≤ 1000
        · rw [if_pos g] at P
          have rl : RpL X.K G vs xs := ⟨n, rr⟩
          have rp := rep_rp rl k.toNat
          exact .inl (.inr ⟨l, k, vs, rfl, rfl, sameT hs h, fun e => g.1 (by rw [e] at n; exact List.eq_nil_of_length_eq_zero n.symm), g.2.1, g.2.2.1, by rw [n]; exact g.2.2.2, fun p np => mkT_use P rp hs hp np⟩)
        · rw [if_neg g] at P
          exact P.elim
  · have e : mulG a b = mulD a b := by
      cases a <;> cases b <;> first | rfl | exact absurd ⟨_, _, rfl, rfl⟩ ht
    rw [e] at P
    exact .inl (.inl (h2 W pa σ G H s x y a b Q hs hp ra rb P))
end
end EV
end
namespace EV
open PySem PySem.Spec PyProof.Rows L2
end EV
namespace EV
open PySem PySem.Spec PyProof.Rows L2
end EV
namespace L2
open PySem PySem.Spec PyProof.Rows PpSet
end L2
namespace EV
open PySem PySem.Spec PyProof.Rows L2
end EV
namespace EV
open PySem PySem.Spec PyProof.Rows L2 PySem.W
open AutoSeq1 (wpAny_loadPart')
end EV
namespace EV
open PySem PySem.Spec PyProof.Rows L2
section
variable {K : PySem.W.Frag} {pa : Option Addr} {G0 H0 G H : Hp} {σ : L2.St} {Γ : List Sl} {s : List Int}
/-- a dict of one's own is changed -/
theorem Nv.mutDic (E : Nv K pa G0 H0 G H σ Γ s) {i : Nat} {sh sh' : DSh} {xs ys : List D} {p : Addr} {vs : List V} (h : Γ[i]? = some (.dic sh xs)) (hp : σ[i]? = some (some (.ref p))) (r : RpL K G vs ys) (hl : sh'.len = ys.length) (hat : autoParam (sh.at p → sh'.at p) EV.tac8) :
    Nv K pa G0 H0 G (upd H p (sh'.ho vs)) σ (Γ.set i (.dic sh' ys)) s := by
  refine EV.el2_6 (E.x.dic i sh xs h) fun p' vs' h1 h2 h3 h4 h5 h6 => ?_
  rw [hp] at h1
  cases h1
  have hlt : i < Γ.length := (List.getElem?_eq_some_iff.mp h).1
  have lst : ∀ {q : Addr} {ws : List V}, H q = some (.lst ws) → q ≠ p := fun {q ws} e z => by
    rw [z, h2] at e
    exact DSh.notLst (Option.some.inj e)
  have back : ∀ {j : Nat} {z : Sl}, plainS z = true → (Γ.set i (.dic sh' ys))[j]? = some z → Γ[j]? = some z := fun {j z} hz e => by
    by_cases hj : i = j
    · subst hj
      rw [List.getElem?_set_self hlt] at e
      rw [← Option.some.inj e] at hz
      exact EV.nnB hz
    · rw [List.getElem?_set_ne hj] at e
      exact e
  have old : ∀ {j : Nat} {s2 : DSh} {zs : List D}, (Γ.set i (.dic sh' ys))[j]? = some (.dic s2 zs) → ∃ s3 ws, Γ[j]? = some (.dic s3 ws) := fun {j s2 zs} e => by
    by_cases hj : i = j
    · subst hj
      exact EV.in2_1 sh xs h
    · rw [List.getElem?_set_ne hj] at e
      exact EV.in2_1 s2 zs e
  refine ⟨by simp [E.len], fun j d e => E.val j d (back rfl e), fun j zs e => ?_, fun j l q ys' zs e1 e2 => E.inj j l q ys' zs (back rfl e1) (back rfl e2), fun j e => E.pen j (back rfl e), fun j ns e => E.scr j ns (back rfl e), fun q e => ?_, ?_, ⟨fun j s2 zs e => ?_, fun j l q s1 y1 s2 z2 e1 e2 => ?_, fun j s2 zs e => ?_, E.x.t0, E.x.nt⟩⟩
  · refine EV.el2_3 (E.own j zs (back rfl e)) fun q ws q1 q2 q3 => ?_
    exact EV.in2_3 q ws q1 (by rw [upd_ne (lst q2)]; exact q2) q3
  · refine EV.el0_2 (E.ps q e) fun q1 q2 => ?_
    rw [upd_ne (lst q2)]
    exact ⟨q1, q2⟩
  · refine ⟨E.ext.g, fun a o e n nt => ?_, fun a o e => ?_, E.ext.n, fun a o e => ?_, fun hK => (E.ext.tk hK).upd (fun _ z => DSh.notTbl z) (fun φ z => by rw [h2] at z; exact DSh.notExt (Option.some.inj z)) (fun φ z => by rw [h2] at z; exact DSh.notTbl (Option.some.inj z)), E.ext.gt⟩
    · rw [upd_ne (ne_of_none e h6.1)]
      exact E.ext.h a o e n nt
    · rw [upd_ne (ne_of_none e h6.1)]
      exact E.ext.t a o e
    · rw [upd_ne (ne_of_none e h3)]
      exact E.sub a o e
  · by_cases hj : i = j
    · subst hj
      rw [List.getElem?_set_self hlt] at e
      cases e
      exact EV.in2_7 p vs hp upd_same h3 r hl (h6.1) (hat h6.2)
    · rw [List.getElem?_set_ne hj] at e
      refine EV.el2_3 (E.x.dic j s2 zs e) fun q ws q1 q2 q3 => ?_
      have ne : q ≠ p := fun z => by
        rw [z] at q1
        exact hj (E.x.inj i j p _ _ _ _ h e hp q1)
      exact EV.in2_3 q ws q1 (by rw [upd_ne ne]; exact q2) q3
  · refine EV.el2_1 (old e1) fun _ _ f1 => ?_
    refine EV.el2_1 (old e2) fun _ _ f2 => ?_
    exact E.x.inj j l q _ _ _ _ f1 f2
  · by_cases hj : i = j
    · subst hj
      rw [List.getElem?_set_self hlt] at e
      cases e
    · rw [List.getElem?_set_ne hj] at e
      exact E.x.ro j s2 zs e
end
section
variable {K : PySem.W.Frag} {pa : Option Addr} {G0 H0 G H : Hp} {σ : L2.St} {Γ : List Sl} {s : List Int}
/-- a slot holds what stays -/
theorem Nv.setRo (E : Nv K pa G0 H0 G H σ Γ s) {p : Addr} {vs : List V} {xs : List D} {sh : DSh} (i : Nat) (hp : G p = some (sh.ho vs)) (r : RpL K G vs xs) (hl : sh.len = xs.length) : Nv K pa G0 H0 G H (σ.set i (some (.ref p))) (Γ.set i (.ro sh xs)) s := by
  have back : ∀ {j : Nat} {z : Sl}, (∀ sh ys, z ≠ .ro sh ys) → (Γ.set i (.ro sh xs))[j]? = some z → i ≠ j ∧ Γ[j]? = some z := fun {j z} hz e => by
    by_cases hj : i = j
    · subst hj
      have hi := (List.getElem?_eq_some_iff.mp e).1
      rw [List.getElem?_set_self (by simpa using hi)] at e
      exact absurd (Option.some.inj e).symm (hz _ _)
    · rw [List.getElem?_set_ne hj] at e
      exact ⟨hj, e⟩
  refine ⟨by simp [E.len], fun j d e => ?_, fun j ys e => ?_, fun j l q ys zs e1 e2 => ?_, fun j e => ?_, fun j ns e => ?_, E.ps, E.ext, ⟨fun j sh' ys e => ?_, fun j l q sh1 ys sh2 zs e1 e2 => ?_, fun j sh' ys e => ?_, E.x.t0, E.x.nt⟩⟩
  · obtain ⟨ne, e⟩ := back (fun _ _ z => by cases z) e
    rw [List.getElem?_set_ne ne]
    exact E.val j d e
  · obtain ⟨ne, e⟩ := back (fun _ _ z => by cases z) e
    rw [List.getElem?_set_ne ne]
    exact E.own j ys e
  · obtain ⟨n1, e1⟩ := back (fun _ _ z => by cases z) e1
    obtain ⟨n2, e2⟩ := back (fun _ _ z => by cases z) e2
    rw [List.getElem?_set_ne n1, List.getElem?_set_ne n2]
    exact E.inj j l q ys zs e1 e2
  · obtain ⟨ne, e⟩ := back (fun _ _ z => by cases z) e
    rw [List.getElem?_set_ne ne]
    exact E.pen j e
  · obtain ⟨ne, e⟩ := back (fun _ _ z => by cases z) e
    rw [List.getElem?_set_ne ne]
    exact E.scr j ns e
  · obtain ⟨ne, e⟩ := back (fun _ _ z => by cases z) e
    rw [List.getElem?_set_ne ne]
    exact E.x.dic j sh' ys e
  · obtain ⟨n1, e1⟩ := back (fun _ _ z => by cases z) e1
    obtain ⟨n2, e2⟩ := back (fun _ _ z => by cases z) e2
    rw [List.getElem?_set_ne n1, List.getElem?_set_ne n2]
    exact E.x.inj j l q sh1 ys sh2 zs e1 e2
  · by_cases hj : i = j
    · subst hj
      have hi := (List.getElem?_eq_some_iff.mp e).1
      have hi : i < Γ.length := by simpa using hi
      rw [List.getElem?_set_self hi] at e
      cases e
      exact ⟨p, vs, List.getElem?_set_self (by rw [← E.len]; exact hi), hp, r, hl⟩
    · rw [List.getElem?_set_ne hj] at e ⊢
      exact E.x.ro j sh' ys e
end
end EV
namespace EV
open PySem PySem.Spec PyProof.Rows L2
end EV
namespace EV
open PySem PySem.Spec PyProof.Rows L2 PySem.W
end EV
namespace EV
open PySem PyProof.Rows L2
end EV
namespace EV
open PySem PySem.Spec PyProof.Rows L2 PySem.W
end EV
namespace EV
open PySem PySem.Spec PyProof.Rows L2
end EV
namespace EV
open PySem PySem.Spec PyProof.Rows L2 PySem.W
end EV
namespace EV
open PySem PySem.Spec PyProof.Rows L2
section
variable {X : Cx} {k : Nat}
/-- t.index(x): the first place of an equal one -/
noncomputable def rIndexT (K : PySem.W.Frag) : V → List V → Hp → VK → Prop := fun x xs H Q => ∃ (a : Addr) (y : V) (d : PyData) (ds : List PyData) (j : Nat) (z : PyData), x = V.ref a ∧ xs = [y] ∧ Dp K H (V.ref a) (.tuple ds) ∧ Dp K H y d ∧
  SeqAt.shaped (.tuple ds) = true ∧ SeqAt.shaped d = true ∧ ds[j]? = some z ∧ PyData.eqv z d = true ∧ (∀ (m : Nat) (z' : PyData), m < j → ds[m]? = some z' → PyData.eqv z' d = false) ∧ Q (.int (j : Nat)) H
set_option tactic.hygienic true in
theorem mt_indexT (hu : X.A.units + 65 < cLine) : MtR X "tuple.index" (rIndexT X.K) := by
  intro pins s σ H x xs v us Q I rx rxs h
  obtain ⟨a, y, d, ds, j, z, rfl, rfl, hl, hy, sl, sd, hz, hzj, hno, q⟩ := h
  cases rx
  cases rxs with
  | cons ry rt =>
    rename_i uy ut
    cases rt
    obtain ⟨bs, r1⟩ := Dp.reads I d y uy hy ry
    have hxs : PyData.canLayAll0 ds = true := SeqAt.canLay_of_shaped sl
    have hroom : X.A.units + 1 + min (PyData.depthAll ds) d.depth < cLine := room_in_shaped sd hu
    cases hl with
    | tup hs ha =>
      obtain ⟨its, rv, ⟨⟨cls, dd, data, sls⟩, ho, hc, n, hdt⟩, hlen⟩ := I.tuple hs
      simp only at hc hdt
      subst hc hdt
      obtain ⟨as, h4⟩ := Dp.readsAll I ds _ its ha rv
      have hn : its.length = ds.length := SeqAt.ReadsAll.length ds its as h4
      have hmap : its.map (SeqAt.readOf s.heap) = ds := SeqAt.readsAll_map ds its as hxs h4
      obtain ⟨hjd, _⟩ := List.getElem?_eq_some_iff.mp hz
      have hjl : j < its.length := by omega
      have hj : j < its.toArray.size := by simpa using hjl
      have at_ : ∀ (m : Nat) (hm : m < its.toArray.size) (z' : PyData), ds[m]? = some z' → SeqAt.readOf s.heap its.toArray[m] = z' := by
        intro m hm z' hz'
        have hml : m < its.length := by simpa using hm
        rw [← hmap, List.getElem?_map, List.getElem?_eq_getElem hml] at hz'
        have e1 : SeqAt.readOf s.heap its[m] = z' := Option.some.inj (show some (SeqAt.readOf s.heap its[m]) = some z' from hz')
        simpa using e1
      refine call_meets PySem.F.slot_tuple_index ⟨_, ho, rfl⟩ PySem.F.entry_tuple_index (PySem.F.args_tuple_index_2 _ _)
        (TI.tuple_indexAt a its.toArray n dd sls uy (fun u => PyData.eqv (SeqAt.readOf s.heap u) d) j hj ?_ ?_) ⟨ho, SeqAt.items_eqAt (vs := its.toArray) (show ReadsAll s.heap its.toArray.toList ds as from h4) r1 hxs (SeqAt.canLay_of_shaped sd) hroom, ?_⟩
      · show PyData.eqv (SeqAt.readOf s.heap its.toArray[j]) d = true
        rw [at_ j hj z hz]
        exact hzj
      · intro m hm hmj
        have hmd : m < ds.length := by omega
        have hz' : ds[m]? = some ds[m] := List.getElem?_eq_getElem hmd
        show PyData.eqv (SeqAt.readOf s.heap its.toArray[m]) d = false
        rw [at_ m hm _ hz']
        exact hno m _ hmj hz'
      · exact ⟨.int (j : Nat), H, I.tok _, ⟨_, rfl⟩, q⟩
end
noncomputable def indexT (xs : List D) (y : D) : PM D := if shp (.tup xs) = true ∧ shp y = true then (match xs.findIdx? fun z => eqvD z y with | some j => pure (.int (j : Nat)) | none => bad) else bad
/-- tuple(e), e a list: the object is known -/
theorem call_tuple_frz {X : Cx} : CallR X (.type "tuple") (fun xs H Q => ∃ p ys, xs = [.ref p] ∧ SqL X.K H p ys ∧ ∀ l (o : TupO), H l = none → Q (.ref l) (upd H l (.frz o.ob (.tup ys)))) := by
  intro pins s σ H xs us Q I r h
  obtain ⟨p, ys, rfl, hq, q⟩ := h
  obtain ⟨u, rfl, rx⟩ := vals1 r
  cases rx
  obtain ⟨its, r', pl, hz⟩ := I.list hq
  have hlen := r'.length
  have hn := line63
  refine call_tuple_list pl.isList (fun h' kp => ?_) (by simp only [List.size_toArray] <;> omega)
  have I1 : Inv X pins σ H { s with heap := h' } := I.kept (t' := s.toks) kp
  have I2 : Inv X pins σ (upd H h'.objs.size (.frz { cls := .type "tuple", data := .seq its.toArray } (.tup ys))) { s with heap := h'.push { cls := .type "tuple", data := .seq its.toArray } } :=
    I1.laid (t' := s.toks) (fun b o e => Heap.get?_push_of_some _ e) (Nat.le_refl _) (show ObjOk X.prog X.w _ _ _ (.frz _ (.tup ys)) from ⟨Heap.get?_push_size _ rfl, hz, its, r', IsTup.new _ _⟩)
  exact ⟨.ref h'.objs.size, _, I2, rfl, q _ ⟨_, rfl, rfl⟩ (I1.hok.fresh (Nat.le_refl _))⟩
/-- the call of a method of a tuple whose object is known -/
noncomputable def tBMT (r : V → List V → Hp → VK → Prop) (to : TE) (t : TA) : TE := fun σ H Q => to σ H fun x H1 => (∃ (p : Addr) (o : TupO) (u : HO), x = .ref p ∧ H1 p = some (.frz o.ob u)) ∧ t σ H1 fun xs H2 => r x xs H2 Q
theorem pe_bmT {X : Cx} {o e : Expr} {es : List Expr} {to : TE} {t : TA} {name : Str} {apos cpos : Pos} {id : String} {r : V → List V → Hp → VK → Prop} (slot : Slot "tuple" name id) (hty : typeOf (.builtin id) = pure (.type "method_descriptor")) (hm : MtR X id r) (ho : PE X o to) (ha : PA X (e :: es) t)
    (hbase : autoParam (attributeBase o name X.env (eval o X.env) = eval o X.env) EV.tac2)
    (hfew : autoParam (((backTo cpos (starEach (e :: es) X.env)).all (fun x => !x.1) && (backToKw cpos (keywordEach [] X.env)).all (fun x => x.1.isSome)
      && decide ((e :: es).length + ([] : List Keyword).length + (if ([] : List Keyword).isEmpty then 0 else 1) < 30)) = true) EV.tac2)
    (hline : autoParam ((apos.endLine == cpos.line) = true) EV.tac2) (hs : autoParam (starEach (e :: es) X.env = (false, eval e X.env) :: starEach es X.env) EV.tac2) (hplain : autoParam ((backTo cpos (starEach es X.env)).any (·.1) = false) EV.tac2) :
    PE X (.Call (.Attribute o name apos) (e :: es) [] cpos) (tBMT r to t) := by
  refine ⟨fun pins s σ H Q I h => ?_⟩
  refine wpAny_Call_method_late hbase hfew hline rfl (thn (ho.run pins s σ H _ I h) fun v s1 h10_ => ?_); obtain ⟨x, H1, I1, r1, ty, q1⟩ := h10_
  obtain ⟨p, ob, u, rfl, hp⟩ := ty
  cases r1
  obtain ⟨e1, _⟩ := I1.hok p _ hp
  have h1 : s1.TypeIs (.ref p) "tuple" := ⟨_, e1, ob.cls⟩
  have h2 : ∀ a, Value.ref p = .ref a → ∃ ob, s1.heap.get? a = some ob ∧ ob.dict = none := fun a z => by
    cases z
    exact ⟨_, e1, ob.dict⟩
  refine ⟨"tuple", id, PySem.F.plainAttrs_tuple, slot, hty, h1, h2, ?_⟩
  have hA := ha.run cpos pins s1 σ H1 _ I1 q1
  rw [hs] at hA ⊢
  refine Calls.callWith_builtin (by show (false || (backTo cpos (starEach es X.env)).any (·.1)) = false; rw [hplain] <;> rfl) (Calls.evalArgs_plain ?_)
  exact thn hA fun us s2 h11_ => by obtain ⟨vs, H2, I2, r2, q2⟩ := h11_; exact hm pins s2 σ H2 (.ref p) vs (.ref p) us Q I2 rfl r2 q2
noncomputable def roTn (o : TupO) (xs : List D) : Sl := .ro (.tn (fun _ => o) xs.length) xs
noncomputable def spT (K : PySem.W.Frag) (mg : Str → Option Value) (n : Nat) (f : List D → PM (List D)) : Sp := fun vs H Q E => ∃ (G : Hp) (ds : List D), (Same G H ∧ TabK K H ∧ NoT G) ∧ RpL K G vs ds ∧ ds.length = n ∧
  Pst K (fun cls dx _ H' => E cls dx H') mg none [] (fun G' H' xs _ => ∀ p (o : TupO) us, G' p = some (.frz o.ob (.tup us)) → RpL K G' us xs → Q (.ref p) H') G H (f ds [])
noncomputable def tfn2 (g : D → D → PM (List D)) : List D → PM (List D)
  | [a, b] => g a b
  | _ => bad
theorem tar2 {g} : ∀ ds s, ds.length ≠ 2 → tfn2 g ds s = .bad := fun ds s h => by
  match ds, h with
  | [_, _], h => exact absurd rfl h
  | [], _ => rfl
  | [_], _ => rfl
  | _ :: _ :: _ :: _, _ => rfl
noncomputable def asTu (d : D) : PM (List D) := lstOf d >>= fun xs => okLen xs >>= fun _ => pure xs
section
variable {P : Program} {w : World} {K : PySem.W.Frag} {mg : Str → Option Value} {base : Heap} {k : Nat} {x qual : Str} {st : Stmt} {f : Addr} {fd : FuncData} {N ps : List Str} {n : Nat}
theorem fn_tu {F : List D → PM (List D)} {e : Expr} {p p2 cpos : Pos} (FU : Fun K x qual st f fd) (S : FnScope N ps (defScope st)) (hps : ps.length = n) (hst : defBody st = [.Return (some (.Call (.Name "tuple" p) [e] [] cpos)) p2])
    (hm : mg "tuple" = none)
    (hb : ∀ (cdv : Value) (A : Around) (outer : List PySem.Env) (s : Shared) (H : Hp) (E : XK), Cok (cxOf (L2.CX P w) P w K mg base N qual (defScope st) f cdv A outer s H E) (fun cls d _ H => E cls d H) k → ∀ ds : List D, ds.length = n →
      ∃ m, EV (cxOf (L2.CX P w) P w K mg base N qual (defScope st) f cdv A outer s H E) (fun cls d _ H => E cls d H) none (slots0 N ds) e m ∧ F ds = (m >>= asTu) ∧
        Gl (cxOf (L2.CX P w) P w K mg base N qual (defScope st) f cdv A outer s H E) "tuple" ∧ starEach [e] (cxOf (L2.CX P w) P w K mg base N qual (defScope st) f cdv A outer s H E).env = (false, eval e (cxOf (L2.CX P w) P w K mg base N qual (defScope st) f cdv A outer s H E).env) :: starEach [] (cxOf (L2.CX P w) P w K mg base N qual (defScope st) f cdv A outer s H E).env ∧
        (backTo cpos (starEach [] (cxOf (L2.CX P w) P w K mg base N qual (defScope st) f cdv A outer s H E).env)).any (·.1) = false) :
    FnG P w K mg base (k + 1) f fd ps (spT K mg n F) := by
  refine fnG_of FU S (fun vs H Q E h => ?_) fun cdv _ A outer s H vs Q E hg hr h => ?_
  · obtain ⟨G, ds, _, r, hn, _⟩ := h
    rw [r.1, hn, hps]
  · obtain ⟨G, ds, hs, r, hn, hP⟩ := h
    obtain ⟨m, el, e, hgl, ha, hpl⟩ := hb cdv A outer s H E (cok_fn S.nd hg hr) ds hn
    rw [e] at hP
    rw [hst]
    refine ⟨_, pss_one (ps_ret (pe_callTy call_tuple_frz hgl hm (by decide +kernel) (pa_cons el pa_nil ha) (by decide) (by decide) ha hpl)), G, H, G, [], nv_start0 hs r (by rw [r.1, hn, ← hps]; exact scope_le S), ?_⟩
    have hP : Pst K (fun cls d _ H => E cls d H) mg none (L2.start N vs) (fun G' H' xs _ => ∀ p (o : TupO) us, G' p = some (.frz o.ob (.tup us)) → RpL K G' us xs → Q (.ref p) H') G H ((m >>= asTu) []) := by
      cases q : (m >>= asTu) [] with
      | ok a s => rw [q] at hP; exact hP
      | exc z => rw [q] at hP; exact hP
      | bad => rw [q] at hP; exact hP.elim
    refine hP.bind.imp fun G1 H1 d s1 x1 p1 P1 v r1 => ?_
    unfold asTu at P1
    cases r1 with
    | @lst a vs1 xs h n1 rr =>
      have P1 : Pst K (fun cls d _ H => E cls d H) mg none (L2.start N vs) (fun G' H' xs _ => ∀ p (o : TupO) us, G' p = some (.frz o.ob (.tup us)) → RpL K G' us xs → Q (.ref p) H') G1 H1 ((okLen xs >>= fun _ => pure xs : PM (List D)) s1) := P1
      by_cases hl : xs.length ≤ lim
      · rw [okLen_ok hl, pure_bind] at P1
        refine ⟨_, _, rfl, SqL.of (x1.sub _ _ h), fun q o np => ?_⟩
        have x := Ext.new (K := K) (pa := none) x1.sub np (.frz o.ob (.tup vs1))
        exact P1 _ _ x PenOk.none q o vs1 upd_same (RpL.mono x.g ⟨n1, rr⟩)
      · unfold okLen at P1
        rw [if_neg hl] at P1
        exact P1.elim
    | _ => exact P1.elim
end
theorem mk_tu {P : Program} {w : World} {K : PySem.W.Frag} {mg : Str → Option Value} {base : Heap} {k : Nat} {x : Str} {st : Stmt} {N ps : List Str} {n : Nat} {F : List D → PM (List D)} {e : Expr} {p p2 cpos : Pos} (FA : FunAt K mg x st) (S : FnScope N ps (defScope st)) (hps : ps.length = n)
    (hbd : ∀ (kV doc pm : Value) (an : Option Addr) (cdv ct : Value) (us : List Value), us.length = ps.length → bindArgs (PySem.W.fnOf x x (defArgs st) (defBody st) (defScope st) .none kV doc pm an cdv ct) ⟨us, []⟩ = pure (ps.zip us)) (hst : defBody st = [.Return (some (.Call (.Name "tuple" p) [e] [] cpos)) p2])
    (hm : mg "tuple" = none)
    (hb : ∀ (f : Addr) (cdv : Value) (A : Around) (outer : List PySem.Env) (s : Shared) (H : Hp) (E : XK), Cok (cxOf (L2.CX P w) P w K mg base N x (defScope st) f cdv A outer s H E) (fun cls d _ H => E cls d H) k → ∀ ds : List D, ds.length = n →
      ∃ m, EV (cxOf (L2.CX P w) P w K mg base N x (defScope st) f cdv A outer s H E) (fun cls d _ H => E cls d H) none (slots0 N ds) e m ∧ F ds = (m >>= asTu) ∧
        Gl (cxOf (L2.CX P w) P w K mg base N x (defScope st) f cdv A outer s H E) "tuple" ∧ starEach [e] (cxOf (L2.CX P w) P w K mg base N x (defScope st) f cdv A outer s H E).env = (false, eval e (cxOf (L2.CX P w) P w K mg base N x (defScope st) f cdv A outer s H E).env) :: starEach [] (cxOf (L2.CX P w) P w K mg base N x (defScope st) f cdv A outer s H E).env ∧
        (backTo cpos (starEach [] (cxOf (L2.CX P w) P w K mg base N x (defScope st) f cdv A outer s H E).env)).any (·.1) = false) :
    Cal P w K mg base (k + 1) x ps (spT K mg n F) := by
  obtain ⟨f, fd, FU, hm'⟩ := FA.ex
  exact ⟨f, fd, fn_tu FU S hps hst hm (hb f), hm', FU.kp, FU.binds hbd⟩
section
variable {X : Cx} {W : WX} {pa : Option Addr} {Γ : List Sl} {k : Nat} {pos : Pos} {α : Type} {out : α → Out} {rest : List Stmt}
/-- x = f(..), the tuple is made there -/
theorem sv_setTn (i : Nat) {F : List D → PM (List D)} {x y : Str} {p p0 : Pos} {e : Expr} {es : List Expr} {ml : PM (List D)} {kk : List D → PM α} {j n : Nat} {ps : List Str} (C : Cok X W k) (FC : Cal X.prog X.w X.K X.mg X.base j x ps (spT X.K X.mg n F)) (ar : ∀ ds s, ds.length ≠ n → F ds s = .bad)
    (ha : EL X W pa Γ (e :: es) ml) (hr : ∀ o xs, SV X W pa (Γ.set i (roTn o xs)) out rest (kk xs))
    (hj : autoParam (j ≤ k) EV.tac1) (hg : autoParam (Gl X x) EV.tac2) (hi : autoParam (X.N[i]? = some y) EV.tac2) (hx : autoParam (Loc X.env.scope y) EV.tac5) (hdb : autoParam ((x == ("__debug__" : Str)) = false) EV.tac1) (he : autoParam (starEach (e :: es) X.env = (false, eval e X.env) :: starEach es X.env) EV.tac2) (hpl : autoParam ((backTo pos (starEach es X.env)).any (·.1) = false) EV.tac2)
    {spos : Pos} (hs : autoParam (swapsWith (.Call (.Name x p) (e :: es) [] pos) (some (.Name y p0)) spos.line X.env = pure false) EV.tac2) (hf : autoParam (X.fn y = true ∨ X.env.scope.names.lookup y = some .local) EV.tac6) :
    SV X W pa Γ out (.Assign [.Name y p0] (.Call (.Name x p) (e :: es) [] pos) spos :: rest) (ml >>= fun ds => run0 (F ds) >>= kk) := by
  obtain ⟨f, fd, h1, h2, h3, h4⟩ := FC.ex
  unfold SV
  rw [bind_assoc]
  refine pss_imp (pss_cons (ps_set (i := i) C.nd hi hx (pe_callG C (h1.mono hj) hg h2 h3 h4 ha hdb he hpl) hs hf) (pss_ex fun o => pss_ex (hr o))) fun Dn σ H h_ => EV.ex4 h_ fun G0 H0 G s E P => ⟨G0, H0, G, s, E, (P.bind E).imp fun G1 H1 ds s1 x1 p1 P1 vs r => ?_⟩
  have E1 := E.step x1 p1
  rw [bind_assoc, PM.bind_def] at P1
  unfold run0 at P1
  have hlen : ds.length = n := by
    by_cases h : ds.length = n
    · exact h
    · rw [ar ds [] h] at P1
      exact P1.elim
  refine ⟨G1, ds, ⟨x1.sub, x1.tk E.tk, x1.gt E.x.nt⟩, r, hlen, ?_⟩
  cases q : F ds [] with
  | exc z =>
    rw [q] at P1
    exact fun cls dx G' H' y q' => P1 cls dx σ G' H' (E1.ext.trans y.any) q'
  | bad => rw [q] at P1; exact P1.elim
  | ok xs s2 =>
    rw [q] at P1
    have P1 : SPost X.K W X.mg pa G0 H0 Dn ((kk xs >>= fun a => pure (out a)) s1) := P1
    intro G' H' y yp p' o us gp' ru
    have E2 := E1.step (s' := s1) y.any (p1.ext y)
    exact ⟨o, xs, G0, H0, G', s1, E2.setRo (sh := .tn (fun _ => o) xs.length) i gp' ru rfl, P1⟩
theorem ev_varTn (i : Nat) {x : Str} {o : TupO} {xs : List D} {p : Pos} (hΓ : Γ[i]? = some (roTn o xs)) (hN : autoParam (X.N[i]? = some x) EV.tac2) (hv : autoParam (Vis X.env.scope x) EV.tac7) (hd : autoParam ((x == ("__debug__" : Str)) = false) EV.tac1) (hcd : autoParam ((x == ("__classdict__" : Str)) = false) EV.tac1) :
    EV X W pa Γ (.Name x p) (pure (.tup xs)) := pe_imp (pe_var hN hv hd hcd) fun σ H Q h_ => EV.ex4 h_ fun G0 H0 G s E P => by
  obtain ⟨b, ws, b1, b2, b3, b4⟩ := E.x.ro i _ _ hΓ
  exact ⟨.ref b, b1, P.now E.sub E.ps _ (.mkT (.inl (.inr ⟨_, b2⟩)) b3)⟩
theorem dp_tup {K : PySem.W.Frag} {H : Hp} {a : Addr} {vs : List V} {ds : List D} (h : SqT K H a vs) (r : RpL K H vs ds) (hs : shp (.tup ds) = true) : Dp K H (.ref a) (.tuple (ds.map toPy)) := by
  have z := (Rp.mkT h r).dpS hs
  simp only [toPy, toPyL_map] at z
  exact z
theorem shp_tup {ds : List D} (h : shp (.tup ds) = true) : SeqAt.shaped (.tuple (ds.map toPy)) = true := by
  unfold shp at h
  simp only [toPy, toPyL_map] at h
  exact h
/-- x.index(e), x a tuple whose object is known -/
theorem ev_idxTn (i : Nat) {x : Str} {o : TupO} {xs : List D} {e : Expr} {me : PM D} {p1 apos cpos : Pos} (C : Cok X W k) (hΓ : Γ[i]? = some (roTn o xs)) (he : EV X W pa Γ e me)
    (hN : autoParam (X.N[i]? = some x) EV.tac2) (hv : autoParam (Vis X.env.scope x) EV.tac7) (hd : autoParam ((x == ("__debug__" : Str)) = false) EV.tac1) (hcd : autoParam ((x == ("__classdict__" : Str)) = false) EV.tac1)
    (hbase : autoParam (attributeBase (.Name x p1) "index" X.env (eval (.Name x p1) X.env) = eval (.Name x p1) X.env) EV.tac2)
    (hfew : autoParam (((backTo cpos (starEach [e] X.env)).all (fun x => !x.1) && (backToKw cpos (keywordEach [] X.env)).all (fun x => x.1.isSome)
      && decide ([e].length + ([] : List Keyword).length + (if ([] : List Keyword).isEmpty then 0 else 1) < 30)) = true) EV.tac2)
    (hline : autoParam ((apos.endLine == cpos.line) = true) EV.tac2) (hs : autoParam (starEach [e] X.env = (false, eval e X.env) :: starEach [] X.env) EV.tac2) (hplain : autoParam ((backTo cpos (starEach [] X.env)).any (·.1) = false) EV.tac2) :
    EV X W pa Γ (.Call (.Attribute (.Name x p1) "index" apos) [e] [] cpos) (me >>= fun y => indexT xs y) :=
  pe_imp (pe_bmT PySem.F.slot_tuple_index PySem.F.type_tuple_index (mt_indexT (room65 C.room)) (pe_var hN hv hd hcd) (pa_cons he pa_nil hs) hbase hfew hline hs hplain) fun σ H Q h_ => EV.ex4 h_ fun G0 H0 G s E P => by
    obtain ⟨b, ws, b1, b2, b3, b4⟩ := E.x.ro i _ _ hΓ
    have b2 : G b = some (.frz o.ob (.tup ws)) := b2
    refine ⟨.ref b, b1, ⟨b, o, _, rfl, E.sub _ _ b2⟩, G0, H0, G, s, E, P.bind.imp fun G1 H1 y s1 x1 p1 P1 w rw => ?_⟩
    have hb : SqT X.K G1 b ws := .inl (.inr ⟨_, x1.g _ _ b2⟩)
    have hbH : SqT X.K H1 b ws := .inl (.inr ⟨_, x1.sub _ _ (x1.g _ _ b2)⟩)
    unfold indexT at P1
    by_cases hc : shp (.tup xs) = true ∧ shp y = true
    · rw [if_pos hc] at P1
      cases e : xs.findIdx? fun z => eqvD z y with
      | none => rw [e] at P1; exact P1.elim
      | some j =>
        rw [e] at P1
        obtain ⟨hj, h1, h2⟩ := List.findIdx?_eq_some_iff_getElem.mp e
        refine ⟨b, w, toPy y, xs.map toPy, j, toPy xs[j], rfl, rfl, dp_tup hbH ((RpL.mono x1.g b3).mono x1.sub) hc.1, (rw.mono x1.sub).dpS hc.2, shp_tup hc.1, hc.2, by rw [List.getElem?_map, List.getElem?_eq_getElem hj]; rfl, h1, fun m z' hm hz => ?_, P1.now x1.sub p1 _ (.int _)⟩
        rw [List.getElem?_map, List.getElem?_eq_getElem (by omega)] at hz
        have hz := Option.some.inj hz
        subst hz
        have := h2 m hm
        simpa [eqvD] using this
    · rw [if_neg hc] at P1
      exact P1.elim
end
noncomputable def mulL : D → D → PM D
  | .lst xs, .int k => if -(2 ^ 63) ≤ k ∧ k < 2 ^ 63 ∧ xs.length * k.toNat ≤ lim then mkL (repD k xs) else bad
  | _, _ => bad
theorem od_mulL {X : Cx} : OpD X (binaryOp .Mult) mulL := by
  refine EV.in1_2 _ op_rep (fun W pa σ G H s x y a b Q hs hp ra rb P => ?_)
  cases ra with
  | @lst l vs ds h n rr =>
    cases rb with
    | int k =>
      have P : Pst X.K W X.mg pa σ (FD X.K Q) G H ((if -(2 ^ 63) ≤ k ∧ k < 2 ^ 63 ∧ ds.length * k.toNat ≤ lim then mkL (repD k ds) else bad : PM D) s) := P
      by_cases hc : -(2 ^ 63) ≤ k ∧ k < 2 ^ 63 ∧ ds.length * k.toNat ≤ lim
      · rw [if_pos hc] at P
        exact ⟨l, k, vs, rfl, rfl, hs _ _ h, hc.1, hc.2.1, by rw [n]; exact lim_le hc.2.2, fun p np => mkL_use P (rep_rp ⟨n, rr⟩ _) hs hp np⟩
      · rw [if_neg hc] at P
        exact P.elim
    | _ => exact P.elim
  | _ => exact P.elim
end EV
namespace EV
open PySem PySem.Spec PyProof.Rows L2
/-- the module's x is an own exception class below ValueError, without an own __init__ -/
structure ErrC (K : PySem.W.Frag) (mg : Str → Option Value) (x : Str) : Prop where
  ex : ∃ C : Addr, mg x = some (.ref C) ∧ PySem.W.excIn K C [.type "ValueError", .type "Exception", .type "BaseException", .type "object"] "ValueError.__new__" = true ∧ PySem.W.keepIn K (.ref C) = true ∧
    PySem.W.subIn K (.ref C) (.type "BaseException") = some true ∧ PySem.W.typeIn K (.ref C) = some (.type "type")
theorem nf_raise {α : Type} {out : α → Out} {e : Ex} : NF out (raiseP e : PM α) := fun a s s' Γ' q => by cases q
section
variable {X : Cx} {W : WX} {pa : Option Addr} {Γ : List Sl} {k : Nat} {pos : Pos} {α : Type} {out : α → Out} {rest : List Stmt}
/-- raise X("..") -/
theorem sv_raise {x m : Str} {j : Nat} {p p2 p3 : Pos} (C : Cok X W k) (E : ErrC X.K X.mg x) (hg : autoParam (Gl X x) EV.tac2) (hdb : autoParam ((x == ("__debug__" : Str)) = false) EV.tac1) :
    SV X W pa Γ out (.Raise (some (.Call (.Name x p) [.Constant (.str m) j p2] [] p3)) none pos :: rest) (raiseP ⟨x, []⟩) := by
  refine EV.el1_5 (E.ex) fun c h1 h2 h3 h4 h5 => ?_
  refine pss_imp (pss_cons (ps_raise C.calm C.takes (pmk_own PySem.F.excBase_ValueError h2 h1 h3 (raises_own h4 h5) hg hdb)) pss_never) fun Dn σ H h_ => EV.ex4 h_ fun G0 H0 G s N P => ?_
  have P : ∀ cls dx σ' G' H', Ext X.K pa G0 H0 G' H' → ExcIs X.K X.mg G' H' ⟨x, []⟩ cls dx → W cls dx σ' H' := P
  exact P (.ref c) none σ G H N.ext ⟨h1, fun _ => rfl, fun z => absurd rfl z⟩
end
end EV
set_option maxHeartbeats 2000000
namespace EV
open PySem PySem.Spec PyProof.Rows L2
/-- what such a def promises; p is the handled exception -/
structure FnQ (P : Program) (w : World) (K : PySem.W.Frag) (mg : Str → Option Value) (base : Heap) (k : Nat) (f : Addr) (fd : FuncData) (ps : List Str) (sp : Addr × Obj → List V → Hp → VK → Prop) : Prop where
  len : ∀ p vs H Q, sp p vs H Q → vs.length = ps.length
  run : ∀ (A : Around) (outer : List Env) (s : Shared) (H : Hp) (args : Args) (us : List Value) (vs : List V) (Q : VK) (p : Addr × Obj), L2H.RoomH k A → L2H.PinOk outer H s p → Env0 P w K mg base A outer s H → BindsTo s fd args (ps.zip us) → Vals vs us → sp p vs H Q →
    codeAny (model P w) A (.call (.ref f) args) (CR (L2.CX P w) outer P w H s Q fun _ _ _ => False) s
section
variable {P : Program} {w : World} {K : PySem.W.Frag} {mg : Str → Option Value} {base : Heap} {k : Nat} {f : Addr} {x qual : Str} {st : Stmt} {fd : FuncData} {N ps : List Str} {sp : Addr × Obj → List V → Hp → VK → Prop}
noncomputable abbrev cxQ (P : Program) (w : World) (K : PySem.W.Frag) (mg : Str → Option Value) (base : Heap) (N : List Str) (qual : Str) (scope : Scope) (f : Addr) (cd : Value) (A : Around) (outer : List Env) (s : Shared) (H : Hp) (p : Addr × Obj) : Cx :=
  L2H.cxH (L2.CX P w) P w K mg base N qual scope f cd A outer s H (fun _ _ _ => False) p
theorem fn_q (FU : Fun K x qual st f fd) (S : FnScope N ps (defScope st)) (len : ∀ p vs H Q, sp p vs H Q → vs.length = ps.length)
    (hbody : ∀ (cdv : Value) (A : Around) (outer : List Env) (s : Shared) (H : Hp) (vs : List V) (Q : VK) (p : Addr × Obj), L2H.RoomH k (A.deeper (envOfC qual (defScope st) s.heap.objs.size f cdv)) → sp p vs H Q →
      ∃ t, PSs (cxQ P w K mg base N qual (defScope st) f cdv A outer s H p) (defBody st) t ∧ t { nx := fun _ H' => Q .non H', rt := Q } (L2.start N vs) H) :
    FnQ P w K mg base (k + 1) f fd ps sp := by
  obtain ⟨oc, od, kV, doc, pm, an, cdv, ct, osl, rfl, lk, hcd⟩ := FU.ex
  refine ⟨len, fun A outer s H args us vs Q p hr hpin e0 hb r hsp => ?_⟩
  have hl := len _ _ _ _ hsp
  have KX : K.In s.heap := e0.mod.kin.keeps fun b o e => (e0.bs b o e).1
  have lim : s.heap.NoLimit := e0.mod.nolimit.keeps fun b o e => (e0.bs b o e).1
  have hkind : ∀ y ∈ ps.zip us, (defScope st).names.lookup y.1 = some .local ∨ ((defScope st).names.lookup y.1 = some .cell ∧ ((cellsFrom (s.heap.objs.size + 1) (defScope st).names []).lookup y.1).isSome = true) := fun ⟨n, v⟩ hy =>
    (S.par n (List.of_mem_zip hy).1).imp id fun q => ⟨q, PySem.W.cellsFrom_some _ _ _ (.inl q)⟩
  refine codeAny_call_function hr.depth (KX _ _ lk) rfl S.co S.gen rfl (PySem.W.codeRec_of KX hcd) (hb _ _ _ _ (wpAny_newFunctionEnv_cells S.kind hkind fun env he s1 z => ?_))
  subst he
  refine ⟨lim.keeps z.toInCall.keep, codeAny_func ?_⟩
  obtain ⟨t, ht, hq⟩ := hbody cdv A outer s H vs Q p (hr.deeper _) hsp
  refine wpAny_mono (ht.run [] s1 (L2.start N vs) H _ (L2H.inv_startH S hpin e0 hl r z) hq) (fun fl s' hs => ?_) fun _ _ hs => hs
  cases fl with
  | ret u =>
    obtain ⟨v, σ', H', J, rv, q⟩ := hs
    exact ⟨v, H', J.os, J.bare, J.base, J.hok, rv, q⟩
  | next =>
    obtain ⟨σ', H', J, q⟩ := hs
    exact ⟨.non, H', J.os, J.bare, J.base, J.hok, rfl, q⟩
  | brk => exact hs.choose_spec.choose_spec.2.elim
  | cont => exact hs.choose_spec.choose_spec.2.elim
end
section
variable {X : Cx} {k : Nat} {f : Addr} {fd : FuncData} {ps : List Str} {sp : Addr × Obj → List V → Hp → VK → Prop} {x : Str} {q pos : Pos} {e : Expr} {es : List Expr} {t : TA}
/-- f(e, ..) in the suite -/
theorem pe_callQ {p : Addr × Obj} (F : FnQ X.prog X.w X.K X.mg X.base k f fd ps sp) (hr : L2H.RoomH k X.A) (hp : p ∈ X.pn) (hg : Gl X x) (hm : X.mg x = some (.ref f)) (hk : PySem.W.keepIn X.K (.ref f) = true) (hb : Binds X.K fd ps [])
    (ha : PA X (e :: es) t) (hdb : autoParam ((x == ("__debug__" : Str)) = false) EV.tac1) (he : autoParam (starEach (e :: es) X.env = (false, eval e X.env) :: starEach es X.env) EV.tac2) (hpl : autoParam ((backTo pos (starEach es X.env)).any (·.1) = false) EV.tac2) :
    PE X (.Call (.Name x q) (e :: es) [] pos) (fun σ H Q => t σ H fun vs H1 => sp p vs H1 Q) := by
  refine ⟨fun pins s σ H Q I h => ?_⟩
  refine wpAny_Call_Name_kw (ld_glob I hg hm ?_ hdb)
  refine PySem.W.callWith_K (h₀ := X.base) I.ok.mod.kin hk (thn (ha.run pos pins s σ H _ I h) fun us s1 ⟨vs, H1, I1, r, z⟩ => ⟨I1.kIn, ?_⟩) he hpl
  have hl : us.length = ps.length := by rw [← r.length]; exact F.len _ _ _ _ z
  have b := hb s1 us I1.kIn (by rw [List.append_nil]; exact hl)
  rw [List.append_nil] at b
  have P1 := I1.pin p (List.mem_append_left _ hp)
  have hpin : L2H.PinOk X.stack H1 s1 p := ⟨P1.1, P1.2.1, fun hm => (List.mem_cons.mp (I1.stkSub p.1 hm)).elim P1.2.2.1 P1.2.2.2.1, P1.2.2.2.2⟩
  refine wpAny_call (codeAny_mono (F.run X.A X.stack s1 H1 ⟨us, []⟩ us vs Q p hr hpin I1.env0 b r z) fun r s' hq => ?_)
  cases r with
  | error e =>
    obtain ⟨_, _, _, _, _, _, _, _, _, _, _, _, y⟩ := hq
    exact y.elim
  | ok fl =>
    cases fl with
    | ret u => exact I1.after hq
    | next => exact False.elim hq
    | brk => exact False.elim hq
    | cont => exact False.elim hq
/-- isinstance(e, c), e the handled exception -/
theorem call_isP {a D : Addr} {oe : Obj} (hp : (a, oe) ∈ X.pn) (C : ExcC X.K D) (hz : Zc (.ref D) none oe) (hf : ∃ vs, oe.data = .fields vs) : CallR X (.builtin "isinstance") (rIsE X.K D a) := by
  intro pins s σ H xs us Q I r ⟨c, cv, b, e1, hcv, e, y⟩
  subst e1
  (refine EV.el2_2 (vals2 r) fun u1 u2 q185_ q186_ => ?_; obtain rfl := q185_; (refine EV.el0_2 q186_ ?_; try clear q186_; intro rx rt))
  cases rx
  cases hcv _ rt
  refine EV.el0_2 (I.pin (a, oe) (List.mem_append_left _ hp)) fun hget _ => ?_
  (refine EV.el1_1 hf ?_; try clear hf; intro vs hv)
  have J : PySem.W.InstAt s.heap a oe D none := by
    obtain ⟨oc, od, oda, osl⟩ := oe
    (refine EV.el0_2 hz ?_; try clear hz; intro h1 h2)
    dsimp only at h1 h2 hv
    subst h1 h2 hv
    exact ⟨hget, rfl, rfl, trivial⟩
  exact PySem.W.kia_one (PySem.W.handS_kitx_exc C.hg C.hk C.hs C.hd C.ha C.hn C.ht C.hm) I.kIn J e (fun z => nomatch z) fun tk => ⟨.bl b, H, I.kept (t' := tk) fun _ _ z => z, rfl, y⟩
end
end EV
set_option maxHeartbeats 2000000
namespace EV
open PySem PySem.Spec PyProof.Rows L2
/-- new things alone, no tables -/
noncomputable def News (H H' : Hp) : Prop := (∀ b o, H b = some o → H' b = some o) ∧ ∀ P ps, H' P = some (.tbl ps) → H P = some (.tbl ps)
theorem News.refl (H : Hp) : News H H := ⟨fun _ _ h => h, fun _ _ h => h⟩
theorem News.upd {H H' : Hp} (n : News H H') {p : Addr} {o : HO} (np : H' p = none) (ho : ∀ ps, o ≠ .tbl ps) : News H (L2.upd H' p o) := ⟨fun b u e => by
  have e' := n.1 b u e
  rw [upd_ne (ne_of_none e' np)]
  exact e', fun P ps e => by
  by_cases z : P = p
  · subst z
    rw [upd_same] at e
    exact absurd (Option.some.inj e) (ho ps)
  · rw [upd_ne z] at e
    exact n.2 P ps e⟩
theorem News.mut {H H' : Hp} (n : News H H') {p : Addr} {o : HO} (np : H p = none) (ho : ∀ ps, o ≠ .tbl ps) : News H (L2.upd H' p o) := ⟨fun b u e => by
  rw [upd_ne (ne_of_none e np)]
  exact n.1 b u e, fun P ps e => by
  by_cases z : P = p
  · subst z
    rw [upd_same] at e
    exact absurd (Option.some.inj e) (ho ps)
  · rw [upd_ne z] at e
    exact n.2 P ps e⟩
theorem News.free {H H' : Hp} (n : News H H') {p : Addr} (h : H' p = none) : H p = none := by
  cases q : H p with
  | none => rfl
  | some o =>
    rw [n.1 p o q] at h
    exact EV.nnS (Eq.symm h)
section
variable {X : Cx} {a D : Addr} {oe : Obj}
/-- isinstance of it, as told by the class -/
noncomputable def tIs (a : Addr) (b : Bool) : TE := fun σ H Q => σ[0]? = some (some (.ref a)) ∧ Q (.bl b) H
structure HotE (X : Cx) (a D : Addr) (oe : Obj) : Prop where
  pin : (a, oe) ∈ X.pn
  cls : ExcC X.K D
  zc : Zc (.ref D) none oe
  fld : ∃ vs, oe.data = .fields vs
  var : ∃ e, X.N[0]? = some e ∧ Vis X.env.scope e
theorem pe_isi {e c : Str} {C : Addr} {b : Bool} {p p1 p2 p3 : Pos} (h : HotE X a D oe) (hN : X.N[0]? = some e) (hv : Vis X.env.scope e) (hgi : Gl X "isinstance") (hmi : X.mg "isinstance" = none) (hg : Gl X c) (hm : X.mg c = some (.ref C)) (hk : PySem.W.kitOne X.K (.ref D) (.ref C) = some b)
    (hd : autoParam ((e == ("__debug__" : Str)) = false) EV.tac1) (hcd : autoParam ((e == ("__classdict__" : Str)) = false) EV.tac1) (hdc : autoParam ((c == ("__debug__" : Str)) = false) EV.tac1)
    (h1 : autoParam (starEach [.Name e p1, .Name c p2] X.env = (false, eval (.Name e p1) X.env) :: starEach [.Name c p2] X.env) EV.tac2) (h2 : autoParam (starEach [.Name c p2] X.env = (false, eval (.Name c p2) X.env) :: starEach [] X.env) EV.tac2)
    (hpl : autoParam ((backTo p3 (starEach [.Name c p2] X.env)).any (·.1) = false) EV.tac2) : PE X (.Call (.Name "isinstance" p) [.Name e p1, .Name c p2] [] p3) (tIs a b) :=
  pe_imp (pe_callB (call_isP h.pin h.cls h.zc h.fld) hgi hmi (by decide +kernel) (pa_cons (pe_var hN hv hd hcd) (pa_cons (pe_glob (v := .ref C) hg hm rfl hdc) pa_nil h2) h1) (by decide) (by decide) h1 hpl) fun σ H Q ⟨s, q⟩ =>
    ⟨.ref a, s, ⟨.ref C, .ref C, b, rfl, fun u r => r, hk, q⟩⟩
theorem pe_isiT {e c : Str} {T : String} {b : Bool} {p p1 p2 p3 : Pos} (h : HotE X a D oe) (hN : X.N[0]? = some e) (hv : Vis X.env.scope e) (hgi : Gl X "isinstance") (hmi : X.mg "isinstance" = none) (hg : Gl X c) (hm : X.mg c = none) (hb : bootBuiltins c = some (.type T)) (hk : PySem.W.kitOne X.K (.ref D) (.type T) = some b)
    (hn : autoParam (c ≠ "__name__") EV.tac1) (hd : autoParam ((e == ("__debug__" : Str)) = false) EV.tac1) (hcd : autoParam ((e == ("__classdict__" : Str)) = false) EV.tac1) (hdc : autoParam ((c == ("__debug__" : Str)) = false) EV.tac1)
    (h1 : autoParam (starEach [.Name e p1, .Name c p2] X.env = (false, eval (.Name e p1) X.env) :: starEach [.Name c p2] X.env) EV.tac2) (h2 : autoParam (starEach [.Name c p2] X.env = (false, eval (.Name c p2) X.env) :: starEach [] X.env) EV.tac2)
    (hpl : autoParam ((backTo p3 (starEach [.Name c p2] X.env)).any (·.1) = false) EV.tac2) : PE X (.Call (.Name "isinstance" p) [.Name e p1, .Name c p2] [] p3) (tIs a b) :=
  pe_imp (pe_callB (call_isP h.pin h.cls h.zc h.fld) hgi hmi (by decide +kernel) (pa_cons (pe_var hN hv hd hcd) (pa_cons (pe_bltn (v := .ty T) hg hm hb rfl hn hdc) pa_nil h2) h1) (by decide) (by decide) h1 hpl) fun σ H Q ⟨s, q⟩ =>
    ⟨.ref a, s, ⟨.ty T, .type T, b, rfl, fun u r => r, hk, q⟩⟩
/-- a display of three of them -/
theorem pe_isi3 {i1 i2 i3 : Expr} {b1 b2 b3 : Bool} {p : Pos} (h1 : PE X i1 (tIs a b1)) (h2 : PE X i2 (tIs a b2)) (h3 : PE X i3 (tIs a b3))
    (e1 : autoParam (starEach [i1, i2, i3] X.env = (false, eval i1 X.env) :: starEach [i2, i3] X.env) EV.tac2) (e2 : autoParam (starEach [i2, i3] X.env = (false, eval i2 X.env) :: starEach [i3] X.env) EV.tac2) (e3 : autoParam (starEach [i3] X.env = (false, eval i3 X.env) :: starEach [] X.env) EV.tac2) :
    PE X (.List [i1, i2, i3] p) (fun σ H Q => σ[0]? = some (some (.ref a)) ∧ ∀ l, H l = none → Q (.ref l) (upd H l (.lst [.bl b1, .bl b2, .bl b3]))) :=
  pe_imp (L2.pe_lst (pa_cons h1 (pa_cons h2 (pa_cons h3 pa_nil e3) e2) e1)) fun σ H Q h16_ => by obtain ⟨s, q⟩ := h16_; exact ⟨s, s, s, by show 3 ≤ sizeLine; rw [sizeLine_eq]; omega, fun p np => q p np⟩
end
theorem dp_bls {K : PySem.W.Frag} {H : Hp} {l : Addr} (bs : List Bool) (h : H l = some (.lst (bs.map V.bl))) : Dp K H (.ref l) (.list (bs.map PyData.bool)) := by
  refine .lst (SqL.of h) ?_
  induction bs with
  | nil => exact .nil
  | cons b bs ih => exact .cons (.bl b) (by
      clear h
      clear ih
      induction bs with
      | nil => exact .nil
      | cons c bs ih => exact .cons (.bl c) ih)
noncomputable def wordsL (w8 : Str) : List Str := ["net", "component", "set", "report", "word", "number", "text", w8, "unexplained", "limit"]
section
variable {X : Cx} {a D : Addr} {oe : Obj}
/-- _law_kind -/
theorem pss_kind {w8 e m w : Str} {j : Nat} (hj : j < 10) {i0 i1 i2 i3 i4 i5 i6 i7 i8 i9 iv : Expr} {q1 q2 q3 q4 q5 q6 q7 q8 q9 q10 q11 q12 q13 q14 q15 q16 q17 q18 q19 q20 q21 q22 q23 q24 q25 q26 q27 q28 q29 q30 q31 q32 q33 q34 q35 q36 q37 q38 q39 q40 : Pos}
    {k1 k2 k3 k4 k5 k6 k7 k8 k9 k10 k11 k12 k13 k14 : Nat} (hu : X.A.units + 65 < cLine) (nd : X.N.Nodup)
    (hm : X.N[1]? = some m) (hw : X.N[2]? = some w) (lm : Loc X.env.scope m) (lw : Loc X.env.scope w) (vm : Vis X.env.scope m) (vw : Vis X.env.scope w)
    (h0 : PE X i0 (tIs a (0 == j))) (h1 : PE X i1 (tIs a (1 == j))) (h2 : PE X i2 (tIs a (2 == j))) (h3 : PE X i3 (tIs a (3 == j))) (h4 : PE X i4 (tIs a (4 == j))) (h5 : PE X i5 (tIs a (5 == j))) (h6 : PE X i6 (tIs a (6 == j))) (h7 : PE X i7 (tIs a (7 == j))) (h8 : PE X i8 (tIs a (8 == j))) (h9 : PE X i9 (tIs a (9 == j))) (hv : PT X iv (tB (tIs a true)))
    (s0 : autoParam (starEach [i0, i1, i2] X.env = (false, eval i0 X.env) :: starEach [i1, i2] X.env) EV.tac2) (s1 : autoParam (starEach [i1, i2] X.env = (false, eval i1 X.env) :: starEach [i2] X.env) EV.tac2) (s2 : autoParam (starEach [i2] X.env = (false, eval i2 X.env) :: starEach [] X.env) EV.tac2)
    (s3 : autoParam (starEach [i3, i4, i5] X.env = (false, eval i3 X.env) :: starEach [i4, i5] X.env) EV.tac2) (s4 : autoParam (starEach [i4, i5] X.env = (false, eval i4 X.env) :: starEach [i5] X.env) EV.tac2) (s5 : autoParam (starEach [i5] X.env = (false, eval i5 X.env) :: starEach [] X.env) EV.tac2)
    (s6 : autoParam (starEach [i6, i7, i8] X.env = (false, eval i6 X.env) :: starEach [i7, i8] X.env) EV.tac2) (s7 : autoParam (starEach [i7, i8] X.env = (false, eval i7 X.env) :: starEach [i8] X.env) EV.tac2) (s8 : autoParam (starEach [i8] X.env = (false, eval i8 X.env) :: starEach [] X.env) EV.tac2)
    (s9 : autoParam (starEach [i9] X.env = (false, eval i9 X.env) :: starEach [] X.env) EV.tac2)
    (w1 : autoParam (swapsWith (.List [i0, i1, i2] q1) (some (.Name m q2)) q3.line X.env = pure false) EV.tac2)
    (w2 : autoParam (swapsWith (.BinOp (.Name m q4) .Add (.List [i3, i4, i5] q5) q6) (some (.Name m q7)) q8.line X.env = pure false) EV.tac2)
    (w3 : autoParam (swapsWith (.BinOp (.Name m q9) .Add (.List [i6, i7, i8] q10) q11) (some (.Name m q12)) q13.line X.env = pure false) EV.tac2)
    (w4 : autoParam (swapsWith (.Call (.Attribute (.Name m q14) "append" q15) [i9] [] q16) none q17.line X.env = pure false) EV.tac2)
    (w5 : autoParam (swapsWith (.List [.Constant (.str "net") k1 q18, .Constant (.str "component") k2 q19, .Constant (.str "set") k3 q20, .Constant (.str "report") k4 q21, .Constant (.str "word") k5 q22, .Constant (.str "number") k6 q23, .Constant (.str "text") k7 q24, .Constant (.str w8) k8 q25, .Constant (.str "unexplained") k9 q26, .Constant (.str "limit") k10 q27] q28) (some (.Name w q29)) q30.line X.env = pure false) EV.tac2)
    (b1 : autoParam (attributeBase (.Name m q14) "append" X.env (eval (.Name m q14) X.env) = eval (.Name m q14) X.env) EV.tac2) (b2 : autoParam (attributeBase (.Name m q31) "count" X.env (eval (.Name m q31) X.env) = eval (.Name m q31) X.env) EV.tac2) (b3 : autoParam (attributeBase (.Name m q38) "index" X.env (eval (.Name m q38) X.env) = eval (.Name m q38) X.env) EV.tac2)
    (f1 : autoParam (((backTo q16 (starEach [i9] X.env)).all (fun x => !x.1) && (backToKw q16 (keywordEach [] X.env)).all (fun x => x.1.isSome) && decide ([i9].length + ([] : List Keyword).length + (if ([] : List Keyword).isEmpty then 0 else 1) < 30)) = true) EV.tac2)
    (l1 : autoParam ((q15.endLine == q16.line) = true) EV.tac2) (p1 : autoParam ((backTo q16 (starEach [] X.env)).any (·.1) = false) EV.tac2)
    (l2 : autoParam ((q32.endLine == q34.line) = true) EV.tac2) (l3 : autoParam ((q39.endLine == q40.line) = true) EV.tac2)
    (dm : autoParam ((m == ("__debug__" : Str)) = false) EV.tac1) (cm : autoParam ((m == ("__classdict__" : Str)) = false) EV.tac1) (dw : autoParam ((w == ("__debug__" : Str)) = false) EV.tac1) (cw : autoParam ((w == ("__classdict__" : Str)) = false) EV.tac1)
    (lo1 : autoParam (X.fn m = true ∨ X.env.scope.names.lookup m = some .local) EV.tac6) (lo2 : autoParam (X.fn w = true ∨ X.env.scope.names.lookup w = some .local) EV.tac6)
    {c1 c2 c3 : Nat} {z1 z2 z3 z4 z5 z6 z7 z8 z9 : Pos} :
    PSs X [.Assign [.Name m q2] (.List [i0, i1, i2] q1) q3,
      .Assign [.Name m q7] (.BinOp (.Name m q4) .Add (.List [i3, i4, i5] q5) q6) q8,
      .Assign [.Name m q12] (.BinOp (.Name m q9) .Add (.List [i6, i7, i8] q10) q11) q13,
      .Expr (.Call (.Attribute (.Name m q14) "append" q15) [i9] [] q16) q17,
      .Assign [.Name w q29] (.List [.Constant (.str "net") k1 q18, .Constant (.str "component") k2 q19, .Constant (.str "set") k3 q20, .Constant (.str "report") k4 q21, .Constant (.str "word") k5 q22, .Constant (.str "number") k6 q23, .Constant (.str "text") k7 q24, .Constant (.str w8) k8 q25, .Constant (.str "unexplained") k9 q26, .Constant (.str "limit") k10 q27] q28) q30,
      .If (.BoolOp .Or [.Compare (.Call (.Attribute (.Name m q31) "count" q32) [.Constant (.bool true) c1 q33] [] q34) [.NotEq] [.Constant (.int 1) c2 z1] z2, .UnaryOp .Not iv z3] z4) [.Return (some (.Constant (.str "other") k11 z5)) z6] [] z7,
      .Return (some (.Subscript (.Name w q37) (.Call (.Attribute (.Name m q38) "index" q39) [.Constant (.bool true) c3 z8] [] q40) z9)) q36]
      (fun Dn σ H => σ = [some (.ref a), none, none] ∧ ∀ H', News H H' → Dn.rt (.str ((wordsL w8).getD j "")) H') := by
  have hl : ∀ n, n ≤ 100 → n ≤ sizeLine := fun n h => by rw [sizeLine_eq]; omega
  have st : ∀ (c : Nat) (z : Pos), starEach [.Constant (.bool true) c z] X.env = (false, eval (.Constant (.bool true) c z) X.env) :: starEach [] X.env := fun _ _ => rfl
  have wl := L2.pe_lst (X := X) (pos := q28) (pa_cons (pe_str (x := "net") (j := k1) (pos := q18)) (pa_cons (pe_str (x := "component") (j := k2) (pos := q19)) (pa_cons (pe_str (x := "set") (j := k3) (pos := q20)) (pa_cons (pe_str (x := "report") (j := k4) (pos := q21)) (pa_cons (pe_str (x := "word") (j := k5) (pos := q22)) (pa_cons (pe_str (x := "number") (j := k6) (pos := q23)) (pa_cons (pe_str (x := "text") (j := k7) (pos := q24)) (pa_cons (pe_str (x := w8) (j := k8) (pos := q25)) (pa_cons (pe_str (x := "unexplained") (j := k9) (pos := q26)) (pa_cons (pe_str (x := "limit") (j := k10) (pos := q27)) pa_nil rfl) rfl) rfl) rfl) rfl) rfl) rfl) rfl) rfl) rfl)
  refine pss_imp (pss_cons (ps_set (i := 1) nd hm lm (pe_isi3 h0 h1 h2 s0 s1 s2) w1 lo1) (pss_cons (ps_set (i := 1) nd hm lm (pe_op op_cat (pe_var hm vm dm cm) (pe_isi3 h3 h4 h5 s3 s4 s5)) w2 lo1) (pss_cons (ps_set (i := 1) nd hm lm (pe_op op_cat (pe_var hm vm dm cm) (pe_isi3 h6 h7 h8 s6 s7 s8)) w3 lo1)
    (pss_cons (ps_expr (pe_bm PySem.F.plainAttrs_list PySem.F.slot_list_append PySem.F.type_list_append mt_append (pe_var hm vm dm cm) (pa_cons h9 pa_nil s9) b1 f1 l1 s9 p1) w4) (pss_cons (ps_set (i := 2) nd hw lw wl w5 lo2)
    (pss_cons (ps_if (pw_or (pt_cmp (pc_neI (pe_bm PySem.F.plainAttrs_list PySem.F.slot_list_count PySem.F.type_list_count (mt_countD hu) (pe_var hm vm dm cm) (pa_cons pe_bl pa_nil rfl) b2 rfl l2 rfl rfl) pe_int)) (pw_or1 (pt_not hv))).pt (pss_one (ps_ret pe_str)) pss_nil)
    (pss_one (ps_ret (pe_ix ix_list (pe_var hw vw dw cw) (pe_bm PySem.F.plainAttrs_list PySem.F.slot_list_index PySem.F.type_list_index (mt_indexD hu) (pe_var hm vm dm cm) (pa_cons pe_bl pa_nil rfl) b3 rfl l3 rfl rfl) (fun _ _ => rfl)))))))))) fun Dn σ H h17_ => ?_; obtain ⟨es, q⟩ := h17_
  subst es
  have ty : ∀ {H : Hp} {l : Addr} {xs : List V}, H l = some (.lst xs) → tyV X.K "list" (.ref l) H := fun h => .inl ⟨rfl, _, SqL.of h⟩
  have nt : ∀ xs : List V, ∀ ps, HO.lst xs ≠ .tbl ps := fun _ _ z => by cases z
  refine ⟨rfl, fun l1 n1 => ?_⟩
  have N1 := (News.refl H).upd n1 (nt ([V.bl (0 == j), V.bl (1 == j), V.bl (2 == j)] : List V))
  refine ⟨.ref l1, rfl, rfl, fun l2 n2 => ?_⟩
  have N2 := N1.upd n2 (nt ([V.bl (3 == j), V.bl (4 == j), V.bl (5 == j)] : List V))
  refine ⟨l1, l2, ([V.bl (0 == j), V.bl (1 == j), V.bl (2 == j)] : List V), ([V.bl (3 == j), V.bl (4 == j), V.bl (5 == j)] : List V), rfl, rfl, by rw [upd_ne (ne_of_none upd_same n2), upd_same], upd_same, hl 6 (by decide), fun l3 n3 => ?_⟩
  have N3 := N2.upd n3 (nt ([V.bl (0 == j), V.bl (1 == j), V.bl (2 == j), V.bl (3 == j), V.bl (4 == j), V.bl (5 == j)] : List V))
  refine ⟨.ref l3, rfl, rfl, fun l4 n4 => ?_⟩
  have N4 := N3.upd n4 (nt ([V.bl (6 == j), V.bl (7 == j), V.bl (8 == j)] : List V))
  refine ⟨l3, l4, ([V.bl (0 == j), V.bl (1 == j), V.bl (2 == j), V.bl (3 == j), V.bl (4 == j), V.bl (5 == j)] : List V), ([V.bl (6 == j), V.bl (7 == j), V.bl (8 == j)] : List V), rfl, rfl, by rw [upd_ne (ne_of_none upd_same n4)]; exact upd_same, upd_same, hl 9 (by decide), fun l5 n5 => ?_⟩
  have N5 := N4.upd n5 (nt ([V.bl (0 == j), V.bl (1 == j), V.bl (2 == j), V.bl (3 == j), V.bl (4 == j), V.bl (5 == j), V.bl (6 == j), V.bl (7 == j), V.bl (8 == j)] : List V))
  refine ⟨.ref l5, rfl, ty upd_same, rfl, l5, ([V.bl (0 == j), V.bl (1 == j), V.bl (2 == j), V.bl (3 == j), V.bl (4 == j), V.bl (5 == j), V.bl (6 == j), V.bl (7 == j), V.bl (8 == j)] : List V), .bl (9 == j), rfl, rfl, upd_same, by show 9 < sizeLine; rw [sizeLine_eq]; omega, ?_⟩
  have N6 := N5.mut (N4.free n5) (nt ([V.bl (0 == j), V.bl (1 == j), V.bl (2 == j), V.bl (3 == j), V.bl (4 == j), V.bl (5 == j), V.bl (6 == j), V.bl (7 == j), V.bl (8 == j), V.bl (9 == j)] : List V))
  refine ⟨hl 10 (by decide), fun l6 n6 => ?_⟩
  have N7 := N6.upd n6 (nt ((wordsL w8).map V.str))
  have g5 : upd (upd (upd (upd (upd (upd (upd H l1 (.lst ([V.bl (0 == j), V.bl (1 == j), V.bl (2 == j)] : List V))) l2 (.lst ([V.bl (3 == j), V.bl (4 == j), V.bl (5 == j)] : List V))) l3 (.lst ([V.bl (0 == j), V.bl (1 == j), V.bl (2 == j), V.bl (3 == j), V.bl (4 == j), V.bl (5 == j)] : List V))) l4 (.lst ([V.bl (6 == j), V.bl (7 == j), V.bl (8 == j)] : List V))) l5 (.lst ([V.bl (0 == j), V.bl (1 == j), V.bl (2 == j), V.bl (3 == j), V.bl (4 == j), V.bl (5 == j), V.bl (6 == j), V.bl (7 == j), V.bl (8 == j)] : List V))) l5 (.lst ([V.bl (0 == j), V.bl (1 == j), V.bl (2 == j), V.bl (3 == j), V.bl (4 == j), V.bl (5 == j), V.bl (6 == j), V.bl (7 == j), V.bl (8 == j), V.bl (9 == j)] : List V))) l6 (.lst ((wordsL w8).map V.str)) l5 = some (.lst ([V.bl (0 == j), V.bl (1 == j), V.bl (2 == j), V.bl (3 == j), V.bl (4 == j), V.bl (5 == j), V.bl (6 == j), V.bl (7 == j), V.bl (8 == j), V.bl (9 == j)] : List V)) := by
    rw [upd_ne (ne_of_none upd_same n6)]
    exact upd_same
  have dp := dp_bls (K := X.K) [0 == j, 1 == j, 2 == j, 3 == j, 4 == j, 5 == j, 6 == j, 7 == j, 8 == j, 9 == j] g5
  have hj' : j = 0 ∨ j = 1 ∨ j = 2 ∨ j = 3 ∨ j = 4 ∨ j = 5 ∨ j = 6 ∨ j = 7 ∨ j = 8 ∨ j = 9 := by omega
  have hc : ([0 == j, 1 == j, 2 == j, 3 == j, 4 == j, 5 == j, 6 == j, 7 == j, 8 == j, 9 == j].map PyData.bool).countP (fun z => PyData.eqv z (.bool true)) = 1 := by
    rcases hj' with rfl | rfl | rfl | rfl | rfl | rfl | rfl | rfl | rfl | rfl <;> rfl
  refine ⟨.ref l5, rfl, ty g5, l5, .bl true, .bool true, _, rfl, rfl, dp, .bl true, by rfl, by rfl, ?_⟩
  refine ⟨1, 1, by rw [hc]; rfl, rfl, ?_⟩
  refine ⟨false, rfl, ?_⟩
  refine ⟨rfl, true, rfl, ?_⟩
  refine ⟨.ref l6, rfl, .ref l5, rfl, ty g5, l5, .bl true, .bool true, _, j, .bool true, rfl, rfl, dp, .bl true, by rfl, by rfl, ?_, rfl, ?_, ?_⟩
  · rcases hj' with rfl | rfl | rfl | rfl | rfl | rfl | rfl | rfl | rfl | rfl <;> rfl
  · intro m z' hm hz
    rcases hj' with rfl | rfl | rfl | rfl | rfl | rfl | rfl | rfl | rfl | rfl <;> (have : m = 0 ∨ m = 1 ∨ m = 2 ∨ m = 3 ∨ m = 4 ∨ m = 5 ∨ m = 6 ∨ m = 7 ∨ m = 8 ∨ m = 9 := by omega) <;> rcases this with rfl | rfl | rfl | rfl | rfl | rfl | rfl | rfl | rfl | rfl <;> first | omega | (cases hz; rfl)
  · refine ⟨l6, (wordsL w8).map V.str, j, .str ((wordsL w8).getD j ""), rfl, rfl, SqL.of upd_same, ?_, q _ N7⟩
    rcases hj' with rfl | rfl | rfl | rfl | rfl | rfl | rfl | rfl | rfl | rfl <;> rfl
end
end EV
set_option maxHeartbeats 2000000
namespace EV
open PySem PySem.Spec PyProof.Rows L2
/-- the names of the exceptions, in the order of the words -/
noncomputable def errsL : List Str := ["NetError", "ComponentError", "SetError", "ReportError", "WordError", "NumberError", "TextError", "NothingDone", "Unexplained", "LimitError"]
/-- the class at D is number j; CA is the class of them all -/
structure ErrJ (K : PySem.W.Frag) (mg : Str → Option Value) (CA : Addr) (D : Addr) (j : Nat) : Prop where
  cls : ExcC K D
  all : PySem.W.exmOne K (.ref D) (.ref CA) = some true
  val : PySem.W.kitOne K (.ref D) (.type "ValueError") = some true
  is : ∀ (i : Nat) (x : Str), errsL[i]? = some x → ∃ C, mg x = some (.ref C) ∧ PySem.W.kitOne K (.ref D) (.ref C) = some (i == j)
/-- what kind(e) promises -/
noncomputable def spK (w8 : Str) (K : PySem.W.Frag) (mg : Str → Option Value) (CA : Addr) : Addr × Obj → List V → Hp → VK → Prop := fun p vs H Q => ∃ (D : Addr) (j : Nat), j < 10 ∧ vs = [.ref p.1] ∧ Zc (.ref D) none p.2 ∧ (∃ us, p.2.data = .fields us) ∧ ErrJ K mg CA D j ∧
  ∀ H', News H H' → Q (.str ((wordsL w8).getD j "")) H'
theorem pss_and {X : Cx} {sts : List Stmt} {t : TS} {p : Prop} (h : p → PSs X sts t) : PSs X sts (fun D σ H => p ∧ t D σ H) := ⟨fun pins s σ H D I h18_ => by (refine EV.el0_2 h18_ ?_; try clear h18_; intro z q); exact (h z).run pins s σ H D I q⟩
theorem pss_len {X : Cx} {sts : List Stmt} {t : TS} (h : PSs X sts t) : PSs X sts (fun D σ H => σ.length = X.N.length → t D σ H) := ⟨fun pins s σ H D I q => h.run pins s σ H D I (q I.len)⟩
theorem words_len {w8 : Str} (h8 : w8.length ≤ 20) (j : Nat) (h : j < 10) : ((wordsL w8).getD j "").length ≤ 20 := by
  have hj : j = 0 ∨ j = 1 ∨ j = 2 ∨ j = 3 ∨ j = 4 ∨ j = 5 ∨ j = 6 ∨ j = 7 ∨ j = 8 ∨ j = 9 := by omega
  rcases hj with rfl | rfl | rfl | rfl | rfl | rfl | rfl | rfl | rfl | rfl
  · exact (by decide +kernel : ("net" : Str).length ≤ 20)
  · exact (by decide +kernel : ("component" : Str).length ≤ 20)
  · exact (by decide +kernel : ("set" : Str).length ≤ 20)
  · exact (by decide +kernel : ("report" : Str).length ≤ 20)
  · exact (by decide +kernel : ("word" : Str).length ≤ 20)
  · exact (by decide +kernel : ("number" : Str).length ≤ 20)
  · exact (by decide +kernel : ("text" : Str).length ≤ 20)
  · exact h8
  · exact (by decide +kernel : ("unexplained" : Str).length ≤ 20)
  · exact (by decide +kernel : ("limit" : Str).length ≤ 20)
/-- what said makes of what the lambda does -/
noncomputable def TSaid (w8 : Str) (K : PySem.W.Frag) (mg : Str → Option Value) (CA : Addr) : (XK → Hp → VK → Prop) → Hp → VK → Prop := fun tl H Q =>
  tl (fun cls d H' => ∃ (D : Addr) (j : Nat), j < 10 ∧ cls = .ref D ∧ d = none ∧ ErrJ K mg CA D j ∧ ∀ H'', News H' H'' → Q (.str ("! " ++ (wordsL w8).getD j "")) H'') H fun v H' => rRepr K [v] H' Q
theorem said_gives {w8 : Str} (h8 : w8.length ≤ 20) {X : Cx} {k : Nat} {x a e kn q er : Str} {sg : Scope} {g CA fk : Addr} {fkd : FuncData} {cdg : Value} {j1 : Nat} {p1 p2 p3 p4 p5 p6 p7 p8 p9 p10 p11 p12 p13 p14 : Pos} {pe : Str}
    (FQ : FnQ X.prog X.w X.K X.mg X.base k fk fkd [pe] (spK w8 X.K X.mg CA)) (hmk : X.mg kn = some (.ref fk)) (hkk : PySem.W.keepIn X.K (.ref fk) = true) (hbk : Binds X.K fkd [pe] [])
    (hr : Room (k + 1) X.A) (hg : X.A.guards = some []) (gr : sg.names.lookup ("repr" : Str) = some .globalImplicit) (mr : X.mg "repr" = none) (gk : sg.names.lookup kn = some .globalImplicit) (ge : sg.names.lookup er = some .globalImplicit) (me : X.mg er = some (.ref CA))
    (le : sg.names.lookup e = some .local) (nd : [a, e].Nodup) (hde : (er == ("__debug__" : Str)) = false) (hdk : (kn == ("__debug__" : Str)) = false) (hd : (e == ("__debug__" : Str)) = false) (hcd : (e == ("__classdict__" : Str)) = false) :
    LamX.GivesTo X [a, e] x sg g cdg [.Try [.Return (some (.Call (.Name "repr" p1) [.Call (.Name a p2) [] [] p3] [] p4)) p5]
      [.ExceptHandler (some (.Name er p6)) (some e) [.Return (some (.BinOp (.Constant (.str "! ") j1 p7) .Add (.Call (.Name kn p8) [.Name e p9] [] p10) p11)) p12] p13] [] [] p14] a q (TSaid w8 X.K X.mg CA) := by
  intro f c' s H Q tl act hc h
  have hr' : Room k (X.A.deeper (envOfC x sg s.heap.objs.size g cdg)) := hr.deeper _
  refine ⟨_, pss_one (ps_try_as (X := (cxOf C8.CX0 X.prog X.w X.K X.mg X.base [a, e] x sg g cdg X.A X.stack s H C8.E0).nox) (c := .ref CA) (i := 1)
      (tb := fun W D σ H => ∃ Ech : XK, (∀ cls d σ' H', Ech cls d H' → W cls d σ' H') ∧ σ[0]? = some (some (.ref f)) ∧ H c' = some (LamX.CodeO c' q) ∧ tl Ech H fun v H' => rRepr X.K [v] H' D.rt)
      (ts := fun a' cls d Dn σ H => ∃ z : Addr × Nat, (z.2 < 10 ∧ cls = .ref z.1 ∧ d = none ∧ ErrJ X.K X.mg CA z.1 z.2) ∧ (σ.length = 2 → σ[1]? = some (some (.ref a')) ∧ ∀ H'', News H H'' → Dn.rt (.str ("! " ++ (wordsL w8).getD z.2 "")) H''))
      rfl rfl nd rfl le ⟨ge, hde, .inl me⟩ takes0 (fun W pn xe tk _ => ?_) (fun a' oe cls d pn hz hf => ?_)), ?_⟩
  · refine ⟨fun pins s' σ H' D I h' => ?_⟩
    obtain ⟨Ech, hW, h1, h2, h3⟩ := h'
    have hp := act W pn xe Ech p2 p3 tk hW
    have hq := pss_one (ps_ret (pos := p5) (pe_callB (p := p1) (pos := p4) (call_reprD (X := (cxOf C8.CX0 X.prog X.w X.K X.mg X.base [a, e] x sg g cdg X.A X.stack s H C8.E0).tr pn xe) (k := k) hr' hg) gr mr (by decide +kernel) (pa_cons hp pa_nil rfl) (by decide) (by decide) rfl rfl))
    exact hq.run pins s' σ H' D I ⟨h1, h2, h3⟩
  · refine pss_ex fun z => pss_and fun h19_ => ?_; obtain ⟨hj, e1, e2, ej⟩ := h19_
    subst e1 e2
    have hv : Vis sg e := .inl le
    refine pss_len (pss_imp (pss_one (ps_ret (pos := p12) (pe_op (op_add_str (X := Cx.suite _ a' _)) pe_str (pe_callQ (p := (a', oe)) (q := p8) (pos := p10) FQ ⟨hr'.dp, hr'.un⟩ List.mem_cons_self gk hmk hkk hbk (pa_cons (pe_var (i := 1) rfl hv hd hcd) pa_nil rfl) hdk rfl rfl)))) fun Dn σ H h20_ => ?_); obtain ⟨hs, y⟩ := h20_
    refine ⟨.ref a', hs, z.1, z.2, hj, rfl, hz, hf, ej, fun H' n => ?_⟩
    have wl := words_len h8 z.2 hj
    exact ⟨"! ", (wordsL w8).getD z.2 "", rfl, rfl, by
      rw [sizeLine_eq]
      show 2 + _ ≤ _
      omega, y H' n⟩
  · exact ⟨_, fun cls d σ' H' ⟨D, j, hj, e1, e2, ej, y⟩ => by
      subst e1 e2
      exact ⟨true, ej.all, fun _ a' _ => ⟨(D, j), ⟨hj, rfl, rfl, ej⟩, fun hl => ⟨List.getElem?_set_self (by rw [List.length_set] at hl; omega), y⟩⟩, fun z => by cases z⟩, rfl, hc, h⟩
end EV
set_option maxHeartbeats 2000000
namespace EV
open PySem PySem.Spec PyProof.Rows L2 LamX
/-- the heap behind the making of a lambda: as it was, or the table at P has grown by the code object c' -/
noncomputable def LamH (P : Addr) (q : Str) (c' : Addr) (H H1 : Hp) : Prop := H1 = H ∨ ∃ ps more, H P = some (.tbl ps) ∧ H c' = none ∧ H1 = upd (upd H P (.tbl (ps ++ more))) c' (CodeO c' q)
section
variable {X : Cx} {pins : List (Addr × Obj)} {σ : L2.St} {H : Hp} {s : Shared}
theorem lam_make3 {c P : Addr} {params : Arguments} {body : Expr} {scope : Scope} {pos : Pos} {E : Value → Shared → Prop} {Q : Value → Shared → Prop} (I : Inv X pins σ H s) (TB : TabB X.base X.mg c P) (hcode : X.env.code = .ref c)
    (hT : TabS H P (X.env.qual ++ "<lambda>")) (hdef : defaultsOf params X.env = ([], [])) (hfree : ∀ y ∈ scope.names, y.2 = .free → ∃ c, X.env.cells.lookup y.1 = some c)
    (h : ∀ (f c' : Addr) (pm ctv : Value) (H1 : Hp) (s' : Shared), Inv X pins σ H1 s' → LamH P (X.env.qual ++ "<lambda>") c' H H1 → TabS H1 P (X.env.qual ++ "<lambda>") →
      s'.heap.get? f = some (PySem.W.kla_obj "<lambda>" (X.env.qual ++ "<lambda>") params body scope (cloFrom X.env.cells scope.names []) pm c' ctv) → H1 f = none → f ∉ frs X.stack → H1 c' = some (CodeO c' (X.env.qual ++ "<lambda>")) → Q (.ref f) s') :
    wpAny (model X.prog X.w) X.A (eval (.Lambda params body scope pos) X.env) Q E s := by
  (refine EV.el1_3 hT ?_; try clear hT; intro ps hP ht ha)
  have bP : s.heap.BuiltinsAt X.mg P := TB.bm.keeps I.bk
  have hP' : s.heap.get? P = some { cls := .none, data := .fields ps } := I.hok P _ hP
  have nofr : ∀ f, s.heap.objs.size ≤ f → f ∉ frs X.stack := fun f hf z => (List.mem_cons.mp (I.stkSub _ z)).elim
    (fun e => Nat.lt_irrefl _ (Nat.lt_of_lt_of_le (e ▸ I.lt) hf)) fun e => I.nofs hf e
  refine PySem.W.kla_eval hdef ?_
  cases hc : codeAmong pos ps.toList with
  | some cv =>
    (refine EV.el1_2 (ha pos cv hc) fun c' q187_ hco => ?_; obtain rfl := q187_)
    refine PySem.W.kla_makeFunctionHit (mg := X.mg) (c := c) (P := P) (ps := ps) (closure_ok hfree) I.ok.glob (I.mod.glob.keeps I.bk) hcode (TB.code.keeps I.bk) hP' ht hc bP fun ctv h' tk hx hsz => ?_
    exact h h'.objs.size c' _ ctv H _ (I.kept (t' := tk) fun b o e => Heap.get?_push_of_some _ (hx b o e)) (.inl rfl) ⟨ps, hP, ht, ha⟩ (Heap.get?_push_size _ rfl) (I.hok.fresh hsz) (nofr _ hsz) hco
  | none =>
    refine PySem.W.kla_makeFunction (mg := X.mg) (c := c) (P := P) (ps := ps) (closure_ok hfree) I.ok.glob (I.mod.glob.keeps I.bk) hcode (TB.code.keeps I.bk) hP' ht hc TB.gP bP fun c' ctv h' tk hx hge hlt hrec htb => ?_
    (refine EV.el4_4 hrec ?_; try clear hrec; intro c2 oc vs t e2 hoc hd hv)
    obtain rfl := PySem.Value.ref.inj e2
    have nC : H c' = none := I.hok.fresh hge
    have hsz : s.heap.objs.size ≤ h'.objs.size := Nat.le_trans hge (Nat.le_of_lt hlt)
    have n1 : h'.objs.size ≠ c' := Nat.ne_of_gt hlt
    have n2 : h'.objs.size ≠ P := Nat.ne_of_gt (Nat.lt_of_lt_of_le (Heap.lt_size hP') hsz)
    refine h h'.objs.size c' _ ctv _ _ (inv_table (t' := tk) (more := #[rawInt pos.line, rawInt pos.col, .ref c']) I hP (fun b o hb e => Heap.get?_push_of_some _ (hx b o hb e)) (Heap.get?_push_of_some _ htb) hge ⟨oc, vs, t, Heap.get?_push_of_some _ hoc, hd, hv⟩)
      (.inr ⟨ps, _, hP, nC, rfl⟩) ?_ (Heap.get?_push_size _ rfl) (by rw [upd_ne n1, upd_ne n2]; exact I.hok.fresh hsz) (nofr _ hsz) upd_same
    have eL : (ps ++ #[rawInt pos.line, rawInt pos.col, .ref c']).toList = ps.toList ++ [rawInt pos.line, rawInt pos.col, .ref c'] := by simp
    refine EV.in1_3 _ (by rw [upd_ne (ne_of_none hP nC), upd_same]) (by rw [eL]; exact PySem.TriplesOk_snoc _ _ _ _ ht) (fun p' cv hcv => ?_)
    rw [eL] at hcv
    rcases among_app _ ht hcv with z | z
    · refine EV.el1_2 (ha p' cv z) fun c0 e1 e2 => ?_
      refine EV.in1_2 c0 e1 ?_
      rw [upd_ne (ne_of_none e2 nC), upd_ne (fun y => by
        rw [y, hP] at e2
        exact codeO_ne ps (Option.some.inj e2).symm)]
      exact e2
    · exact EV.in1_2 c' z upd_same
end
noncomputable def tLam3 (P : Addr) (q : Str) (TT : (XK → Hp → VK → Prop) → Hp → VK → Prop) (t : XK → TE) : TE := fun σ H Q => TabS H P q ∧ ∀ c' H1, LamH P q c' H H1 → TabS H1 P q → TT (fun E H' Q' => t E σ H' Q') H1 Q
section
variable {X : Cx}
/-- x(lambda: body) -/
theorem pe_lam3 {TT : (XK → Hp → VK → Prop) → Hp → VK → Prop} {x a : Str} {g c P : Addr} {k : Nat} {pg : Arguments} {bg : List Stmt} {sg : Scope} {dV kV doc pm cdv ct oc : Value} {an od : Option Addr} {osl : Array (Option Value)} {Ng : List Str}
    {params : Arguments} {body : Expr} {scope : Scope} {t : XK → TE} {p lpos pos : Pos} (hg : Gl X x) (hm : X.mg x = some (.ref g)) (hk : PySem.W.keepIn X.K (.ref g) = true)
    (lk : X.K.lookup g = some ⟨oc, od, .func (PySem.W.fnOf x x pg bg sg dV kV doc pm an cdv ct), osl⟩) (hcg : PySem.W.codeIn X.K cdv x = true) (hb : L2.Binds X.K (PySem.W.fnOf x x pg bg sg dV kV doc pm an cdv ct) [a] []) (Sg : FnScope Ng [a] sg) (hNg : Ng[0]? = some a) (hva : Vis sg a)
    (hG : GivesTo X Ng x sg g cdv bg a (X.env.qual ++ "<lambda>") TT)
    (TB : TabB X.base X.mg c P) (hcode : X.env.code = .ref c) (hr : Room (k + 2) X.A) (L : LamS X.env.scope scope) (hdef : defaultsOf params X.env = ([], []))
    (hbind : ∀ (q : Str) (cl : List (Str × Addr)) (pm cv ctv : Value), bindArgs (PySem.W.kla_fn "<lambda>" q params body scope cl pm cv ctv) ⟨[], []⟩ = pure [])
    (hbody : ∀ (A : Around) (outer : List Env) (s : Shared) (H : Hp) (E : XK) (f c' : Addr), Room k (A.deeper (lamEnv X scope s.heap.objs.size f c')) → PE (lamCx X A outer s H E scope f c') body (t E))
    (hdb : autoParam ((x == ("__debug__" : Str)) = false) EV.tac1) (hd : autoParam ((a == ("__debug__" : Str)) = false) EV.tac1) (hcd : autoParam ((a == ("__classdict__" : Str)) = false) EV.tac1) :
    PE X (.Call (.Name x p) [.Lambda params body scope lpos] [] pos) (tLam3 P (X.env.qual ++ "<lambda>") TT t) := by
  refine ⟨fun pins s σ H Q I h22_ => ?_⟩; (refine EV.el0_2 h22_ ?_; try clear h22_; intro hT h)
  refine wpAny_Call_Name_kw (ld_glob I hg hm ?_ hdb)
  refine PySem.W.callWith_K (h₀ := X.base) I.ok.mod.kin hk ?_ (by rfl) (by rfl)
  show wpAny _ _ (spliced ((false, eval (.Lambda params body scope lpos) X.env) :: backTo pos (starEach [] X.env))) _ _ s
  refine Calls.spliced_cons (lam_make3 I TB hcode hT hdef (L.has I.ok) fun f c' pm' ctv H1 s' I1 eN T1 hf hfn hfr hco => Calls.spliced_nil ⟨I1.kIn, ?_⟩)
  have rc : codeAny (model X.prog X.w) X.A (.call (.ref g) ⟨[.ref f], []⟩) (CR C8.CX0 X.stack X.prog X.w H1 s' Q C8.E0) s' := by
    refine run_ofS (N := Ng) (ps := [a]) (us := [.ref f]) (vs := [.ref f]) lk hcg Sg hr I1.env0 (hb s' [.ref f] I1.kIn rfl) (.cons rfl .nil) rfl fun hr' => ?_
    refine EV.el1_2 (hG f c' s' H1 Q (fun E H' Q' => t E σ H' Q') (fun W pn xe E p1 p2 tk hW => pe_act (i := 0) I1 L hf hfn hfr (hbind _ _ _ _ _) tk hW hr' (fun A outer s H hr2 => hbody A outer s H E f c' hr2) hNg hva hd hcd) hco (h c' H1 eN T1)) fun t' ht' hq' => ?_
    exact EV.in1_2 t' (ht'.nox) hq'
  refine wpAny_call (codeAny_mono rc fun r s2 hq => ?_)
  cases r with
  | error e => exact (show False from hq).elim
  | ok fl =>
    cases fl with
    | ret u => exact I1.after hq
    | next => exact False.elim hq
    | brk => exact False.elim hq
    | cont => exact False.elim hq
end
end EV
set_option maxHeartbeats 2000000
namespace EV
open PySem PySem.Spec PyProof.Rows L2 LamX
/-- the number of an exception's name -/
noncomputable def errIx (x : Str) : Option Nat := (List.range 10).find? fun j => errsL[j]? == some x
theorem errIx_at {x : Str} {j : Nat} (h : errIx x = some j) : j < 10 ∧ errsL[j]? = some x := by
  unfold errIx at h
  have h1 := List.mem_of_find?_eq_some h
  have h2 := List.find?_some h
  exact ⟨List.mem_range.mp h1, by simpa using h2⟩
/-- what is said of what a lambda does -/
noncomputable def saidM (w8 : Str) (m : PM D) : PM D := fun s => match m [] with
  | .ok d _ => reprF [d] s
  | .exc e => if e.fs = [] then (match errIx e.name with
      | some j => .ok (.str ("! " ++ (wordsL w8).getD j "")) s
      | none => .bad) else .bad
  | .bad => .bad
/-- the def makes lambdas: its code object, the table -/
noncomputable def LamAt (X : Cx) : Prop := ∃ c P, X.env.code = .ref c ∧ TabB X.base X.mg c P ∧ NeedT X.K P ∧ tauK X.K P = X.env.qual ++ "<lambda>"
/-- the slots of values -/
noncomputable def valS : Sl → Sl
  | .val d => .val d
  | _ => .junk
theorem valS_val {Γ : List Sl} {i : Nat} {d : D} (h : (Γ.map valS)[i]? = some (.val d)) : Γ[i]? = some (.val d) := by
  rw [List.getElem?_map] at h
  cases e : Γ[i]? with
  | none => rw [e] at h; exact EV.nnS h
  | some z =>
    rw [e] at h
    cases z <;> cases h
    rfl
theorem valS_not {Γ : List Sl} {i : Nat} {z : Sl} (h : (Γ.map valS)[i]? = some z) (n : ∀ d, z ≠ .val d) : z = .junk := by
  rw [List.getElem?_map] at h
  cases e : Γ[i]? with
  | none => rw [e] at h; exact EV.nnS h
  | some y =>
    rw [e] at h
    cases y <;> cases h <;> first | rfl | exact absurd rfl (n _)
section
variable {K : PySem.W.Frag} {pa : Option Addr} {G0 H0 G H H1 : Hp} {σ : L2.St} {Γ : List Sl} {s : List Int} {P c' : Addr} {q : Str}
/-- the heap behind the making -/
theorem lamH_ext (hs : Same G H) (tk : TabK K H) (nt : NoT G) (hL : LamH P q c' H H1) (hT : TabS H1 P q) (ht : tauK K P = q) : Ext K pa G H G H1 ∧ TabK K H1 := by
  rcases hL with rfl | ⟨ps, more, hP, hc, rfl⟩
  · exact ⟨.refl hs, tk⟩
  · have nPc : P ≠ c' := ne_of_none hP hc
    have at_ : ∀ b, b ≠ P → b ≠ c' → upd (upd H P (.tbl (ps ++ more))) c' (CodeO c' q) b = H b := fun b h1 h2 => by rw [upd_ne h2, upd_ne h1]
    have notP : ∀ b o, H b = some o → (∀ ps, o ≠ .tbl ps) → b ≠ P := fun b o e n z => by
      rw [z, hP] at e
      exact n ps (Option.some.inj e).symm
    have tk' : TabK K (upd (upd H P (.tbl (ps ++ more))) c' (CodeO c' q)) := ⟨fun P' ps' e => by
      by_cases z : P' = P
      · rw [z, ht]
        exact hT
      · by_cases z2 : P' = c'
        · rw [z2, upd_same] at e
          exact absurd (Option.some.inj e) (codeO_ne ps')
        · rw [at_ P' z z2] at e
          refine EV.el1_3 (tk.ok P' ps' e) fun ps2 h1 h2 h3 => ?_
          refine EV.in1_3 ps2 (by rw [at_ P' z z2]; exact h1) h2 (fun pos cv hcv => ?_)
          refine EV.el1_2 (h3 pos cv hcv) fun c0 e1 e2 => ?_
          refine EV.in1_2 c0 e1 ?_
          rw [at_ c0 (notP c0 _ e2 fun ps => codeO_ne ps) (ne_of_none e2 hc)]
          exact e2, fun P' n => by
      by_cases z : P' = P
      · rw [z, upd_ne nPc, upd_same]
        exact EV.in1_1 _ rfl
      · refine EV.el1_1 (tk.on P' n) fun ps2 e => ?_
        rw [at_ P' z (ne_of_none e hc)]
        exact ⟨ps2, e⟩⟩
    refine ⟨⟨Same.refl G, fun a o e _ n => ?_, fun a o e => ?_, fun _ _ _ n => n, fun b o e => ?_, fun _ => tk', fun h => h⟩, tk'⟩
    · rw [at_ a (notP a o e n) (ne_of_none e hc)]
      exact e
    · by_cases z : a = P
      · rw [z, upd_ne nPc, upd_same]
        exact EV.in1_1 _ rfl
      · rw [at_ a z (ne_of_none e hc)]
        exact EV.in1_1 o e
    · have e' := hs b o e
      rw [at_ b (fun z => by
        rw [z] at e e'
        rw [hP] at e'
        obtain rfl := Option.some.inj e'
        exact nt P ps e) (ne_of_none e' hc)]
      exact e'
theorem News.ext {G : Hp} {H H' : Hp} (n : News H H') (hs : Same G H) : Ext K pa G H G H' := ⟨Same.refl G, fun a o e _ _ => n.1 a o e, fun a o e => ⟨o, n.1 a o e⟩, fun _ _ _ h => h, fun b o e => n.1 b o (hs b o e),
  fun h => h.keep n.2 (fun c φ e => n.1 c _ e) fun P ps e => n.1 P _ e, fun h => h⟩
/-- what the lambda sees -/
theorem Nv.lam (E : Nv K pa G0 H0 G H σ Γ s) (hs : Same G H1) (tk : TabK K H1) : Nv K Option.none G H1 G H1 σ (Γ.map valS) [] where
  len := by rw [List.length_map]; exact E.len
  val := fun i d e => E.val i d (valS_val e)
  own := fun i xs e => by cases valS_not e (fun d z => by cases z)
  inj := fun i j p xs ys e => by cases valS_not e (fun d z => by cases z)
  pen := fun i e => by cases valS_not e (fun d z => by cases z)
  scr := fun i ns e => by cases valS_not e (fun d z => by cases z)
  ps := PenOk.none
  ext := .refl hs
  x := NvX.none (fun z m => by
    obtain ⟨i, hi, e⟩ := List.getElem_of_mem m
    have e2 : (Γ.map valS)[i]? = some z := by rw [List.getElem?_eq_getElem hi, e]
    cases z with
    | dic sh xs => cases valS_not e2 (fun d z => by cases z)
    | ro sh xs => cases valS_not e2 (fun d z => by cases z)
    | _ => rfl) tk E.x.nt
end
/-- the def said: its promise to what is handed to it -/
structure SaidC (P : Program) (w : World) (K : PySem.W.Frag) (mg : Str → Option Value) (base : Heap) (k : Nat) (x w8 : Str) : Prop where
  ex : ∃ (g CA : Addr) (pg : Arguments) (bg : List Stmt) (sg : Scope) (kV doc pm cdv ct oc : Value) (an od : Option Addr) (osl : Array (Option Value)) (a : Str) (Ng : List Str),
    mg x = some (.ref g) ∧ PySem.W.keepIn K (.ref g) = true ∧ K.lookup g = some ⟨oc, od, .func (PySem.W.fnOf x x pg bg sg .none kV doc pm an cdv ct), osl⟩ ∧ PySem.W.codeIn K cdv x = true ∧
    L2.Binds K (PySem.W.fnOf x x pg bg sg .none kV doc pm an cdv ct) [a] [] ∧ FnScope Ng [a] sg ∧ Ng[0]? = some a ∧ Vis sg a ∧ (a == ("__debug__" : Str)) = false ∧ (a == ("__classdict__" : Str)) = false ∧
    (∀ j y, errsL[j]? = some y → ∃ D, mg y = some (.ref D) ∧ ErrJ K mg CA D j) ∧
    ∀ X : Cx, X.prog = P → X.w = w → X.K = K → X.mg = mg → X.base = base → Room (k + 1) X.A → X.A.guards = some [] → ∀ q, GivesTo X Ng x sg g cdv bg a q (TSaid w8 K mg CA)
section
variable {X : Cx} {W : WX} {pa : Option Addr} {Γ : List Sl} {k : Nat} {pos : Pos}
theorem ev_said {x w8 : Str} {m : PM D} {params : Arguments} {body : Expr} {scope : Scope} {p lpos : Pos} (C : Cok X W (k + 33)) (S : SaidC X.prog X.w X.K X.mg X.base (k + 31) x w8) (LA : LamAt X) (L : LamS X.env.scope scope) (hg : Gl X x) (hdef : defaultsOf params X.env = ([], []))
    (hbind : ∀ (q : Str) (cl : List (Str × Addr)) (pm cv ctv : Value), bindArgs (PySem.W.kla_fn "<lambda>" q params body scope cl pm cv ctv) ⟨[], []⟩ = pure [])
    (hb : ∀ (A : Around) (outer : List Env) (s : Shared) (H : Hp) (E : XK) (f c' : Addr), Cok (lamCx X A outer s H E scope f c') (fun cls d _ H' => E cls d H') 31 → EV (lamCx X A outer s H E scope f c') (fun cls d _ H' => E cls d H') none (Γ.map valS) body m)
    (hdb : autoParam ((x == ("__debug__" : Str)) = false) EV.tac1) : EV X W pa Γ (.Call (.Name x p) [.Lambda params body scope lpos] [] pos) (saidM w8 m) := by
  obtain ⟨g, CA, pg, bg, sg, kV, doc, pm, cdv, ct, oc, an, od, osl, a, Ng, s1, s2, s3, s4, s5, s6, s7, s8, s9, s10, s11, s12⟩ := S.ex
  obtain ⟨c, P, l1, l2, l3, l4⟩ := LA
  refine pe_imp (pe_lam3 (k := k + 31) (t := fun E => evT X (fun cls d _ H' => E cls d H') none (Γ.map valS) m) hg s1 s2 s3 s4 s5 s6 s7 s8 (s12 X rfl rfl rfl rfl rfl (C.room.mono (by omega)) (C.guards (by omega)) _) l2 l1 C.room L hdef hbind
    (fun A outer s H E f c' hr => hb A outer s H E f c' ⟨rfl, C.nd, takes_of rfl rfl rfl rfl, hr.mono (by omega), fun z => absurd z (by decide), passes_of rfl⟩) hdb s9 s10) fun σ H Q h_ => EV.ex4 h_ fun G0 H0 G s E R => ?_
  have tk := E.tk
  obtain ⟨ps, hP⟩ := tk.on P l3
  have hTS : TabS H P (X.env.qual ++ "<lambda>") := by
    rw [← l4]
    exact tk.ok P ps hP
  refine ⟨hTS, fun c' H1 hL hT1 => ?_⟩
  obtain ⟨x1, tk1⟩ := lamH_ext (pa := pa) E.sub tk E.x.nt hL hT1 l4
  have p1 : PenOk pa G H1 s := fun q e => by
    obtain ⟨a1, a2⟩ := E.ps q e
    refine ⟨a1, ?_⟩
    rcases hL with rfl | ⟨ps2, more, hP2, hc, rfl⟩
    · exact a2
    · rw [upd_ne (ne_of_none a2 hc), upd_ne (fun z => by rw [z, hP2] at a2; cases a2)]
      exact a2
  refine ⟨G, H1, G, [], E.lam x1.sub tk1, ?_⟩
  have R : Pst X.K W X.mg pa σ (FD X.K Q) G H (saidM w8 m s) := R
  unfold saidM at R
  cases e : m [] with
  | bad => rw [e] at R; exact R.elim
  | ok d s' =>
    rw [e] at R
    intro G2 H2 y _ v rv
    have yx : Ext X.K pa G H1 G2 H2 := y.any
    have R2 := R.mono (x1.trans yx)
    have R2 : Pst X.K W X.mg pa σ (FD X.K Q) G2 H2 (reprF [d] s) := R2
    have R2 : Pst X.K W X.mg pa σ (FD X.K Q) G2 H2 ((if okD d = true ∧ (toPy d).depth ≤ 60 ∧ (shown d).length ≤ lim then pure (.str (shown d)) else bad : PM D) s) := R2
    split at R2
    · rename_i hh
      have z := okD_py d hh.1
      exact ⟨v, toPy d, rfl, (rv.mono yx.sub).dp z.2, z.1, z.2, hh.2.1, lim_le hh.2.2, R2 G2 H2 (Ext.refl yx.sub) (p1.ext y) _ (.str _)⟩
    · exact R2.elim
  | exc ex =>
    rw [e] at R
    intro cls dx G2 H2 y ei
    have R : Pst X.K W X.mg pa σ (FD X.K Q) G H (if ex.fs = [] then (match errIx ex.name with
      | some j => EV.R.ok (D.str ("! " ++ (wordsL w8).getD j "")) s
      | none => EV.R.bad) else EV.R.bad) := R
    by_cases hf : ex.fs = []
    · rw [if_pos hf] at R
      cases hj : errIx ex.name with
      | none => rw [hj] at R; exact R.elim
      | some j =>
        rw [hj] at R
        obtain ⟨hj1, hj2⟩ := errIx_at hj
        obtain ⟨Dc, d1, d2⟩ := s11 j ex.name hj2
        obtain ⟨e1, e2, _⟩ := ei
        rw [d1] at e1
        cases e1
        refine ⟨Dc, j, hj1, rfl, e2 hf, d2, fun H3 nw => ?_⟩
        have yx : Ext X.K pa G H1 G2 H2 := y.any
        have z : Ext X.K pa G H G2 H3 := (x1.trans yx).trans (nw.ext y.sub)
        exact R G2 H3 z ((p1.ext y).ext (nw.ext (K := X.K) y.sub)) _ (.str _)
    · rw [if_neg hf] at R
      exact R.elim
end
end EV
set_option maxHeartbeats 2000000
namespace EV
open PySem PySem.Spec PyProof.Rows L2
/-- a slot that holds the instance x, being made -/
noncomputable def insS (x C dx : Addr) (ks : List Str) (xs : List D) : Sl := .dic (.ins x C dx ks) xs
theorem zip_putF {f : Str} {v : V} : ∀ {ks : List Str} {vs : List V}, f ∉ ks → vs.length = ks.length → putF f v (ks.zip vs) = (ks ++ [f]).zip (vs ++ [v])
  | [], [], _, _ => rfl
  | [], _ :: _, _, h => by simp at h
  | _ :: _, [], _, h => by simp at h
  | k :: ks, w :: vs, n, h => by
    have e : (k = f) = False := eq_false fun z => n (by rw [z]; exact List.mem_cons_self)
    show putF f v ((k, w) :: ks.zip vs) = _
    unfold putF
    rw [if_neg (by rw [e]; exact not_false), zip_putF (fun m => n (List.mem_cons_of_mem _ m)) (by simpa using h)]
    rfl
theorem zip_lookup {f : Str} : ∀ {ks : List Str} {vs : List V} {j : Nat} {v : V}, ks[j]? = some f → (∀ i, i < j → ks[i]? ≠ some f) → vs[j]? = some v → (ks.zip vs).lookup f = some v := by
  intro ks
  induction ks with
  | nil =>
    intro vs j v h _ _
    cases h
  | cons k ks ih =>
    intro vs j v h n e
    cases vs with
    | nil => cases e
    | cons w vs =>
      cases j with
      | zero =>
        obtain rfl : k = f := Option.some.inj h
        obtain rfl : w = v := Option.some.inj e
        show (match k == k with | true => some w | false => _) = some w
        rw [beq_self_eq_true]
      | succ j =>
        have nk : (f == k) = false := beq_eq_false_iff_ne.mpr fun z => n 0 (Nat.succ_pos _) (by rw [z]; rfl)
        show (match f == k with | true => some w | false => (ks.zip vs).lookup f) = some v
        rw [nk]
        exact ih h (fun i hi => n (i + 1) (Nat.succ_lt_succ hi)) e
theorem upd_comm {H : Hp} {a b : Addr} {u v : HO} (h : a ≠ b) : upd (upd H a u) b v = upd (upd H b v) a u := funext fun c => by
  by_cases ha : c = a
  · subst ha
    rw [upd_ne h, upd_same, upd_same]
  · by_cases hb : c = b
    · subst hb
      rw [upd_same, upd_ne ha, upd_same]
    · rw [upd_ne hb, upd_ne ha, upd_ne ha, upd_ne hb]
section
variable {X : Cx} {W : WX} {pa : Option Addr} {Γ : List Sl} {k : Nat} {pos : Pos} {α : Type} {out : α → Out} {rest : List Stmt}
/-- self.f = e, a new attribute -/
theorem sv_fldNew (i : Nat) {x f : Str} {e : Expr} {o Cl dx : Addr} {ks : List Str} {xs : List D} {me : PM D} {kk : D → PM α} {p1 p2 : Pos} (hc : Cls X.K Cl) (hn : NoAttr X.K Cl f) (hΓ : Γ[i]? = some (insS o Cl dx ks xs)) (hf : f ∉ ks) (hl : ks.length < 900) (he : EV X W pa Γ e me)
    (hr : ∀ d, SV X W pa (Γ.set i (insS o Cl dx (ks ++ [f]) (xs ++ [d]))) out rest (kk d))
    (hN : autoParam (X.N[i]? = some x) EV.tac2) (hv : autoParam (Vis X.env.scope x) EV.tac7) (hd : autoParam ((x == ("__debug__" : Str)) = false) EV.tac1) (hcd : autoParam ((x == ("__classdict__" : Str)) = false) EV.tac1)
    (hs : autoParam (swapsWith e (some (.Attribute (.Name x p1) f p2)) pos.line X.env = pure false) EV.tac2) :
    SV X W pa Γ out (.Assign [.Attribute (.Name x p1) f p2] e pos :: rest) (me >>= fun d => kk d) := by
  unfold SV
  rw [bind_assoc]
  have hrest : PSs X rest (fun Dn σ H => ∃ d : D, svT X W pa (Γ.set i (insS o Cl dx (ks ++ [f]) (xs ++ [d]))) (kk d >>= fun a => pure (out a)) Dn σ H) := pss_ex (ι := D) fun d => hr d
  refine pss_imp (pss_cons (ps_fld (pe_var hN hv hd hcd) he hs) hrest) fun Dn σ H h_ => EV.ex4 h_ fun G0 H0 G s E P => ⟨G0, H0, G, s, E, (P.bind E).imp fun G1 H1 d s1 x1 p1 P1 v r => ?_⟩
  have E1 := E.step x1 p1
  refine EV.el2_6 (E1.x.dic i _ _ hΓ) fun p vs q1 q2 q3 q4 q5 q6 => ?_
  have lk : vs.length = ks.length := by rw [q4.1]; exact q5.symm
  refine ⟨.ref p, q1, p, Cl, dx, ks.zip vs, rfl, q2, hc, hn, by rw [List.length_zip]; omega, d, G0, H0, G1, s1, ?_, P1⟩
  rw [zip_putF hf lk]
  exact E1.mutDic (sh' := .ins o Cl dx (ks ++ [f])) (ys := xs ++ [d]) hΓ q1 (q4.app (.cons r .nil)) (by
    show (ks ++ [f]).length = _
    have q5 : ks.length = xs.length := q5
    simp [q5]) (fun z => z)
/-- self.f, an attribute that is there -/
theorem ev_fldOwn (i j : Nat) {x f : Str} {o Cl dx : Addr} {ks : List Str} {xs : List D} {d : D} {p1 : Pos} (hc : Cls X.K Cl) (hn : NoAttr X.K Cl f) (hΓ : Γ[i]? = some (insS o Cl dx ks xs)) (hj : ks[j]? = some f) (hb : ∀ i, i < j → ks[i]? ≠ some f) (hx : xs[j]? = some d)
    (hN : autoParam (X.N[i]? = some x) EV.tac2) (hv : autoParam (Vis X.env.scope x) EV.tac7) (hd : autoParam ((x == ("__debug__" : Str)) = false) EV.tac1) (hcd : autoParam ((x == ("__classdict__" : Str)) = false) EV.tac1)
    (ha : autoParam (attributeBase (.Name x p1) f X.env (eval (.Name x p1) X.env) = eval (.Name x p1) X.env) EV.tac2) : EV X W pa Γ (.Attribute (.Name x p1) f pos) (pure d) :=
  pe_imp (pe_fld (pe_var hN hv hd hcd) ha) fun σ H Q h_ => EV.ex4 h_ fun G0 H0 G s E P => by
    refine EV.el2_6 (E.x.dic i _ _ hΓ) fun p vs q1 q2 q3 q4 q5 q6 => ?_
    refine EV.el1_2 (q4.get hx) fun v v1 v2 => ?_
    exact ⟨.ref p, q1, p, Cl, dx, ks.zip vs, v, rfl, q2, hc, hn, zip_lookup hj hb v1, P.now E.sub E.ps v v2⟩
/-- e.f of an instance that stands -/
noncomputable def fldD (Cl : Addr) (f : Str) : D → PM D
  | .obj C fs => if C = Cl then (match fs.lookup f with
    | some d => pure d
    | none => bad) else bad
  | _ => bad
theorem fvs_lookup {K : PySem.W.Frag} {G : Hp} {f : Str} : ∀ {fvs : List (Str × V)} {fs : List (Str × D)} {d : D}, fvs.map (·.1) = fs.map (·.1) → (∀ (i : Nat) (v : Str × V) (d : Str × D), fvs[i]? = some v → fs[i]? = some d → Rp K G v.2 d.2) → fs.lookup f = some d → ∃ v, fvs.lookup f = some v ∧ Rp K G v d := by
  intro fvs
  induction fvs with
  | nil =>
    intro fs d h _ q
    cases fs with
    | nil => cases q
    | cons _ _ => cases h
  | cons p fvs ih =>
    intro fs d h r q
    cases fs with
    | nil => cases h
    | cons p2 fs =>
      obtain ⟨a, v⟩ := p
      obtain ⟨b, e⟩ := p2
      have h1 : a = b ∧ fvs.map (·.1) = fs.map (·.1) := List.cons.inj h
      obtain ⟨rfl, h2⟩ := h1
      have q : (match f == a with | true => some e | false => fs.lookup f) = some d := q
      show ∃ w, (match f == a with | true => some v | false => fvs.lookup f) = some w ∧ _
      cases z : (f == a) with
      | true =>
        rw [z] at q
        cases q
        exact ⟨v, rfl, r 0 _ _ rfl rfl⟩
      | false =>
        rw [z] at q
        exact ih h2 (fun i v d e1 e2 => r (i + 1) v d e1 e2) q
theorem ev_fldO {e : Expr} {f : Str} {Cl : Addr} {m : PM D} (hn : NoAttr X.K Cl f) (he : EV X W pa Γ e m) (ha : autoParam (attributeBase e f X.env (eval e X.env) = eval e X.env) EV.tac2) : EV X W pa Γ (.Attribute e f pos) (m >>= fldD Cl f) :=
  pe_imp (pe_fld he ha) fun σ H Q h_ => EV.ex4 h_ fun G0 H0 G s E P => ⟨G0, H0, G, s, E, P.bind.imp fun G1 H1 d s1 x1 p1 P1 v r => by
    cases r with
    | @obj a C dx fvs fs h hc hk rr =>
      have P1 : Pst X.K W X.mg pa σ (FD X.K Q) G1 H1 ((if C = Cl then (match fs.lookup f with | some d => pure d | none => bad) else bad : PM D) s1) := P1
      by_cases z : C = Cl
      · subst z
        rw [if_pos rfl] at P1
        cases q : fs.lookup f with
        | none => rw [q] at P1; exact P1.elim
        | some d =>
          rw [q] at P1
          refine EV.el1_2 (fvs_lookup hk rr q) fun w w1 w2 => ?_
          exact ⟨a, C, dx, fvs, w, rfl, x1.sub _ _ h, hc.cl, hn, w1, P1.now x1.sub p1 w w2⟩
      · rw [if_neg z] at P1
        exact P1.elim
    | _ => exact P1.elim⟩
/-- isinstance(e, C), C an own class; tab: the classes of the instances that may come, and whether they are below it -/
noncomputable def isC (tab : List (Addr × Bool)) : D → PM D
  | .obj C _ => match tab.lookup C with
    | some b => pure (.bl b)
    | none => bad
  | .cls _ => bad
  | _ => pure (.bl false)
structure IsCl (K : PySem.W.Frag) (mg : Str → Option Value) (x : Str) (tab : List (Addr × Bool)) : Prop where
  ex : ∃ C : Addr, mg x = some (.ref C) ∧ (∀ D b, tab.lookup D = some b → PySem.W.kitOne K (.ref D) (.ref C) = some b) ∧ ∀ T ∈ ["NoneType", "bool", "int", "str", "tuple", "list", "dict"], PySem.W.kitOne K (.type T) (.ref C) = some false
  cv : ∀ C : Addr, mg x = some (.ref C) → ClsV (.ref C) (.ref C)
theorem ev_isC {e : Expr} {x : Str} {tab : List (Addr × Bool)} {m : PM D} {p p2 : Pos} (h : EV X W pa Γ e m) (I : IsCl X.K X.mg x tab) (hg : Gl X "isinstance") (hm : X.mg "isinstance" = none) (hg2 : Gl X x) (hdb : autoParam ((x == ("__debug__" : Str)) = false) EV.tac1)
    (hs : autoParam (starEach [e, .Name x p2] X.env = (false, eval e X.env) :: starEach [.Name x p2] X.env) EV.tac2) (hs2 : autoParam (starEach [.Name x p2] X.env = (false, eval (.Name x p2) X.env) :: starEach [] X.env) EV.tac2)
    (hpl : autoParam ((backTo pos (starEach [.Name x p2] X.env)).any (·.1) = false) EV.tac2) :
    EV X W pa Γ (.Call (.Name "isinstance" p) [e, .Name x p2] [] pos) (m >>= isC tab) := by
  refine EV.el1_3 (I.ex) fun C c1 c2 c3 => ?_
  have hb : PE X (.Name x p2) (tC (.ref C)) := pe_glob hg2 c1 rfl hdb
  refine pe_imp (pe_callB call_isi hg hm (by decide +kernel) (pa_cons h (pa_cons hb pa_nil hs2) hs) (by decide) (by decide) hs hpl) fun σ H Q h_ => EV.ex4 h_ fun G0 H0 G s E P =>
    ⟨G0, H0, G, s, E, P.bind.imp fun G1 H1 d s1 x1 p1 P1 v r => ?_⟩
  by_cases ho : ∃ c fs, d = .obj c fs
  · (refine EV.el2_1 ho ?_; try clear ho; intro c fs q189_; obtain rfl := q189_)
    cases r with
    | @obj a D dx fvs fs h hc hk rr =>
      have P1 : Pst X.K W X.mg pa σ (FD X.K Q) G1 H1 ((match tab.lookup c with | some b => pure (.bl b) | none => bad : PM D) s1) := P1
      cases q : tab.lookup c with
      | none => rw [q] at P1; exact P1.elim
      | some b =>
        rw [q] at P1
        exact ⟨.ref a, .ref C, _, _, b, rfl, I.cv C c1, .base (.ins (x1.sub _ _ h) hc.cl hc.ha hc.hn hc.htk hc.hm), c2 c b q, P1.now x1.sub p1 _ (.bl _)⟩
  · by_cases hq : ∃ c, d = .cls c
    · (refine EV.el1_1 hq ?_; try clear hq; intro c q190_; obtain rfl := q190_)
      exact P1.elim
    have e : isC tab d = pure (.bl false) := by
      cases d <;> first | rfl | exact absurd ⟨_, _, rfl⟩ ho | exact absurd ⟨_, rfl⟩ hq
    rw [e] at P1
    exact ⟨v, .ref C, _, _, false, rfl, I.cv C c1, r.ty x1.sub (fun c fs z => ho ⟨c, fs, z⟩) (fun c z => hq ⟨c, z⟩), c3 _ (by cases d <;> first | (simp [tyName]; done) | exact absurd ⟨_, _, rfl⟩ ho | exact absurd ⟨_, rfl⟩ hq), P1.now x1.sub p1 _ (.bl _)⟩
end
/-- what an __init__ makes of its arguments: the values of the attributes ks -/
noncomputable def spI (K : PySem.W.Frag) (mg : Str → Option Value) (Cl : Addr) (ks : List Str) (n : Nat) (F : List D → PM (List D)) : Sp := fun vs H Q E => ∃ (x dx : Addr) (G H1 : Hp) (vs' : List V) (ds : List D),
  vs = .ref x :: vs' ∧ H x = some (.ins Cl dx []) ∧ H1 x = none ∧ G x = none ∧ Ext K none G H1 G H ∧ TabK K H1 ∧ NoT G ∧ RpL K G vs' ds ∧ ds.length = n ∧
    Pst K (fun cls d _ H' => E cls d H') mg none [] (fun G' H' fs _ => ∀ us, H' x = some (.ins Cl dx (ks.zip us)) → G' x = none → RpL K G' us fs → us.length = ks.length → Q .non H') G H1 (F ds [])
noncomputable def slotsI (N : List Str) (x Cl dx : Addr) (ds : List D) : List Sl := (insS x Cl dx [] [] :: ds.map .val) ++ List.replicate (N.length - (ds.length + 1)) .junk
section
variable {K : PySem.W.Frag} {mg : Str → Option Value} {G H H1 : Hp} {s : List Int} {N : List Str} {vs : List V} {ds : List D} {x Cl dx : Addr}
theorem nv_startI (hx : H x = some (.ins Cl dx [])) (h1 : H1 x = none) (hg : G x = none) (E : Ext K none G H1 G H) (tk : TabK K H1) (nt : NoT G) (r : RpL K G vs ds) (hn : vs.length + 1 ≤ N.length) : Nv K none G H1 G H (start N (.ref x :: vs)) (slotsI N x Cl dx ds) s where
  len := by
    rw [start_len (by simpa using hn)]
    unfold slotsI
    have := r.1
    simp
    omega
  val := fun i d e => by
    have e := get_vals e (fun z => by cases z)
    cases i with
    | zero => cases e
    | succ i =>
      rw [List.getElem?_cons_succ, List.getElem?_map] at e
      cases q : ds[i]? with
      | none => rw [q] at e; exact EV.nnS e
      | some d' =>
        rw [q] at e
        cases e
        refine EV.el1_2 (r.get q) fun v h1 h2 => ?_
        exact EV.in1_2 v (start_get (by simpa using h1)) h2
  own := fun i xs e => by
    have e := get_vals e (fun z => by cases z)
    cases i with
    | zero => cases e
    | succ i =>
      rw [List.getElem?_cons_succ, List.getElem?_map] at e
      cases q : ds[i]? <;> rw [q] at e <;> cases e
  inj := fun i j p xs ys e => by
    have e := get_vals e (fun z => by cases z)
    cases i with
    | zero => cases e
    | succ i =>
      rw [List.getElem?_cons_succ, List.getElem?_map] at e
      cases q : ds[i]? <;> rw [q] at e <;> cases e
  pen := fun i e => by
    have e := get_vals e (fun z => by cases z)
    cases i with
    | zero => cases e
    | succ i =>
      rw [List.getElem?_cons_succ, List.getElem?_map] at e
      cases q : ds[i]? <;> rw [q] at e <;> cases e
  scr := fun i ns e => by
    have e := get_vals e (fun z => by cases z)
    cases i with
    | zero => cases e
    | succ i =>
      rw [List.getElem?_cons_succ, List.getElem?_map] at e
      cases q : ds[i]? <;> rw [q] at e <;> cases e
  ps := PenOk.none
  ext := E
  x := by
    have only : ∀ {i : Nat} {z : Sl}, (slotsI N x Cl dx ds)[i]? = some z → plainS z = false → i = 0 := fun {i z} e hz => by
      have e := get_vals e (fun y => by rw [y] at hz; exact EV.nnB (Eq.symm hz))
      cases i with
      | zero => rfl
      | succ i =>
        rw [List.getElem?_cons_succ, List.getElem?_map] at e
        cases q : ds[i]? with
        | none => rw [q] at e; exact EV.nnS e
        | some d =>
          rw [q] at e
          obtain rfl := Option.some.inj e
          exact EV.nnB (Eq.symm hz)
    have at0 : ∀ {z : Sl}, (slotsI N x Cl dx ds)[0]? = some z → z = insS x Cl dx [] [] := fun {z} e => (Option.some.inj (show some (insS x Cl dx [] []) = some z from e)).symm
    refine ⟨fun i sh xs e => ?_, fun i j p sh xs sh' ys e1 e2 => ?_, fun i sh xs e => ?_, tk, nt⟩
    · have i0 := only e rfl
      subst i0
      cases at0 e
      exact EV.in2_7 x ([]) (start_get rfl) hx hg (.nil) rfl h1 rfl
    · rw [only e1 rfl, only e2 rfl]
      exact fun _ _ => rfl
    · have i0 := only e rfl
      subst i0
      cases at0 e
end
section
variable {P : Program} {w : World} {K : PySem.W.Frag} {mg : Str → Option Value} {base : Heap} {Cl : Addr} {f : Addr} {N ps : List Str} {k n : Nat} {name qual : Str} {params : Arguments} {body : List Stmt} {scope : Scope} {ks : List Str}
/-- the body of an __init__ -/
structure InitB (P : Program) (w : World) (K : PySem.W.Frag) (mg : Str → Option Value) (base : Heap) (Cl : Addr) (f : Addr) (N : List Str) (k n : Nat) (qual : Str) (body : List Stmt) (scope : Scope) (ks : List Str) (F : List D → PM (List D)) : Prop where
  bd : ∀ (cdv : Value) (A : Around) (outer : List PySem.Env) (s : Shared) (H : Hp) (E : XK), Cok (cxOf (L2.CX P w) P w K mg base N qual scope f cdv A outer s H E) (fun cls d _ H => E cls d H) k → ∀ (x dx : Addr) (ds : List D), ds.length = n →
    ∃ Γ' : List D → List Sl, (∀ fs, (Γ' fs)[0]? = some (insS x Cl dx ks fs)) ∧ SV (cxOf (L2.CX P w) P w K mg base N qual scope f cdv A outer s H E) (fun cls d _ H => E cls d H) none (slotsI N x Cl dx ds) (fun fs => Out.fall (Γ' fs)) body (F ds)
theorem InitB.run {F : List D → PM (List D)} (B : InitB P w K mg base Cl f N k n qual body scope ks F) (nd : N.Nodup) (hk : k < 32) (hN : n + 1 ≤ N.length) (cdv : Value) (A : Around) (outer : List PySem.Env) (s : Shared) (H : Hp) (vs : List V) (Q : VK) (E : XK)
    (hr : Room k (A.deeper (envOfC qual scope s.heap.objs.size f cdv))) (h : spI K mg Cl ks n F vs H Q E) :
    ∃ t, PSs (cxOf (L2.CX P w) P w K mg base N qual scope f cdv A outer s H E) body t ∧ t { nx := fun _ H' => Q .non H', rt := Q } (start N vs) H := by
  (refine EV.el6_2 h ?_; try clear h; intro x dx G H1 vs' ds q191_ q192_; obtain rfl := q191_; (refine EV.el0_5 q192_ ?_; try clear q192_; intro hx h1 hg ext q193_; refine EV.el0_5 q193_ ?_; try clear q193_; intro tk nt r hn hP))
  refine EV.el1_2 (B.bd cdv A outer s H E (cok_fn nd (fun z => absurd hk (by omega)) hr) x dx ds hn) fun Γ' g0 sv => ?_
  refine ⟨_, sv, G, H1, G, [], nv_startI hx h1 hg ext tk nt r (by rw [r.1, hn]; exact hN), ?_⟩
  rw [PM.bind_def]
  cases e : F ds [] with
  | bad => rw [e] at hP; exact hP.elim
  | exc z =>
    rw [e] at hP
    exact fun cls d _ G' H' y q => hP cls d G' H' y q
  | ok fs s' =>
    rw [e] at hP
    show ∀ σ' G' H', Nv K none G H1 G' H' σ' (Γ' fs) s' → Q .non H'
    intro σ' G' H' N'
    (refine EV.el2_4 (N'.x.dic 0 _ _ (g0 fs)) fun p us q1 q2 q3 q194_ => ?_; refine EV.el0_4 q194_ ?_; try clear q194_; intro q4 q5 q6 q7)
    have q7 : p = x := q7
    subst q7
    exact hP G' H' N'.ext PenOk.none us q2 q3 q4 (by rw [q4.1]; exact q5.symm)
/-- the instance is made, and public -/
theorem made_pub {W : WX} {pa : Option Addr} {σ : L2.St} {G1 H1 G2 H2 : Hp} {s : List Int} {Q : VK} {x dx : Addr} {us : List V} {fs : List D} (oc : ObjC K Cl) (nx : H1 x = none) (hp1 : PenOk pa G1 H1 s) (y : Ext K pa G1 H1 G2 H2) (p2 : PenOk pa G2 H2 s) (hx : H2 x = some (.ins Cl dx (ks.zip us))) (gx : G2 x = none)
    (r : RpL K G2 us fs) (hl : us.length = ks.length) (P : Pst K W mg pa σ (FD K Q) G1 H1 ((pure (.obj Cl (ks.zip fs)) : PM D) s)) : Q (.ref x) H2 := by
  have sg : Same G2 (upd G2 x (.ins Cl dx (ks.zip us))) := fun a o e => by
    rw [upd_ne (ne_of_none e gx)]
    exact e
  have y' : Ext K pa G1 H1 (upd G2 x (.ins Cl dx (ks.zip us))) H2 := by
    refine ⟨y.g.trans sg, y.hh, y.t, fun a o e n => ?_, fun a o e => ?_, y.tk, fun h => (y.gt h).upd (fun _ z => by cases z)⟩
    · rw [upd_ne (ne_of_none e nx)]
      exact y.n a o e n
    · by_cases h : a = x
      · subst h
        rw [upd_same] at e
        rw [← e]
        exact hx
      · rw [upd_ne h] at e
        exact y.sub a o e
  refine P _ _ y' (fun q e => ?_) _ (.obj upd_same oc ?_ fun i v d e1 e2 => ?_)
  · refine EV.el0_2 (p2 q e) fun q1 q2 => ?_
    refine ⟨?_, q2⟩
    rw [upd_ne (ne_of_none (hp1 q e).2 nx)]
    exact q1
  · have l2 := r.1
    rw [List.map_fst_zip (by omega), List.map_fst_zip (by omega)]
  · have hz : ∀ {α : Type} {zs : List α} {i : Nat} {v : Str × α}, (ks.zip zs)[i]? = some v → zs[i]? = some v.2 := fun {α zs i v} e => by
      rw [List.getElem?_zip_eq_some] at e
      exact e.2
    exact (r.2 i v.2 d.2 (hz e1) (hz e2)).mono sg
end
section
variable {X : Cx} {W : WX} {pa : Option Addr} {Γ : List Sl} {k j : Nat} {pos : Pos}
/-- what an own class makes -/
noncomputable def newO (Cl : Addr) (ks : List Str) (F : List D → PM (List D)) (ds : List D) : PM D := run0 (F ds) >>= fun fs => pure (.obj Cl (ks.zip fs))
theorem made_ext {K : PySem.W.Frag} {G H : Hp} {x dx : Addr} {u : HO} (hs : Same G H) (nx : H x = none) (nd : H dx = none) (ne : dx ≠ x) (hu : ∀ ps, u ≠ .tbl ps) : Ext K pa G H G (upd (upd H dx (.own x)) x u) :=
  (Ext.newH hs nd (.own x)).trans (Ext.newH (fun a o e => by rw [upd_ne (ne_of_none (hs a o e) nd)]; exact hs a o e) (by rw [upd_ne ne.symm]; exact nx) u hu)
/-- the promise of an __init__, at the call -/
theorem spI_at {K : PySem.W.Frag} {mg : Str → Option Value} {Cl : Addr} {ks : List Str} {n : Nat} {F : List D → PM (List D)} {σ : L2.St} {G1 H1 H2 : Hp} {s : List Int} {Q : VK} {x dx : Addr} {vs : List V} {ds : List D} (oc : ObjC K Cl) (hs : Same G1 H1) (nx : H1 x = none) (tk : TabK K H1) (nt : NoT G1) (hp : PenOk pa G1 H1 s)
    (hx : H2 x = some (.ins Cl dx [])) (e2 : Ext K none G1 H1 G1 H2) (r : RpL K G1 vs ds) (hn : ds.length = n) (P : Pst K W mg pa σ (FD K Q) G1 H1 (newO Cl ks F ds s)) :
    spI K mg Cl ks n F (.ref x :: vs) H2 (fun v H3 => v = .non ∧ Q (.ref x) H3) fun cls d H' => W cls d σ H' := by
  refine ⟨x, dx, G1, H1, vs, ds, rfl, hx, nx, hs.free nx, e2, tk, nt, r, hn, ?_⟩
  unfold newO at P
  rw [PM.bind_def] at P
  unfold run0 at P
  cases e : F ds [] with
  | bad => rw [e] at P; exact P.elim
  | exc z =>
    rw [e] at P
    exact fun cls d G' H' y q => P cls d G' H' y.any q
  | ok fs s' =>
    rw [e] at P
    exact fun G' H' y _ us hx' gx' r' hl => ⟨rfl, made_pub oc nx hp y.any (hp.ext y) hx' gx' r' hl P⟩
/-- an own class called with values -/
theorem runMk {pins : List (Addr × Obj)} {σ : L2.St} {H : Hp} {s : Shared} {Q : VK} {us : List Value} {vs : List V} {Cl f : Addr} {sp : Sp} (C : Cok X W (j + 1)) (M : Mk X.K Cl f) (F : FnR X.prog X.w X.K X.mg X.base (L2.CX X.prog X.w) j f sp) (I : Inv X pins σ H s) (r : Vals vs us)
    (h : ∀ x dx, H x = none → H dx = none → dx ≠ x → sp (V.ref x :: vs) (upd (upd H dx (.own x)) x (.ins Cl dx [])) (fun v H2 => v = .non ∧ Q (.ref x) H2) fun cls d H' => W cls d σ H') : wpAny (model X.prog X.w) X.A (PySem.call (.ref Cl) us) (EP X pins σ Q) X.xe s := by
  have J := Inv.made (C := Cl) I
  have hq := h _ _ (I.hok.fresh (Nat.le_succ s.heap.objs.size)) (I.hok.fresh (Nat.le_refl _)) (Nat.ne_of_lt (Nat.lt_succ_self _))
  have rr : Vals (V.ref (s.heap.objs.size + 1) :: vs) (Value.ref (s.heap.objs.size + 1) :: us) := .cons rfl r
  have key := F _ X.stack _ _ _ _ _ _ (C.room.make Cl us []) (J.env0.make Cl us []) rr hq
  refine wpAny_call (make_map (f := f) I.kIn M.makes M.init (beq_iff_eq.mp M.fn) (codeAny_mono key fun res s' z => ?_))
  match res, z with
  | .error e, z => exact C.takes e s' (XE.of_call J (fun _ _ _ q => q) z)
  | .ok (.ret u), z =>
    refine EV.el2_4 (J.after z) fun v H3 I3 rv ev q3 => ?_
    subst ev
    exact ⟨rv, V.ref (s.heap.objs.size + 1), H3, I3, rfl, q3⟩
theorem pe_mk {x : Str} {Cl f : Addr} {sp : Sp} {e : Expr} {es : List Expr} {t : TA} {p : Pos} (C : Cok X W (j + 1)) (M : Mk X.K Cl f) (F : FnR X.prog X.w X.K X.mg X.base (L2.CX X.prog X.w) j f sp) (hg : Gl X x) (hm : X.mg x = some (.ref Cl)) (ha : PA X (e :: es) t)
    (hdb : autoParam ((x == ("__debug__" : Str)) = false) EV.tac1) (he : autoParam (starEach (e :: es) X.env = (false, eval e X.env) :: starEach es X.env) EV.tac2) (hpl : autoParam ((backTo pos (starEach es X.env)).any (·.1) = false) EV.tac2) :
    PE X (.Call (.Name x p) (e :: es) [] pos) (fun σ H Q => t σ H fun vs H1 => ∀ x dx, H1 x = none → H1 dx = none → dx ≠ x → sp (V.ref x :: vs) (upd (upd H1 dx (.own x)) x (.ins Cl dx [])) (fun v H2 => v = .non ∧ Q (.ref x) H2) fun cls d H' => W cls d σ H') :=
  ⟨fun pins s σ H Q I h => wpAny_Call_Name_kw (ld_glob I hg hm (PySem.W.callWith_K (h₀ := X.base) I.ok.mod.kin M.kp (thn (ha.run pos pins s σ H _ I h) fun us s1 h23_ => by (refine EV.el2_3 h23_ ?_; try clear h23_; intro vs H1 I1 r q); exact ⟨I1.kIn, runMk C M F I1 r q⟩) he hpl) hdb)⟩
/-- C(e, ..), the __init__ takes *needs -/
noncomputable def spStar (sp : Sp) : Sp := fun vs H Q E => ∃ ws rest, vs = ws ++ rest ∧ ws.length = 1 ∧ rest.length ≤ sizeLine ∧ ∀ p, H p = Option.none → sp (ws ++ [V.ref p]) (upd H p (.tup rest)) Q E
theorem ev_makeS {x : Str} {Cl f : Addr} {ks : List Str} {F : List D → PM (List D)} {e : Expr} {es : List Expr} {ml : PM (List D)} {p : Pos} (C : Cok X W (j + 1)) (M : Mk X.K Cl f) (oc : ObjC X.K Cl) (FR : FnR X.prog X.w X.K X.mg X.base (L2.CX X.prog X.w) j f (spStar (spI X.K X.mg Cl ks 1 F)))
    (hg : Gl X x) (hm : X.mg x = some (.ref Cl)) (ha : EL X W pa Γ (e :: es) ml) (hdb : autoParam ((x == ("__debug__" : Str)) = false) EV.tac1) (he : autoParam (starEach (e :: es) X.env = (false, eval e X.env) :: starEach es X.env) EV.tac2) (hpl : autoParam ((backTo pos (starEach es X.env)).any (·.1) = false) EV.tac2) :
    EV X W pa Γ (.Call (.Name x p) (e :: es) [] pos) (ml >>= fun ds => mkT ds >>= fun t => newO Cl ks F [t]) :=
  pe_imp (pe_mk C M FR hg hm ha hdb he hpl) fun σ H Q h_ => EV.ex4 h_ fun G0 H0 G s E R => ⟨G0, H0, G, s, E, R.bind.imp fun G1 H1 ds s1 x1 p1 P1 vs r x dx nx nd ne => by
    by_cases hl : ds.length ≤ lim
    · rw [mkT_ok hl, pure_bind] at P1
      refine EV.in2_4 ([V.ref x]) vs rfl rfl (by rw [r.1]; exact lim_le hl) (fun q nq => ?_)
      have qx : q ≠ x := fun z => by rw [z, upd_same] at nq; exact EV.nnS (Eq.symm nq)
      have qd : q ≠ dx := fun z => by rw [z, upd_ne ne, upd_same] at nq; exact EV.nnS (Eq.symm nq)
      have nq1 : H1 q = none := by rw [upd_ne qx, upd_ne qd] at nq; exact nq
      have y1 := Ext.new (K := X.K) (pa := pa) x1.sub nq1 (.tup vs)
      have hs2 : Same (upd G1 q (.tup vs)) (upd H1 q (.tup vs)) := y1.sub
      have y2 : Ext X.K none (upd G1 q (.tup vs)) (upd H1 q (.tup vs)) (upd G1 q (.tup vs)) (upd (upd (upd H1 q (.tup vs)) dx (.own x)) x (.ins Cl dx [])) :=
        made_ext hs2 (by rw [upd_ne (Ne.symm qx)]; exact nx) (by rw [upd_ne (Ne.symm qd)]; exact nd) ne (fun _ z => by cases z)
      have ec : upd (upd (upd H1 dx (.own x)) x (.ins Cl dx [])) q (.tup vs) = upd (upd (upd H1 q (.tup vs)) dx (.own x)) x (.ins Cl dx []) := by
        rw [upd_comm (H := upd H1 dx (.own x)) (Ne.symm qx), upd_comm (H := H1) (Ne.symm qd)]
      rw [ec]
      refine spI_at oc hs2 (by rw [upd_ne (Ne.symm qx)]; exact nx) (y1.tk (x1.tk E.tk)) (y1.gt (x1.gt E.x.nt)) (p1.upd nq1 _) upd_same y2 (.cons (.mkT (SqT.of upd_same) (r.mono y1.g)) .nil) rfl (P1.mono y1)
    · rw [show mkT ds = bad from if_neg hl] at P1
      exact P1.elim⟩
/-- C(e, ..), the __init__ has defaults -/
theorem ev_makeD {x : Str} {Cl f : Addr} {ks : List Str} {n : Nat} {F : List D → PM (List D)} {dvs : List V} {dd : List D} {e : Expr} {es : List Expr} {ml : PM (List D)} {p : Pos} (C : Cok X W (j + 1)) (M : Mk X.K Cl f) (oc : ObjC X.K Cl) (FR : FnR X.prog X.w X.K X.mg X.base (L2.CX X.prog X.w) j f (fun vs H Q E => spI X.K X.mg Cl ks n F (vs ++ dvs) H Q E))
    (rd : ∀ G, RpL X.K G dvs dd) (ar : ∀ ds, ds.length ≠ n → F ds [] = .bad) (hg : Gl X x) (hm : X.mg x = some (.ref Cl)) (ha : EL X W pa Γ (e :: es) ml) (hdb : autoParam ((x == ("__debug__" : Str)) = false) EV.tac1) (he : autoParam (starEach (e :: es) X.env = (false, eval e X.env) :: starEach es X.env) EV.tac2) (hpl : autoParam ((backTo pos (starEach es X.env)).any (·.1) = false) EV.tac2) :
    EV X W pa Γ (.Call (.Name x p) (e :: es) [] pos) (ml >>= fun ds => newO Cl ks F (ds ++ dd)) :=
  pe_imp (pe_mk C M FR hg hm ha hdb he hpl) fun σ H Q h_ => EV.ex4 h_ fun G0 H0 G s E R => ⟨G0, H0, G, s, E, R.bind.imp fun G1 H1 ds s1 x1 p1 P1 vs r x dx nx nd ne => by
    have hl : (ds ++ dd).length = n := by
      by_cases h : (ds ++ dd).length = n
      · exact h
      · exfalso
        unfold newO at P1
        rw [PM.bind_def] at P1
        unfold run0 at P1
        rw [ar _ h] at P1
        exact P1.elim
    exact spI_at oc x1.sub nx (x1.tk E.tk) (x1.gt E.x.nt) p1 upd_same (made_ext x1.sub nx nd ne (fun _ z => by cases z)) (r.app (rd G1)) hl P1⟩
end
end EV
set_option maxHeartbeats 2000000
namespace EV
open PySem PySem.Spec PyProof.Rows L2 PySem.W
section
variable {X : Cx} {W : WX} {pa : Option Addr} {Γ : List Sl} {k j : Nat} {pos : Pos} {α : Type} {out : α → Out} {rest : List Stmt}
/-- {} -/
theorem ev_dict0 : EV X W pa Γ (.Dict [] [] pos) (pure (.dct [])) := pe_imp pe_dnewK fun σ H Q ⟨G0, H0, G, s, E, R⟩ d nd => by
  have y := Ext.new (K := X.K) (pa := pa) E.sub nd (.dK [])
  exact R _ _ y (E.ps.upd nd _) _ (.dct (sh := .k []) (vs := []) upd_same rfl rfl fun i v d e => by simp at e)
end
noncomputable def btB (K : Frag) (C : Addr) : Bool := ["int", "bool", "tuple", "str", "list"].all fun T => kitOne K (.ref C) (.type T) == some false
structure ClsAt (K : Frag) (mg : Str → Option Value) (x : Str) (Cl : Addr) (q : Str) (st : Stmt) (dvs : List V) : Prop where
  mgx : mg x = some (.ref Cl)
  oc : ObjC K Cl
  ex : ∃ f fd, Mk K Cl f ∧ FunD K "__init__" q (defArgs st) (defBody st) (defScope st) dvs [] f fd
theorem objC_mk {K : Frag} {C : Addr} (h1 : plainGet K C Str.empty = true) (h2 : hasDictIn K C = true) (h3 : plainOver K C = true) (h4 : findIn K (.ref C) "__setattr__" = some (some (.builtin "object.__setattr__")))
    (h5 : findIn K (.ref C) "__class__" = some (some (.builtin "object.__class__"))) (h6 : specialIn K (.builtin "object.__class__") "__get__" = some (some (.builtin "getset_descriptor.__get__")))
    (h7 : takesIn K (.builtin "object.__class__") = some true) (h8 : mroIn K C (.type "object") = some true) (h9 : btB K C = true) : ObjC K C :=
  ⟨⟨h1, h2, h3, h4⟩, h5, h6, h7, h8, fun T m => by simpa using List.all_eq_true.mp h9 T m⟩
theorem clsAt0 {K : Frag} {h : Heap} {mg : Str → Option Value} {x q : Str} {st : Stmt} {Cl f : Addr} {oc : Value} {od an : Option Addr} {osl : Array (Option Value)} {kV doc pm cdv ct : Value} (X : K.In h) (G : h.Ns mainGlobals mg)
    (a : nsIn K mainGlobals x = some (some (.ref Cl))) (o : ObjC K Cl) (m1 : makesIn K Cl = true) (m2 : findIn K (.ref Cl) "__init__" = some (some (.ref f))) (m3 : isFn K (.ref f) = true) (m4 : keepIn K (.ref Cl) = true)
    (l : K.lookup f = some ⟨oc, od, .func (fnOf "__init__" q (defArgs st) (defBody st) (defScope st) .none kV doc pm an cdv ct), osl⟩) (c : codeIn K cdv q = true) (k : keepIn K (.ref f) = true) : ClsAt K mg x Cl q st [] :=
  ⟨mg_of X G a, o, f, _, ⟨m1, m2, m3, m4⟩, ⟨⟨oc, od, .none, kV, doc, pm, an, cdv, ct, osl, rfl, l, c, .inl ⟨rfl, rfl⟩, .inl rfl⟩, k⟩⟩
/-- one default, None -/
theorem clsAt1 {K : Frag} {h : Heap} {mg : Str → Option Value} {x q : Str} {st : Stmt} {Cl f T : Addr} {oc oc2 : Value} {od od2 an : Option Addr} {osl osl2 : Array (Option Value)} {kV doc pm cdv ct : Value} {n : Nat} (X : K.In h) (G : h.Ns mainGlobals mg)
    (a : nsIn K mainGlobals x = some (some (.ref Cl))) (o : ObjC K Cl) (m1 : makesIn K Cl = true) (m2 : findIn K (.ref Cl) "__init__" = some (some (.ref f))) (m3 : isFn K (.ref f) = true) (m4 : keepIn K (.ref Cl) = true)
    (l : K.lookup f = some ⟨oc, od, .func (fnOf "__init__" q (defArgs st) (defBody st) (defScope st) (.ref T) kV doc pm an cdv ct), osl⟩) (c : codeIn K cdv q = true) (k : keepIn K (.ref f) = true)
    (lT : K.lookup T = some ⟨oc2, od2, .seq #[Value.none] n, osl2⟩) : ClsAt K mg x Cl q st [.non] :=
  ⟨mg_of X G a, o, f, _, ⟨m1, m2, m3, m4⟩, ⟨⟨oc, od, .ref T, kV, doc, pm, an, cdv, ct, osl, rfl, l, c, .inr ⟨by simp, T, _, [Value.none], n, rfl, lT, rfl, .cons rfl .nil⟩, .inl rfl⟩, k⟩⟩
theorem tab_mem {a : Addr} {b : Bool} : ∀ {l : List (Addr × Bool)}, l.lookup a = some b → (a, b) ∈ l
  | [], h => by exact EV.nnS h
  | (c, d) :: r, h => by
    have h : (match a == c with | true => some d | false => r.lookup a) = some b := h
    cases q : (a == c) with
    | true =>
      rw [q] at h
      obtain rfl := Option.some.inj h
      rw [beq_iff_eq.mp q]
      exact List.mem_cons_self
    | false =>
      rw [q] at h
      exact List.mem_cons_of_mem _ (tab_mem h)
/-- isinstance of an own class -/
theorem isCl_mk {K : Frag} {h : Heap} {mg : Str → Option Value} {x : Str} {C : Addr} {tab : List (Addr × Bool)} (X : K.In h) (G : h.Ns mainGlobals mg) (a : nsIn K mainGlobals x = some (some (.ref C))) (cv : ClsV (.ref C) (.ref C)) (t : (tab.all fun p => kitOne K (.ref p.1) (.ref C) == some p.2) = true)
    (b : (["NoneType", "bool", "int", "str", "tuple", "list", "dict"].all fun T => kitOne K (.type T) (.ref C) == some false) = true) : IsCl K mg x tab :=
  ⟨⟨C, mg_of X G a, fun D v e => by
    have m : (D, v) ∈ tab := tab_mem e
    simpa using List.all_eq_true.mp t (D, v) m, fun T m => by simpa using List.all_eq_true.mp b T m⟩, fun C' e => by
    rw [mg_of X G a] at e
    cases e
    exact cv⟩
structure MkC (P : Program) (w : World) (K : Frag) (mg : Str → Option Value) (base : Heap) (j : Nat) (x : Str) (Cl : Addr) (sp : Sp) : Prop where
  ex : ∃ f, mg x = some (.ref Cl) ∧ ObjC K Cl ∧ Mk K Cl f ∧ FnR P w K mg base (L2.CX P w) j f sp
section
variable {P : Program} {w : World} {K : Frag} {mg : Str → Option Value} {base : Heap} {x q : Str} {Cl : Addr} {st : Stmt} {N : List Str} {k : Nat} {ks : List Str}
/-- class C: def __init__(self, *needs) -/
theorem mkS {s pv : Str} {F : List D → PM (List D)} (CA : ClsAt K mg x Cl q st []) (S : FnScope N [s, pv] (defScope st)) (hk : k < 32)
    (hb : ∀ (kV doc pm : Value) (an : Option Addr) (cdv ct : Value) (us rest : List Value), us.length = [s].length → bindArgs (fnOf "__init__" q (defArgs st) (defBody st) (defScope st) .none kV doc pm an cdv ct) ⟨us ++ rest, []⟩ = (newTuple rest >>= fun t => pure ([s].zip us ++ [(pv, t)])))
    (B : ∀ f, InitB P w K mg base Cl f N k 1 q (defBody st) (defScope st) ks F) : MkC P w K mg base (k + 1) x Cl (spStar (spI K mg Cl ks 1 F)) := by
  refine EV.el2_2 (CA.ex) fun f fd M FD => ?_
  (refine EV.el4_1 (FD.ex) fun oc od dV kV q197_ => ?_; refine EV.el6_2 q197_ ?_; try clear q197_; intro doc pm an cdv ct osl q195_ q196_; obtain rfl := q195_; (refine EV.el0_4 q196_ ?_; try clear q196_; intro lk hcd hD _))
  have e : dV = .none := by
    rcases hD with ⟨_, e⟩ | ⟨e, _⟩
    · exact e
    · exact absurd rfl e
  subst e
  have hN : 1 + 1 ≤ N.length := scope_le S
  exact ⟨f, CA.mgx, CA.oc, M, StX.fn_star (ps := [s]) lk hcd S StX.cxUp (fun us rest hl => hb kV doc pm an cdv ct us rest hl) fun A outer s H vs Q E hr h => (B f).run S.nd hk hN cdv A outer s H vs Q E hr h⟩
end
section
variable {X : Cx} {W : WX} {pa : Option Addr} {Γ : List Sl} {k j : Nat} {pos : Pos} {α : Type} {out : α → Out} {rest : List Stmt}
theorem newS {x : Str} {Cl : Addr} {ks : List Str} {F : List D → PM (List D)} {e : Expr} {es : List Expr} {ml : PM (List D)} {p : Pos} (C : Cok X W k) (M : MkC X.prog X.w X.K X.mg X.base j x Cl (spStar (spI X.K X.mg Cl ks 1 F))) (ha : EL X W pa Γ (e :: es) ml) (hj : autoParam (j + 1 ≤ k) EV.tac1) (hg : autoParam (Gl X x) EV.tac2)
    (hdb : autoParam ((x == ("__debug__" : Str)) = false) EV.tac1) (he : autoParam (starEach (e :: es) X.env = (false, eval e X.env) :: starEach es X.env) EV.tac2) (hpl : autoParam ((backTo pos (starEach es X.env)).any (·.1) = false) EV.tac2) :
    EV X W pa Γ (.Call (.Name x p) (e :: es) [] pos) (ml >>= fun ds => mkT ds >>= fun t => newO Cl ks F [t]) := by
  refine EV.el1_4 (M.ex) fun f m1 m2 m3 m4 => ?_
  exact ev_makeS (C.mono hj) m3 m2 m4 hg m1 ha hdb he hpl
theorem newD1 {x : Str} {Cl : Addr} {ks : List Str} {F : List D → PM (List D)} {e : Expr} {es : List Expr} {ml : PM (List D)} {p : Pos} (C : Cok X W k) (M : MkC X.prog X.w X.K X.mg X.base j x Cl (fun vs H Q E => spI X.K X.mg Cl ks 2 F (vs ++ [.non]) H Q E)) (ar : ∀ ds, ds.length ≠ 2 → F ds [] = .bad) (ha : EL X W pa Γ (e :: es) ml) (hj : autoParam (j + 1 ≤ k) EV.tac1) (hg : autoParam (Gl X x) EV.tac2)
    (hdb : autoParam ((x == ("__debug__" : Str)) = false) EV.tac1) (he : autoParam (starEach (e :: es) X.env = (false, eval e X.env) :: starEach es X.env) EV.tac2) (hpl : autoParam ((backTo pos (starEach es X.env)).any (·.1) = false) EV.tac2) :
    EV X W pa Γ (.Call (.Name x p) (e :: es) [] pos) (ml >>= fun ds => newO Cl ks F (ds ++ [.non])) := by
  refine EV.el1_4 (M.ex) fun f m1 m2 m3 m4 => ?_
  exact ev_makeD (C.mono hj) m3 m2 m4 (fun G => .cons .non .nil) ar hg m1 ha hdb he hpl
structure FitC (P : Program) (w : World) (K : Frag) (mg : Str → Option Value) (base : Heap) (j : Nat) (Cl : Addr) (m : Str) : Prop where
  ex : ∃ f fd ps, Meth K Cl m f ∧ FnOk P w K mg base (L2.CX P w) j f fd ps (fun vs H Q _ => vs.length = 2 ∧ Q .non H) ∧ L2.Binds K fd ps []
theorem zip_lookup_none {f : Str} : ∀ {ks : List Str} {vs : List V}, f ∉ ks → (ks.zip vs).lookup f = none
  | [], _, _ => rfl
  | _ :: _, [], _ => rfl
  | k :: ks, v :: vs, n => by
    have nk : (f == k) = false := beq_eq_false_iff_ne.mpr fun z => n (by rw [z]; exact List.mem_cons_self)
    show (match f == k with | true => some v | false => (ks.zip vs).lookup f) = none
    rw [nk]
    exact zip_lookup_none fun m => n (List.mem_cons_of_mem _ m)
theorem sv_fit (i : Nat) {x m : Str} {e : Expr} {o Cl dx : Addr} {ks : List Str} {xs : List D} {me : PM D} {kk : PM α} {p1 p2 p3 : Pos} (C : Cok X W k) (hc : Cls X.K Cl) (F : FitC X.prog X.w X.K X.mg X.base j Cl m) (hΓ : Γ[i]? = some (insS o Cl dx ks xs)) (hm : m ∉ ks) (he : EV X W pa Γ e me) (hr : SV X W pa Γ out rest kk)
    (hj : autoParam (j ≤ k) EV.tac1) (hN : autoParam (X.N[i]? = some x) EV.tac2) (hv : autoParam (Vis X.env.scope x) EV.tac7) (hd : autoParam ((x == ("__debug__" : Str)) = false) EV.tac1) (hcd : autoParam ((x == ("__classdict__" : Str)) = false) EV.tac1)
    (hs : autoParam (swapsWith (.Call (.Attribute (.Name x p1) m p2) [e] [] p3) none pos.line X.env = pure false) EV.tac2) (hst : autoParam (starEach [e] X.env = (false, eval e X.env) :: starEach [] X.env) EV.tac2) (hpl : autoParam ((backTo p3 (starEach [] X.env)).any (·.1) = false) EV.tac2)
    {pl : Sem Bool} (ht : autoParam (eval (.Call (.Attribute (.Name x p1) m p2) [e] [] p3) X.env = (do
      let ov ← eval (.Name x p1) X.env
      standAt p2.atName
      let (f, first) ← holding [ov] (getMethod ov m pl)
      callWith p3 f first (backTo p3 (starEach [e] X.env)) (backToKw p3 (keywordEach [] X.env)))) EV.tac2) :
    SV X W pa Γ out (.Expr (.Call (.Attribute (.Name x p1) m p2) [e] [] p3) pos :: rest) (me >>= fun _ => kk) := by
  refine EV.el3_3 (F.ex) fun f fd ps f1 f2 f3 => ?_
  unfold SV
  rw [bind_assoc]
  refine pss_imp (pss_cons (ps_expr (pe_meth (E := fun _ _ _ => False) (pl := pl) (pe_var hN hv hd hcd) hc f1 f2 (C.mono hj).room f3 .nil (passes_call C.takes fun _ _ _ _ z => z.elim) (pa_cons he pa_nil hst) hst hpl ht) hs) hr) fun Dn σ H h_ => EV.ex4 h_ fun G0 H0 G s E R => ?_
  refine EV.el2_6 (E.x.dic i _ _ hΓ) fun p vs q1 q2 q3 q4 q5 q6 => ?_
  exact ⟨.ref p, q1, p, dx, ks.zip vs, rfl, q2, zip_lookup_none hm, G0, H0, G, s, E, (R.bind E).imp fun G1 H1 d s1 x1 p1 P1 v r => ⟨rfl, G0, H0, G1, s1, E.step x1 p1, P1⟩⟩
end
section
variable {P : Program} {w : World} {K : Frag} {mg : Str → Option Value} {base : Heap}
/-- the method's promise: its body is «return None» -/
structure MethAt (K : Frag) (Cl : Addr) (m q : Str) (st : Stmt) : Prop where
  ex : ∃ f fd, Meth K Cl m f ∧ Fun K m q st f fd
theorem methAt {Cl f : Addr} {m q : Str} {st : Stmt} {oc : Value} {od an : Option Addr} {osl : Array (Option Value)} {kV doc pm cdv ct : Value} (m2 : findIn K (.ref Cl) m = some (some (.ref f))) (m3 : isFn K (.ref f) = true)
    (l : K.lookup f = some ⟨oc, od, .func (fnOf m q (defArgs st) (defBody st) (defScope st) .none kV doc pm an cdv ct), osl⟩) (c : codeIn K cdv q = true) (k : keepIn K (.ref f) = true) : MethAt K Cl m q st := ⟨f, _, ⟨m2, m3, k⟩, fun_mk l c k⟩
theorem fit_of {Cl : Addr} {m q s r : Str} {st : Stmt} {k : Nat} (MA : MethAt K Cl m q st) (S : FnScope [s, r] [s, r] (defScope st)) (hb : ∀ fd f, Fun K m q st f fd → L2.Binds K fd [s, r] []) {j : Nat} {p1 p2 : Pos} (hB : defBody st = [.Return (some (.Constant .none j p1)) p2]) : FitC P w K mg base (k + 1) Cl m := by
  refine EV.el2_2 (MA.ex) fun f fd M F => ?_
  refine ⟨f, fd, [s, r], M, ?_, hb fd f F⟩
  (refine EV.el4_1 (F.ex) fun oc od kV doc q200_ => ?_; refine EV.el5_2 q200_ ?_; try clear q200_; intro pm an cdv ct osl q198_ q199_; obtain rfl := q198_; (refine EV.el0_2 q199_ ?_; try clear q199_; intro lk hcd))
  refine fn_of lk hcd S (fun vs H Q E h => h.1) fun A outer s H vs Q E hr h => ?_
  rw [hB]
  exact EV.in1_2 _ (pss_one (ps_ret pe_non)) (h.2)
end
end EV
set_option maxHeartbeats 2000000
namespace EV
open PySem PySem.Spec PyProof.Rows L2 PySem.W LamX
structure FunL (K : Frag) (mg : Str → Option Value) (base : Heap) (x : Str) (st : Stmt) : Prop where
  ex : ∃ f fd c P, Fun K x x st f fd ∧ mg x = some (.ref f) ∧ fd.code = .ref c ∧ TabB base mg c P ∧ NeedT K P ∧ tauK K P = (x ++ ".<locals>.") ++ "<lambda>"
section
variable {P : Program} {w : World} {K : Frag} {mg : Str → Option Value} {base : Heap} {x : Str} {st : Stmt} {N ps : List Str} {k n : Nat}
theorem lamAt_of {fd : FuncData} {c T : Addr} {cdv : Value} {f : Addr} {A : Around} {outer : List PySem.Env} {s : Shared} {H : Hp} {E : XK} (h1 : fd.code = .ref c) (h2 : TabB base mg c T) (h3 : NeedT K T) (h4 : tauK K T = (x ++ ".<locals>.") ++ "<lambda>") (e : fd.code = cdv) :
    LamAt (cxOf (L2.CX P w) P w K mg base N x (defScope st) f cdv A outer s H E) := by
  refine EV.in2_4 c T ?_ ?_ ?_ ?_
  · exact (show cdv = Value.ref c from e.symm.trans h1)
  · exact h2
  · exact h3
  · exact h4
theorem mk_pureL {F : List D → PM D} (FA : FunL K mg base x st) (S : FnScope N ps (defScope st)) (hps : ps.length = n)
    (hbd : ∀ (kV doc pm : Value) (an : Option Addr) (cdv ct : Value) (us : List Value), us.length = ps.length → bindArgs (PySem.W.fnOf x x (defArgs st) (defBody st) (defScope st) .none kV doc pm an cdv ct) ⟨us, []⟩ = pure (ps.zip us))
    (hb : ∀ (f : Addr) (cdv : Value) (A : Around) (outer : List PySem.Env) (s : Shared) (H : Hp) (E : XK), Cok (cxOf (L2.CX P w) P w K mg base N x (defScope st) f cdv A outer s H E) (fun cls d _ H => E cls d H) k → LamAt (cxOf (L2.CX P w) P w K mg base N x (defScope st) f cdv A outer s H E) → ∀ ds : List D, ds.length = n →
      ∃ (α : Type) (out : α → Out) (m : PM α), SV (cxOf (L2.CX P w) P w K mg base N x (defScope st) f cdv A outer s H E) (fun cls d _ H => E cls d H) none (slots0 N ds) out (defBody st) m ∧ F ds = (m >>= fun a => outD (out a))) :
    Cal P w K mg base (k + 1) x ps (spF K mg false n F) := by
  (refine EV.el4_4 (FA.ex) fun f fd c T FU hm l1 q201_ => ?_; refine EV.el0_3 q201_ ?_; try clear q201_; intro l2 l3 l4)
  refine ⟨f, fd, fnG_of FU S (fun vs H Q E h => ?_) fun cdv ec A outer s H vs Q E hg hr h => ?_, hm, FU.kp, FU.binds hbd⟩
  · (refine EV.el5_3 h ?_; try clear h; intro pa G s vs' ds hpa q202_ q203_; obtain rfl := q202_; (refine EV.el0_5 q203_ ?_; try clear q203_; intro _ _ r hn _))
    cases pa with
    | some _ => cases hpa
    | none =>
      show vs'.length = _
      rw [r.1, hn, hps]
  · (refine EV.el5_3 h ?_; try clear h; intro pa G s' vs' ds hpa q204_ q205_; obtain rfl := q204_; (refine EV.el0_5 q205_ ?_; try clear q205_; intro hs hp r hn hP))
    cases pa with
    | some _ => cases hpa
    | none =>
      obtain ⟨α, out, m, sv, e⟩ := hb f cdv A outer s H E (cok_fn S.nd hg hr) (lamAt_of l1 l2 l3 l4 ec) ds hn
      rw [e] at hP
      have hlen : vs'.length ≤ N.length := by
        rw [r.1, hn, ← hps]
        exact scope_le S
      exact ⟨_, sv, G, H, G, s', nv_start0 hs r hlen, spost_fn hP⟩
end
theorem mem_of_look {K : Frag} {c : Addr} {o : Obj} (h : K.lookup c = some o) : (c, o) ∈ K := by
  induction K with
  | nil => exact EV.nnS h
  | cons p r ih =>
    obtain ⟨b, u⟩ := p
    have h : (match c == b with | true => some u | false => r.lookup c) = some o := h
    cases q : (c == b) with
    | true =>
      rw [q] at h
      obtain rfl := Option.some.inj h
      rw [beq_iff_eq.mp q]
      exact List.mem_cons_self
    | false =>
      rw [q] at h
      exact List.mem_cons_of_mem _ (ih h)
noncomputable def strO : Option Value → Option Str
  | some (.str n _) => some n
  | _ => none
noncomputable def refO : Option Value → Option Addr
  | some (.ref P) => some P
  | _ => none
theorem strO_of {o : Option Value} {n : Str} (h : strO o = some n) : ∃ t, o = some (.str n t) := by
  cases o with
  | none => cases h
  | some v =>
    cases v with
    | str m t => exact ⟨t, by rw [show m = n from Option.some.inj h]⟩
    | _ => cases h
theorem refO_of {o : Option Value} {P : Addr} (h : refO o = some P) : o = some (.ref P) := by
  cases o with
  | none => cases h
  | some v =>
    cases v with
    | ref m => rw [show m = P from Option.some.inj h]
    | _ => cases h
noncomputable def codeF (vs : Array Value) : Option (Str × Addr) := (strO (vs[1]? : Option Value)).bind fun n => (refO (vs[11]? : Option Value)).map fun P => (n, P)
noncomputable def codeOf (o : Obj) : Option (Str × Addr) := match o.data with
  | .fields vs => codeF vs
  | _ => none
theorem codeOf_eq {o : Obj} {vs : Array Value} {n : Str} {t : Tok} {P : Addr} (h1 : o.data = .fields vs) (h2 : vs[1]? = some (.str n t)) (h3 : vs[11]? = some (.ref P)) : codeOf o = some (n, P) := by
  obtain ⟨a, b, d, e⟩ := o
  have h1 : d = .fields vs := h1
  subst h1
  show codeF vs = _
  unfold codeF
  rw [h2, h3]
  rfl
set_option tactic.hygienic true in
theorem codeOf_inv {o : Obj} {n : Str} {P : Addr} (h : codeOf o = some (n, P)) : ∃ vs t, o.data = .fields vs ∧ vs[1]? = some (.str n t) ∧ vs[11]? = some (.ref P) := by
  obtain ⟨a, b, d, e⟩ := o
  cases d with
  | fields vs =>
    have h : codeF vs = some (n, P) := h
    unfold codeF at h
    cases e1 : strO (vs[1]? : Option Value) with
    | none => rw [e1] at h; cases h
    | some m =>
      cases e2 : refO (vs[11]? : Option Value) with
      | none => rw [e1, e2] at h; cases h
      | some p =>
        rw [e1, e2] at h
        have h : (m, p) = (n, P) := Option.some.inj h
        cases h
        obtain ⟨t, e3⟩ := strO_of e1
        exact ⟨vs, t, rfl, e3, refO_of e2⟩
  | _ => cases h
/-- no other code object of another name has this table -/
noncomputable def uniqB (K : Frag) (x : Str) (P : Addr) : Bool := K.all fun p => match codeOf p.2 with
  | some (n, P') => !(P' == P) || n == x
  | none => true
/-- the tables of these names are among cs -/
noncomputable def needB (K : Frag) (cs : List (Addr × Addr)) : Bool := K.all fun p => match codeOf p.2 with
  | some (n, P') => !(lamNames.contains n) || cs.any fun q => q.2 == P'
  | none => true
theorem need_of {K : Frag} {cs : List (Addr × Addr)} (h : needB K cs = true) (P : Addr) (n : NeedT K P) : ∃ p ∈ cs, p.2 = P := by
  (refine EV.el4_1 n ?_; try clear n; intro c o vs x q206_; refine EV.el1_5 q206_ ?_; try clear q206_; intro t h1 h2 h3 h4 h5)
  have z := List.all_eq_true.mp h _ (mem_of_look h1)
  dsimp only at z
  rw [codeOf_eq h2 h3 h4] at z
  have z : (!(lamNames.contains x) || cs.any fun q => q.2 == P) = true := z
  rw [List.contains_iff_mem.mpr h5] at z
  refine EV.el1_2 (List.any_eq_true.mp (by simpa using z : (cs.any fun q => q.2 == P) = true)) fun p hp e => ?_
  exact EV.in1_2 p hp (beq_iff_eq.mp e)
noncomputable def lookB (K : Frag) (c : Addr) (x : Str) (P : Addr) : Bool := match K.lookup c with
  | some o => codeOf o == some (x, P)
  | none => false
theorem tau_of {K : Frag} {c P : Addr} {x : Str} (h : lookB K c x P = true) (u : uniqB K x P = true) : tauK K P = (x ++ ".<locals>.") ++ "<lambda>" := by
  unfold lookB at h
  cases e : K.lookup c with
  | none => rw [e] at h; exact EV.nnB h
  | some o =>
    rw [e] at h
    refine EV.el2_3 (codeOf_inv (beq_iff_eq.mp (show (codeOf o == some (x, P)) = true from h))) fun vs t h1 h2 h3 => ?_
    refine tauK_of ⟨c, o, vs, x, t, e, h1, h2, h3, rfl⟩ fun q' h25_ => ?_; (refine EV.el4_1 h25_ ?_; try clear h25_; intro c' o' vs' n' q207_; refine EV.el1_5 q207_ ?_; try clear q207_; intro t' e' d1 d2 d3 d4)
    have z := List.all_eq_true.mp u _ (mem_of_look e')
    dsimp only at z
    rw [codeOf_eq d1 d2 d3] at z
    have z : (!(P == P) || n' == x) = true := z
    rw [beq_self_eq_true] at z
    rw [d4, beq_iff_eq.mp (show (n' == x) = true from z)]
theorem needT_of {K : Frag} {c P : Addr} {x : Str} (h : lookB K c x P = true) (m : lamNames.contains x = true) : NeedT K P := by
  unfold lookB at h
  cases e : K.lookup c with
  | none => rw [e] at h; exact EV.nnB h
  | some o =>
    rw [e] at h
    refine EV.el2_3 (codeOf_inv (beq_iff_eq.mp (show (codeOf o == some (x, P)) = true from h))) fun vs t h1 h2 h3 => ?_
    exact ⟨c, o, vs, x, t, e, h1, h2, h3, List.contains_iff_mem.mp m⟩
theorem funL {K : Frag} {h base : Heap} {mg : Str → Option Value} {x : Str} {st : Stmt} {f c T : Addr} {oc : Value} {od an : Option Addr} {osl : Array (Option Value)} {kV doc pm ct : Value} (X : K.In h) (G : h.Ns mainGlobals mg) (TB : TabB base mg c T) (a : nsIn K mainGlobals x = some (some (.ref f)))
    (l : K.lookup f = some ⟨oc, od, .func (fnOf x x (defArgs st) (defBody st) (defScope st) .none kV doc pm an (.ref c) ct), osl⟩) (cd : codeIn K (.ref c) x = true) (k : keepIn K (.ref f) = true) (lb : lookB K c x T = true) (u : uniqB K x T = true) (m : lamNames.contains x = true) : FunL K mg base x st :=
  ⟨f, _, c, T, fun_mk l cd k, mg_of X G a, rfl, TB, needT_of lb m, tau_of lb u⟩
/-- the class at D among the classes Ds, asked by isinstance -/
noncomputable def errB (K : Frag) (Ds : List Addr) (CA D : Addr) (j : Nat) : Bool :=
  exmOne K (.ref D) (.ref CA) == some true && kitOne K (.ref D) (.type "ValueError") == some true && (List.range 10).all fun i => match Ds[i]? with
    | some C => kitOne K (.ref D) (.ref C) == some (i == j)
    | none => false
noncomputable def excB (K : Frag) (D : Addr) : Bool := findIn K (.ref D) "__getattribute__" == some (some (.builtin "BaseException.__getattribute__")) && findIn K (.ref D) "__getattr__" == some none && subIn K (.ref D) (.type "BaseException") == some true && hasDictIn K D &&
  findIn K (.ref D) "__class__" == some (some (.builtin "object.__class__")) && specialIn K (.builtin "object.__class__") "__get__" == some (some (.builtin "getset_descriptor.__get__")) && takesIn K (.builtin "object.__class__") == some true && mroIn K D (.type "object") == some true
theorem excC_of {K : Frag} {D : Addr} (h : excB K D = true) : ExcC K D := by
  unfold excB at h
  simp only [Bool.and_eq_true, beq_iff_eq] at h
  (refine EV.el0_2 h ?_; try clear h; intro q208_ h8; (refine EV.el0_2 q208_ ?_; try clear q208_; intro q209_ h7; (refine EV.el0_2 q209_ ?_; try clear q209_; intro q210_ h6; (refine EV.el0_2 q210_ ?_; try clear q210_; intro q211_ h5; (refine EV.el0_2 q211_ ?_; try clear q211_; intro q212_ h4; (refine EV.el0_2 q212_ ?_; try clear q212_; intro q213_ h3; (refine EV.el0_2 q213_ ?_; try clear q213_; intro h1 h2)))))))
  exact ⟨h1, h2, h3, h4, h5, h6, h7, h8⟩
/-- all ten at once -/
theorem errs_of {K : Frag} {h : Heap} {mg : Str → Option Value} {CA : Addr} {Ds : List Addr} (X : K.In h) (G : h.Ns mainGlobals mg) (hl : Ds.length = 10) (hn : ((List.range 10).all fun i => match errsL[i]?, Ds[i]? with
    | some y, some C => nsIn K mainGlobals y == some (some (.ref C))
    | _, _ => false) = true) (hx : (Ds.all fun D => excB K D) = true) (hB : ((List.range 10).all fun j => match Ds[j]? with
    | some D => errB K Ds CA D j
    | none => false) = true) : ∀ j y, errsL[j]? = some y → ∃ D, mg y = some (.ref D) ∧ ErrJ K mg CA D j := by
  have nm : ∀ i y, errsL[i]? = some y → ∃ C, Ds[i]? = some C ∧ mg y = some (.ref C) := fun i y e => by
    have hi : i < 10 := (List.getElem?_eq_some_iff.mp e).1
    have z := List.all_eq_true.mp hn i (List.mem_range.mpr hi)
    rw [e] at z
    cases q : Ds[i]? with
    | none => rw [q] at z; exact EV.nnB z
    | some C =>
      rw [q] at z
      exact EV.in1_2 C q (mg_of X G (beq_iff_eq.mp (show (nsIn K mainGlobals y == some (some (.ref C))) = true from z)))
  intro j y e
  have hj : j < 10 := (List.getElem?_eq_some_iff.mp e).1
  refine EV.el1_2 (nm j y e) fun D d1 d2 => ?_
  have z := List.all_eq_true.mp hB j (List.mem_range.mpr hj)
  rw [d1] at z
  have z : errB K Ds CA D j = true := z
  unfold errB at z
  simp only [Bool.and_eq_true, beq_iff_eq] at z
  (refine EV.el0_2 z ?_; try clear z; intro q214_ z3; (refine EV.el0_2 q214_ ?_; try clear q214_; intro z1 z2))
  refine ⟨D, d2, excC_of (List.all_eq_true.mp hx D (List.mem_of_getElem? d1)), z1, z2, fun i x' ei => ?_⟩
  have hi : i < 10 := (List.getElem?_eq_some_iff.mp ei).1
  refine EV.el1_2 (nm i x' ei) fun C c1 c2 => ?_
  have y := List.all_eq_true.mp z3 i (List.mem_range.mpr hi)
  rw [c1] at y
  exact EV.in1_2 C c2 (beq_iff_eq.mp (show (kitOne K (.ref D) (.ref C) == some (i == j)) = true from y))
/-- raise X(..): X's facts -/
theorem errC_of {K : Frag} {h : Heap} {mg : Str → Option Value} {x : Str} {C : Addr} (X : K.In h) (G : h.Ns mainGlobals mg) (a : nsIn K mainGlobals x = some (some (.ref C)))
    (b : (excIn K C [.type "ValueError", .type "Exception", .type "BaseException", .type "object"] "ValueError.__new__" && keepIn K (.ref C) && subIn K (.ref C) (.type "BaseException") == some true && typeIn K (.ref C) == some (.type "type")) = true) : ErrC K mg x := by
  simp only [Bool.and_eq_true, beq_iff_eq] at b
  (refine EV.el0_2 b ?_; try clear b; intro q215_ b4; (refine EV.el0_2 q215_ ?_; try clear q215_; intro q216_ b3; (refine EV.el0_2 q216_ ?_; try clear q216_; intro b1 b2)))
  exact ⟨C, mg_of X G a, b1, b2, b3, b4⟩
noncomputable def clsBody : Stmt → List Stmt
  | .ClassDef _ _ _ b _ _ _ _ _ _ _ => b
  | _ => []
theorem ev_saidC {X : Cx} {W : WX} {pa : Option Addr} {Γ : List Sl} {k : Nat} {pos : Pos} {x w8 : Str} {m : PM D} {params : Arguments} {body : Expr} {scope : Scope} {p lpos : Pos} (C : Cok X W k) (S : SaidC X.prog X.w X.K X.mg X.base 31 x w8) (LA : LamAt X)
    (hb : ∀ (A : Around) (outer : List Env) (s : Shared) (H : Hp) (E : XK) (f c' : Addr), Cok (lamCx X A outer s H E scope f c') (fun cls d _ H' => E cls d H') 31 → EV (lamCx X A outer s H E scope f c') (fun cls d _ H' => E cls d H') none (Γ.map valS) body m)
    (hk : autoParam (33 ≤ k) EV.tac1) (L : autoParam (LamS X.env.scope scope) EV.tac9) (hg : autoParam (Gl X x) EV.tac2) (hdef : autoParam (defaultsOf params X.env = ([], [])) EV.tac2)
    (hbind : autoParam (∀ (q : Str) (cl : List (Str × Addr)) (pm cv ctv : Value), bindArgs (PySem.W.kla_fn "<lambda>" q params body scope cl pm cv ctv) ⟨[], []⟩ = pure []) EV.tac10) (hdb : autoParam ((x == ("__debug__" : Str)) = false) EV.tac1) :
    EV X W pa Γ (.Call (.Name x p) [.Lambda params body scope lpos] [] pos) (saidM w8 m) := ev_said (k := 0) (C.mono hk) S LA L hg hdef hbind hb hdb
end EV
set_option maxHeartbeats 2000000
namespace EV
open PySem PySem.Spec PyProof.Rows L2 PySem.W
/-- a method's promise -/
structure CalM (P : Program) (w : World) (K : Frag) (mg : Str → Option Value) (base : Heap) (k : Nat) (Cl : Addr) (m : Str) (ps : List Str) (sp : Sp) : Prop where
  ex : ∃ f fd, FnG P w K mg base k f fd ps sp ∧ Meth K Cl m f ∧ fnIn K f = true ∧ L2.Binds K fd ps []
section
variable {X : Cx} {W : WX} {pa : Option Addr} {Γ : List Sl} {k j n : Nat} {pos : Pos} {pins : List (Addr × Obj)} {σ : L2.St} {H : Hp} {s : Shared}
theorem fr_of (I : Inv X pins σ H s) : ∃ m, Fr X.base X.env.locals s.heap m := by
  refine EV.el1_2 (I.loc) fun m h _ => ?_
  exact ⟨m, h, I.bk, Nat.le_trans I.ok.bsz I.ok.above⟩
theorem inst_of {a C dx : Addr} {fs : List (Str × V)} (I : Inv X pins σ H s) (h : H a = some (.ins C dx fs)) : ∃ ox od, InstAt s.heap a ox C od ∧ ox.data = .plain := StX.insC_at I (.inr ⟨dx, fs, h⟩)
section
variable {Cl : Addr} {F : List D → PM D} {g : D → PM D} {Q Q' : VK}
variable {ps : List Str} {Mn : Str}
/-- d is an instance that stands, without a field of that name -/
noncomputable def objD (Cl : Addr) (nm : Str) : D → PM Unit
  | .obj C fs => if C = Cl ∧ nm ∉ fs.map (·.1) then pure () else bad
  | _ => bad
theorem look_no {nm : Str} : ∀ {l : List (Str × V)}, nm ∉ l.map (·.1) → l.lookup nm = none
  | [], _ => rfl
  | (k, v) :: l, h => by
    have h1 : (nm == k) = false := beq_eq_false_iff_ne.mpr fun z => h (by rw [z]; exact List.mem_cons_self)
    show (match nm == k with | true => some v | false => l.lookup nm) = none
    rw [h1]
    exact look_no fun z => h (List.mem_cons_of_mem _ z)
theorem objD_at {β : Type} {K : Frag} {mg : Str → Option Value} {FF : Hp → Hp → β → List Int → Prop} {nm : Str} {h : PM β} {G1 H1 : Hp} {s1 : List Int} {v : V} {d : D} (hs : Same G1 H1) (r : Rp K G1 v d) (P : Pst K W mg pa σ FF G1 H1 ((objD Cl nm d >>= fun _ => h) s1)) :
    (∃ a dx fvs, v = .ref a ∧ H1 a = some (.ins Cl dx fvs) ∧ ObjC K Cl ∧ fvs.lookup nm = none) ∧ Pst K W mg pa σ FF G1 H1 (h s1) := by
  cases r with
  | @obj a C dx fvs fs g hc hk rr =>
    have P2 : Pst K W mg pa σ FF G1 H1 (((if C = Cl ∧ nm ∉ fs.map (·.1) then pure () else bad : PM Unit) >>= fun _ => h) s1) := P
    clear P
    by_cases z : C = Cl ∧ nm ∉ fs.map (·.1)
    · rw [if_pos z] at P2
      (refine EV.el0_2 z ?_; try clear z; intro z1 z2)
      subst z1
      exact ⟨⟨a, dx, fvs, rfl, hs _ _ g, hc, look_no (by rw [hk]; exact z2)⟩, P2⟩
    · rw [if_neg z] at P2
      exact P2.elim
  | _ => exact P.elim
end
end
end EV
set_option maxHeartbeats 2000000
namespace EV
open PySem PySem.Spec PyProof.Rows L2
end EV
set_option maxHeartbeats 2000000
namespace EV
open PySem PySem.Spec PyProof.Rows L2
end EV
set_option maxHeartbeats 2000000
namespace EV
open PySem PySem.Spec PyProof.Rows L2 LamX
end EV
set_option maxHeartbeats 2000000
namespace EV
open PySem PySem.Spec PyProof.Rows L2 PySem.W
section
variable {P : Program} {w : World} {K : Frag} {mg : Str → Option Value} {base : Heap}
structure MethF (K : Frag) (Cl : Addr) (m q : Str) (st : Stmt) : Prop where
  ex : ∃ f fd, Meth K Cl m f ∧ Fun K m q st f fd ∧ fnIn K f = true
theorem methF {h : Heap} {Cl f : Addr} {m q : Str} {st : Stmt} {oc : Value} {od an : Option Addr} {osl : Array (Option Value)} {kV doc pm cdv ct : Value} (_ : K.In h) (m2 : findIn K (.ref Cl) m = some (some (.ref f))) (m3 : isFn K (.ref f) = true)
    (l : K.lookup f = some ⟨oc, od, .func (fnOf m q (defArgs st) (defBody st) (defScope st) .none kV doc pm an cdv ct), osl⟩) (c : codeIn K cdv q = true) (k : keepIn K (.ref f) = true) (fi : fnIn K f = true) : MethF K Cl m q st := ⟨f, _, ⟨m2, m3, k⟩, fun_mk l c k, fi⟩
variable {x q : Str} {st : Stmt} {N ps : List Str} {n k : Nat}
theorem fn_pureQ {f : Addr} {fd : FuncData} {F : List D → PM D} (FU : Fun K x q st f fd) (S : FnScope N ps (defScope st)) (hps : ps.length = n)
    (hb : ∀ (cdv : Value) (A : Around) (outer : List PySem.Env) (s : Shared) (H : Hp) (E : XK), Cok (cxOf (L2.CX P w) P w K mg base N q (defScope st) f cdv A outer s H E) (fun cls d _ H => E cls d H) k → ∀ ds : List D, ds.length = n →
      ∃ (α : Type) (out : α → Out) (m : PM α), SV (cxOf (L2.CX P w) P w K mg base N q (defScope st) f cdv A outer s H E) (fun cls d _ H => E cls d H) none (slots0 N ds) out (defBody st) m ∧ F ds = (m >>= fun a => outD (out a))) :
    FnG P w K mg base (k + 1) f fd ps (spF K mg false n F) := by
  refine fnG_of FU S (fun vs H Q E h => ?_) fun cdv ec A outer s H vs Q E hg hr h => ?_
  · (refine EV.el5_3 h ?_; try clear h; intro pa G s vs' ds hpa q217_ q218_; obtain rfl := q217_; (refine EV.el0_5 q218_ ?_; try clear q218_; intro _ _ r hn _))
    cases pa with
    | some _ => exact EV.nnB (Eq.symm hpa)
    | none =>
      show vs'.length = _
      rw [r.1, hn, hps]
  · (refine EV.el5_3 h ?_; try clear h; intro pa G s' vs' ds hpa q219_ q220_; obtain rfl := q219_; (refine EV.el0_5 q220_ ?_; try clear q220_; intro hs hp r hn hP))
    cases pa with
    | some _ => exact EV.nnB (Eq.symm hpa)
    | none =>
      obtain ⟨α, out, m, sv, e⟩ := hb cdv A outer s H E (cok_fn S.nd hg hr) ds hn
      rw [e] at hP
      have hlen : vs'.length ≤ N.length := by
        rw [r.1, hn, ← hps]
        exact scope_le S
      exact ⟨_, sv, G, H, G, s', nv_start0 hs r hlen, spost_fn hP⟩
theorem mk_meth {Cl : Addr} {F : List D → PM D} (FA : MethF K Cl x q st) (S : FnScope N ps (defScope st)) (hps : ps.length = n)
    (hbd : ∀ (kV doc pm : Value) (an : Option Addr) (cdv ct : Value) (us : List Value), us.length = ps.length → bindArgs (PySem.W.fnOf x q (defArgs st) (defBody st) (defScope st) .none kV doc pm an cdv ct) ⟨us, []⟩ = pure (ps.zip us))
    (hb : ∀ (f : Addr) (cdv : Value) (A : Around) (outer : List PySem.Env) (s : Shared) (H : Hp) (E : XK), Cok (cxOf (L2.CX P w) P w K mg base N q (defScope st) f cdv A outer s H E) (fun cls d _ H => E cls d H) k → ∀ ds : List D, ds.length = n →
      ∃ (α : Type) (out : α → Out) (m : PM α), SV (cxOf (L2.CX P w) P w K mg base N q (defScope st) f cdv A outer s H E) (fun cls d _ H => E cls d H) none (slots0 N ds) out (defBody st) m ∧ F ds = (m >>= fun a => outD (out a))) :
    CalM P w K mg base (k + 1) Cl x ps (spF K mg false n F) := by
  refine EV.el2_3 (FA.ex) fun f fd Me FU fi => ?_
  exact ⟨f, fd, fn_pureQ FU S hps (hb f), Me, fi, FU.binds hbd⟩
end
end EV
set_option maxHeartbeats 2000000
namespace EV
open PySem PySem.Spec PyProof.Rows L2 PySem.W
end EV
set_option maxHeartbeats 2000000
namespace EV
open PySem PySem.Spec PyProof.Rows L2
noncomputable def numS (i : Int) : Str := Str.ofString (toString i)
/-- {x} -/
noncomputable def fmtD : D → PM D
  | .str y => if y.length ≤ lim then pure (.str y) else bad
  | .int i => if i.natAbs.log2 < 1920 then pure (.str (numS i)) else bad
  | _ => bad
/-- the parts of f'..' -/
noncomputable def fsD : List (PM D) → Str → PM D
  | [], acc => pure (.str acc)
  | m :: ms, acc => m >>= fun d => match d with
    | .str y => if (acc ++ y).length ≤ lim then fsD ms (acc ++ y) else bad
    | _ => bad
section
variable {X : Cx} {W : WX} {pa : Option Addr} {Γ : List Sl} {k j : Nat} {pos : Pos}
theorem ev_fmt {e : Expr} {m : PM D} (he : EV X W pa Γ e m) : EV X W pa Γ (.FormattedValue e (-1) none pos) (m >>= fmtD) :=
  pe_imp (pe_fmt he) fun σ H Q h_ => EV.ex4 h_ fun G0 H0 G s E P => ⟨G0, H0, G, s, E, P.bind.imp fun G1 H1 d s1 x1 p1 P1 v rv => by
    cases rv with
    | str y =>
      have P1 : Pst X.K W X.mg pa σ (FD X.K Q) G1 H1 ((if y.length ≤ lim then pure (.str y) else bad : PM D) s1) := P1
      split at P1
      · rename_i z
        exact .inl ⟨y, rfl, lim_le z, P1.now x1.sub p1 _ (.str _)⟩
      · exact P1.elim
    | int i =>
      have P1 : Pst X.K W X.mg pa σ (FD X.K Q) G1 H1 ((if i.natAbs.log2 < 1920 then pure (.str (numS i)) else bad : PM D) s1) := P1
      split at P1
      · rename_i z
        exact .inr ⟨i, rfl, z, P1.now x1.sub p1 _ (.str _)⟩
      · exact P1.elim
    | _ => exact P1.elim⟩
inductive EVs (X : Cx) (W : WX) (pa : Option Addr) (Γ : List Sl) : List Expr → List (PM D) → Prop
  | nil : EVs X W pa Γ [] []
  | cons {e : Expr} {m : PM D} {es : List Expr} {ms : List (PM D)} (h : EV X W pa Γ e m) (r : EVs X W pa Γ es ms) : EVs X W pa Γ (e :: es) (m :: ms)
theorem EVs.pj {es : List Expr} {ms : List (PM D)} (h : EVs X W pa Γ es ms) : PJ X es (ms.map (evT X W pa Γ)) := by
  induction h with
  | nil => exact .nil
  | cons h _ ih => exact .cons h ih
theorem fs_go {σ : L2.St} {Q : VK} {ms : List (PM D)} : ∀ {acc : Str} {G0 H0 G H : Hp} {s : List Int}, Nv X.K pa G0 H0 G H σ Γ s → Pst X.K W X.mg pa σ (FD X.K Q) G H (fsD ms acc s) → tJs (ms.map (evT X W pa Γ)) acc σ H fun out H1 => Q (.str out) H1 := by
  induction ms with
  | nil =>
    intro acc G0 H0 G H s E P
    exact P.now E.sub E.ps _ (.str acc)
  | cons m ms ih =>
    intro acc G0 H0 G H s E P
    refine ⟨G0, H0, G, s, E, Pst.imp (Pst.bind P) fun G1 H1 d s1 x1 p1 P1 v rv => ?_⟩
    cases rv with
    | str y =>
      have P1 : Pst X.K W X.mg pa σ (FD X.K Q) G1 H1 ((if (acc ++ y).length ≤ lim then fsD ms (acc ++ y) else bad : PM D) s1) := P1
      by_cases z : (acc ++ y).length ≤ lim
      · rw [if_pos z] at P1
        exact ⟨y, rfl, lim_le z, ih (E.step x1 p1) P1⟩
      · rw [if_neg z] at P1
        exact P1.elim
    | _ => exact P1.elim
theorem ev_fstr {v1 v2 : Expr} {rest : List Expr} {ms : List (PM D)} (h : EVs X W pa Γ (v1 :: v2 :: rest) ms) : EV X W pa Γ (.JoinedStr (v1 :: v2 :: rest) pos) (fsD ms Str.empty) :=
  pe_imp (pe_joined h.pj) fun σ H Q h_ => EV.ex4 h_ fun G0 H0 G s E P => fs_go E P
end
end EV
set_option maxHeartbeats 2000000
namespace EV
open PySem PySem.Spec PyProof.Rows L2 PySem.W
end EV
set_option maxHeartbeats 2000000
namespace EV
open PySem PySem.Spec PyProof.Rows L2 PySem.W
end EV
set_option maxHeartbeats 2000000
namespace EV
open PySem PySem.Spec PyProof.Rows L2 PySem.W
end EV
set_option maxHeartbeats 2000000
namespace EV
open PySem PySem.Spec PyProof.Rows L2 PySem.W
end EV
set_option maxHeartbeats 2000000
namespace EV
open PySem PySem.Spec PyProof.Rows L2 PySem.W
end EV
set_option maxHeartbeats 2000000
namespace EV
open PySem PySem.Spec PyProof.Rows L2 PySem.W
end EV
set_option maxHeartbeats 2000000
namespace EV
open PySem PySem.Spec PyProof.Rows L2 LamX
end EV
set_option maxHeartbeats 2000000
namespace EV
open PySem PySem.Spec PyProof.Rows L2 PySem.W
end EV
set_option maxHeartbeats 2000000
namespace EV
open PySem PySem.Spec PyProof.Rows L2
end EV
set_option maxHeartbeats 2000000
namespace EV
open PySem PySem.Spec PyProof.Rows L2
/-- raise x(a, b) -/
noncomputable def raiseF {α : Type} (x f1 f2 : Str) (okD : D → D → Bool) : List D → PM α
  | [a, b] => if okD a b = true then raiseP ⟨x, [(f2, b), (f1, a)]⟩ else bad
  | _ => bad
section
variable {X : Cx} {W : WX} {pa : Option Addr} {Γ : List Sl} {k : Nat} {pos : Pos} {α : Type} {out : α → Out} {rest : List Stmt}
theorem nf_raiseF {x f1 f2 : Str} {okD : D → D → Bool} {ds : List D} : NF out (raiseF x f1 f2 okD ds : PM α) := by
  unfold raiseF
  split
  · split
    · exact nf_raise
    · exact nf_bad
  · exact nf_bad
end
end EV
set_option maxHeartbeats 2000000
namespace EV
open PySem PySem.W PySem.Spec PyProof.Rows L2
end EV
set_option maxHeartbeats 2000000
namespace EV
open PySem PySem.Spec PyProof.Rows L2 PySem.W
end EV
set_option maxHeartbeats 2000000
namespace EV
open PySem PySem.Spec PyProof.Rows L2 PySem.W
section
variable {X : Cx} {W : WX} {pa : Option Addr} {Γ : List Sl} {k j n : Nat} {pos : Pos}
/-- o.F, a text of the class -/
structure ConC (K : Frag) (Cl : Addr) (f z : Str) : Prop where
  ex : ∃ u, Con K Cl f (.str z) u
theorem con_mk {K : Frag} {h : Heap} {Cl : Addr} {f z : Str} {tk : Tok} (_ : K.In h) (a : findIn K (.ref Cl) f = some (some (.str z tk))) (g : specialIn K (.str z tk) "__get__" = some none) (c : copiedNames.contains f = false) : ConC K Cl f z := ⟨_, a, ⟨tk, rfl⟩, g, c⟩
theorem ev_conO {e : Expr} {f z : Str} {Cl : Addr} {m : PM D} (hc : ConC X.K Cl f z) (he : EV X W pa Γ e m) (ha : autoParam (attributeBase e f X.env (eval e X.env) = eval e X.env) EV.tac2) :
    EV X W pa Γ (.Attribute e f pos) (m >>= fun d => objD Cl f d >>= fun _ => pure (.str z)) := by
  refine EV.el1_1 (hc.ex) fun u hc => ?_
  exact pe_imp (pe_con he ha) fun σ H Q h_ => EV.ex4 h_ fun G0 H0 G s E P => ⟨G0, H0, G, s, E, P.bind.imp fun G1 H1 d s1 x1 p1 P1 v r => by
    (refine EV.el0_2 (objD_at x1.sub r P1) fun q221_ P2 => ?_; (refine EV.el3_4 q221_ ?_; try clear q221_; intro a dx fvs ev h1 oc l))
    exact ⟨a, Cl, dx, fvs, _, _, ev, h1, oc.cl, hc, l, P2 G1 H1 (Ext.refl x1.sub) p1 _ (.str z)⟩⟩
/-- the promise of a call with keywords -/
noncomputable def FnRK (P : Program) (w : World) (K : Frag) (mg : Str → Option Value) (base : Heap) (CX : CXT) (j : Nat) (f : Addr) (n : Nat) (ks : List Str) (sp : Sp) : Prop :=
  ∀ (A : Around) (outer : List PySem.Env) (s : Shared) (H : Hp) (us ws : List Value) (vs zs : List V) (Q : VK) (E : XK), Room j A → Env0 P w K mg base A outer s H → Vals vs us → Vals zs ws → vs.length = n → zs.length = ks.length → sp (vs ++ zs) H Q E →
    codeAny (model P w) A (.call (.ref f) ⟨us, ks.zip ws⟩) (CR CX outer P w H s Q E) s
theorem fnOk_rawK {P : Program} {w : World} {K : Frag} {mg : Str → Option Value} {base : Heap} {CX : CXT} {f : Addr} {fd : FuncData} {ps ks : List Str} {sp : Sp} (F : FnOk P w K mg base CX j f fd ps sp) (hb : KBn K fd ps n ks (fun us ws => us ++ ws) (fun vs zs => vs ++ zs)) : FnRK P w K mg base CX j f n ks sp := by
  intro A outer s H us ws vs zs Q E hr e0 r rz l1 l2 hs
  exact F.run A outer s H ⟨us, ks.zip ws⟩ (us ++ ws) (vs ++ zs) Q E hr e0 (hb.to s us ws (e0.mod.kin.keeps fun b o e => (e0.bs b o e).1) (r.length.symm.trans l1) (rz.length.symm.trans l2)) (hb.rel r rz) hs
/-- such a class -/
structure MkD2 (P : Program) (w : World) (K : Frag) (mg : Str → Option Value) (base : Heap) (j : Nat) (x : Str) (Cl : Addr) (ks : List Str) (F : List D → PM (List D)) (b : Str) : Prop where
  ex : ∃ f, mg x = some (.ref Cl) ∧ ObjC K Cl ∧ Mk K Cl f ∧ FnR P w K mg base (L2.CX P w) j f (fun vs H Q E => spI K mg Cl ks 2 F (vs ++ [.non]) H Q E) ∧ FnR P w K mg base (L2.CX P w) j f (fun vs H Q E => spI K mg Cl ks 2 F (vs ++ []) H Q E) ∧
    FnRK P w K mg base (L2.CX P w) j f 2 [b] (spI K mg Cl ks 2 F)
theorem MkD2.one {P : Program} {w : World} {K : Frag} {mg : Str → Option Value} {base : Heap} {x b : Str} {Cl : Addr} {ks : List Str} {F : List D → PM (List D)} (M : MkD2 P w K mg base j x Cl ks F b) : MkC P w K mg base j x Cl (fun vs H Q E => spI K mg Cl ks 2 F (vs ++ [.non]) H Q E) := by
  refine EV.el1_5 (M.ex) fun f m1 m2 m3 m4 _ => ?_
  exact ⟨f, m1, m2, m3, m4⟩
theorem mkD2 {P : Program} {w : World} {K : Frag} {mg : Str → Option Value} {base : Heap} {x q s a b : Str} {Cl : Addr} {st : Stmt} {N ks : List Str} {F : List D → PM (List D)} (CA : ClsAt K mg x Cl q st [.non]) (S : FnScope N [s, a, b] (defScope st)) (hk : k < 32)
    (hb : ∀ (T : Addr) (kV doc pm : Value) (an : Option Addr) (cdv ct : Value) (us its : List Value), us.length = 2 → its.length = [V.non].length →
      ∃ k, bindArgs (fnOf "__init__" q (defArgs st) (defBody st) (defScope st) (.ref T) kV doc pm an cdv ct) ⟨us, []⟩ = seqItems? (.ref T) >>= k ∧ k (some its.toArray) = pure ([s, a, b].zip (us ++ its.drop 0)))
    (hb3 : ∀ (T : Addr) (kV doc pm : Value) (an : Option Addr) (cdv ct : Value) (us its : List Value), us.length = 3 → its.length = [V.non].length →
      ∃ k, bindArgs (fnOf "__init__" q (defArgs st) (defBody st) (defScope st) (.ref T) kV doc pm an cdv ct) ⟨us, []⟩ = seqItems? (.ref T) >>= k ∧ k (some its.toArray) = pure ([s, a, b].zip (us ++ its.drop 1)))
    (hbk : ∀ (T : Addr) (kV doc pm : Value) (an : Option Addr) (cdv ct : Value) (us its ws : List Value), us.length = 2 → its.length = [V.non].length → ws.length = [b].length →
      ∃ k, bindArgs (fnOf "__init__" q (defArgs st) (defBody st) (defScope st) (.ref T) kV doc pm an cdv ct) ⟨us, [b].zip ws⟩ = seqItems? (.ref T) >>= k ∧ k (some its.toArray) = pure ([s, a, b].zip (us ++ ws)))
    (B : ∀ f, InitB P w K mg base Cl f N k 2 q (defBody st) (defScope st) ks F) : MkD2 P w K mg base (k + 1) x Cl ks F b := by
  refine EV.el2_2 (CA.ex) fun f fd M FD => ?_
  refine EV.el1_2 (FD.binds1 (ps := [s, a, b]) 2 0 (by simp) rfl hb) fun ds r bd => ?_
  refine EV.el1_2 (FD.binds1 (ps := [s, a, b]) 3 1 (by simp) rfl hb3) fun ds3 r3 bd3 => ?_
  refine EV.el1_1 (FD.kbindsD (ps := [s, a, b]) 2 [b] (fun us _ ws => us ++ ws) (by simp) (fun r1 _ r2 => r1.append r2) hbk) fun its kb => ?_
  have hN : 2 + 1 ≤ N.length := scope_le S
  have ok : FnOk P w K mg base (L2.CX P w) (k + 1) f fd [s, a, b] (spI K mg Cl ks 2 F) := FD.ok S (fun vs H Q E h => by
    (refine EV.el6_2 h ?_; try clear h; intro y dx G H1 vs' ds' q222_ q223_; obtain rfl := q222_; (refine EV.el0_5 q223_ ?_; try clear q223_; intro _ _ _ _ q224_; refine EV.el0_5 q224_ ?_; try clear q224_; intro _ _ r' hn _))
    show vs'.length + 1 = 3
    rw [r'.1, hn]) fun cdv A outer s H vs Q E hr h => (B f).run S.nd hk hN cdv A outer s H vs Q E hr h
  exact ⟨f, CA.mgx, CA.oc, M, ok.raw bd r, ok.raw bd3 r3, fnOk_rawK ok kb⟩
end
end EV
set_option maxHeartbeats 2000000
namespace EV
open PySem PySem.Spec PyProof.Rows L2 PySem.W
noncomputable def ers (p : Addr) (G : Hp) : Hp := fun a => if a = p then none else G a
theorem ers_ne {p a : Addr} {G : Hp} (h : a ≠ p) : ers p G a = G a := if_neg h
end EV
set_option maxHeartbeats 2000000
namespace EV
open PySem PySem.Spec PyProof.Rows L2 PySem.W
section
variable {K : PySem.W.Frag} {pa : Option Addr} {G0 H0 G H G' H' : Hp} {σ : L2.St} {Γ : List Sl} {s s' : List Int} {x Cl dx : Addr} {fvs : List (Str × V)}
theorem ers_self : ers x H x = none := if_pos rfl
theorem ers_some {a : Addr} {o : HO} (e : ers x H a = some o) : a ≠ x ∧ H a = some o := by
  by_cases z : a = x
  · rw [z, ers_self] at e
    exact EV.nnS e
  · rw [ers_ne z] at e
    exact ⟨z, e⟩
end
/-- the end of such a method: the new fields, all else as it was; or an exception, and nothing has changed -/
noncomputable def OEnd (K : PySem.W.Frag) (W : WX) (mg : Str → Option Value) (x Cl dx : Addr) (ks : List Str) (us0 : List V) (G0 H0 : Hp) (Qn : L2.St → Hp → Prop) : R (List D) → Prop
  | .ok fs _ => ∀ σ' G' H' us, Ext K none G0 (ers x H0) G' H' → H' x = some (.ins Cl dx (ks.zip us)) → G' x = none → RpL K G' us fs → us.length = ks.length → Qn σ' H'
  | .exc e => ∀ cls d σ' G' H', Ext K none (upd G0 x (.ins Cl dx (ks.zip us0))) H0 G' H' → ExcIs K mg G' H' e cls d → W cls d σ' H'
  | .bad => False
theorem OEnd.bind {K : PySem.W.Frag} {W : WX} {mg : Str → Option Value} {x Cl dx : Addr} {ks : List Str} {us0 : List V} {G0 H0 G H : Hp} {Qn : L2.St → Hp → Prop} {σ : L2.St} {α : Type} {m : PM α} {f : α → PM (List D)} {s : List Int}
    (E : Ext K none (upd G0 x (.ins Cl dx (ks.zip us0))) H0 G H) (h : OEnd K W mg x Cl dx ks us0 G0 H0 Qn ((m >>= f) s)) : Pst K W mg none σ (fun _ _ a s' => OEnd K W mg x Cl dx ks us0 G0 H0 Qn (f a s')) G H (m s) := by
  rw [PM.bind_def] at h
  cases e : m s with
  | ok a s1 =>
    rw [e] at h
    exact fun _ _ _ _ => h
  | exc z =>
    rw [e] at h
    exact fun cls dx G' H' y q => h cls dx σ G' H' (E.trans y) q
  | bad => rw [e] at h; exact h
/-- while nothing has changed: x is a value that stands; the base of the frame holds it -/
structure MvS (X : Cx) (x Cl dx : Addr) (ks : List Str) (xs : List D) (Γ : List Sl) (us0 : List V) (G0 H0 G H : Hp) (σ : L2.St) (s : List Int) : Prop where
  g0 : G0 x = none
  h0 : H0 x = some (.ins Cl dx (ks.zip us0))
  l0 : us0.length = ks.length
  r0 : RpL X.K G0 us0 xs
  nv : Nv X.K none (upd G0 x (.ins Cl dx (ks.zip us0))) H0 G H σ Γ s
  me : σ[0]? = some (some (.ref x))
  ar : ∀ (i : Nat) d, i ≠ 0 → Γ[i]? = some (.val d) → ∃ v, σ[i]? = some (some v) ∧ Rp X.K G0 v d
  no : ∀ (i : Nat) z, i ≠ 0 → Γ[i]? = some z → (∃ d, z = .val d) ∨ z = .junk
  t0 : TabK X.K H0
  n0 : NoT G0
  sm : Same G0 H0
section
variable {X : Cx} {W : WX} {Γ : List Sl} {x Cl dx : Addr} {ks : List Str} {xs : List D} {pos : Pos} {rest : List Stmt}
theorem MvS.step {us0 : List V} {G0 H0 G H G' H' : Hp} {σ : L2.St} {s s' : List Int} (M : MvS X x Cl dx ks xs Γ us0 G0 H0 G H σ s) (e : Ext X.K none G H G' H') : MvS X x Cl dx ks xs Γ us0 G0 H0 G' H' σ s' :=
  ⟨M.g0, M.h0, M.l0, M.r0, M.nv.step e (fun _ z => by exact EV.nnS z), M.me, M.ar, M.no, M.t0, M.n0, M.sm⟩
end
end EV
set_option maxHeartbeats 2000000
namespace EV
open PySem PySem.Spec PyProof.Rows L2 PySem.W
section
variable {X : Cx} {W : WX} {Γ : List Sl} {x Cl dx : Addr} {ks : List Str} {xs : List D} {pos : Pos} {rest : List Stmt} {us0 : List V} {G0 H0 G H : Hp} {σ : L2.St} {s : List Int}
theorem MvS.ne (M : MvS X x Cl dx ks xs Γ us0 G0 H0 G H σ s) : NoT (ers x G) := fun P ps e => M.nv.x.nt P ps (ers_some e).2
end
/-- F: from the fields of the instance and the arguments to its new fields -/
noncomputable def spO (K : PySem.W.Frag) (mg : Str → Option Value) (Cl : Addr) (ks : List Str) (n : Nat) (F : List D → List D → PM (List D)) : Sp := fun vs H Q E => ∃ (x dx : Addr) (G : Hp) (us0 : List V) (xs : List D) (vs' : List V) (ds : List D),
  vs = .ref x :: vs' ∧ H x = some (.ins Cl dx (ks.zip us0)) ∧ us0.length = ks.length ∧ RpL K G us0 xs ∧ G x = none ∧ Same G H ∧ TabK K H ∧ NoT G ∧ RpL K G vs' ds ∧ ds.length = n ∧
    OEnd K (fun cls d _ H' => E cls d H') mg x Cl dx ks us0 G H (fun _ H' => Q .non H') (F xs ds [])
structure CalO (P : Program) (w : World) (K : Frag) (mg : Str → Option Value) (base : Heap) (j : Nat) (Cl : Addr) (m : Str) (ks : List Str) (n : Nat) (F : List D → List D → PM (List D)) : Prop where
  ex : ∃ f fd ps, Meth K Cl m f ∧ FnOk P w K mg base (L2.CX P w) j f fd ps (spO K mg Cl ks n F) ∧ L2.Binds K fd ps []
end EV
set_option maxHeartbeats 2000000
namespace EV
open PySem PySem.Spec PyProof.Rows L2 PySem.W
end EV
set_option maxHeartbeats 2000000
namespace EV
open PySem PySem.Spec PyProof.Rows L2 LamX PySem.W
end EV
set_option maxHeartbeats 2000000
namespace EV
open PySem PySem.Spec PyProof.Rows L2 LamX PySem.W
end EV
set_option maxHeartbeats 2000000
namespace EV
open PySem PySem.Spec PyProof.Rows L2 LamX PySem.W
section
variable {P : Program} {w : World} {K : Frag} {mg : Str → Option Value} {base : Heap} {Cl : Addr} {m q : Str} {st : Stmt} {N ps : List Str} {k n : Nat} {ks : List Str} {F : List D → List D → PM (List D)}
structure CalOC (P : Program) (w : World) (K : Frag) (mg : Str → Option Value) (base : Heap) (j : Nat) (Cl : Addr) (m : Str) (ks : List Str) (n : Nat) (F : List D → List D → PM (List D)) : Prop where
  ex : ∃ f fd ps, Meth K Cl m f ∧ fnIn K f = true ∧ FnOk P w K mg base (L2.CX P w) j f fd ps (spO K mg Cl ks n F) ∧ L2.Binds K fd ps []
theorem CalOC.co {j : Nat} (C : CalOC P w K mg base j Cl m ks n F) : CalO P w K mg base j Cl m ks n F := by
  refine EV.el3_4 (C.ex) fun f fd ps a _ b c => ?_
  exact ⟨f, fd, ps, a, b, c⟩
end
end EV
set_option maxHeartbeats 1000000
namespace EV
open PySem PySem.Spec PyProof.Rows L2
end EV
set_option maxHeartbeats 2000000
namespace EV
open PySem PySem.Spec PyProof.Rows L2 LamX PySem.W
end EV
set_option maxHeartbeats 2000000
namespace EV
open PySem PySem.Spec PyProof.Rows L2 PySem.W
end EV
set_option maxHeartbeats 2000000
namespace EV
open PySem PySem.Spec PyProof.Rows L2 PySem.W
/-- a method with the cell __class__, as it stands: its class is D -/
structure FunN (P : Program) (K : Frag) (mg : Str → Option Value) (D : Addr) (m q : Str) (st : Stmt) (dvs : List V) (f : Addr) (fd : FuncData) : Prop where
  ex : ∃ (cc cda : Addr) (oc : Value) (od : Option Addr) (dV kV doc pm : Value) (an : Option Addr) (ct : Value) (osl : Array (Option Value)) (ccl : Value) (cdd : Option Addr) (vs : Array Value) (ccs : Array (Option Value)) (file : Str) (tf : Tok) (cl : Value) (cld : Option Addr) (csl : Array (Option Value)) (cdD : ClassData) (ar : Arg),
    fd = fnX m q (defArgs st) (defBody st) (defScope st) [("__class__", cc)] dV kV doc pm an (.ref cda) ct ∧ K.lookup f = some ⟨oc, od, .func fd, osl⟩ ∧ codeIn K (.ref cda) q = true ∧ L2.DflV K dV dvs ∧
    K.lookup cda = some ⟨ccl, cdd, .fields vs, ccs⟩ ∧ vs[2]? = some (.str file tf) ∧ ((P.main.file : Str) == file) = true ∧ K.lookup cc = some ⟨cl, cld, .cell (some (.ref D)), csl⟩ ∧ clsIn K D = some cdD ∧
    ((defArgs st).posonlyargs ++ (defArgs st).args).head? = some ar ∧ (defScope st).names.lookup ar.arg = some .local
  sup : mg "super" = none
  top : (P.main.scope.names.lookup ("super" : Str)).isSome = false
  any : nsIn K cStatics "thirdparty.any" = some none
  gs : (defScope st).names.lookup ("super" : Str) = some .globalImplicit
  gc : (defScope st).names.lookup ("__class__" : Str) = some .free
  kp : keepIn K (.ref f) = true
theorem FnG.ok {P : Program} {w : World} {K : Frag} {mg : Str → Option Value} {base : Heap} {j : Nat} {f : Addr} {fd : FuncData} {ps : List Str} {sp : Sp} (F : FnG P w K mg base j f fd ps sp) (h : j < 32) : FnOk P w K mg base (L2.CX P w) j f fd ps sp :=
  ⟨F.len, fun A outer s H args us vs Q E hr => F.run A outer s H args us vs Q E (fun z => absurd z (by omega)) hr⟩
end EV
set_option maxHeartbeats 2000000
namespace EV
open PySem PySem.Spec PyProof.Rows L2 PySem.W
section
variable {P : Program} {w : World} {K : Frag} {mg : Str → Option Value} {base : Heap} {Cl D : Addr} {x q : Str} {st : Stmt} {N ps : List Str} {n k : Nat} {ks0 ks : List Str}
theorem FunN.binds1 {m : Str} {dvs : List V} {f : Addr} {fd : FuncData} (F : FunN P K mg D m q st dvs f fd) (n j : Nat) (hd : dvs ≠ []) (hn : n + (dvs.length - j) = ps.length)
    (h : ∀ (cc cda T : Addr) (kV doc pm : Value) (an : Option Addr) (ct : Value) (us its : List Value), us.length = n → its.length = dvs.length →
      ∃ k, bindArgs (fnX m q (defArgs st) (defBody st) (defScope st) [("__class__", cc)] (.ref T) kV doc pm an (.ref cda) ct) ⟨us, []⟩ = seqItems? (.ref T) >>= k ∧ k (some its.toArray) = pure (ps.zip (us ++ its.drop j))) : ∃ ds, Vals (dvs.drop j) ds ∧ L2.Binds K fd ps ds := by
  (refine EV.el4_1 (F.ex) fun cc cda oc od q227_ => ?_; refine EV.el4_1 q227_ ?_; try clear q227_; intro dV kV doc pm q228_; refine EV.el4_1 q228_ ?_; try clear q228_; intro an ct osl ccl q229_; refine EV.el4_1 q229_ ?_; try clear q229_; intro cdd vs0 ccs file q230_; refine EV.el6_2 q230_ ?_; try clear q230_; intro tf cl cld csl cdD ar q225_ q226_; obtain rfl := q225_; (refine EV.el0_4 q226_ ?_; try clear q226_; intro lk hcd hD _))
  rcases hD with ⟨e, _⟩ | ⟨_, T, o, its, m, rfl, lT, oT, rT⟩
  · exact absurd e hd
  · refine EV.in1_2 (its.drop j) (rT.drop j) (fun s us X hlen => ?_)
    have l1 : its.length = dvs.length := rT.length.symm
    have l2 : us.length = n := by
      rw [List.length_append, List.length_drop, l1] at hlen
      omega
    refine EV.el1_2 (h cc cda T kV doc pm an ct us its l2 l1) fun k e1 e2 => ?_
    refine BindsTo.of_looks fun M => ?_
    rw [e1]
    exact looks_items X lT oT (.of_pure e2)
end
end EV
set_option maxHeartbeats 2000000
namespace EV
open PySem PySem.Spec PyProof.Rows L2 PySem.W
end EV
set_option maxHeartbeats 2000000
namespace EV
open PySem PySem.Spec PyProof.Rows L2 LamX PySem.W
end EV
set_option maxHeartbeats 2000000
namespace EV
open PySem PySem.Spec PyProof.Rows L2 PySem.W
end EV
set_option maxHeartbeats 2000000
namespace EV
open PySem PySem.Spec PyProof.Rows L2 LamX PySem.W
end EV
set_option maxHeartbeats 2000000
namespace EV
open PySem PySem.Spec PyProof.Rows L2 LamX PySem.W
theorem nf_unp2 {α : Type} {out : α → Out} {kk : D → D → PM α} {d : D} (h : ∀ a b, NF out (kk a b)) : NF out (unp2 kk d) := by
  unfold unp2
  cases dec2 d with
  | none => exact nf_bad
  | some z => exact h _ _
end EV
set_option maxHeartbeats 2000000
namespace EV
open PySem PySem.Spec PyProof.Rows L2 PySem.W
section
variable {prog : Program} {w : World} {A : Around} {E : Value → Shared → Prop} {s : Shared} {K : PySem.W.Frag} {x f C : Addr} {ox : Obj} {od : Option Obj}
theorem boundBy_K {M : Model} {last : Value → List Value → Sem Value} {name : Str} {Q : Option Value → Shared → Prop} (X : K.In s.heap) (I : PySem.W.InstAt s.heap x ox C od) (hs : findIn K (.ref C) name = some (some (.ref f))) (hf : isFn K (.ref f) = true)
    (h : wpAny M A (last (.ref f) [.ref x]) (fun v => Q (some v)) E s) : wpAny M A (callSpecialIfBoundBy? last (.ref x) name) Q E s := by
  unfold callSpecialIfBoundBy? bindSpecialIfBound?
  have fin : wpAny M A (last (.ref f) [.ref x] >>= fun v => pure (some v)) Q E s := wpAny_bind (wpAny_mono h (fun v s' q => wpAny_pure q) fun _ _ q => q)
  refine wpAny_holding (wpAny_bind (wpAny_bind (wpAny_bind (I.type.here ((looks_findIn X hs).here ?_))))); refine wpAny_bind (wpAny_askSetting (wpAny_ite ?_))
  have stp : Looks M s.heap (bindSpecial (.ref f) (.ref x)) (.ref f, [.ref x]) := bind_fn X (.ref x) (beq_iff_eq.mp hf)
  split
  · exact wpAny_bind (stp.here (wpAny_pure (by exact fin)))
  · exact wpAny_tryCatch (wpAny_bind (stp.here (wpAny_pure (by exact fin))))
/-- an instance inside a list or a tuple -/
theorem reprIn_K {base : Nat} {Q : Str → Shared → Prop} (hb : base ≤ sizeLine) (hu : A.units < cLine) (X : K.In s.heap) (I : PySem.W.InstAt s.heap x ox C od) (hs : findIn K (.ref C) "__repr__" = some (some (.ref f))) (hf : isFn K (.ref f) = true)
    (h : wpAny (model prog w) A (PySem.call (.ref f) [.ref x]) (fun v s' => ∃ t u, v = .str t u ∧ Q t s') E s) : wpAny (model prog w) A (pyReprUnder base (.ref x)) Q E s := by
  refine wpAny_pyReprUnder_ref hb ?_
  unfold pyReprObjUnder pyReprObjBy; refine wpAny_bind (wpAny_cRoomFor hu ?_)
  refine wpAny_bind (wpAny_bind (I.type.here ((looks_findIn X hs).here ?_))); show wpAny _ _ (if (some (Value.ref f)).isNone = true then _ else _) _ _ _
  rw [if_neg (by simp)]
  refine wpAny_bind (boundBy_K X I hs hf ?_)
  show wpAny _ _ (PySem.call (.ref f) ([.ref x] ++ [])) _ _ _
  refine wpAny_mono h (fun v s' q => ?_) fun _ _ q => q
  obtain ⟨t, u, rfl, q⟩ := q
  exact wpAny_bind (wpAny_isInstance (T := "str") (b := true) rfl isSubtype_str_str (wpAny_pure ⟨t, u, rfl, q⟩))
end
/-- what holds of the state while things beside it are written down -/
structure JOk (J : List (Addr × Obj) → Shared → Prop) : Prop where
  pin : ∀ {pins s a o}, J pins s → (a, o) ∈ pins → s.heap.get? a = some o
  drop : ∀ {q pins s}, J (q :: pins) s → J pins s
  tok : ∀ {pins s} (t : Nat), J pins s → J pins { s with toks := t }
  add : ∀ {pins s} {xs : Array Value} {n : Nat}, J pins s → J ((s.heap.objs.size, { cls := .type "list", dict := none, data := .seq xs n }) :: pins) { s with heap := s.heap.push { cls := .type "list", dict := none, data := .seq xs n } }
  upd : ∀ {P o pins s} (f : Array Value → Array Value), J ((P, o) :: pins) s → J ((P, Obj.mapSeq f o) :: pins) { s with heap := s.heap.update P (Obj.mapSeq f) }
/-- x has the text t, whatever is done between -/
noncomputable def RK (J : List (Addr × Obj) → Shared → Prop) (C : Nat → Around → Prop) (prog : Program) (w : World) (as : Addr → Prop) (d : Nat) (x : Value) (t : Str) : Prop :=
  ∀ (pins : List (Addr × Obj)) (base : Nat) (A : Around) (g : List Code) (E : Value → Shared → Prop) (s : Shared) (Q : Str → Shared → Prop), base + t.length ≤ sizeLine → A.guards = some g → C d A → (∀ b, as b → Clear g b) → A.units + d < cLine → J pins s →
    (∀ s', J pins s' → Q t s') → wpAny (model prog w) A (pyReprUnder base x) Q E s
section
variable {prog : Program} {w : World} {A : Around} {J : List (Addr × Obj) → Shared → Prop} {C : Nat → Around → Prop}
theorem mapSeq_data {o : Obj} {acc : Array Value} {c : Nat} {f : Array Value → Array Value} (h : o.data = .seq acc c) : ∃ c', (Obj.mapSeq f o).data = .seq (f acc) c' := by
  obtain ⟨a, b, d, e⟩ := o
  cases (show d = .seq acc c from h)
  exact ⟨_, rfl⟩
/-- at a stands an object of type T with the values vs -/
noncomputable def SeqAtS (s : Shared) (a : Addr) (T : String) (vs : List V) : Prop := ∃ oa items na, s.heap.get? a = some oa ∧ oa.cls = .type T ∧ oa.data = .seq items na ∧ Vals vs items.toList
theorem vals_at {vs : List V} {us : List Value} (h : Vals vs us) : us.length = vs.length ∧ ∀ (i : Nat) (v : V), vs[i]? = some v → ∃ u, us[i]? = some u ∧ RelV v u := by
  induction h with
  | nil => exact ⟨rfl, fun i v e => by cases e⟩
  | cons r t ih => exact ⟨congrArg (· + 1) ih.1, fun i v e => by
      cases i with
      | zero => cases e; exact ⟨_, rfl, r⟩
      | succ i => exact ih.2 i v e⟩
theorem rk_loop (JO : JOk J) {d : Nat} (CU : ∀ (A : Around) (id : String) (args : Args), (Code.builtin id args).weight = 1 → C (d + 1) A → C d (A.under (.builtin id args))) (hC : C (d + 1) A) {a P : Addr} {vs : List V} {ts : List Str} {as : Addr → Prop} {base : Nat} {g : List Code} {pins : List (Addr × Obj)} {R : Result → Shared → Prop}
    (hg : A.guards = some g) (cl : ∀ b, as b → Clear g b) (un : A.units + (d + 1) < cLine) (nm : ¬ as a) (ga : ∀ pins s, J pins s → SeqAtS s a "list" vs) (len : ts.length = vs.length)
    (el : ∀ (i : Nat) (v : V), vs[i]? = some v → ∃ t, ts[i]? = some t ∧ ∀ x, RelV v x → RK J C prog w as d x t) (sz : base + (listText ts).length ≤ sizeLine) (fin : ∀ u s', J pins s' → R (.ok (.ret (.str (listText ts) u))) s') :
    ∀ (k i : Nat) (s : Shared) (o : Obj) (acc : Array Value) (c : Nat) (done : List (Str × Tok)), vs.length - i = k → i ≤ vs.length → J ((P, o) :: pins) s → o.data = .seq acc c → acc.toList = strValues done → done.map (·.1) = ts.take i →
      codeAny (model prog w) A (Code.builtin "list.__repr__.loop" ⟨[.ref a, rawInt i, Value.ref P, rawInt ((base + piled (ts.take i) : Nat) : Int)], []⟩) R s := by
  have lt0 : (listText ts).length = (textFrom 0 "[" ts).length + 1 := by
    show (textFrom 0 "[" ts ++ "]").length = _; rw [strLen_append]
    rfl
  have ltx := textFrom_len ts 0 "["
  have z2 : ∀ t ∈ ts, t.length ≤ sizeLine := fun t m => by
    have q := ltx.2.1 t m
    omega
  have z3 : (listText ts).length ≤ sizeLine := Nat.le_trans (Nat.le_add_left _ _) sz
  have z4 := piled_le_listText ts
  have z5 : vs.length ≤ sizeLine := by
    have q := ltx.1
    rw [if_neg (Nat.lt_irrefl 0)] at q
    omega
  intro k
  induction k with
  | zero =>
    intro i s o acc c done e1 e2 h ho ha hd
    have ei : i = vs.length := by omega
    obtain ⟨oa, items, na, ga', _, da, rv⟩ := ga _ _ h
    have nn : items[(i : Int).toNat]? = none := by
      have q := (vals_at rv).1
      rw [Array.length_toList] at q
      simp [ei, q]
    have all : done.map (·.1) = ts := by rw [hd, ei, ← len, List.take_length]
    refine codeAny_builtin F.entry_list_repr_loop ?_; show wpAny _ _ (Builtin.«list.__repr__.loop» ⟨[.ref a, .int i 0, .ref P, .int ((base + piled (ts.take i) : Nat) : Int) 0], []⟩) _ _ s
    rw [repr_loop_tree]
    refine wpAny_bind (wpAny_listItems ga' da ?_)
    simp only [nn]
    unfold reprEnd
    refine wpAny_bind (wpAny_listItems (JO.pin h List.mem_cons_self) ho ?_)
    rw [ha, repr_fold]
    refine wpAny_bind (wpAny_pure ?_); rw [all]
    exact wpAny_bind (wpAny_mkStr (wpAny_pure (fin _ _ (JO.tok _ (JO.drop h)))) z3)
  | succ k ih =>
    intro i s o acc c done e1 e2 h ho ha hd
    have hi : i < vs.length := by omega
    obtain ⟨oa, items, na, ga', _, da, rv⟩ := ga _ _ h
    obtain ⟨t, et, rk⟩ := el i vs[i] (List.getElem?_eq_getElem hi)
    obtain ⟨x, ex, rx⟩ := (vals_at rv).2 i vs[i] (List.getElem?_eq_getElem hi)
    have rk := rk x rx
    have p1 := piled_take_succ et
    have p2 := piled_take_le ts (i + 1)
    have ss : items[(i : Int).toNat]? = some x := by rw [Int.toNat_natCast, ← Array.getElem?_toList]; exact ex
    refine codeAny_builtin F.entry_list_repr_loop ?_; show wpAny _ _ (Builtin.«list.__repr__.loop» ⟨[.ref a, .int i 0, .ref P, .int ((base + piled (ts.take i) : Nat) : Int) 0], []⟩) _ _ s
    rw [repr_loop_tree]
    refine wpAny_bind (wpAny_listItems ga' da ?_)
    simp only [ss]
    rw [Int.toNat_natCast]
    refine wpAny_bind (wpAny_holding (rk ((P, o) :: pins) (base + piled (ts.take i) + 1) _ _ _ _ _ (by omega) (guards_under_guard (isGuard_list_loop _) hg) (CU _ _ _ (by first | rfl | kernel_rfl) hC) (fun b m => (cl b m).cons (a := a) fun e => nm (e ▸ m)) (by rw [units_under_list_loop]; omega) h fun s1 h1 => ?_))
    refine wpAny_bind (wpAny_mkStr ?_ (z2 t (List.mem_of_getElem? et)))
    refine wpAny_bind ?_; show wpAny _ _ (updateSeq P _) _ _ _
    have az : acc.size ≤ sizeLine := by
      have q1 : acc.toList.length = acc.size := by simp
      have q2 : (strValues done).length = done.length := by simp [strValues]
      have q3 : done.length = (ts.take i).length := by rw [← hd, List.length_map]
      have q4 : (ts.take i).length ≤ i := by rw [List.length_take]; omega
      rw [ha] at q1
      omega
    refine wpAny_updateSeq (JO.pin (JO.tok _ h1) List.mem_cons_self) ho (wpAny_pure ⟨F.quiet_list_repr_loop _, ?_⟩) az
    rw [show ((i : Int) + 1) = ((i + 1 : Nat) : Int) from rfl, show base + piled (ts.take i) + (t.length + 2) = base + piled (ts.take (i + 1)) by omega]
    obtain ⟨c', hc⟩ := mapSeq_data (f := fun xs => xs.push (.str t s1.toks)) ho
    refine ih (i + 1) _ _ _ c' (done ++ [(t, s1.toks)]) (by omega) hi (JO.upd _ (JO.tok _ h1)) hc ?_ ?_
    · simp [ha, strValues]
    · rw [List.map_append, hd, List.map_singleton, List.take_succ, et]
      rfl
/-- a list that is not empty -/
theorem rk_listAt (JO : JOk J) {d : Nat} (CU : ∀ (A : Around) (id : String) (args : Args), (Code.builtin id args).weight = 1 → C (d + 1) A → C d (A.under (.builtin id args))) {a : Addr} {v : V} {vs : List V} {ts : List Str} {as : Addr → Prop} (ga : ∀ pins s, J pins s → SeqAtS s a "list" (v :: vs)) (nm : ¬ as a) (len : ts.length = (v :: vs).length)
    (el : ∀ (i : Nat) (u : V), (v :: vs)[i]? = some u → ∃ t, ts[i]? = some t ∧ ∀ x, RelV u x → RK J C prog w as d x t) {g : List Code} {s : Shared} {base : Nat} {R : Result → Shared → Prop} {pins : List (Addr × Obj)} (hg : A.guards = some g) (hC : C (d + 1) A) (cl : ∀ b, (b = a ∨ as b) → Clear g b) (un : A.units + (d + 1) < cLine)
    (h : J pins s) (sz : base + (listText ts).length ≤ sizeLine) (fin : ∀ u s', J pins s' → R (.ok (.ret (.str (listText ts) u))) s') :
    wpAny (model prog w) A.in1 (Builtin.listReprAt base ⟨[.ref a], []⟩) (fun f s' => match f with | .done f => R (.ok f) s' | .again c' => c'.quiet = true ∧ codeAny (model prog w) A c' R s') (fun e s' => R (.error e) s') s := by
  obtain ⟨oa, items, na, ga', hc, da, rv⟩ := ga _ _ h
  obtain ⟨its⟩ := items
  obtain ⟨x, l, rfl⟩ : ∃ x l, its = x :: l := by
    cases rv with
    | cons _ _ => exact ⟨_, _, rfl⟩
  refine wpAny_list_repr_head (A := A.in1) hg (fun v rest kw m => listSameRef_of_ne (cl a (.inl rfl) _ _ _ _ m)) ga' da ?_
  refine wpAny_bind (m := newList []) (wpAny_newObj_type (wpAny_pure ⟨F.quiet_list_repr_loop _, ?_⟩))
  exact rk_loop JO CU hC (P := s.heap.objs.size) hg (fun b m => cl b (.inr m)) un nm ga len el sz fin _ 0 _ _ #[] _ [] rfl (Nat.zero_le _) (JO.add h) rfl rfl (by simp)
theorem rk_list (JO : JOk J) {d : Nat} (CU : ∀ (A : Around) (id : String) (args : Args), (Code.builtin id args).weight = 1 → C (d + 1) A → C d (A.under (.builtin id args))) {a : Addr} {v : V} {vs : List V} {ts : List Str} {as : Addr → Prop} (ga : ∀ pins s, J pins s → SeqAtS s a "list" (v :: vs)) (nm : ¬ as a) (len : ts.length = (v :: vs).length)
    (el : ∀ (i : Nat) (u : V), (v :: vs)[i]? = some u → ∃ t, ts[i]? = some t ∧ ∀ x, RelV u x → RK J C prog w as d x t) : RK J C prog w (fun b => b = a ∨ as b) (d + 1) (.ref a) (listText ts) := by
  intro pins base A g E s Q hb hg hC cl un h q
  obtain ⟨oa, items, na, ga', hc, da, rv⟩ := ga _ _ h
  exact wpAny_pyReprUnder_ref (by omega) (wpAny_pyReprObjUnder_twin (twin := "list.__repr__.under") ⟨oa, ga', hc⟩ F.slot_list_repr.toG rfl (by omega)
    (call_twin_plain F.plain_list_repr_under F.entry_list_repr_under F.check_list_repr_under ⟨oa, ga', hc⟩ F.slot_list_repr.toG (F.args_list_repr_1 _)
      (rk_listAt JO CU ga nm len el hg hC cl un h hb fun u s' j => ⟨⟨_, _, rfl⟩, _, _, rfl, q s' j⟩)))
/-- repr(x) of such a list -/
theorem repr_listTop (JO : JOk J) {d : Nat} (CU : ∀ (A : Around) (id : String) (args : Args), (Code.builtin id args).weight = 1 → C (d + 1) A → C d (A.under (.builtin id args))) {a : Addr} {v : V} {vs : List V} {ts : List Str} {as : Addr → Prop} (ga : ∀ pins s, J pins s → SeqAtS s a "list" (v :: vs)) (nm : ¬ as a) (len : ts.length = (v :: vs).length)
    (el : ∀ (i : Nat) (u : V), (v :: vs)[i]? = some u → ∃ t, ts[i]? = some t ∧ ∀ x, RelV u x → RK J C prog w as d x t) {g : List Code} {E : Value → Shared → Prop} {s : Shared} {Q : Value → Shared → Prop} {pins : List (Addr × Obj)} (hg : A.in1.guards = some g) (hC : C (d + 1) A.in1) (cl : ∀ b, (b = a ∨ as b) → Clear g b) (un : A.in1.units + (d + 1) < cLine)
    (h : J pins s) (sz : (listText ts).length ≤ sizeLine) (fin : ∀ u s', J pins s' → Q (.str (listText ts) u) s') : wpAny (model prog w) A (PySem.call (.builtin "repr") [.ref a]) Q E s := by
  obtain ⟨oa, items, na, ga', hc, da, rv⟩ := ga _ _ h
  have ty : s.TypeIs (.ref a) "list" := ⟨oa, ga', hc⟩
  refine Calls.call_function_entry PySem.F.kind_repr PySem.F.plain_repr PySem.F.entry_repr (PySem.F.args_repr1 _) ?_; unfold Builtin.«repr»
  refine wpAny_bind (m := oneArg "repr" _) (wpAny_pure ?_); refine wpAny_bind (wpAny_cRoomFor (by omega) ?_)
  refine wpAny_bind (wpAny_specialOf (name := Str.ofString "__repr__") ty F.slot_list_repr.lookup ?_)
  refine wpAny_bind (m := callSpecialIfBound? (.ref a) (Str.ofString "__repr__")) (wpAny_callSpecialIfBound?_slot (name := Str.ofString "__repr__") ty F.slot_list_repr
    (wpAny_call (codeAny_call_builtin F.slot_list_repr.plain F.entry_list_repr (F.slot_list_repr.check _ _ _ _ _ _ _ _ ty (F.args_list_repr_1 _)
      (rk_listAt (base := 0) (R := callEnd _ E) JO CU ga nm len el hg hC cl un h (by omega) fun u s' j => ?_)))))
  refine wpAny_bind (wpAny_isInstance (b := true) (T := "str") rfl isSubtype_str_str ?_)
  first
    | exact wpAny_pure ⟨_, rfl, fin u s' j⟩
    | (simp only [if_true]; exact wpAny_pure ⟨_, rfl, fin u s' j⟩)
    | (rw [if_pos rfl]; exact wpAny_pure (fin u s' j))
inductive RKs (J : List (Addr × Obj) → Shared → Prop) (C : Nat → Around → Prop) (prog : Program) (w : World) (as : Addr → Prop) (d : Nat) : List Value → List Str → Prop
  | nil : RKs J C prog w as d [] []
  | cons {x : Value} {t : Str} {l : List Value} {ts : List Str} (h : RK J C prog w as d x t) (r : RKs J C prog w as d l ts) : RKs J C prog w as d (x :: l) (t :: ts)
theorem RKs.len {as : Addr → Prop} {d : Nat} {l : List Value} {ts : List Str} (h : RKs J C prog w as d l ts) : ts.length = l.length := by
  induction h with
  | nil => rfl
  | cons _ _ ih => exact congrArg (· + 1) ih
theorem rk_fold {g : List Code} {as : Addr → Prop} {d : Nat} {pins : List (Addr × Obj)} {E : Value → Shared → Prop} (hg : A.guards = some g) (hC : C d A) (cl : ∀ b, as b → Clear g b) (un : A.units + d < cLine) {l : List Value} {ts : List Str} (h : RKs J C prog w as d l ts) :
    ∀ (acc : Array Str) (n : Nat) (s : Shared) (Q : (Array Str × Nat) → Shared → Prop), n + piled ts ≤ sizeLine → J pins s → (∀ s', J pins s' → Q ⟨acc ++ ts.toArray, n + piled ts⟩ s') → wpAny (model prog w) A (forIn l (⟨acc, n⟩ : (Array Str × Nat)) tupBody) Q E s := by
  induction h with
  | nil =>
    intro acc n s Q _ j q
    have q0 := q s j
    simp only [List.forIn_nil]
    exact wpAny_pure (by simpa [piled] using q0)
  | @cons x t l ts hx r ih =>
    intro acc n s Q hn j q
    rw [piled_cons] at hn
    rw [List.forIn_cons]
    refine wpAny_bind (wpAny_bind (hx pins (n + 1) _ _ _ _ _ (by omega) hg hC cl un j fun s1 j1 => wpAny_pure ?_))
    refine ih (acc.push t) (n + (t.length + 2)) _ Q (by omega) j1 fun s2 j2 => ?_
    have q1 := q s2 j2
    rw [piled_cons, ← Nat.add_assoc] at q1
    simpa using q1
theorem rks_of {as : Addr → Prop} {d : Nat} {vs : List V} {us : List Value} (h : Vals vs us) : ∀ {ts : List Str}, ts.length = vs.length → (∀ (i : Nat) (u : V), vs[i]? = some u → ∃ t, ts[i]? = some t ∧ ∀ x, RelV u x → RK J C prog w as d x t) → RKs J C prog w as d us ts := by
  induction h with
  | nil =>
    intro ts l _
    obtain rfl := List.length_eq_zero_iff.mp l
    exact .nil
  | cons r t ih =>
    intro ts l el
    cases ts with
    | nil => cases l
    | cons t ts =>
      obtain ⟨t', e, k⟩ := el 0 _ rfl
      cases e
      exact .cons (k _ r) (ih (Nat.succ.inj l) fun i u e => el (i + 1) u e)
theorem rk_tupleAt (JO : JOk J) {d : Nat} (CU : ∀ (A : Around) (id : String) (args : Args), (Code.builtin id args).weight = 1 → C (d + 1) A → C d (A.under (.builtin id args))) {a : Addr} {vs : List V} {ts : List Str} {as : Addr → Prop} (ga : ∀ pins s, J pins s → SeqAtS s a "tuple" vs) (nm : ¬ as a) (len0 : ts.length = vs.length)
    (el0 : ∀ (i : Nat) (u : V), vs[i]? = some u → ∃ t, ts[i]? = some t ∧ ∀ x, RelV u x → RK J C prog w as d x t)
    {g : List Code} {s : Shared} {base : Nat} {id : String} {rest : List Value} {R : Result → Shared → Prop} {pins : List (Addr × Obj)} (w1 : (Code.builtin id ⟨.ref a :: rest, []⟩).weight = 1) (cg : (Code.builtin id ⟨.ref a :: rest, []⟩).isGuard = true) (cu : (A.under (.builtin id ⟨.ref a :: rest, []⟩)).units = A.units + 1)
    (hg : A.guards = some g) (hC : C (d + 1) A) (cl : ∀ b, (b = a ∨ as b) → Clear g b) (un : A.units + (d + 1) < cLine) (h : J pins s) (hb : base + (tupleText ts).length ≤ sizeLine) (fin : ∀ u s', J pins s' → R (.ok (.ret (.str (tupleText ts) u))) s') :
    wpOwn (model prog w) A (.builtin id ⟨.ref a :: rest, []⟩) (Builtin.tupleReprAt base ⟨[.ref a], []⟩) (fun f s' => match f with | .done f => R (.ok f) s' | .again c' => c'.quiet = true ∧ codeAny (model prog w) A c' R s') (fun e s' => R (.error e) s') s := by
  have ca : Clear g a := cl a (.inl rfl)
  obtain ⟨oa, items, na, ga', hc, da, rv⟩ := ga _ _ h
  have el := rks_of rv len0 el0
  have len : ts.length = items.size := by simpa using el.len
  have p1 := piled_le_tupleText ts
  have z0 : (tupleText ts).length ≤ sizeLine := Nat.le_trans (Nat.le_add_left _ _) hb
  rw [tuple_repr_tree, tupleReprUnderWay_eq]; refine wpOwn_bind (wpOwn_stackTailAny hg (tupGuardF_off _) (tupGuardF_pos _) ?_)
  rw [show (g.any fun c => tupGuardF (.ref a) (c, default)) = false from List.any_eq_false.mpr fun c m => by
    rw [tupGuardF_of_clear ca c m]
    exact Bool.false_ne_true]
  refine wpOwn_of_wpAny ?_
  show wpAny _ _ (tupleReprRest base (.ref a)) _ _ s; unfold tupleReprRest Builtin.Tuple.tupleItemsOf
  refine wpAny_bind (wpAny_bind (wpAny_seqItems ga' da (wpAny_pure ?_)))
  rw [← Array.forIn_toList]
  refine wpAny_bind (rk_fold (pins := pins) (guards_under_guard cg hg) (CU _ _ _ w1 hC) (fun b m => (cl b (.inr m)).cons (a := a) fun e => nm (e ▸ m)) (by rw [cu]; omega) el _ _ _ _ (by omega) h fun s1 j1 => ?_)
  refine wpAny_bind (wpAny_mkStr (wpAny_pure ?_) (by simpa [tupleText, len] using z0))
  have r1 := fin s1.toks _ (JO.tok (s1.toks + 1) j1)
  simpa [tupleText, len] using r1
theorem rk_tuple (JO : JOk J) {d : Nat} (CU : ∀ (A : Around) (id : String) (args : Args), (Code.builtin id args).weight = 1 → C (d + 1) A → C d (A.under (.builtin id args))) {a : Addr} {vs : List V} {ts : List Str} {as : Addr → Prop} (ga : ∀ pins s, J pins s → SeqAtS s a "tuple" vs) (nm : ¬ as a) (len0 : ts.length = vs.length)
    (el0 : ∀ (i : Nat) (u : V), vs[i]? = some u → ∃ t, ts[i]? = some t ∧ ∀ x, RelV u x → RK J C prog w as d x t) : RK J C prog w (fun b => b = a ∨ as b) (d + 1) (.ref a) (tupleText ts) := by
  intro pins base A g E s Q hb hg hC cl un h q
  obtain ⟨oa, items, na, ga', hc, da, rv⟩ := ga _ _ h
  exact wpAny_pyReprUnder_ref (by omega) (wpAny_pyReprObjUnder_twin (twin := "tuple.__repr__.under") ⟨oa, ga', hc⟩ F.slot_tuple_repr rfl (by omega)
    (call_twin_own (F.quiet_tuple_repr_under _) F.entry_tuple_repr_under F.check_tuple_repr_under ⟨oa, ga', hc⟩ F.slot_tuple_repr (F.args_tuple_repr_1 _)
      (rk_tupleAt JO CU ga nm len0 el0 (by first | rfl | kernel_rfl) (isGuard_tuple_repr_under _) (units_under_tuple_repr_under _ _) hg hC cl un h hb fun u s' j => ⟨⟨_, _, rfl⟩, _, _, rfl, q s' j⟩)))
/-- repr(x) of such a tuple -/
theorem repr_tupTop (JO : JOk J) {d : Nat} (CU : ∀ (A : Around) (id : String) (args : Args), (Code.builtin id args).weight = 1 → C (d + 1) A → C d (A.under (.builtin id args))) {a : Addr} {vs : List V} {ts : List Str} {as : Addr → Prop} (ga : ∀ pins s, J pins s → SeqAtS s a "tuple" vs) (nm : ¬ as a) (len0 : ts.length = vs.length)
    (el0 : ∀ (i : Nat) (u : V), vs[i]? = some u → ∃ t, ts[i]? = some t ∧ ∀ x, RelV u x → RK J C prog w as d x t)
    {g : List Code} {E : Value → Shared → Prop} {s : Shared} {Q : Value → Shared → Prop} {pins : List (Addr × Obj)} (hg : A.in1.guards = some g) (hC : C (d + 1) A.in1) (cl : ∀ b, (b = a ∨ as b) → Clear g b) (un : A.in1.units + (d + 1) < cLine)
    (h : J pins s) (sz : (tupleText ts).length ≤ sizeLine) (fin : ∀ u s', J pins s' → Q (.str (tupleText ts) u) s') : wpAny (model prog w) A (PySem.call (.builtin "repr") [.ref a]) Q E s := by
  obtain ⟨oa, items, na, ga', hc, da, rv⟩ := ga _ _ h
  have ty : s.TypeIs (.ref a) "tuple" := ⟨oa, ga', hc⟩
  refine Calls.call_function_entry PySem.F.kind_repr PySem.F.plain_repr PySem.F.entry_repr (PySem.F.args_repr1 _) ?_; unfold Builtin.«repr»
  refine wpAny_bind (m := oneArg "repr" _) (wpAny_pure ?_); refine wpAny_bind (wpAny_cRoomFor (by omega) ?_)
  refine wpAny_bind (wpAny_specialOf (name := Str.ofString "__repr__") ty F.slot_tuple_repr.lookup ?_)
  refine wpAny_bind (m := callSpecialIfBound? (.ref a) (Str.ofString "__repr__")) (wpAny_callSpecialIfBound?_slotG (name := Str.ofString "__repr__") ty F.slot_tuple_repr
    (wpAny_call (codeAny_call_builtin_own (Code.quiet_builtin _ (by decide +kernel)) F.entry_tuple_repr (F.slot_tuple_repr.check _ _ _ _ _ _ _ _ ty (F.args_tuple_repr_1 _)
      (rk_tupleAt (base := 0) (R := callEnd _ E) JO CU ga nm len0 el0 (by first | rfl | kernel_rfl) (isGuard_tuple_repr _) (units_under_tuple_repr _ _) hg hC cl un h (by omega) fun u s' j => ?_)))))
  refine wpAny_bind (wpAny_isInstance (b := true) (T := "str") rfl isSubtype_str_str ?_)
  first
    | exact wpAny_pure ⟨_, rfl, fin u s' j⟩
    | (simp only [if_true]; exact wpAny_pure ⟨_, rfl, fin u s' j⟩)
    | (rw [if_pos rfl]; exact wpAny_pure (fin u s' j))
end
end EV
set_option maxHeartbeats 2000000
namespace EV
open PySem PySem.Spec PyProof.Rows L2 PySem.W
section
variable {prog : Program} {w : World} {J : List (Addr × Obj) → Shared → Prop} {C : Nat → Around → Prop}
theorem rk_is (JO : JOk J) {as : Addr → Prop} {d : Nat} {x : Value} {t : Str} (h : ReprIs prog w x t) : RK J C prog w as d x t := fun _ base A _ E s Q hb _ _ _ _ j q => h base hb A E s Q fun tk => q _ (JO.tok tk j)
theorem rk_nil (JO : JOk J) {as : Addr → Prop} {d : Nat} {a : Addr} (ga : ∀ pins s, J pins s → SeqAtS s a "list" []) : RK J C prog w as d (.ref a) "[]" := fun _ base A _ E s Q hb _ _ _ un j q => by
  obtain ⟨oa, items, na, g1, hc, da, rv⟩ := ga _ _ j
  obtain ⟨its⟩ := items
  have e : its = [] := by
    cases rv
    rfl
  subst e
  exact wpAny_pyReprUnder_ref (by omega) (wpAny_pyReprObjUnder_list_empty ⟨oa, g1, hc⟩ (by omega) g1 da ⟨_, _, rfl, q _ (JO.tok _ j)⟩)
end
section
variable {X : Cx} {pins0 : List (Addr × Obj)} {σ : L2.St} {N : Hp → Prop}
/-- apart from what the walk knows -/
noncomputable def Apart (X : Cx) (pins0 : List (Addr × Obj)) (b : Addr) : Prop := (b ∈ X.ex ∨ X.s_0.heap.objs.size ≤ b) ∧ (∀ x c, X.env.cells.lookup x = some c → c ≠ b) ∧ ∀ p ∈ X.pn ++ pins0, p.1 ≠ b
noncomputable def JI (X : Cx) (pins0 : List (Addr × Obj)) (σ : L2.St) (N : Hp → Prop) (pins : List (Addr × Obj)) (s : Shared) : Prop :=
  ∃ H, Inv X (pins ++ pins0) σ H s ∧ N H ∧ (∀ p ∈ pins, Apart X pins0 p.1) ∧ (pins.map (·.1)).Nodup
theorem mapSeq_cell {o : Obj} {f : Array Value → Array Value} (h : ∀ v, o.data ≠ .cell v) : ∀ v, (Obj.mapSeq f o).data ≠ .cell v := by
  obtain ⟨a, b, d, e⟩ := o
  cases d <;> first | exact h | (intro v z; cases z)
theorem mapSeq_freed {o : Obj} {f : Array Value → Array Value} (h : o.isFreed = false) : (Obj.mapSeq f o).isFreed = false := by
  obtain ⟨a, b, d, e⟩ := o
  cases d <;> first | exact h | rfl
theorem ji_ok : JOk (JI X pins0 σ N) where
  pin := fun {pins s a o} h m => by
    obtain ⟨H, I, _⟩ := h
    exact (I.pin (a, o) (List.mem_append_right _ (List.mem_append_left _ m))).1
  drop := fun {q pins s} h => by
    obtain ⟨H, I, n, ap, nd⟩ := h
    exact ⟨H, I.pins_of fun r m => I.pin r (List.mem_append_right _ (List.mem_cons_of_mem _ m)), n, fun p m => ap p (List.mem_cons_of_mem _ m), (List.nodup_cons.mp nd).2⟩
  tok := fun {pins s} t h => by
    obtain ⟨H, I, n, ap, nd⟩ := h
    exact ⟨H, I.tok t, n, ap, nd⟩
  add := fun {pins s xs m0} h => by
    obtain ⟨H, I, n, ap, nd⟩ := h
    have I1 : Inv X (pins ++ pins0) σ H { s with heap := s.heap.push { cls := .type "list", dict := none, data := .seq xs m0 }, toks := s.toks } := I.kept fun b u e => Heap.get?_push_of_some _ e
    have fp : FpOk X (pins ++ pins0) H s.heap.objs.size := I.fpOk (Nat.le_refl _) (I.hok.fresh (Nat.le_refl _))
    refine ⟨H, I1.pins_of fun r m => ?_, n, fun p m => ?_, List.nodup_cons.mpr ⟨fun m => ?_, nd⟩⟩
    · rcases List.mem_cons.mp m with rfl | m
      · exact ⟨Heap.get?_push_size _ rfl, fp.1, fp.2.1, fp.2.2.1, fun v z => by cases z⟩
      · exact I1.pin r (List.mem_append_right _ m)
    · rcases List.mem_cons.mp m with rfl | m
      · exact ⟨fp.2.2.2.1, fp.2.2.2.2.1, fun p m => fp.2.2.2.2.2 p ((List.mem_append.mp m).elim (fun z => List.mem_append_left _ z) fun z => List.mem_append_right _ (List.mem_append_right _ z))⟩
      · exact ap p m
    · obtain ⟨q, mq, e⟩ := List.mem_map.mp m
      exact fp.2.2.2.2.2 q (List.mem_append_right _ (List.mem_append_left _ mq)) e
  upd := fun {P o pins s} f h => by
    obtain ⟨H, I, n, ap, nd⟩ := h
    have hp := I.pin (P, o) (List.mem_append_right _ List.mem_cons_self)
    have nd' := List.nodup_cons.mp nd
    obtain ⟨a1, a2, a3⟩ := ap (P, o) List.mem_cons_self
    have I1 : Inv X (pins ++ pins0) σ H s := I.pins_of fun r m => I.pin r (List.mem_append_right _ (List.mem_cons_of_mem _ m))
    have oth : ∀ q ∈ X.pn ++ (pins ++ pins0), q.1 ≠ P := fun q m => by
      rcases List.mem_append.mp m with m | m
      · exact a3 q (List.mem_append_left _ m)
      · rcases List.mem_append.mp m with m | m
        · exact fun z => nd'.1 (List.mem_map.mpr ⟨q, m, z⟩)
        · exact a3 q (List.mem_append_right _ m)
    have fp : FpOk X (pins ++ pins0) H P := ⟨hp.2.1, hp.2.2.1, hp.2.2.2.1, a1, a2, oth⟩
    have I2 : Inv X (pins ++ pins0) σ H { s with heap := s.heap.update P (Obj.mapSeq f), toks := s.toks } := I1.turnedL (ch := [P]) (fun b u nb e => by
      rw [Heap.get?_update_other _ _ (fun z => nb (by rw [z]; exact List.mem_cons_self))]
      exact e) fun b m => by
        rw [List.mem_singleton.mp m]
        exact fp
    refine ⟨H, I2.pins_of fun r m => ?_, n, fun p m => ?_, nd⟩
    · rcases List.mem_cons.mp m with rfl | m
      · exact ⟨Heap.get?_update_self _ hp.1 (mapSeq_freed (Heap.get?_some_iff.mp hp.1).2), hp.2.1, hp.2.2.1, hp.2.2.2.1, mapSeq_cell hp.2.2.2.2⟩
      · exact I2.pin r (List.mem_append_right _ m)
    · rcases List.mem_cons.mp m with rfl | m
      · exact ⟨a1, a2, a3⟩
      · exact ap p (List.mem_cons_of_mem _ m)
theorem ji_list {a : Addr} {vs : List V} (h : ∀ H, N H → H a = some (.lst vs)) (pins : List (Addr × Obj)) (s : Shared) (j : JI X pins0 σ N pins s) : SeqAtS s a "list" vs := by
  obtain ⟨H, I, n, _, _⟩ := j
  obtain ⟨its, rv, ⟨o, m, ho, hc, _, hd⟩, _⟩ := I.list (SqL.of (h _ n))
  exact ⟨o, its.toArray, m, ho, hc, hd, by simpa using rv⟩
theorem ji_tup {a : Addr} {vs : List V} (h : ∀ H, N H → SqT X.K H a vs) (pins : List (Addr × Obj)) (s : Shared) (j : JI X pins0 σ N pins s) : SeqAtS s a "tuple" vs := by
  obtain ⟨H, I, n, _, _⟩ := j
  obtain ⟨its, rv, ⟨o, ho, hc, m, hd⟩, _⟩ := I.tuple (h _ n)
  exact ⟨o, its.toArray, m, ho, hc, hd, by simpa using rv⟩
end
end EV
set_option maxHeartbeats 2000000
namespace EV
open PySem PySem.Spec PyProof.Rows L2 PySem.W
section
variable {X : Cx} {pins pins0 : List (Addr × Obj)} {σ : L2.St} {H : Hp} {N : Hp → Prop} {s : Shared} {j : Nat}
/-- a def that raises nothing, called wherever there is room -/
theorem runPure {A : Around} {f : Addr} {fd : FuncData} {ps : List Str} {sp : Sp} {Q : VK} {us : List Value} {vs : List V} {E : Value → Shared → Prop} (hf : A.frames = X.A.frames) (hr : Room j A) (hj : j < 32) (F : FnG X.prog X.w X.K X.mg X.base j f fd ps sp) (hb : L2.Binds X.K fd ps []) (I : Inv X pins σ H s) (r : Vals vs us)
    (h : sp vs H Q fun _ _ _ => False) : wpAny (model X.prog X.w) A (PySem.call (.ref f) us) (EP X pins σ Q) E s := by
  have hl : us.length = ps.length := r.length.symm.trans (F.len _ _ _ _ h)
  have hbd := hb s us I.kIn (by rw [List.append_nil]; exact hl)
  rw [List.append_nil] at hbd
  have e0 := I.env0
  have e1 : Env0 X.prog X.w X.K X.mg X.base A X.stack s H := ⟨hf.trans e0.frames, e0.mod, e0.bs, e0.bsz, e0.funs, e0.frf, e0.hok, e0.bare⟩
  refine wpAny_call (codeAny_mono (F.run A X.stack s H ⟨us, []⟩ us vs Q _ (fun z => absurd z (by omega)) hr e1 hbd r h) fun res s' hq => ?_)
  match res, hq with
  | .error e, hq =>
    obtain ⟨_, _, _, _, _, _, _, _, _, _, _, _, z⟩ := hq
    exact z.elim
  | .ok (.ret u), hq => exact I.after hq
/-- what must lie around, for a def of level j under so many displays -/
noncomputable def CA (X : Cx) (j d : Nat) (A : Around) : Prop := A.frames = X.A.frames ∧ A.handled = none ∧ A.depth + (d - (16 * j + 200)) + 3 * j + 5 < recursionLimit
theorem ca_under {d : Nat} (hd : 16 * j + 200 ≤ d) (A : Around) (id : String) (args : Args) (w1 : (Code.builtin id args).weight = 1) (h : CA X j (d + 1) A) : CA X j d (A.under (.builtin id args)) := by
  obtain ⟨a, b, c⟩ := h
  refine ⟨?_, ?_, ?_⟩
  · exact (show (A.under (.builtin id args)).frames = A.frames by first | rfl | simp [Around.under, Code.frames, Code.isFrame]).trans a
  · exact (show (A.under (.builtin id args)).handled = A.handled by first | rfl | simp [Around.under]).trans b
  · have e : (A.under (.builtin id args)).depth = A.depth + 1 := by simp [Around.under, w1]
    rw [e]
    omega
theorem rk_ins {Cl a : Addr} {dx : Addr} {fvs : List (Str × V)} {ps : List Str} {F : List D → PM D} {t : Str} {d : Nat} {as : Addr → Prop} (M : CalM X.prog X.w X.K X.mg X.base j Cl "__repr__" ps (spF X.K X.mg false 1 F)) (hj : j < 32) (hd : 16 * j + 200 ≤ d)
    (h1 : ∀ H, N H → H a = some (.ins Cl dx fvs)) (hs : ∀ H, N H → spF X.K X.mg false 1 F [.ref a] H (fun v H' => v = .str t ∧ N H') fun _ _ _ => False) : RK (JI X pins0 σ N) (CA X j) X.prog X.w as d (.ref a) t := by
  obtain ⟨f, fd, FG, Me, fi, hb⟩ := M.ex
  intro pins base A g E s Q hz hg hC cl un h q
  obtain ⟨H, I, n, ap, nd⟩ := h
  obtain ⟨ox, od, J, _⟩ := inst_of I (h1 _ n)
  refine reprIn_K (by omega) (by omega) I.kIn J Me.at_ Me.fn (wpAny_mono (runPure hC.1 ⟨hC.2.1, by have := hC.2.2; omega, by omega⟩ hj FG hb I (.cons (show RelV (.ref a) (.ref a) from rfl) .nil) (hs H n)) (fun z s3 hh => ?_) fun _ _ q => q)
  obtain ⟨v, H3, I3, rv, ev, n3⟩ := hh
  subst ev
  obtain ⟨u, rfl⟩ := rv
  exact ⟨t, u, rfl, q _ ⟨H3, I3, n3, ap, nd⟩⟩
/-- what has come to the heap since G0, H0 -/
noncomputable def NE (K : PySem.W.Frag) (pa : Option Addr) (G0 H0 H : Hp) : Prop := ∃ G, Ext K pa G0 H0 G H ∧ TabK K H ∧ NoT G
theorem ne_same {K : PySem.W.Frag} {pa : Option Addr} {G0 H0 H : Hp} (h : NE K pa G0 H0 H) : Same G0 H := by
  obtain ⟨G, x, _⟩ := h
  exact x.g.trans x.sub
theorem ext_pa {K : PySem.W.Frag} {pa : Option Addr} {G H G' H' : Hp} (x : Ext K none G H G' H') : Ext K pa G H G' H' := ⟨x.g, fun a o e _ t => x.hh a o e (fun z => by cases z) t, x.t, x.n, x.sub, x.tk, x.gt⟩
end
end EV
set_option maxHeartbeats 1000000
namespace EV
open PySem PySem.Spec PyProof.Rows L2
end EV
set_option maxHeartbeats 2000000
namespace EV
open PySem PySem.Spec PyProof.Rows L2 PySem.W
noncomputable def bkW : Value → V
  | .none => .non
  | .bool b => .bl b
  | .int i _ => .int i
  | .str x _ => .str x
  | .bytes b _ => .byt b
  | .float b _ => .flt b
  | .ref a => .ref a
  | .type n => .ty n
  | _ => .non
theorem bkW_rel {v : V} {u : Value} (h : RelV v u) : bkW u = v := by
  cases v with
  | non => cases h; rfl
  | bl b => cases h; rfl
  | ref a => cases h; rfl
  | ty n => cases h; rfl
  | int i => obtain ⟨t, rfl⟩ := h; rfl
  | str i => obtain ⟨t, rfl⟩ := h; rfl
  | byt i => obtain ⟨t, rfl⟩ := h; rfl
  | flt i => obtain ⟨t, rfl⟩ := h; rfl
theorem vals_bk {vs : List V} {us : List Value} (h : Vals vs us) : us.map bkW = vs := by
  induction h with
  | nil => rfl
  | cons r _ ih => rw [List.map_cons, bkW_rel r, ih]
/-- the dicts that are shown: {} and {number: ()} -/
noncomputable def shownKV : List (D × D) → Option (List Str)
  | [] => some []
  | [(.int i, .tup [])] => if i.natAbs.log2 < 1920 then some [(toString i : Str) ++ ": " ++ tupleText []] else none
  | _ => none
noncomputable abbrev ReprT := Addr → Option (List D → PM D)
noncomputable def objText (T : ReprT) (C : Addr) (d : D) : Option Str := match T C with
  | none => none
  | some F => match F [d] [] with
    | .ok (.str t) _ => some t
    | _ => none
mutual
noncomputable def shownV (T : ReprT) : D → Option Str
  | .tup xs => (shownVL T xs).map tupleText
  | .lst xs => (shownVL T xs).map listText
  | .obj C fs => objText T C (.obj C fs)
  | .dct kvs => (shownKV kvs).map dictText
  | .cls _ => none
  | .non => some (shown .non)
  | .bl b => some (shown (.bl b))
  | .int i => if i.natAbs.log2 < 1920 then some (shown (.int i)) else none
  | .str x => some (shown (.str x))
noncomputable def shownVL (T : ReprT) : List D → Option (List Str)
  | [] => some []
  | x :: xs => match shownV T x with
    | none => none
    | some t => (shownVL T xs).map (t :: ·)
end
mutual
noncomputable def ht : D → Nat
  | .tup xs => htL xs + 1
  | .lst xs => htL xs + 1
  | .dct _ => 2
  | .obj _ _ => 0
  | .cls _ => 0
  | .non => 0
  | .bl _ => 0
  | .int _ => 0
  | .str _ => 0
noncomputable def htL : List D → Nat
  | [] => 0
  | x :: xs => max (ht x) (htL xs)
end
theorem htL_le : ∀ {ds : List D} {d : D}, d ∈ ds → ht d ≤ htL ds
  | x :: xs, d, m => by
    rw [htL]
    rcases List.mem_cons.mp m with rfl | m
    · exact Nat.le_max_left _ _
    · exact Nat.le_trans (htL_le m) (Nat.le_max_right _ _)
theorem htL_congr : ∀ {ds es : List D}, ds.length = es.length → (∀ (i : Nat) d e, ds[i]? = some d → es[i]? = some e → ht d = ht e) → htL ds = htL es
  | [], [], _, _ => rfl
  | [], _ :: _, h, _ => by cases h
  | _ :: _, [], h, _ => by cases h
  | x :: xs, y :: ys, h, k => by
    rw [htL, htL, k 0 x y rfl rfl, htL_congr (Nat.succ.inj h) fun i d e h1 h2 => k (i + 1) d e h1 h2]
theorem shownVL_at {T : ReprT} : ∀ {ds : List D} {ts : List Str}, shownVL T ds = some ts → ts.length = ds.length ∧ ∀ (i : Nat) d, ds[i]? = some d → ∃ t, ts[i]? = some t ∧ shownV T d = some t
  | [], ts, h => by
    rw [shownVL] at h
    cases h
    exact ⟨rfl, fun i d e => by cases e⟩
  | x :: xs, ts, h => by
    rw [shownVL] at h
    cases ex : shownV T x with
    | none => rw [ex] at h; cases h
    | some t =>
      rw [ex] at h
      cases el : shownVL T xs with
      | none => rw [el] at h; cases h
      | some us =>
        rw [el] at h
        cases h
        obtain ⟨h1, h2⟩ := shownVL_at el
        refine ⟨congrArg (· + 1) h1, fun i d e => ?_⟩
        cases i with
        | zero => cases e; exact ⟨t, rfl, ex⟩
        | succ i => exact h2 i d e
noncomputable def clsAt (s : Shared) (a : Addr) : Option Value := (s.heap.get? a).map (·.cls)
theorem clsAt_of {s : Shared} {a : Addr} {o : Obj} {v : Value} (h : s.heap.get? a = some o) (c : o.cls = v) : clsAt s a = some v := by
  unfold clsAt
  rw [h, Option.map_some, c]
section
variable {X : Cx} {pins : List (Addr × Obj)} {σ : L2.St} {H G : Hp} {s : Shared} {T : ReprT}
theorem at_lst (I : Inv X pins σ H s) (hs : Same G H) {a : Addr} {xs : List V} (h : G a = some (.lst xs)) : clsAt s a = some (.type "list") := by
  obtain ⟨its, r, p, _⟩ := I.list (SqL.of (hs _ _ h))
  obtain ⟨o, ho, hc⟩ := p.isList.typeIs
  exact clsAt_of ho hc
theorem at_tup (I : Inv X pins σ H s) (hs : Same G H) {a : Addr} {xs : List V} (h : SqT X.K G a xs) : clsAt s a = some (.type "tuple") := by
  obtain ⟨its, r, p, _⟩ := I.tuple (sameT hs h)
  obtain ⟨o, ho, hc⟩ := p.typeIs
  exact clsAt_of ho hc
theorem at_ins (I : Inv X pins σ H s) (hs : Same G H) {a C dx : Addr} {fs : List (Str × V)} (h : G a = some (.ins C dx fs)) : clsAt s a = some (.ref C) := by
  obtain ⟨_, _, _, e, _⟩ := I.hok a _ (hs _ _ h)
  exact clsAt_of e rfl
theorem at_dct (I : Inv X pins σ H s) (hs : Same G H) {a : Addr} {sh : DSh} {vs : List V} {ks : List D} (h : G a = some (sh.ho vs)) (hk : sh.keysD = some ks) : clsAt s a = some (.type "dict") := by
  have ok := I.hok a _ (hs _ _ h)
  cases sh with
  | t _ =>
    obtain ⟨_, _, _, _, o, es, ep, e, x, _⟩ := ok
    exact clsAt_of e x.1
  | k _ =>
    obtain ⟨_, _, _, _, o, es, ep, e, x, _⟩ := ok
    exact clsAt_of e x.1
  | tu _ => cases hk
  | tn _ _ => cases hk
  | ins _ _ _ _ => cases hk
theorem tup_det (I : Inv X pins σ H s) (hs : Same G H) {a : Addr} {xs ys : List V} (h : SqT X.K G a xs) (h' : SqT X.K G a ys) : xs = ys := by
  obtain ⟨its, r, p, _⟩ := I.tuple (sameT hs h)
  obtain ⟨its', r', p', _⟩ := I.tuple (sameT hs h')
  obtain ⟨o, ho, _, n, hd⟩ := p
  obtain ⟨o', ho', _, n', hd'⟩ := p'
  rw [ho] at ho'
  cases ho'
  rw [hd] at hd'
  have e : its = its' := by
    injection hd' with e1
    have := congrArg Array.toList e1
    simpa using this
  rw [← vals_bk r, ← vals_bk r', e]
theorem ty_ne {x y : String} (h : x ≠ y) : ¬ (some (Value.type x) = some (Value.type y)) := fun z => h (by injection Option.some.inj z)
theorem ty_ref {x : String} {C : Addr} : ¬ (some (Value.type x) = some (Value.ref C)) := fun z => by cases z
theorem rp_ht (I : Inv X pins σ H s) (hs : Same G H) {v : V} {d1 : D} (h1 : Rp X.K G v d1) : ∀ {d2 : D}, Rp X.K G v d2 → ∀ {t1 t2 : Str}, shownV T d1 = some t1 → shownV T d2 = some t2 → ht d1 = ht d2 := by
  induction h1 with
  | non => intro d2 h2 t1 t2 e1 e2; cases h2; rfl
  | bl b => intro d2 h2 t1 t2 e1 e2; cases h2; rfl
  | int i => intro d2 h2 t1 t2 e1 e2; cases h2; rfl
  | str x => intro d2 h2 t1 t2 e1 e2; cases h2; rfl
  | cls C =>
    intro d2 h2 t1 t2 e1 e2
    rw [shownV] at e1
    cases e1
  | @lst a xs ds h n r ih =>
    intro d2 h2 t1 t2 e1 e2
    have c := at_lst I hs h
    rw [shownV] at e1
    cases q1 : shownVL T ds with
    | none => rw [q1] at e1; cases e1
    | some ts =>
      cases h2 with
      | @lst _ ys es h' n' r' =>
        rw [h] at h'
        cases h'
        rw [shownV] at e2
        cases q2 : shownVL T es with
        | none => rw [q2] at e2; cases e2
        | some us =>
          rw [ht, ht]
          refine congrArg (· + 1) (htL_congr (n.symm.trans n') fun i d e k1 k2 => ?_)
          obtain ⟨w, hw⟩ : ∃ w, xs[i]? = some w := ⟨xs[i]'(by rw [n]; exact (List.getElem?_eq_some_iff.mp k1).1), List.getElem?_eq_getElem _⟩
          obtain ⟨x1, _, y1⟩ := (shownVL_at q1).2 i d k1
          obtain ⟨x2, _, y2⟩ := (shownVL_at q2).2 i e k2
          exact ih i w d hw k1 (r' i w e hw k2) y1 y2
      | tup h' _ _ => rw [at_tup I hs h'] at c; exact absurd c (ty_ne (by decide))
      | dct h' hk _ _ => rw [at_dct I hs h' hk] at c; exact absurd c (ty_ne (by decide))
      | obj h' _ _ _ => rw [at_ins I hs h'] at c; exact absurd c.symm ty_ref
      | cls _ => rw [shownV] at e2; cases e2
  | @tup a xs ds h n r ih =>
    intro d2 h2 t1 t2 e1 e2
    have c := at_tup I hs h
    rw [shownV] at e1
    cases q1 : shownVL T ds with
    | none => rw [q1] at e1; cases e1
    | some ts =>
      cases h2 with
      | @tup _ ys es h' n' r' =>
        cases tup_det I hs h h'
        rw [shownV] at e2
        cases q2 : shownVL T es with
        | none => rw [q2] at e2; cases e2
        | some us =>
          rw [ht, ht]
          refine congrArg (· + 1) (htL_congr (n.symm.trans n') fun i d e k1 k2 => ?_)
          obtain ⟨w, hw⟩ : ∃ w, xs[i]? = some w := ⟨xs[i]'(by rw [n]; exact (List.getElem?_eq_some_iff.mp k1).1), List.getElem?_eq_getElem _⟩
          obtain ⟨x1, _, y1⟩ := (shownVL_at q1).2 i d k1
          obtain ⟨x2, _, y2⟩ := (shownVL_at q2).2 i e k2
          exact ih i w d hw k1 (r' i w e hw k2) y1 y2
      | lst h' _ _ => rw [at_lst I hs h'] at c; exact absurd c (ty_ne (by decide))
      | dct h' hk _ _ => rw [at_dct I hs h' hk] at c; exact absurd c (ty_ne (by decide))
      | obj h' _ _ _ => rw [at_ins I hs h'] at c; exact absurd c.symm ty_ref
      | cls _ => rw [shownV] at e2; cases e2
  | @dct a sh vs kvs h hk n r ih =>
    intro d2 h2 t1 t2 e1 e2
    have c := at_dct I hs h hk
    cases h2 with
    | lst h' _ _ => rw [at_lst I hs h'] at c; exact absurd c (ty_ne (by decide))
    | tup h' _ _ => rw [at_tup I hs h'] at c; exact absurd c (ty_ne (by decide))
    | dct _ _ _ _ => rfl
    | obj h' _ _ _ => rw [at_ins I hs h'] at c; exact absurd c.symm ty_ref
    | cls _ => rw [shownV] at e2; cases e2
  | @obj a C dx fvs fs h hc hk r ih =>
    intro d2 h2 t1 t2 e1 e2
    have c := at_ins I hs h
    cases h2 with
    | lst h' _ _ => rw [at_lst I hs h'] at c; exact absurd c ty_ref
    | tup h' _ _ => rw [at_tup I hs h'] at c; exact absurd c ty_ref
    | dct h' hk _ _ => rw [at_dct I hs h' hk] at c; exact absurd c ty_ref
    | obj _ _ _ _ => rfl
    | cls _ => rw [shownV] at e2; cases e2
end
section
variable {X : Cx} {pins pins0 : List (Addr × Obj)} {σ : L2.St} {H H0 G0 : Hp} {s s0 : Shared} {T : ReprT} {j : Nat} {pa : Option Addr}
theorem ca_less {d d' : Nat} {A : Around} (h : d ≤ d') (c : CA X j d' A) : CA X j d A := by
  obtain ⟨a, b, c⟩ := c
  exact ⟨a, b, by omega⟩
theorem rk_lift {J : List (Addr × Obj) → Shared → Prop} {as as' : Addr → Prop} {d d' : Nat} {x : Value} {t : Str} (h : RK J (CA X j) X.prog X.w as d x t) (hs : ∀ b, as b → as' b) (hd : d ≤ d') : RK J (CA X j) X.prog X.w as' d' x t :=
  fun pins base A g E s Q hb hg hC cl un j1 q => h pins base A g E s Q hb hg (ca_less hd hC) (fun b m => cl b (hs b m)) (by omega) j1 q
/-- the addresses of what is no higher -/
noncomputable def AsN (K : PySem.W.Frag) (G0 : Hp) (T : ReprT) (n : Nat) (b : Addr) : Prop := ∃ d t, Rp K G0 (.ref b) d ∧ shownV T d = some t ∧ ht d ≤ n
theorem AsN.more {K : PySem.W.Frag} {n m : Nat} (h : n ≤ m) (b : Addr) (x : AsN K G0 T n b) : AsN K G0 T m b := by
  obtain ⟨d, t, a, b, c⟩ := x
  exact ⟨d, t, a, b, Nat.le_trans c h⟩
/-- what repr of an instance of these classes promises -/
noncomputable def TOk (X : Cx) (j : Nat) (T : ReprT) : Prop := ∀ C F, T C = some F → ∃ ps, CalM X.prog X.w X.K X.mg X.base j C "__repr__" ps (spF X.K X.mg false 1 F)
theorem ins_spR {K : PySem.W.Frag} {mg : Str → Option Value} {H0 : Hp} {F : List D → PM D} {a : Addr} {d : D} {t : Str} {s' : List Int} (r : Rp K G0 (.ref a) d) (e : F [d] [] = .ok (.str t) s') (H : Hp) (h : NE K pa G0 H0 H) :
    spF K mg false 1 F [.ref a] H (fun v H' => v = .str t ∧ NE K pa G0 H0 H') fun _ _ _ => False := by
  obtain ⟨G, x, tk, nt⟩ := h
  refine ⟨none, G, [], [.ref a], [d], rfl, rfl, ⟨x.sub, tk, nt⟩, PenOk.none, .cons (r.mono x.g) .nil, rfl, ?_⟩
  rw [e]
  intro G' H' y _ v rv
  cases rv
  exact ⟨rfl, G', x.trans (ext_pa y), y.tk tk, y.gt nt⟩
theorem objText_of {C : Addr} {d : D} {t : Str} (h : objText T C d = some t) : ∃ F s', T C = some F ∧ F [d] [] = .ok (.str t) s' := by
  unfold objText at h
  cases e : T C with
  | none => rw [e] at h; cases h
  | some F =>
    rw [e] at h
    dsimp only at h
    cases r : F [d] [] with
    | bad => rw [r] at h; cases h
    | exc z => rw [r] at h; cases h
    | ok x s' =>
      rw [r] at h
      cases x with
      | str z => cases h; exact ⟨F, s', rfl, r⟩
      | _ => cases h
theorem shownKV_two {kvs : List (D × D)} {ps : List Str} (h : shownKV kvs = some ps) : (kvs = [] ∧ ps = []) ∨ ∃ i : Int, kvs = [(.int i, .tup [])] ∧ i.natAbs.log2 < 1920 ∧ ps = [(toString i : Str) ++ ": " ++ tupleText []] := by
  match kvs, h with
  | [], h => cases h; exact .inl ⟨rfl, rfl⟩
  | [(.int i, .tup [])], h =>
    have h : (if i.natAbs.log2 < 1920 then some [(toString i : Str) ++ ": " ++ tupleText []] else none) = some ps := h
    by_cases hi : i.natAbs.log2 < 1920
    · rw [if_pos hi] at h
      cases h
      exact .inr ⟨i, rfl, hi, rfl⟩
    · rw [if_neg hi] at h
      cases h
/-- such a dict as an object -/
theorem dct_reads (I : Inv X pins σ H s) (hs : Same G0 H) {a : Addr} {kvs : List (D × D)} {ps : List Str} (r : Rp X.K G0 (.ref a) (.dct kvs)) (e : shownKV kvs = some ps) :
    ∃ (o : Obj) (es : Array DictEntry) (n : Nat) (bs : List Addr), s.heap.get? a = some o ∧ o.cls = .type "dict" ∧ o.data = .dict es n ∧ (a == sysModules) = false ∧ a ∉ bs ∧ (∀ b ∈ bs, Rp X.K G0 (.ref b) (.tup [])) ∧ ReprEntriesK X.prog X.w bs s.heap 1 es.toList ps := by
  cases r with
  | @dct _ sh vs _ h hk n r =>
    have ok := I.hok a _ (hs _ _ h)
    have cl := at_dct I hs h hk
    rcases shownKV_two e with ⟨rfl, rfl⟩ | ⟨i, rfl, hi, rfl⟩
    · have v0 : vs = [] := List.length_eq_zero_iff.mp n
      subst v0
      cases sh with
      | t ks =>
        obtain ⟨_, sm, xs, hp, o, es, ep, e1, x, hd, he, _⟩ := ok
        have hx : xs = [] := by
          rw [List.zip_nil_right] at hp
          cases hp
          rfl
        subst hx
        exact ⟨o, es, ep, [], e1, x.1, hd, sm, by simp, by simp, by rw [he]; exact .nil⟩
      | k ks =>
        obtain ⟨_, sm, ws, hp, o, es, ep, e1, x, hd, _, he, _⟩ := ok
        have hx : ws = [] := by
          rw [List.zip_nil_right] at hp
          cases hp
          rfl
        subst hx
        have he' : es.toList = [] := by
          generalize hz : es.toList = z at he
          cases he
          rfl
        exact ⟨o, es, ep, [], e1, x.1, hd, sm, by simp, by simp, by rw [he']; exact .nil⟩
      | tu _ => cases hk
      | tn _ _ => cases hk
      | ins _ _ _ _ => cases hk
    · obtain ⟨v, rfl⟩ := List.length_eq_one_iff.mp n
      have rv := r 0 v (.int i, .tup []) rfl rfl
      cases sh with
      | t ks =>
        have hk : ks.map (fun r => D.tup (r.map .int)) = [.int i] := Option.some.inj hk
        cases ks with
        | nil => cases hk
        | cons x xs => cases hk
      | k ks =>
        have hk : ks.map D.int = [.int i] := Option.some.inj hk
        have hks : ks = [i] := by
          cases ks with
          | nil => cases hk
          | cons x xs =>
            injection hk with h1 h2
            injection h1 with h1
            rw [List.map_eq_nil_iff.mp h2, h1]
        subst hks
        obtain ⟨_, sm, ws, hp, o, es, ep, e1, x, hd, _, he, _⟩ := ok
        cases hp with
        | @cons p q _ _ hpq hr =>
          cases hr
          generalize hz : es.toList = z at he
          cases he with
          | @cons de kv des kvs' hkey hval hrest =>
            cases hrest
            obtain ⟨q1, q2⟩ := q
            have e2 : (Sum.inl i : Key) = q1 := hpq.1
            subst e2
            have rq : RelV v q2 := hpq.2
            cases rv with
            | @tup b xs ds hb nb rb =>
              have x0 : xs = [] := List.length_eq_zero_iff.mp nb
              subst x0
              cases rq
              have cb := at_tup I hs hb
              obtain ⟨its, rt, pt, _⟩ := I.tuple (sameT hs hb)
              have it0 : its = [] := by cases rt; rfl
              subst it0
              obtain ⟨ob, hob, hcb, nn, hdb⟩ := pt
              have kk : ∃ tk, de.key = Value.int i tk := by
                rcases keyIs_shape (show keyIs (Sum.inl i : Key) de.key = true from hkey) with ⟨i', t, e3, e4⟩ | ⟨x, t, e3, _⟩
                · cases e3
                  exact ⟨t, e4⟩
                · cases e3
              obtain ⟨tk, ek⟩ := kk
              refine ⟨o, es, ep, [b], e1, x.1, hd, sm, fun m => ?_, fun b' m => ?_, ?_⟩
              · rw [List.mem_singleton.mp m] at cl
                rw [cl] at cb
                exact ty_ne (by decide) cb
              · rw [List.mem_singleton.mp m]
                exact .tup hb nb rb
              · rw [hz]
                refine .cons ?_ ?_ .nil
                · rw [ek]
                  exact ReprK.of_is (ReprIs.int tk hi) _ _ _
                · rw [hval]
                  exact ReprK.tuple (as := []) hob hcb hdb (by simp) .nil
      | tu _ => cases hk
      | tn _ _ => cases hk
      | ins _ _ _ _ => cases hk
theorem rk_scal {J : List (Addr × Obj) → Shared → Prop} (JO : JOk J) {as : Addr → Prop} {d : Nat} {x : Value} {t : Str} (h : t.length ≤ sizeLine → ReprIs X.prog X.w x t) : RK J (CA X j) X.prog X.w as d x t :=
  fun pins base A g E s Q hb hg hC cl un j1 q => rk_is JO (C := CA X j) (as := as) (d := d) (h (by omega)) pins base A g E s Q hb hg hC cl un j1 q
theorem rkV (I : Inv X pins0 σ H0 s0) (hs : Same G0 H0) (TO : TOk X j T) (hj : j < 32) {v : V} {d : D} (r : Rp X.K G0 v d) : ∀ {t : Str} {u : Value}, RelV v u → shownV T d = some t →
    RK (JI X pins0 σ (NE X.K pa G0 H0)) (CA X j) X.prog X.w (AsN X.K G0 T (ht d)) (16 * j + 200 + ht d) u t := by
  have CU : ∀ n, ∀ (A : Around) (id : String) (args : Args), (Code.builtin id args).weight = 1 → CA X j (16 * j + 200 + n + 1) A → CA X j (16 * j + 200 + n) (A.under (.builtin id args)) := fun n => ca_under (by omega)
  have el : ∀ {vs : List V} {ds : List D} {ts : List Str}, vs.length = ds.length → shownVL T ds = some ts → (∀ (i : Nat) (w : V) (d : D), vs[i]? = some w → ds[i]? = some d → ∀ {t : Str} {u : Value}, RelV w u → shownV T d = some t → RK (JI X pins0 σ (NE X.K pa G0 H0)) (CA X j) X.prog X.w (AsN X.K G0 T (ht d)) (16 * j + 200 + ht d) u t) →
      ∀ (i : Nat) (w : V), vs[i]? = some w → ∃ t, ts[i]? = some t ∧ ∀ x, RelV w x → RK (JI X pins0 σ (NE X.K pa G0 H0)) (CA X j) X.prog X.w (AsN X.K G0 T (htL ds)) (16 * j + 200 + htL ds) x t := by
    intro vs ds ts n q ih i w hw
    obtain ⟨d, hd⟩ : ∃ d, ds[i]? = some d := ⟨ds[i]'(by rw [← n]; exact (List.getElem?_eq_some_iff.mp hw).1), List.getElem?_eq_getElem _⟩
    obtain ⟨t, k1, k2⟩ := (shownVL_at q).2 i d hd
    have hle := htL_le (List.mem_of_getElem? hd)
    exact ⟨t, k1, fun x rx => rk_lift (ih i w d hw hd rx k2) (fun b => AsN.more hle b) (by omega)⟩
  induction r with
  | non =>
    intro t u ru e
    rw [shownV] at e
    cases e
    cases ru
    exact rk_scal ji_ok fun _ => ReprIs.none
  | bl b =>
    intro t u ru e
    rw [shownV] at e
    cases e
    cases ru
    have : shown (.bl b) = (if b then ("True" : Str) else "False") := by cases b <;> rfl
    rw [this]
    exact rk_scal ji_ok fun _ => by
      have := ReprIs.bool (prog := X.prog) (w := X.w) b
      cases b <;> exact this
  | int i =>
    intro t u ru e
    rw [shownV] at e
    by_cases hi : i.natAbs.log2 < 1920
    · rw [if_pos hi] at e
      cases e
      obtain ⟨tk, rfl⟩ := ru
      exact rk_scal ji_ok fun _ => ReprIs.int tk hi
    · rw [if_neg hi] at e
      cases e
  | str x =>
    intro t u ru e
    rw [shownV] at e
    cases e
    obtain ⟨tk, rfl⟩ := ru
    exact rk_scal ji_ok fun hz => ReprIs.str x tk hz
  | cls C =>
    intro t u ru e
    rw [shownV] at e
    cases e
  | @lst a xs ds h n r ih =>
    intro t u ru e
    have whole : Rp X.K G0 (.ref a) (.lst ds) := .lst h n r
    have eV := e
    rw [shownV] at e
    cases q : shownVL T ds with
    | none => rw [q] at e; cases e
    | some ts =>
      rw [q] at e
      cases e
      cases ru
      have ga := ji_list (X := X) (pins0 := pins0) (σ := σ) (N := NE X.K pa G0 H0) fun H nH => ne_same nH _ _ h
      cases xs with
      | nil =>
        have d0 : ds = [] := List.length_eq_zero_iff.mp n.symm
        subst d0
        rw [shownVL] at q
        cases q
        exact rk_nil ji_ok ga
      | cons w ws =>
        rw [ht]
        refine rk_lift (rk_list ji_ok (CU (htL ds)) ga (as := AsN X.K G0 T (htL ds)) (ts := ts) (fun ⟨d', t', r', e', l'⟩ => ?_) ((shownVL_at q).1.trans n.symm) (el n q ih)) (fun b hb => ?_) (by omega)
        · have := rp_ht I hs r' whole e' eV
          rw [ht] at this
          omega
        · rcases hb with rfl | hb
          · exact ⟨_, _, whole, eV, by rw [ht]; exact Nat.le_refl _⟩
          · exact AsN.more (Nat.le_succ _) b hb
  | @tup a xs ds h n r ih =>
    intro t u ru e
    have whole : Rp X.K G0 (.ref a) (.tup ds) := .tup h n r
    have eV := e
    rw [shownV] at e
    cases q : shownVL T ds with
    | none => rw [q] at e; cases e
    | some ts =>
      rw [q] at e
      cases e
      cases ru
      have ga := ji_tup (X := X) (pins0 := pins0) (σ := σ) (N := NE X.K pa G0 H0) fun H nH => sameT (ne_same nH) h
      rw [ht]
      refine rk_lift (rk_tuple ji_ok (CU (htL ds)) ga (as := AsN X.K G0 T (htL ds)) (ts := ts) (fun ⟨d', t', r', e', l'⟩ => ?_) ((shownVL_at q).1.trans n.symm) (el n q ih)) (fun b hb => ?_) (by omega)
      · have := rp_ht I hs r' whole e' eV
        rw [ht] at this
        omega
      · rcases hb with rfl | hb
        · exact ⟨_, _, whole, eV, by rw [ht]; exact Nat.le_refl _⟩
        · exact AsN.more (Nat.le_succ _) b hb
  | @dct a sh vs kvs h hk n r ih =>
    intro t u ru e
    have whole : Rp X.K G0 (.ref a) (.dct kvs) := .dct h hk n r
    have eV := e
    rw [shownV] at e
    cases q : shownKV kvs with
    | none => rw [q] at e; cases e
    | some ps =>
      rw [q] at e
      cases e
      cases ru
      intro pins base A g E s Q hb hg hC cl un hJ hQ
      obtain ⟨H, I1, nH, ap, nd⟩ := hJ
      obtain ⟨o, es, m, bs, e1, e2, e3, e4, e5, e6, e7⟩ := dct_reads I1 (ne_same nH) whole q
      refine (ReprK.dict e1 e2 e3 e4 e5 e7) base hb A g E s Q hg (fun b hb => cl b ?_) (by rw [ht] at un; omega) (fun _ _ z => z) fun h' tk hk => hQ _ ⟨H, I1.kept (t' := tk) hk, nH, ap, nd⟩
      rcases List.mem_cons.mp hb with rfl | hb
      · exact ⟨_, _, whole, eV, Nat.le_refl _⟩
      · exact ⟨_, _, e6 b hb, by rw [shownV, shownVL]; rfl, by rw [ht, ht, htL]; omega⟩
  | @obj a C dx fvs fs h hc hk r ih =>
    intro t u ru e
    have whole : Rp X.K G0 (.ref a) (.obj C fs) := .obj h hc hk r
    rw [shownV] at e
    cases ru
    obtain ⟨F, s', h1, h2⟩ := objText_of e
    obtain ⟨ps, M⟩ := TO C F h1
    exact rk_ins M hj (by omega) (fun H nH => ne_same nH _ _ h) fun H nH => ins_spR whole h2 H nH
end
end EV
set_option maxHeartbeats 2000000
namespace EV
open PySem PySem.Spec PyProof.Rows L2 PySem.W
noncomputable def reprV (T : ReprT) : List D → PM D
  | [d] => match shownV T d with
    | some t => if ht d ≤ 40 ∧ t.length ≤ lim then pure (.str t) else bad
    | none => bad
  | _ => bad
noncomputable def rReprV (X : Cx) (T : ReprT) : List V → Hp → VK → Prop := fun xs H Q => ∃ (pa : Option Addr) (G : Hp) (x : V) (d : D) (t : Str), xs = [x] ∧ (Same G H ∧ TabK X.K H ∧ NoT G) ∧ Rp X.K G x d ∧ shownV T d = some t ∧ ht d ≤ 40 ∧ t.length ≤ sizeLine ∧
  ∀ H', NE X.K pa G H H' → Q (.str t) H'
section
variable {X : Cx} {pins pins0 : List (Addr × Obj)} {σ : L2.St} {H H0 G0 : Hp} {s s0 : Shared} {T : ReprT} {j k : Nat} {pa : Option Addr}
theorem rkV_el (I : Inv X pins0 σ H0 s0) (hs : Same G0 H0) (TO : TOk X j T) (hj : j < 32) {vs : List V} {ds : List D} {ts : List Str} (n : vs.length = ds.length) (rr : ∀ (i : Nat) v d, vs[i]? = some v → ds[i]? = some d → Rp X.K G0 v d) (q : shownVL T ds = some ts) :
    ∀ (i : Nat) (w : V), vs[i]? = some w → ∃ t, ts[i]? = some t ∧ ∀ x, RelV w x → RK (JI X pins0 σ (NE X.K pa G0 H0)) (CA X j) X.prog X.w (AsN X.K G0 T (htL ds)) (16 * j + 200 + htL ds) x t := by
  intro i w hw
  obtain ⟨d, hd⟩ : ∃ d, ds[i]? = some d := ⟨ds[i]'(by rw [← n]; exact (List.getElem?_eq_some_iff.mp hw).1), List.getElem?_eq_getElem _⟩
  obtain ⟨t, k1, k2⟩ := (shownVL_at q).2 i d hd
  have hle := htL_le (List.mem_of_getElem? hd)
  exact ⟨t, k1, fun x rx => rk_lift (rkV I hs TO hj (rr i w d hw hd) rx k2) (fun b => AsN.more hle b) (by omega)⟩
theorem call_reprV (hr : Room k X.A) (hg : X.A.guards = some []) (TO : TOk X j T) (hj2 : j < 32) (hj : j + 14 ≤ k) : CallR X (.builtin "repr") (rReprV X T) := by
  intro pins s σ H xs us Q I rv h
  obtain ⟨pa, G, x, d, t, rfl, ⟨hs, tk, nt⟩, r, e, hh, hl, q⟩ := h
  obtain ⟨u, rfl, ru⟩ := vals1 rv
  have nH : NE X.K pa G H H := ⟨G, Ext.refl hs, tk, nt⟩
  have dp := hr.dp
  have un := hr.un
  have CU : ∀ n, ∀ (A : Around) (id : String) (args : Args), (Code.builtin id args).weight = 1 → CA X j (16 * j + 200 + n + 1) A → CA X j (16 * j + 200 + n) (A.under (.builtin id args)) := fun n => ca_under (by omega)
  have top : ∀ n, n + 1 ≤ 40 → CA X j (16 * j + 200 + n + 1) X.A.in1 := fun n hn => ⟨rfl, hr.hd, by
    show X.A.depth + (16 * j + 200 + n + 1 - (16 * j + 200)) + 3 * j + 5 < recursionLimit
    omega⟩
  have hJ : JI X pins σ (NE X.K pa G H) [] s := ⟨H, I, nH, (fun _ m => nomatch m), List.nodup_nil⟩
  have fin : ∀ (u : Tok) s', JI X pins σ (NE X.K pa G H) [] s' → EP X pins σ Q (.str t u) s' := fun u s' z => by
    obtain ⟨H', I', nH', _, _⟩ := z
    exact ⟨.str t, H', I', ⟨u, rfl⟩, q H' nH'⟩
  cases r with
  | non =>
    rw [shownV] at e
    cases e
    cases ru
    exact PySem.P.repr_of_none ⟨.str _, H, I.tok _, ⟨_, rfl⟩, q H nH⟩
  | bl b =>
    rw [shownV] at e
    cases e
    cases ru
    exact PySem.P.repr_of_bool ⟨.str _, H, I.tok _, ⟨_, rfl⟩, by cases b <;> exact q H nH⟩
  | int i =>
    rw [shownV] at e
    by_cases hi : i.natAbs.log2 < 1920
    · rw [if_pos hi] at e
      cases e
      obtain ⟨tk, rfl⟩ := ru
      exact PySem.P.repr_of_int hi ⟨.str _, H, I.tok _, ⟨_, rfl⟩, q H nH⟩
    · rw [if_neg hi] at e
      cases e
  | str x =>
    rw [shownV] at e
    cases e
    obtain ⟨tk, rfl⟩ := ru
    exact PySem.P.repr_of_str ⟨.str _, H, I.tok _, ⟨_, rfl⟩, q H nH⟩ hl
  | cls C =>
    rw [shownV] at e
    cases e
  | @lst a xs ds h n r =>
    have whole : Rp X.K G (.ref a) (.lst ds) := .lst h n r
    have eV := e
    rw [shownV] at e
    cases q1 : shownVL T ds with
    | none => rw [q1] at e; cases e
    | some ts =>
      rw [q1] at e
      cases e
      cases ru
      rw [ht] at hh
      cases xs with
      | nil =>
        have d0 : ds = [] := List.length_eq_zero_iff.mp n.symm
        subst d0
        rw [shownVL] at q1
        cases q1
        obtain ⟨its, r0, ⟨o, m, e1, e2, e3, e4⟩, _⟩ := I.list (SqL.of (hs _ _ h))
        have i0 : its = [] := by cases r0; rfl
        subst i0
        have ed : (PyData.list []).shown = listText [] := by simp [PyData.shown, PyData.shownAll]
        refine repr_of_reads' (d := .list []) (.list e1 e2 e4 .nil) (by simp [PyData.showable, PyData.showableAll]) (fun z => by simp [PyData.hasDict, PyData.hasDictAll] at z) hg (by simp [PyData.depth, PyData.depthAll]; omega) (fun _ _ z => z) (fun h' u tk hk => ?_) (by rw [ed]; exact hl)
        rw [ed]
        exact ⟨.str _, H, I.kept (t' := tk) hk, ⟨_, rfl⟩, q H nH⟩
      | cons w ws =>
        exact repr_listTop ji_ok (CU (htL ds)) (ji_list fun H nH => ne_same nH _ _ h) (as := AsN X.K G T (htL ds)) (ts := ts) (fun ⟨d', t', r', e', l'⟩ => by
          have := rp_ht I hs r' whole e' eV
          rw [ht] at this
          omega) ((shownVL_at q1).1.trans n.symm) (rkV_el I hs TO hj2 n r q1) hg (top _ hh) (fun b _ => Clear.nil b) (by show X.A.units + 1 + _ < cLine; omega) hJ hl fin
  | @tup a xs ds h n r =>
    have whole : Rp X.K G (.ref a) (.tup ds) := .tup h n r
    have eV := e
    rw [shownV] at e
    cases q1 : shownVL T ds with
    | none => rw [q1] at e; cases e
    | some ts =>
      rw [q1] at e
      cases e
      cases ru
      rw [ht] at hh
      exact repr_tupTop ji_ok (CU (htL ds)) (ji_tup fun H nH => sameT (ne_same nH) h) (as := AsN X.K G T (htL ds)) (ts := ts) (fun ⟨d', t', r', e', l'⟩ => by
          have := rp_ht I hs r' whole e' eV
          rw [ht] at this
          omega) ((shownVL_at q1).1.trans n.symm) (rkV_el I hs TO hj2 n r q1) hg (top _ hh) (fun b _ => Clear.nil b) (by show X.A.units + 1 + _ < cLine; omega) hJ hl fin
  | @dct a sh vs kvs h hk n r =>
    have whole : Rp X.K G (.ref a) (.dct kvs) := .dct h hk n r
    rw [shownV] at e
    cases q1 : shownKV kvs with
    | none => rw [q1] at e; cases e
    | some ps =>
      rw [q1] at e
      cases e
      cases ru
      obtain ⟨o, es, m, bs, e1, e2, e3, e4, e5, e6, e7⟩ := dct_reads I hs whole q1
      exact call_repr_slot (by omega) ⟨o, e1, e2⟩ PySem.F.slot_dict_repr (call_dict_reprK e1 e2 e3 e4 e5 e7 hg (fun b _ => Clear.nil b) (by show X.A.units + 1 + _ < cLine; omega) (fun _ _ z => z) (fun h' u tk hk => ⟨_, _, rfl, .str _, H, I.kept (t' := tk) hk, ⟨_, rfl⟩, q H nH⟩) hl)
  | @obj a C dx fvs fs h hc hk r =>
    have whole : Rp X.K G (.ref a) (.obj C fs) := .obj h hc hk r
    rw [shownV] at e
    cases ru
    obtain ⟨F, s', h1, h2⟩ := objText_of e
    obtain ⟨ps, M⟩ := TO C F h1
    obtain ⟨f, fd, FG, Me, fi, hb⟩ := M.ex
    obtain ⟨mm, fr⟩ := fr_of I
    obtain ⟨ox, od, J, _⟩ := inst_of I (hs _ _ h)
    have rm := (hr.mono (show j + 1 ≤ k by omega)).in1
    refine repr_K rm.units0 fr I.ok.mod.kin J Me.at_ Me.fn (wpAny_mono (runPure rfl rm hj2 FG hb I (.cons (show RelV (.ref a) (.ref a) from rfl) .nil) (ins_spR whole h2 H nH)) (fun z s3 hz => ?_) fun _ _ z => z)
    obtain ⟨v, H3, I3, rv3, ev, n3⟩ := hz
    subst ev
    obtain ⟨tk, rfl⟩ := rv3
    exact ⟨.str t, H3, I3, ⟨tk, rfl⟩, q H3 n3⟩
end
section
variable {X : Cx} {W : WX} {pa : Option Addr} {Γ : List Sl} {j k : Nat} {pos : Pos}
theorem ev_reprV {T : ReprT} {e : Expr} {m : PM D} {p : Pos} (C : Cok X W k) (TO : TOk X j T) (he : EV X W pa Γ e m) (hg : Gl X "repr") (hm : X.mg "repr" = none) (hj : autoParam (j + 14 ≤ k) EV.tac1) (hj2 : autoParam (j < 32) EV.tac1) (hk : autoParam (32 ≤ k) EV.tac1)
    (hs : autoParam (starEach [e] X.env = (false, eval e X.env) :: starEach [] X.env) EV.tac2) (hpl : autoParam ((backTo pos (starEach [] X.env)).any (·.1) = false) EV.tac2) : EV X W pa Γ (.Call (.Name "repr" p) [e] [] pos) (m >>= fun d => reprV T [d]) :=
  pe_imp (pe_callB (call_reprV C.room (C.guards hk) TO hj2 hj) hg hm (by decide +kernel) (pa_cons he pa_nil hs) (by decide) (by decide) hs hpl) fun σ H Q h_ => EV.ex4 h_ fun G0 H0 G s E P => ⟨G0, H0, G, s, E, P.bind.imp fun G1 H1 d s1 x1 p1 P1 v rv => by
    have P1 : Pst X.K W X.mg pa σ (FD X.K Q) G1 H1 ((match shownV T d with
      | some t => if ht d ≤ 40 ∧ t.length ≤ lim then pure (.str t) else bad
      | none => bad : PM D) s1) := P1
    cases e : shownV T d with
    | none => rw [e] at P1; exact P1.elim
    | some t =>
      rw [e] at P1
      by_cases hh : ht d ≤ 40 ∧ t.length ≤ lim
      · have P1 : Pst X.K W X.mg pa σ (FD X.K Q) G1 H1 ((if ht d ≤ 40 ∧ t.length ≤ lim then pure (.str t) else bad : PM D) s1) := P1
        rw [if_pos hh] at P1
        exact ⟨none, G1, v, d, t, rfl, ⟨x1.sub, x1.tk E.tk, x1.gt E.x.nt⟩, rv, e, hh.1, lim_le hh.2, fun H' h30_ => by obtain ⟨G', y, _, _⟩ := h30_; exact P1 G' H' y.any (p1.ext y) _ (.str t)⟩
      · have P1 : Pst X.K W X.mg pa σ (FD X.K Q) G1 H1 ((if ht d ≤ 40 ∧ t.length ≤ lim then pure (.str t) else bad : PM D) s1) := P1
        rw [if_neg hh] at P1
        exact P1.elim⟩
theorem calM_mono {P : Program} {w : World} {K : PySem.W.Frag} {mg : Str → Option Value} {base : Heap} {i j : Nat} {Cl : Addr} {m : Str} {ps : List Str} {sp : Sp} (M : CalM P w K mg base i Cl m ps sp) (h : i ≤ j) : CalM P w K mg base j Cl m ps sp := by
  obtain ⟨f, fd, F, a, b, c⟩ := M.ex
  exact ⟨f, fd, F.mono h, a, b, c⟩
theorem TOk.none {X : Cx} {j : Nat} : TOk X j (fun _ => Option.none) := fun _ _ h => by cases h
theorem TOk.put {X : Cx} {j : Nat} {T : ReprT} {Cl : Addr} {F : List D → PM D} {ps : List Str} (M : CalM X.prog X.w X.K X.mg X.base j Cl "__repr__" ps (spF X.K X.mg false 1 F)) (h : TOk X j T) : TOk X j (fun C => if C = Cl then some F else T C) := fun C G e => by
  by_cases hc : C = Cl
  · subst hc
    have e : (if C = C then some F else T C) = some G := e
    rw [if_pos rfl] at e
    cases e
    exact ⟨ps, M⟩
  · have e : (if C = Cl then some F else T C) = some G := e
    rw [if_neg hc] at e
    exact h C G e
end
end EV
set_option maxHeartbeats 2000000
namespace EV
open PySem PySem.Spec PyProof.Rows L2
noncomputable def repS (k : Nat) (x : Str) : Str := ⟨((List.replicate k x.cps.toList).flatten).toArray⟩
theorem foldl_cps (c : Array Nat) : ∀ (n : Nat) (acc : Array Nat), (List.replicate n c).foldl (· ++ ·) acc = (acc.toList ++ (List.replicate n c.toList).flatten).toArray
  | 0, acc => by simp
  | n + 1, acc => by
    rw [List.replicate_succ, List.foldl_cons, foldl_cps c n, List.replicate_succ, List.flatten_cons]
    simp
noncomputable def mulS : D → D → PM D
  | .str x, .int k => if 2 ≤ k ∧ k ≤ 1000 ∧ 1 ≤ x.length ∧ x.length ≤ 100 then pure (.str (repS k.toNat x)) else bad
  | _, _ => bad
theorem od_mulS {X : Cx} : OpD X (binaryOp .Mult) mulS := by
  refine ⟨fun x y H Q => ∃ z k, x = .str z ∧ y = .int k ∧ (2 ≤ k ∧ k ≤ 1000 ∧ 1 ≤ z.length ∧ z.length ≤ 100) ∧ Q (.str (repS k.toNat z)) H, ?_, fun W pa σ G H s x y a b Q hs hp ra rb P => ?_⟩
  · intro pins s σ H x y v u Q I rx ry h
    obtain ⟨z, k, rfl, rfl, ⟨c1, c2, c3, c4⟩, q⟩ := h
    obtain ⟨t, rfl⟩ := rx
    obtain ⟨t', rfl⟩ := ry
    have hk : k.toNat ≤ 1000 := by omega
    have hz : z.length * k.toNat ≤ 100 * 1000 := Nat.mul_le_mul c4 hk
    refine PySem.P.mul_str (by rw [decide_eq_false (by omega), decide_eq_false (by omega)]; rfl) (fun _ _ h => ?_) (fun _ _ => ?_) ?_
    · have e : (z.length : Int) * k = ((z.length * k.toNat : Nat) : Int) := by
        rw [Int.natCast_mul, Int.toNat_of_nonneg (by omega)]
      have : (z.length : Int) ≤ (2 ^ 63 - 1) / k := Int.le_ediv_of_mul_le (by omega) (by rw [e]; omega)
      omega
    · unfold Builtin.Str.tooLong
      refine decide_eq_false ?_
      rw [sizeLine_eq]
      omega
    · rw [if_neg (by omega), if_neg (by simp; omega), foldl_cps]
      refine ⟨?_, .str (repS k.toNat z), H, I.tok _, ⟨_, rfl⟩, q⟩
      show (((#[] : Array Nat).toList ++ (List.replicate k.toNat z.cps.toList).flatten).toArray).size ≤ sizeLine
      rw [List.size_toArray, List.length_append, List.length_flatten, List.map_replicate, List.sum_replicate_nat, sizeLine_eq]
      have : z.cps.toList.length = z.length := by simp [Str.length]
      rw [this, Nat.mul_comm]
      simp
      omega
  · cases ra with
    | str z =>
      cases rb with
      | int k =>
        have P : Pst X.K W X.mg pa σ (FD X.K Q) G H ((if 2 ≤ k ∧ k ≤ 1000 ∧ 1 ≤ z.length ∧ z.length ≤ 100 then pure (.str (repS k.toNat z)) else bad : PM D) s) := P
        by_cases g : 2 ≤ k ∧ k ≤ 1000 ∧ 1 ≤ z.length ∧ z.length ≤ 100
        · rw [if_pos g] at P
          exact ⟨z, k, rfl, rfl, g, P G H (Ext.refl hs) hp _ (.str _)⟩
        · rw [if_neg g] at P
          exact P.elim
      | _ => exact P.elim
    | _ => exact P.elim
end EV
set_option maxHeartbeats 2000000
namespace EV
open PySem PySem.Spec PyProof.Rows L2 PySem.W
section
variable {X : Cx} {W : WX} {pa : Option Addr} {Γ : List Sl} {pos p1 : Pos}
theorem ev_dict1 {i : Int} {j : Tok} {e : Expr} {m : PM D} (he : EV X W pa Γ e m) : EV X W pa Γ (.Dict [some (.Constant (.int i) j p1)] [e] pos) (m >>= fun d => pure (.dct [(.int i, d)])) :=
  pe_imp (pe_disp (pps_cons (pe_int (i := i)) he pps_nil) rfl rfl (by simp) (by show 1 ≤ 15; decide)) fun σ H Q ⟨G0, H0, G, s, E, P⟩ p np => by
  have gp : G p = none := E.sub.free np
  have x0 : Ext X.K pa G H G (upd H p (.dK [])) := Ext.newH E.sub np (.dK [])
  have p0 : PenOk pa G (upd H p (.dK [])) s := E.ps.updH np _
  have pq : pa ≠ some p := fun z => by
    have := (E.ps p z).2
    rw [np] at this
    cases this
  refine ⟨G0, H0, G, s, E.step x0 p0, ?_⟩
  rw [PM.bind_def] at P
  cases q : m s with
  | bad =>
    rw [q] at P
    exact P.elim
  | exc z =>
    rw [q] at P
    exact fun cls dx G' H' y w => P cls dx G' H' (x0.trans y) w
  | ok d s1 =>
    rw [q] at P
    intro G1 H1 x1 p1 v rv
    have hp : H1 p = some (.dK []) := x1.h p _ upd_same pq
    have gp1 : G1 p = none := x1.n p _ upd_same gp
    refine ⟨hp, [(.inl i, v)], rfl, (by show 1 ≤ 15; decide), ?_⟩
    have x := x0.trans x1
    have sg : Same G1 (upd G1 p (.dK [(.inl i, v)])) := fun a o e => by
      rw [upd_ne (ne_of_none e gp1)]
      exact e
    have y : Ext X.K pa G H (upd G1 p (.dK [(.inl i, v)])) (upd H1 p (.dK [(.inl i, v)])) := by
      refine ⟨x.g.trans sg, fun a o e n t => ?_, fun a o e => ?_, fun a o e n => ?_, fun a o e => ?_, fun h => (x.tk h).upd (fun _ z => by cases z) (fun φ z => ?_) (fun φ z => ?_), fun h => (x.gt h).upd (fun _ z => by cases z)⟩
      · rw [upd_ne (ne_of_none e np)]
        exact x.hh a o e n t
      · rw [upd_ne (ne_of_none e np)]
        exact x.t a o e
      · rw [upd_ne (ne_of_none e np)]
        exact x.n a o e n
      · by_cases h : a = p
        · subst h
          rw [upd_same] at e ⊢
          exact e
        · rw [upd_ne h] at e ⊢
          exact x.sub a o e
      · rw [hp] at z
        cases z
      · rw [hp] at z
        cases z
    refine P _ _ y (fun b e => ?_) _ (.dct (sh := .k [i]) (vs := [v]) upd_same rfl rfl fun n v' d' e1 e2 => ?_)
    · obtain ⟨q1, q2⟩ := p1 b e
      have ne : b ≠ p := fun z => pq (z ▸ e)
      rw [upd_ne ne, upd_ne ne]
      exact ⟨q1, q2⟩
    · cases n with
      | zero =>
        cases e1
        cases e2
        exact rv.mono sg
      | succ n => simp at e1
end
end EV
set_option maxHeartbeats 2000000
namespace EV
open PySem PySem.Spec PyProof.Rows L2 PySem.W
noncomputable def mulS1 : D → D → PM D
  | .str x, .int k => if k = 1 then (if x.length ≤ lim then pure (.str x) else bad) else mulS (.str x) (.int k)
  | a, b => bad
theorem od_mulS1 {X : Cx} : OpD X (binaryOp .Mult) mulS1 := by
  obtain ⟨r, h1, h2⟩ := od_mulS (X := X)
  refine ⟨fun x y H Q => (∃ z, x = .str z ∧ y = .int 1 ∧ z.length ≤ sizeLine ∧ Q (.str z) H) ∨ r x y H Q, ?_, fun W pa σ G H s x y a b Q hs hp ra rb P => ?_⟩
  · intro pins s σ H x y v u Q I rx ry h
    rcases h with ⟨z, rfl, rfl, hz, q⟩ | h
    · obtain ⟨t, rfl⟩ := rx
      obtain ⟨t', rfl⟩ := ry
      refine PySem.P.mul_str (by decide) (fun _ h => by cases h) (fun _ h => by cases h) ?_
      rw [if_neg (by decide), if_pos (by simp)]
      exact ⟨.str z, H, I, ⟨_, rfl⟩, q⟩
    · exact h1 pins s σ H x y v u Q I rx ry h
  · cases ra with
    | str z =>
      cases rb with
      | int k =>
        have P : Pst X.K W X.mg pa σ (FD X.K Q) G H ((if k = 1 then (if z.length ≤ lim then pure (.str z) else bad) else mulS (.str z) (.int k) : PM D) s) := P
        by_cases g : k = 1
        · subst g
          rw [if_pos rfl] at P
          by_cases g : z.length ≤ lim
          · rw [if_pos g] at P
            exact .inl ⟨z, rfl, rfl, lim_le g, P G H (Ext.refl hs) hp _ (.str _)⟩
          · rw [if_neg g] at P
            exact P.elim
        · rw [if_neg g] at P
          exact .inr (h2 W pa σ G H s _ _ _ _ Q hs hp (.str z) (.int k) P)
      | _ => exact P.elim
    | _ => exact P.elim
end EV
set_option maxHeartbeats 1000000
namespace EV
open PySem PySem.Spec PyProof.Rows L2
/-- the same to look at, but nobody may wake it -/
noncomputable def pzG : GenState → GenState
  | .suspended _ l c p fs cl => .suspended (fun _ => .unsupported "") l c p fs cl
  | x => x
noncomputable def isSus : GenState → Bool
  | .suspended .. => true
  | _ => false
structure GoodB (B : Nat → Option GenState) (s : Shared) : Prop where
  sl : ∀ i r, B i = some r → isSus r = true ∧ s.gens[i]? = some (pzG r)
  ot : ∀ i k l c p fs cl, B i = none → s.gens[i]? = some (.suspended k l c p fs cl) → splitAtGen fs = none
section
variable {B : Nat → Option GenState} {s : Shared}
theorem GoodB.set (h : GoodB B s) {g : Nat} {x : GenState} (hg : B g = none) (hx : ∀ k l c p fs cl, x = .suspended k l c p fs cl → splitAtGen fs = none) : GoodB B (s.setGen g x) := by
  refine ⟨fun i r e => ?_, fun i k l c p fs cl e q => ?_⟩
  · have ne : i ≠ g := fun z => by rw [z, hg] at e; cases e
    obtain ⟨h1, h2⟩ := h.sl i r e
    refine ⟨h1, ?_⟩
    show (s.gens.setIfInBounds g x)[i]? = _
    rw [Array.getElem?_setIfInBounds_ne (Ne.symm ne)]
    exact h2
  · have q : (s.gens.setIfInBounds g x)[i]? = some (.suspended k l c p fs cl) := q
    by_cases hi : i = g
    · subst hi
      by_cases hl : i < s.gens.size
      · rw [Array.getElem?_setIfInBounds_self_of_lt hl] at q
        exact hx _ _ _ _ _ _ (Option.some.inj q)
      · rw [Array.getElem?_eq_none (by rw [Array.size_setIfInBounds]; omega)] at q
        cases q
    · rw [Array.getElem?_setIfInBounds_ne (Ne.symm hi)] at q
      exact h.ot i _ _ _ _ _ _ e q
theorem GoodB.size_none (h : GoodB B s) : B s.gens.size = none := by
  cases q : B s.gens.size with
  | none => rfl
  | some r =>
    obtain ⟨_, h2⟩ := h.sl _ r q
    rw [Array.getElem?_eq_none (Nat.le_refl _)] at h2
    cases h2
theorem GoodB.push (h : GoodB B s) {x : GenState} (hx : isSus x = false) : GoodB B { s with gens := s.gens.push x } := by
  refine ⟨fun i r e => ?_, fun i k l c p fs cl e q => ?_⟩
  · obtain ⟨h1, h2⟩ := h.sl i r e
    refine ⟨h1, ?_⟩
    have ne : i ≠ s.gens.size := fun z => by rw [z, h.size_none] at e; cases e
    show (s.gens.push x)[i]? = _
    rw [Array.getElem?_push, if_neg ne]
    exact h2
  · have q : (s.gens.push x)[i]? = some (.suspended k l c p fs cl) := q
    rw [Array.getElem?_push] at q
    by_cases hi : i = s.gens.size
    · rw [if_pos hi] at q
      cases Option.some.inj q
      cases hx
    · rw [if_neg hi] at q
      exact h.ot i _ _ _ _ _ _ e q
end
end EV
namespace EV
open PySem PyProof.Rows L2
inductive Sm : Nat → Nat → D → Prop
  | non {h b : Nat} : Sm h b .non
  | bl {h b : Nat} (x : Bool) : Sm h b (.bl x)
  | int {h b : Nat} {i : Int} (h1 : -2 ≤ i) (h2 : i < 300) : Sm h b (.int i)
  | str {h b : Nat} {x : Str} (h1 : PyData.strOk x = true) (h2 : x.cps.size ≤ b) : Sm h b (.str x)
  | tup {h b c : Nat} {xs : List D} (h1 : ∀ x, x ∈ xs → Sm h c x) (h2 : xs.length * (c + 1) ≤ b) : Sm (h + 1) b (.tup xs)
  | lst {h b c : Nat} {xs : List D} (h1 : ∀ x, x ∈ xs → Sm h c x) (h2 : xs.length * (c + 1) ≤ b) : Sm (h + 1) b (.lst xs)
theorem all_lay : ∀ {xs : List D}, (∀ x ∈ xs, (toPy x).canLay0 = true) → PyData.canLayAll0 (toPyL xs) = true
  | [], _ => by simp only [toPyL, PyData.canLayAll0]
  | x :: xs, h => by
    simp only [toPyL, PyData.canLayAll0, h x List.mem_cons_self, all_lay (fun y m => h y (List.mem_cons_of_mem _ m)), Bool.and_self]
theorem all_short : ∀ {xs : List D}, (∀ x ∈ xs, (toPy x).leavesShort 13 = true) → PyData.leavesShortAll 13 (toPyL xs) = true
  | [], _ => by simp only [toPyL, PyData.leavesShortAll]
  | x :: xs, h => by
    simp only [toPyL, PyData.leavesShortAll, h x List.mem_cons_self, all_short (fun y m => h y (List.mem_cons_of_mem _ m)), Bool.and_self]
theorem all_ok : ∀ {xs : List D}, (∀ x ∈ xs, okD x = true) → okDL xs = true
  | [], _ => by simp only [okDL]
  | x :: xs, h => by
    simp only [okDL, h x List.mem_cons_self, all_ok (fun y m => h y (List.mem_cons_of_mem _ m)), Bool.and_self]
theorem all_deep {k : Nat} : ∀ {xs : List D}, (∀ x ∈ xs, (toPy x).depth ≤ k) → PyData.depthAll (toPyL xs) ≤ k
  | [], _ => by simp only [toPyL, PyData.depthAll]; exact Nat.zero_le _
  | x :: xs, h => by
    have h1 := h x List.mem_cons_self
    have h2 := all_deep (xs := xs) (fun y m => h y (List.mem_cons_of_mem _ m))
    simp only [toPyL, PyData.depthAll]
    omega
theorem all_bulk {k : Nat} : ∀ {xs : List D}, (∀ x ∈ xs, (toPy x).bulk ≤ k) → PyData.bulkAll (toPyL xs) ≤ xs.length * (k + 1)
  | [], _ => by simp only [toPyL, PyData.bulkAll]; exact Nat.zero_le _
  | x :: xs, h => by
    have h1 := h x List.mem_cons_self
    have h2 := all_bulk (xs := xs) (fun y m => h y (List.mem_cons_of_mem _ m))
    simp only [toPyL, PyData.bulkAll, List.length_cons, Nat.succ_mul]
    omega
theorem shortI : ∀ n : Fin 302, (PyData.shown (.int ((n.val : Int) - 2))).length ≤ 13 := by decide +kernel
theorem logI : ∀ n : Fin 302, decide ((((n.val : Int) - 2).natAbs).log2 < 1920) = true := by decide +kernel
theorem Sm.facts {h b : Nat} {d : D} (s : Sm h b d) : (toPy d).canLay0 = true ∧ (toPy d).leavesShort 13 = true ∧ okD d = true ∧ (toPy d).depth ≤ h ∧ (toPy d).bulk ≤ b := by
  induction s with
  | non => simp [toPy, PyData.canLay0, PyData.leavesShort, okD, PyData.depth, PyData.bulk]
  | bl => simp [toPy, PyData.canLay0, PyData.leavesShort, okD, PyData.depth, PyData.bulk]
  | @int h b i h1 h2 =>
    have e : i = (((⟨(i + 2).toNat, by omega⟩ : Fin 302).val : Nat) : Int) - 2 := by
      show i = (((i + 2).toNat : Nat) : Int) - 2
      omega
    refine ⟨by simp [toPy, PyData.canLay0], ?_, ?_, by simp [toPy, PyData.depth], by simp [toPy, PyData.bulk]⟩
    · simp only [toPy, PyData.leavesShort, decide_eq_true_eq]
      rw [e]
      exact shortI _
    · simp only [okD]
      rw [e]
      exact logI _
  | @str h b x h1 h2 =>
    refine ⟨by simpa [toPy, PyData.canLay0] using h1, ?_, by simp [okD], by simp [toPy, PyData.depth], by simpa [toPy, PyData.bulk] using h2⟩
    simp only [toPy, PyData.leavesShort, List.all_eq_true, decide_eq_true_eq]
    intro c hc
    unfold PyData.strOk at h1
    have z := Array.all_eq_true'.mp h1 c (by simpa using hc)
    have z : c < 0x110000 := by simpa using z
    exact EV.w_le (by assumption) (by decide)
  | @tup h b c xs h1 h2 ih =>
    simp only [toPy, PyData.canLay0, PyData.leavesShort, okD, PyData.depth, PyData.bulk]
    have z := all_deep fun x m => (ih x m).2.2.2.1
    have y := all_bulk fun x m => (ih x m).2.2.2.2
    exact ⟨all_lay fun x m => (ih x m).1, all_short fun x m => (ih x m).2.1, all_ok fun x m => (ih x m).2.2.1, by exact Nat.lt_succ_of_le (by assumption), by exact Nat.le_trans (by assumption) (by assumption)⟩
  | @lst h b c xs h1 h2 ih =>
    simp only [toPy, PyData.canLay0, PyData.leavesShort, okD, PyData.depth, PyData.bulk]
    have z := all_deep fun x m => (ih x m).2.2.2.1
    have y := all_bulk fun x m => (ih x m).2.2.2.2
    exact ⟨all_lay fun x m => (ih x m).1, all_short fun x m => (ih x m).2.1, all_ok fun x m => (ih x m).2.2.1, by exact Nat.lt_succ_of_le (by assumption), by exact Nat.le_trans (by assumption) (by assumption)⟩
theorem Sm.mono {h b h' b' : Nat} {d : D} (s : Sm h b d) (e1 : h ≤ h') (e2 : b ≤ b') : Sm h' b' d := by
  induction s generalizing h' b' with
  | non => exact .non
  | bl x => exact .bl x
  | int h1 h2 => exact .int h1 h2
  | str h1 h2 => exact .str h1 (by exact Nat.le_trans (by assumption) (by assumption))
  | @tup h b c xs h1 h2 ih =>
    obtain ⟨k, rfl⟩ : ∃ k, h' = k + 1 := ⟨h' - 1, by omega⟩
    exact .tup (c := c) (fun x m => ih x m (by exact Nat.le_of_lt_succ (by assumption)) (Nat.le_refl _)) (by exact Nat.le_trans (by assumption) (by assumption))
  | @lst h b c xs h1 h2 ih =>
    obtain ⟨k, rfl⟩ : ∃ k, h' = k + 1 := ⟨h' - 1, by omega⟩
    exact .lst (c := c) (fun x m => ih x m (by exact Nat.le_of_lt_succ (by assumption)) (Nat.le_refl _)) (by exact Nat.le_trans (by assumption) (by assumption))
theorem Sm.repr {h b : Nat} {d : D} (s : Sm h b d) (e1 : autoParam (h ≤ 60) EV.tac11) (e2 : autoParam (b ≤ 60000) EV.tac11) : reprF [d] = pure (.str (shown d)) := by
  have f := s.facts
  have l := PyData.shown_le_bulk 13 (by decide) (toPy d) f.2.1
  show (if okD d = true ∧ (toPy d).depth ≤ 60 ∧ (shown d).length ≤ lim then pure (.str (shown d)) else bad : PM D) = _
  exact if_pos ⟨f.2.2.1, by omega, by show (toPy d).shown.length ≤ 1000000; omega⟩
noncomputable def iota (n : Nat) : List Int := (List.range n).map fun (i : Nat) => (i : Int)
theorem mem_iota {n : Nat} {x : Int} : x ∈ iota n ↔ 0 ≤ x ∧ x < n := by
  unfold iota
  rw [List.mem_map]
  constructor
  · rintro ⟨i, h, rfl⟩
    rw [List.mem_range] at h
    omega
  · rintro ⟨h1, h2⟩
    exact EV.in1_2 (x.toNat) (List.mem_range.mpr (by omega)) (by omega)
theorem len_iota (n : Nat) : (iota n).length = n := by simp [iota]
theorem iota_asc (n : Nat) : (iota n).Pairwise (· < ·) := by
  unfold iota
  rw [List.pairwise_map]
  exact List.pairwise_lt_range.imp fun h => by exact Int.ofNat_lt.mpr (by assumption)
theorem iota_get {n i : Nat} (h : i < n) : (iota n)[i]? = some (i : Int) := by
  simp [iota, h]
theorem rangeL_iota (n : Nat) : rangeL 0 n = (iota n).map D.int := by
  unfold rangeL iota
  rw [List.map_map]
  exact List.map_congr_left fun i _ => by simp
noncomputable abbrev tI (ns : List Int) : D := .tup (ns.map .int)
noncomputable abbrev lI (ns : List Int) : D := .lst (ns.map .int)
theorem range1 {n : Nat} (h : autoParam (n ≤ lim) EV.tac11) : rangeF1 [.int n] = pure ((iota n).map D.int) := by
  have h : n ≤ 1000000 := h
  unfold rangeF1 rangeF
  dsimp only
  rw [if_pos ⟨by exact Int.natCast_nonneg _, by omega⟩, Int.toNat_natCast, rangeL_iota]
theorem okL_ok {xs : List D} (h : xs.length ≤ lim) : okL xs = pure xs := if_pos h
theorem sortedI {ns : List Int} (h : ns.length ≤ lim) : sortedG [lI ns] = pure (lI (sortI ns)) := by
  have e : intsQ [lI ns] = true := by
    show (intsOf (ns.map D.int)).isSome = true
    rw [intsOf_map]
    rfl
  unfold sortedG
  rw [if_pos e]
  show (match intsOf (ns.map D.int) with | some ns => mkL ((sortI ns).map D.int) | none => bad : PM D) = _
  rw [intsOf_map]
  exact mkL_ok (by rw [List.length_map, (sortI_perm ns).length_eq]; exact h)
theorem tupleL {xs : List D} (h : xs.length ≤ lim) : tupleF [.lst xs] = pure (.tup xs) := mkT_ok h
theorem asc_of_sorted {l : List Int} (h1 : l.Pairwise (· ≤ ·)) (h2 : l.Nodup) : l.Pairwise (· < ·) := by
  have h2 : l.Pairwise (· ≠ ·) := h2
  exact (h1.and h2).imp fun h => by omega
theorem asc_nodup {l : List Int} (h : l.Pairwise (· < ·)) : l.Nodup := h.imp fun h => by exact Int.ne_of_lt (by assumption)
theorem sortI_nodup {l : List Int} (h : l.Nodup) : (sortI l).Pairwise (· < ·) := asc_of_sorted (sortI_sorted l) ((sortI_perm l).nodup_iff.mpr h)
noncomputable def ix {α : Type} [Inhabited α] (l : List α) (i : Int) : α := l.getD i.toNat default
theorem ix_get {α : Type} [Inhabited α] {l : List α} {i : Int} (h0 : 0 ≤ i) (h1 : i < l.length) : l[i.toNat]? = some (ix l i) := by
  unfold ix
  rw [List.getD_eq_getElem?_getD, List.getElem?_eq_getElem (by omega)]
  rfl
theorem ix_mem {α : Type} [Inhabited α] {l : List α} {i : Int} (h0 : 0 ≤ i) (h1 : i < l.length) : ix l i ∈ l := List.mem_of_getElem? (ix_get h0 h1)
theorem atI_ix {α : Type} [Inhabited α] {l : List α} {i : Int} (h0 : 0 ≤ i) (h1 : i < l.length) : atI l i = some (ix l i) := by
  unfold atI ixN
  rw [if_pos h0, if_pos h1]
  exact ix_get h0 h1
theorem getT {α : Type} [Inhabited α] {l : List α} {f : α → D} {i : Int} (h0 : 0 ≤ i) (h1 : i < l.length) : getD (.tup (l.map f)) (.int i) = pure (f (ix l i)) := by
  show (match atI (l.map f) i with | some d => pure d | none => bad : PM D) = _
  rw [atI_map, atI_ix h0 h1]
  rfl
theorem getL {α : Type} [Inhabited α] {l : List α} {f : α → D} {i : Int} (h0 : 0 ≤ i) (h1 : i < l.length) : getD (.lst (l.map f)) (.int i) = pure (f (ix l i)) := by
  show (match atI (l.map f) i with | some d => pure d | none => bad : PM D) = _
  rw [atI_map, atI_ix h0 h1]
  rfl
theorem ix_map {α β : Type} [Inhabited α] [Inhabited β] {l : List α} {f : α → β} {i : Int} (h0 : 0 ≤ i) (h1 : i < l.length) : ix (l.map f) i = f (ix l i) := by
  have z := ix_get (l := l.map f) h0 (by simpa using h1)
  rw [List.getElem?_map, ix_get h0 h1] at z
  exact (Option.some.inj z).symm
theorem ix_iota {n : Nat} {i : Int} (h0 : 0 ≤ i) (h1 : i < n) : ix (iota n) i = i := by
  have z := ix_get (l := iota n) h0 (by rw [len_iota]; exact h1)
  rw [iota_get (by omega)] at z
  have z := Option.some.inj z
  omega
theorem eqv_int {a b : Int} : eqvD (.int a) (.int b) = (a == b) := rfl
theorem any_int {x : Int} {ns : List Int} : ((ns.map D.int).any fun z => eqvD z (.int x)) = decide (x ∈ ns) := by
  rw [Bool.eq_iff_iff, List.any_eq_true, decide_eq_true_eq]
  constructor
  · rintro ⟨z, hz, e⟩
    (refine EV.el1_2 (List.mem_map.mp hz) fun n hn q255_ => ?_; obtain rfl := q255_)
    rw [eqv_int, beq_iff_eq] at e
    exact e ▸ hn
  · intro h
    exact EV.in1_2 (.int x) (List.mem_map.mpr (EV.in1_2 x h rfl)) (by rw [eqv_int, beq_iff_eq])
/-- all of them small -/
noncomputable def SmI (ns : List Int) : Prop := ∀ n ∈ ns, -2 ≤ n ∧ n < 300
theorem SmI.smT {ns : List Int} (h : SmI ns) : Sm 1 ns.length (tI ns) := .tup (c := 0) (fun x m => by
  (refine EV.el1_2 (List.mem_map.mp m) fun n hn q256_ => ?_; obtain rfl := q256_)
  exact .int (h n hn).1 (h n hn).2) (by rw [List.length_map]; omega)
theorem shpI {x : Int} : shp (.int x) = true := by
  unfold EV.shp SeqAt.shaped
  simp [toPy, PyData.canLay0, PyData.depth]
theorem allI_lay : ∀ ns : List Int, PyData.canLayAll0 (toPyL (ns.map D.int)) = true := fun ns => all_lay fun x m => by
  (refine EV.el1_2 (List.mem_map.mp m) fun n hn q257_ => ?_; obtain rfl := q257_)
  simp [toPy, PyData.canLay0]
theorem allI_deep (ns : List Int) : PyData.depthAll (toPyL (ns.map D.int)) ≤ 0 := all_deep fun x m => by
  (refine EV.el1_2 (List.mem_map.mp m) fun n hn q258_ => ?_; obtain rfl := q258_)
  simp [toPy, PyData.depth]
theorem shpTI (ns : List Int) : shp (tI ns) = true := by
  unfold EV.shp SeqAt.shaped
  have z := allI_deep ns
  simp only [toPy, PyData.canLay0, PyData.depth, allI_lay, Bool.true_and, decide_eq_true_eq]
  omega
theorem shpLI (ns : List Int) : shp (lI ns) = true := by
  unfold EV.shp SeqAt.shaped
  have z := allI_deep ns
  simp only [toPy, PyData.canLay0, PyData.depth, allI_lay, Bool.true_and, decide_eq_true_eq]
  omega
theorem inT (x : Int) (ns : List Int) : inD (.int x) (tI ns) = pure (.bl (decide (x ∈ ns))) := by
  show (if shp (.int x) = true ∧ shp (tI ns) = true then pure (.bl ((ns.map D.int).any fun z => eqvD z (.int x))) else bad : PM D) = _
  rw [if_pos ⟨shpI, shpTI ns⟩, any_int]
theorem inL (x : Int) (ns : List Int) : inD (.int x) (lI ns) = pure (.bl (decide (x ∈ ns))) := by
  show (if shp (.int x) = true ∧ shp (lI ns) = true then pure (.bl ((ns.map D.int).any fun z => eqvD z (.int x))) else bad : PM D) = _
  rw [if_pos ⟨shpI, shpLI ns⟩, any_int]
theorem ninT (x : Int) (ns : List Int) : notInD (.int x) (tI ns) = pure (.bl (!decide (x ∈ ns))) := by
  show (if shp (.int x) = true ∧ shp (tI ns) = true then pure (.bl (!(ns.map D.int).any fun z => eqvD z (.int x))) else bad : PM D) = _
  rw [if_pos ⟨shpI, shpTI ns⟩, any_int]
theorem ninL (x : Int) (ns : List Int) : notInD (.int x) (lI ns) = pure (.bl (!decide (x ∈ ns))) := by
  show (if shp (.int x) = true ∧ shp (lI ns) = true then pure (.bl (!(ns.map D.int).any fun z => eqvD z (.int x))) else bad : PM D) = _
  rw [if_pos ⟨shpI, shpLI ns⟩, any_int]
theorem neInt (a b : Int) : neD (.int a) (.int b) = pure (.bl (decide (a ≠ b))) := by
  show (if shp (.int a) = true ∧ shp (.int b) = true then pure (.bl (!eqvD (.int a) (.int b))) else bad : PM D) = _
  rw [if_pos ⟨shpI, shpI⟩, eqv_int, show (a == b) = decide (a = b) from by rw [Bool.eq_iff_iff, beq_iff_eq, decide_eq_true_eq]]
  by_cases h : a = b <;> simp [h]
theorem eqInt (a b : Int) : eqD (.int a) (.int b) = pure (.bl (decide (a = b))) := by
  show (if shp (.int a) = true ∧ shp (.int b) = true then pure (.bl (eqvD (.int a) (.int b))) else bad : PM D) = _
  rw [if_pos ⟨shpI, shpI⟩, eqv_int, show (a == b) = decide (a = b) from by rw [Bool.eq_iff_iff, beq_iff_eq, decide_eq_true_eq]]
/-- over ints -/
theorem compI {c : D → PM Bool} {e : D → PM D} (b : Int → Bool) (f : Int → D) {ns : List Int} (hl : ns.length ≤ lim) (hc : ∀ n ∈ ns, c (.int n) = pure (b n)) (he : ∀ n ∈ ns, b n = true → e (.int n) = pure (f n)) :
    compL dec1 c e (ns.map D.int) = pure ((ns.filter b).map f) := by
  unfold compL
  rw [if_pos (by rw [List.length_map]; exact hl)]
  clear hl
  induction ns with
  | nil => rfl
  | cons n ns ih =>
    have ih := ih (fun y m => hc y (List.mem_cons_of_mem _ m)) (fun y m => he y (List.mem_cons_of_mem _ m))
    rw [List.map_cons]
    unfold compG
    show (noExc (c (.int n)) >>= _) = _
    rw [hc n List.mem_cons_self, noExc_pure, pure_bind]
    by_cases q : b n = true
    · rw [if_pos q, he n List.mem_cons_self q, noExc_pure, pure_bind, ih, pure_bind, List.filter_cons_of_pos q, List.map_cons]
    · rw [if_neg q, ih, List.filter_cons_of_neg q]
/-- no test -/
theorem compIm {c : D → PM Bool} {e : D → PM D} (f : Int → D) {ns : List Int} (hl : ns.length ≤ lim) (hc : ∀ z, c z = pure true) (he : ∀ n ∈ ns, e (.int n) = pure (f n)) :
    compL dec1 c e (ns.map D.int) = pure (ns.map f) := by
  rw [compI (fun _ => true) f hl (fun n _ => hc _) (fun n m _ => he n m), List.filter_eq_self.mpr fun _ _ => rfl]
theorem compPm {ι κ : Type} {dec : D → Option ι} {c : ι → PM Bool} {e : ι → PM D} (g : κ → ι) (f : κ → D) {ds : List D} {zs : List κ} (h : ds.map dec = zs.map fun z => some (g z)) (hl : ds.length ≤ lim) (hc : ∀ z, c z = pure true) (he : ∀ z ∈ zs, e (g z) = pure (f z)) :
    compL dec c e ds = pure (zs.map f) := by
  unfold compL
  rw [if_pos hl]
  clear hl
  induction zs generalizing ds with
  | nil =>
    cases ds with
    | nil => rfl
    | cons _ _ => simp at h
  | cons z zs ih =>
    cases ds with
    | nil => simp at h
    | cons d ds =>
      rw [List.map_cons, List.map_cons] at h
      injection h with h1 h2
      have ih := ih h2 (fun y m => he y (List.mem_cons_of_mem _ m))
      unfold compG
      rw [h1]
      show (noExc (c (g z)) >>= _) = _
      rw [hc, noExc_pure, pure_bind, if_pos rfl, he z List.mem_cons_self, noExc_pure, pure_bind, ih, pure_bind, List.map_cons]
/-- pairs, with a test -/
theorem compPf {ι κ : Type} {dec : D → Option ι} {c : ι → PM Bool} {e : ι → PM D} (g : κ → ι) (b : κ → Bool) (f : κ → D) {ds : List D} {zs : List κ} (h : ds.map dec = zs.map fun z => some (g z)) (hl : ds.length ≤ lim) (hc : ∀ z ∈ zs, c (g z) = pure (b z)) (he : ∀ z ∈ zs, b z = true → e (g z) = pure (f z)) :
    compL dec c e ds = pure ((zs.filter b).map f) := by
  unfold compL
  rw [if_pos hl]
  clear hl
  induction zs generalizing ds with
  | nil =>
    cases ds with
    | nil => rfl
    | cons _ _ => simp at h
  | cons z zs ih =>
    cases ds with
    | nil => simp at h
    | cons d ds =>
      rw [List.map_cons, List.map_cons] at h
      injection h with h1 h2
      have ih := ih h2 (fun y m => hc y (List.mem_cons_of_mem _ m)) (fun y m => he y (List.mem_cons_of_mem _ m))
      unfold compG
      rw [h1]
      show (noExc (c (g z)) >>= _) = _
      rw [hc z List.mem_cons_self, noExc_pure, pure_bind]
      by_cases q : b z = true
      · rw [if_pos q, he z List.mem_cons_self q, noExc_pure, pure_bind, ih, pure_bind, List.filter_cons_of_pos q, List.map_cons]
      · rw [if_neg q, ih, List.filter_cons_of_neg q]
theorem forL_goP {ι κ : Type} {dec : D → Option ι} {body : Unit → ι → PM (Lp Unit)} (g : κ → ι) {ds : List D} {zs : List κ} (h : ds.map dec = zs.map fun z => some (g z)) (hb : ∀ z ∈ zs, body () (g z) = pure (.go ())) : forL dec body ds () = pure (.go ()) := by
  induction zs generalizing ds with
  | nil =>
    cases ds with
    | nil => rfl
    | cons _ _ => simp at h
  | cons z zs ih =>
    cases ds with
    | nil => simp at h
    | cons d ds =>
      rw [List.map_cons, List.map_cons] at h
      injection h with h1 h2
      unfold forL
      rw [h1]
      show (body () (g z) >>= _) = _
      rw [hb z List.mem_cons_self, pure_bind]
      exact ih h2 fun y m => hb y (List.mem_cons_of_mem _ m)
theorem while_ok {C : Type} {mc : C → PM Bool} {mb : C → PM C} (I : C → Prop) (μ : C → Nat) (Q : C → Prop)
    (h : ∀ c, I c → (mc c = pure false ∧ Q c) ∨ (mc c = pure true ∧ ∃ c', mb c = pure c' ∧ I c' ∧ μ c' < μ c)) : ∀ n c, I c → μ c < n → ∃ c', whileS mc mb n c = pure c' ∧ Q c'
  | 0, c, _, hn => absurd hn (by exact absurd (by assumption) (Nat.not_lt_zero _))
  | n + 1, c, hi, hn => by
    rcases h c hi with ⟨e, q⟩ | ⟨e, c', e2, i2, lt⟩
    · exact EV.in1_2 c (by unfold whileS; rw [e, pure_bind]; rfl) q
    · refine EV.el1_2 (while_ok I μ Q h n c' i2 (by omega)) fun c2 e3 q => ?_
      exact EV.in1_2 c2 (by unfold whileS; rw [e, pure_bind, if_pos rfl, e2, pure_bind, e3]) q
theorem while_then {C β : Type} {mc : C → PM Bool} {mb : C → PM C} {kk : C → PM β} {v : PM β} {n : Nat} {c : C} (I : C → Prop) (μ : C → Nat) (Q : C → Prop)
    (h : ∀ c, I c → (mc c = pure false ∧ Q c) ∨ (mc c = pure true ∧ ∃ c', mb c = pure c' ∧ I c' ∧ μ c' < μ c)) (hi : I c) (hn : μ c < n) (hk : ∀ c, Q c → kk c = v) : (whileS mc mb n c >>= kk) = v := by
  refine EV.el1_2 (while_ok I μ Q h n c hi hn) fun c' e q => ?_
  rw [e, pure_bind, hk c' q]
/-- pairs of an enumerate -/
theorem pairs_dec : ∀ (k : Nat) (xs : List D), (pairsFrom k xs).map dec2 = (xs.zipIdx k).map fun z => some (D.int z.2, z.1)
  | _, [] => rfl
  | k, x :: xs => by
    unfold pairsFrom
    rw [List.map_cons, pairs_dec (k + 1) xs, List.zipIdx_cons, List.map_cons]
    rfl
theorem pairs_len : ∀ (k : Nat) (xs : List D), (pairsFrom k xs).length = xs.length
  | _, [] => rfl
  | k, x :: xs => by
    unfold pairsFrom
    rw [List.length_cons, pairs_len (k + 1) xs, List.length_cons]
theorem asc_len : ∀ {l : List Int} {a b : Int}, l.Pairwise (· < ·) → (∀ x ∈ l, a ≤ x ∧ x < b) → l.length ≤ (b - a).toNat
  | [], _, _, _, _ => Nat.zero_le _
  | x :: r, a, b, h, hb => by
    have q := List.pairwise_cons.mp h
    have z := hb x List.mem_cons_self
    have ih := asc_len (l := r) (a := x + 1) (b := b) q.2 fun y m => ⟨by have := q.1 y m; assumption, (hb y (List.mem_cons_of_mem _ m)).2⟩
    rw [List.length_cons]
    omega
theorem nodup_len {l : List Int} {n : Nat} (h : l.Nodup) (hb : ∀ x ∈ l, 0 ≤ x ∧ x < n) : l.length ≤ n := by
  have z := asc_len (a := 0) (b := n) (sortI_nodup h) fun x m => hb x ((sortI_perm l).mem_iff.mp m)
  rw [(sortI_perm l).length_eq] at z
  assumption
theorem scal_ints (ns : List Int) : scalL (lI ns) = pure (ns.map D.int) := by
  show (if (ns.map D.int).all scalD = true then pure (ns.map D.int) else bad : PM (List D)) = _
  exact if_pos (List.all_eq_true.mpr fun x m => by
    (refine EV.el1_2 (List.mem_map.mp m) fun n _ q259_ => ?_; obtain rfl := q259_)
    rfl)
theorem forS_inv {C : Type} {body : C → D → PM C} (P : Nat → C → Prop) : ∀ {ns : List Int} {k : Nat} {c : C}, P k c → (∀ i n c, ns[i]? = some n → P (k + i) c → ∃ c', body c (.int n) = pure c' ∧ P (k + i + 1) c') → ∃ c', forS dec1 body (ns.map D.int) c = pure c' ∧ P (k + ns.length) c' := by
  intro ns
  induction ns with
  | nil => intro k c h _; exact ⟨c, rfl, h⟩
  | cons n ns ih =>
    intro k c h hb
    obtain ⟨c1, e1, h1⟩ := hb 0 n c rfl h
    obtain ⟨c2, e2, h2⟩ := ih (k := k + 1) (c := c1) h1 fun i m c hi hp => by
      have z := hb (i + 1) m c hi (by rw [show k + (i + 1) = k + 1 + i from Nat.add_right_comm k i 1]; exact hp)
      rw [show k + (i + 1) = k + 1 + i from Nat.add_right_comm k i 1] at z
      exact z
    refine ⟨c2, ?_, by rw [List.length_cons, show k + (ns.length + 1) = k + 1 + ns.length from Nat.add_right_comm k ns.length 1]; exact h2⟩
    rw [List.map_cons]
    show (body c (.int n) >>= forS dec1 body (ns.map D.int)) = _
    rw [e1, pure_bind, e2]
theorem forS_then {C β : Type} {body : C → D → PM C} {kk : C → PM β} {v : PM β} {ns : List Int} {c : C} (P : Nat → C → Prop) (h0 : P 0 c) (hb : ∀ i n c, ns[i]? = some n → P i c → ∃ c', body c (.int n) = pure c' ∧ P (i + 1) c') (hk : ∀ c, P ns.length c → kk c = v) :
    (forS dec1 body (ns.map D.int) c >>= kk) = v := by
  obtain ⟨c', e, q⟩ := forS_inv P (k := 0) h0 fun i n c e h => by
    rw [Nat.zero_add] at h ⊢
    exact hb i n c e h
  rw [Nat.zero_add] at q
  rw [e, pure_bind, hk c' q]
theorem enum_lst (xs : List D) : enumF [.lst xs] = pure (pairsFrom 0 xs) := rfl
theorem enum_tup (xs : List D) : enumF [.tup xs] = pure (pairsFrom 0 xs) := rfl
noncomputable def Ok {α : Type} (m : PM α) (s : List Int) (Q : α → List Int → Prop) : Prop := ∃ a s', m s = .ok a s' ∧ Q a s'
section
variable {α β : Type} {m : PM α} {s : List Int} {Q : α → List Int → Prop}
theorem Ok.pure {a : α} (h : Q a s) : Ok (Pure.pure a) s Q := (EV.in2_2 a s rfl h)
theorem Ok.bind {f : α → PM β} {Q : β → List Int → Prop} (h : Ok m s fun a s' => Ok (f a) s' Q) : Ok (m >>= f) s Q := by
  obtain ⟨a, s1, e, b, s2, e2, q⟩ := h
  exact EV.in2_2 b s2 (by rw [PM.bind_def, e]; exact e2) q
theorem Ok.imp {Q' : α → List Int → Prop} (h : Ok m s Q) (i : ∀ a s', Q a s' → Q' a s') : Ok m s Q' := by
  (refine EV.el2_2 h ?_; try clear h; intro a s1 e q)
  exact EV.in2_2 a s1 e (i _ _ q)
theorem Ok.noExc (h : Ok m s Q) : Ok (noExc m) s Q := by
  (refine EV.el2_2 h ?_; try clear h; intro a s1 e q)
  exact EV.in2_2 a s1 (by unfold EV.noExc; rw [e]) q
theorem Ok.withPen {ns : List Int} (h : Ok m ns fun a _ => Q a s) : Ok (withPen ns m) s Q := by
  obtain ⟨a, s1, e, q⟩ := h
  exact ⟨a, s, by unfold EV.withPen; rw [e], q⟩
theorem Ok.forS {C : Type} {body : C → D → PM C} (P : Nat → C → List Int → Prop) : ∀ {ns : List Int} {k : Nat} {c : C} {s : List Int}, P k c s → (∀ i n c s, ns[i]? = some n → P (k + i) c s → Ok (body c (.int n)) s fun c' s' => P (k + i + 1) c' s') →
    Ok (EV.forS dec1 body (ns.map D.int) c) s fun c' s' => P (k + ns.length) c' s'
  | [], k, c, s, h, _ => Ok.pure h
  | n :: ns, k, c, s, h, hb => by
    rw [List.map_cons]
    show Ok (body c (.int n) >>= EV.forS dec1 body (ns.map D.int)) s _
    refine Ok.bind ((hb 0 n c s rfl h).imp fun c1 s1 h1 => ?_)
    refine (Ok.forS P (ns := ns) (k := k + 1) h1 fun i m c s hi hp => ?_).imp fun c2 s2 h2 => by
      rw [List.length_cons, show k + (ns.length + 1) = k + 1 + ns.length by omega]
      exact h2
    have z := hb (i + 1) m c s hi (by rw [show k + (i + 1) = k + 1 + i by omega]; exact hp)
    rw [show k + (i + 1) + 1 = k + 1 + i + 1 by omega] at z
    exact z
theorem Ok.forL {body : Unit → D → PM (Lp Unit)} (I : Nat → List Int → Prop) {t : Nat} : ∀ {ns : List Int} {k : Nat} {s : List Int}, I k s → (∀ n ∈ ns, ∀ j s, k ≤ j → j ≤ k + ns.length * t → I j s → Ok (body () (.int n)) s fun r s' => r = .go () ∧ I (j + t) s') →
    Ok (EV.forL dec1 body (ns.map D.int) ()) s fun r s' => r = .go () ∧ I (k + ns.length * t) s'
  | [], k, s, h, _ => Ok.pure ⟨rfl, by simpa using h⟩
  | n :: ns, k, s, h, hb => by
    have hk : k + t + ns.length * t = k + (n :: ns).length * t := by
      rw [List.length_cons, Nat.succ_mul]
      omega
    rw [List.map_cons]
    show Ok (body () (.int n) >>= _) s _
    refine Ok.bind ((hb n List.mem_cons_self k s (Nat.le_refl _) (by omega) h).imp fun r s1 h32_ => ?_); obtain ⟨er, h1⟩ := h32_
    subst er
    refine (Ok.forL I (ns := ns) (k := k + t) h1 fun m hm j s h1 h2 hi => hb m (List.mem_cons_of_mem _ hm) j s (by omega) (by omega) hi).imp fun r s2 h33_ => ?_; obtain ⟨e2, h2⟩ := h33_
    exact ⟨e2, by rw [← hk]; exact h2⟩
end
end EV
namespace EV
open PySem
def cNet : Addr := 477
def cWatch : Addr := 673
def tab_Net : List (Addr × Bool) := [(cNet, true), (cWatch, false)]
end EV
namespace Lw
open PySem EV
noncomputable def d_WORDS : D := .tup ((["alarm", "quiet", "unseen"] : List Str).map .str)
noncomputable def f_Net_repr (a0 : D) : PM D := ((fsD [pure (D.str "Net("), ((((((pure a0) >>= fldD cNet "own_needs")) >>= fun d1 => (pure []) >>= fun s2 => pure (d1 :: s2)) >>= lenF)) >>= fmtD, pure (D.str " components)")] Str.empty) >>= fun d3 => pure (id d3))
noncomputable def f_reach_of (a0 a1 : D) : PM D := ((((pure a1) >>= fun d2 => (pure []) >>= fun s3 => pure (d2 :: s3)) >>= okL) >>= fun xs1 => ((pure (D.int 0)) >>= fun v4 => (whileS (fun (c5 : D × List D) => (noExc (((pure c5.1) >>= fun x8 => ((((pure (D.lst c5.2)) >>= fun d6 => (pure []) >>= fun s7 => pure (d6 :: s7)) >>= lenF)) >>= fun x9 => ltD x8 x9 >>= asB)))) (fun (c5 : D × List D) => ((noExc ((((((pure a0) >>= fun x12 => (((pure (D.lst c5.2)) >>= fun x10 => (pure c5.1) >>= fun x11 => getD x10 x11)) >>= fun x13 => getD x12 x13)) >>= itemsD) >>= fun l17 => compL dec1 (fun z14 => ((pure z14) >>= fun x15 => (pure (D.lst c5.2)) >>= fun x16 => notInD x15 x16 >>= asB)) (fun z14 => pure z14) l17 >>= fun r18 => pure (D.lst r18))) >>= scalL >>= fun ys19 => okLen (c5.2 ++ ys19) >>= fun _ => ((((pure c5.1) >>= fun x21 => (pure (D.int 1)) >>= fun x22 => addD x21 x22)) >>= fun v20 => pure (v20, (c5.2 ++ ys19)))) : PM (D × List D))) 20 (v4, xs1) >>= fun c5 => ((((((((pure (D.lst c5.2)) >>= fun d23 => (pure []) >>= fun s24 => pure (d23 :: s24)) >>= sortedG)) >>= fun d25 => (pure []) >>= fun s26 => pure (d25 :: s26)) >>= tupleF)) >>= fun d27 => pure (id d27)))))
noncomputable def f_all_reaches (a0 : D) : PM D := (((((((((pure a0) >>= fun d1 => (pure []) >>= fun s2 => pure (d1 :: s2)) >>= lenF)) >>= fun d3 => (pure []) >>= fun s4 => pure (d3 :: s4)) >>= rangeF1) >>= fun l11 => compL dec1 (fun z5 => pure true) (fun z5 => (((pure a0) >>= fun d8 => ((pure z5) >>= fun d6 => (pure []) >>= fun s7 => pure (d6 :: s7)) >>= fun s9 => pure (d8 :: s9)) >>= fun s10 => run0 (fn2 f_reach_of s10))) l11 >>= fun r12 => pure (D.lst r12))) >>= fun d13 => pure (id d13))
noncomputable def f_with_word (a0 a1 : D) : PM D := (((((((((pure a0) >>= fun d1 => (pure []) >>= fun s2 => pure (d1 :: s2)) >>= enumF) >>= fun l6 => compL dec2 (fun z3 => ((pure z3.2) >>= fun x4 => (pure a1) >>= fun x5 => eqD x4 x5 >>= asB)) (fun z3 => pure z3.1) l6 >>= fun r7 => pure (D.lst r7))) >>= fun d8 => (pure []) >>= fun s9 => pure (d8 :: s9)) >>= tupleF)) >>= fun d10 => pure (id d10))
noncomputable def f_with_word_t (a0 a1 : D) : PM (List D) := (((((pure a0) >>= fun d1 => (pure []) >>= fun s2 => pure (d1 :: s2)) >>= enumF) >>= fun l6 => compL dec2 (fun z3 => ((pure z3.2) >>= fun x4 => (pure a1) >>= fun x5 => eqD x4 x5 >>= asB)) (fun z3 => pure z3.1) l6 >>= fun r7 => pure (D.lst r7))) >>= asTu
noncomputable def f_candidates_of (a0 a1 : D) : PM D := (((((pure a0) >>= fun d2 => (pure []) >>= fun s3 => pure (d2 :: s3)) >>= fun s4 => run0 (fn1 f_all_reaches s4))) >>= fun v1 => (((((pure a1) >>= fun d8 => ((pure (D.str "quiet")) >>= fun d6 => (pure []) >>= fun s7 => pure (d6 :: s7)) >>= fun s9 => pure (d8 :: s9)) >>= fun s10 => run0 (fn2 f_with_word s10))) >>= fun v5 => ((((((((((((pure a0) >>= fun d11 => (pure []) >>= fun s12 => pure (d11 :: s12)) >>= lenF)) >>= fun d13 => (pure []) >>= fun s14 => pure (d13 :: s14)) >>= rangeF1) >>= fun l26 => compL dec1 (fun z15 => ((((((((((pure v5) >>= itemsD) >>= fun l21 => compL dec1 (fun z16 => pure true) (fun z16 => ((pure z15) >>= fun x19 => (((pure v1) >>= fun x17 => (pure z16) >>= fun x18 => getD x17 x18)) >>= fun x20 => inD x19 x20)) l21 >>= fun r22 => pure (D.lst r22))) >>= fun d23 => (pure []) >>= fun s24 => pure (d23 :: s24)) >>= anyF)) >>= asB)) >>= fun b25 => pure (!b25))) (fun z15 => pure z15) l26 >>= fun r27 => pure (D.lst r27))) >>= fun d28 => (pure []) >>= fun s29 => pure (d28 :: s29)) >>= tupleF)) >>= fun d30 => pure (id d30))))
noncomputable def f_watched_of (a0 : D) : PM D := (((((pure a0) >>= itemsD) >>= fun l4 => compL dec1 (fun z1 => ((pure z1) >>= fun x2 => (pure (D.str "unseen")) >>= fun x3 => neD x2 x3 >>= asB)) (fun z1 => pure z1) l4 >>= fun r5 => pure (D.lst r5))) >>= fun d6 => pure (id d6))
noncomputable def f_Watch_repr (a0 : D) : PM D := ((((((((((((pure a0) >>= fldD cWatch "own_net")) >>= fldD cNet "own_needs")) >>= fun d4 => ((((pure a0) >>= fldD cWatch "kept")) >>= fun d2 => (pure []) >>= fun s3 => pure (d2 :: s3)) >>= fun s5 => pure (d4 :: s5)) >>= fun s6 => run0 (fn2 f_candidates_of s6))) >>= fun d7 => (pure []) >>= fun s8 => pure (d7 :: s8)) >>= lenF)) >>= fun v1 => ((fsD [(((pure a0) >>= fun d14 => objD cWatch "NAME" d14 >>= fun _ => pure (D.str "Watch"))) >>= fmtD, pure (D.str "("), (((((((((pure a0) >>= fldD cWatch "kept")) >>= fun d9 => (pure []) >>= fun s10 => pure (d9 :: s10)) >>= fun s11 => run0 (fn1 f_watched_of s11))) >>= fun d12 => (pure []) >>= fun s13 => pure (d12 :: s13)) >>= lenF)) >>= fmtD, pure (D.str " watched, "), (pure v1) >>= fmtD, pure (D.str " candidates)")] Str.empty) >>= fun d15 => pure (id d15)))
noncomputable def f_law_draw (a0 : D) : PM D := ((((((pure (D.int 0)) >>= penGet)) >>= fun x1 => (pure (D.int 0)) >>= fun x2 => gtD x1 x2 >>= asB)) >>= fun b3 => if b3 = true then ((((((pure (D.int 0)) >>= penGet)) >>= fun x5 => (pure a0) >>= fun x6 => modD x5 x6)) >>= fun v4 => ((((((pure (D.int 0)) >>= penGet)) >>= fun x7 => (pure a0) >>= fun x8 => fdivD x7 x8)) >>= fun d9 => (pure (D.int 0)) >>= fun i10 => penSet i10 d9 >>= fun _ => ((pure v4) >>= fun d11 => pure (id d11)))) else ((((((pure (D.int 2)) >>= penGet)) >>= fun x12 => (pure (D.int 1)) >>= fun x13 => addD x12 x13)) >>= fun d14 => (pure (D.int 2)) >>= fun i15 => penSet i15 d14 >>= fun _ => ((((((((((((pure (D.int 1)) >>= penGet)) >>= fun x16 => (pure (D.int 48271)) >>= fun x17 => mulD x16 x17)) >>= fun x20 => (((pure (D.int 1009)) >>= fun x18 => (((pure (D.int 2)) >>= penGet)) >>= fun x19 => mulD x18 x19)) >>= fun x21 => addD x20 x21)) >>= fun x22 => (pure (D.int 7)) >>= fun x23 => addD x22 x23)) >>= fun x24 => (pure (D.int 2147483647)) >>= fun x25 => modD x24 x25)) >>= fun d26 => (pure (D.int 1)) >>= fun i27 => penSet i27 d26 >>= fun _ => ((((((((((((pure (D.int 1)) >>= penGet)) >>= fun x29 => (((pure (D.int 1)) >>= penGet)) >>= fun x30 => mulD x29 x30)) >>= fun x33 => (((pure (D.int 69621)) >>= fun x31 => (((pure (D.int 1)) >>= penGet)) >>= fun x32 => mulD x31 x32)) >>= fun x34 => addD x33 x34)) >>= fun x35 => (pure (D.int 11)) >>= fun x36 => addD x35 x36)) >>= fun x37 => (pure (D.int 2147483629)) >>= fun x38 => modD x37 x38)) >>= fun v28 => ((((((((pure v28) >>= fun x40 => (pure v28) >>= fun x41 => mulD x40 x41)) >>= fun x44 => (((pure (D.int 40014)) >>= fun x42 => (pure v28) >>= fun x43 => mulD x42 x43)) >>= fun x45 => addD x44 x45)) >>= fun x46 => (pure (D.int 2147483587)) >>= fun x47 => modD x46 x47)) >>= fun v39 => ((((((pure v39) >>= fun x48 => (pure (D.int 16)) >>= fun x49 => fdivD x48 x49)) >>= fun x50 => (pure a0) >>= fun x51 => modD x50 x51)) >>= fun d52 => pure (id d52)))))))
noncomputable def f_law_net_of (a0 : D) : PM D := ((((((pure (D.int 4)) >>= fun d3 => (pure []) >>= fun s4 => pure (d3 :: s4)) >>= fn1 f_law_draw)) >>= fun d7 => ((((pure []) >>= okL)) >>= fun d5 => (pure []) >>= fun s6 => pure (Mv.o d5 :: s6)) >>= fun s8 => pure (Mv.v d7 :: s8)) >>= two2 (kVO fun v9 xs10 => ((((pure a0) >>= fun d11 => (pure []) >>= fun s12 => pure (d11 :: s12)) >>= rangeF1) >>= fun l15 => forS dec1 (fun (c13 : List D) z14 => ((((((pure a0) >>= fun d17 => (pure []) >>= fun s18 => pure (d17 :: s18)) >>= rangeF1) >>= fun l36 => compL dec1 (fun z19 => ((((((((((pure (D.int 5)) >>= fun d28 => ((pure (D.int 4)) >>= fun d26 => ((((pure (D.int 2)) >>= fun x22 => (pure a0) >>= fun x23 => mulD x22 x23)) >>= fun d24 => ((pure (D.int 2)) >>= fun d20 => (pure []) >>= fun s21 => pure (d20 :: s21)) >>= fun s25 => pure (d24 :: s25)) >>= fun s27 => pure (d26 :: s27)) >>= fun s29 => pure (d28 :: s29)) >>= mkL)) >>= fun x30 => (pure v9) >>= fun x31 => getD x30 x31)) >>= fun d32 => (pure []) >>= fun s33 => pure (d32 :: s33)) >>= fn1 f_law_draw)) >>= fun x34 => (pure (D.int 0)) >>= fun x35 => eqD x34 x35 >>= asB)) (fun z19 => pure z19) l36) >>= fun xs16 => ((((pure v9) >>= fun x37 => (pure (D.int 0)) >>= fun x38 => eqD x37 x38 >>= asB)) >>= fun b40 => (if b40 = true then (((((((pure z14) >>= fun x42 => (pure (D.int 1)) >>= fun x43 => addD x42 x43)) >>= fun x44 => (pure a0) >>= fun x45 => modD x44 x45)) >>= fun d46 => okLen (xs16 ++ [d46]) >>= fun _ => pure (xs16 ++ [d46])) : PM (List D)) else pure xs16) >>= fun j41 => ((((((pure v9) >>= fun x47 => (pure (D.int 2)) >>= fun x48 => eqD x47 x48 >>= asB)) >>= fun b51 => if b51 = true then ((pure z14) >>= fun x49 => (pure (D.int 0)) >>= fun x50 => gtD x49 x50 >>= asB) else pure false)) >>= fun b53 => (if b53 = true then ((((((pure z14) >>= fun d55 => (pure []) >>= fun s56 => pure (d55 :: s56)) >>= fn1 f_law_draw)) >>= fun d57 => okLen (j41 ++ [d57]) >>= fun _ => pure (j41 ++ [d57])) : PM (List D)) else pure j41) >>= fun j54 => ((((((((((pure (D.lst j54)) >>= itemsD) >>= fun l61 => compL dec1 (fun z58 => ((pure z58) >>= fun x59 => (pure z14) >>= fun x60 => neD x59 x60 >>= asB)) (fun z58 => pure z58) l61 >>= fun r62 => pure (D.lst r62))) >>= sortSetD)) >>= fun d63 => (pure []) >>= fun s64 => pure (d63 :: s64)) >>= tupleF)) >>= fun d65 => okLen (c13 ++ [d65]) >>= fun _ => pure (c13 ++ [d65]))))) : PM (List D))) l15 xs10 >>= fun c13 => (((((pure (D.lst c13)) >>= fun d66 => (pure []) >>= fun s67 => pure (d66 :: s67)) >>= tupleF)) >>= fun d68 => pure (id d68)))))
noncomputable def f_law_choose (a0 : D) : PM D := ((((pure a0) >>= fun x5 => (((((((pure a0) >>= fun d1 => (pure []) >>= fun s2 => pure (d1 :: s2)) >>= lenF)) >>= fun d3 => (pure []) >>= fun s4 => pure (d3 :: s4)) >>= fn1 f_law_draw)) >>= fun x6 => getD x5 x6)) >>= fun d7 => pure (id d7))
noncomputable def f_law_report (a0 a1 : D) : PM D := ((((((pure (D.int 6)) >>= fun d9 => (pure []) >>= fun s10 => pure (d9 :: s10)) >>= fn1 f_law_draw)) >>= fun d11 => (((((((pure a1) >>= fun d3 => (pure []) >>= fun s4 => pure (d3 :: s4)) >>= fn1 f_law_choose)) >>= fun x5 => (pure (D.int 1)) >>= fun x6 => getD x5 x6)) >>= fun d7 => (pure []) >>= fun s8 => pure (d7 :: s8)) >>= fun s12 => pure (d11 :: s12)) >>= two fun v1 v2 => ((((pure v1) >>= fun x13 => (pure (D.int 0)) >>= fun x14 => eqD x13 x14 >>= asB)) >>= fun b15 => if b15 = true then ((((((((pure a0) >>= itemsD) >>= fun l25 => compL dec1 (fun z16 => pure true) (fun z16 => ((((((pure (D.str "alarm")) >>= fun d21 => ((pure (D.str "quiet")) >>= fun d19 => ((pure (D.str "unseen")) >>= fun d17 => (pure []) >>= fun s18 => pure (d17 :: s18)) >>= fun s20 => pure (d19 :: s20)) >>= fun s22 => pure (d21 :: s22)) >>= mkL)) >>= fun d23 => (pure []) >>= fun s24 => pure (d23 :: s24)) >>= fn1 f_law_choose)) l25 >>= fun r26 => pure (D.lst r26))) >>= fun d27 => (pure []) >>= fun s28 => pure (d27 :: s28)) >>= tupleF)) >>= fun d29 => pure (id d29)) else (((pure []) >>= okL) >>= fun xs30 => (((((((pure a0) >>= fun d31 => (pure []) >>= fun s32 => pure (d31 :: s32)) >>= lenF)) >>= fun d33 => (pure []) >>= fun s34 => pure (d33 :: s34)) >>= rangeF1) >>= fun l37 => forS dec1 (fun (c35 : List D) z36 => (((((((pure z36) >>= fun x39 => (pure v2) >>= fun x40 => inD x39 x40 >>= asB)) >>= fun b41 => if b41 = true then pure (D.str "alarm") else pure (D.str "quiet"))) >>= fun v38 => (((((((((pure (D.int 5)) >>= fun d42 => (pure []) >>= fun s43 => pure (d42 :: s43)) >>= fn1 f_law_draw)) >>= fun x44 => (pure v1) >>= fun x45 => ltD x44 x45 >>= asB)) >>= fun b46 => if b46 = true then pure v38 else pure (D.str "unseen"))) >>= fun d47 => okLen (c35 ++ [d47]) >>= fun _ => pure (c35 ++ [d47]))) : PM (List D))) l37 xs30 >>= fun c35 => (((((pure (D.lst c35)) >>= fun d48 => (pure []) >>= fun s49 => pure (d48 :: s49)) >>= tupleF)) >>= fun d50 => pure (id d50))))))
noncomputable def f_law_meets (a0 a1 : D) : PM D := (((((((pure a0) >>= itemsD) >>= fun l4 => compL dec1 (fun z1 => ((pure z1) >>= fun x2 => (pure a1) >>= fun x3 => inD x2 x3 >>= asB)) (fun z1 => pure (D.int 1)) l4 >>= fun r5 => pure (D.lst r5))) >>= fun x6 => (((pure []) >>= mkL)) >>= fun x7 => neD x6 x7)) >>= fun d8 => pure (id d8))
noncomputable def f_law_reaches (a0 : D) : PM D := (((((pure a0) >>= fun d2 => (pure []) >>= fun s3 => pure (d2 :: s3)) >>= enumF) >>= fun l11 => compL dec2 (fun z4 => pure true) (fun z4 => (((((pure z4.1) >>= fun d5 => (pure []) >>= fun s6 => pure (d5 :: s6)) >>= mkL)) >>= fun x9 => ((((pure z4.2) >>= fun d7 => (pure []) >>= fun s8 => pure (d7 :: s8)) >>= listF)) >>= fun x10 => addD x9 x10)) l11 >>= fun r12 => pure (D.lst r12)) >>= fun v1 => (((((((pure a0) >>= fun d13 => (pure []) >>= fun s14 => pure (d13 :: s14)) >>= lenF)) >>= fun d15 => (pure []) >>= fun s16 => pure (d15 :: s16)) >>= rangeF1) >>= fun l19 => forS dec1 (fun (c17 : D) z18 => ((((pure []) >>= okL) >>= fun xs20 => (((pure c17) >>= itemsD) >>= fun l23 => forS dec1 (fun (c21 : List D) z22 => ((((pure []) >>= okL) >>= fun xs24 => (((pure z22) >>= itemsD) >>= fun l27 => forS dec1 (fun (c25 : List D) z26 => (((((pure c17) >>= fun x28 => (pure z26) >>= fun x29 => getD x28 x29)) >>= lstOf >>= fun ys30 => okLen (c25 ++ ys30) >>= fun _ => pure (c25 ++ ys30)) : PM (List D))) l27 xs24 >>= fun c25 => ((((pure (D.lst c25)) >>= sortSetD)) >>= fun d31 => okLen (c21 ++ [d31]) >>= fun _ => pure (c21 ++ [d31])))) : PM (List D))) l23 xs20 >>= fun c21 => ((pure (D.lst c21)) >>= fun v32 => pure v32))) : PM (D))) l19 v1 >>= fun c17 => ((pure c17) >>= fun d33 => pure (id d33))))
noncomputable def f_law_sets (a0 : D) : PM D := (((((((pure []) >>= mkT)) >>= fun d2 => (pure []) >>= fun s3 => pure (d2 :: s3)) >>= mkL)) >>= fun v1 => (((pure a0) >>= itemsD) >>= fun l6 => forS dec1 (fun (c4 : D) z5 => (((((pure c4) >>= fun x15 => ((((pure c4) >>= itemsD) >>= fun l13 => compL dec1 (fun z8 => pure true) (fun z8 => ((pure z8) >>= fun x11 => ((((pure z5) >>= fun d9 => (pure []) >>= fun s10 => pure (d9 :: s10)) >>= mkT)) >>= fun x12 => addD x11 x12)) l13 >>= fun r14 => pure (D.lst r14))) >>= fun x16 => addD x15 x16)) >>= fun v7 => pure v7) : PM (D))) l6 v1 >>= fun c4 => (((((pure c4) >>= fun d17 => (pure []) >>= fun s18 => pure (d17 :: s18)) >>= sortedG)) >>= fun d19 => pure (id d19))))
noncomputable def f_law_table (a0 : D) : PM D := ((((((pure a0) >>= fun d3 => (pure []) >>= fun s4 => pure (d3 :: s4)) >>= fun s5 => run0 (fn1 f_law_reaches s5))) >>= fun d8 => ((((pure []) >>= okL)) >>= fun d6 => (pure []) >>= fun s7 => pure (Mv.o d6 :: s7)) >>= fun s9 => pure (Mv.v d8 :: s9)) >>= two2 (kVO fun v10 xs11 => (((((((((((pure a0) >>= fun d12 => (pure []) >>= fun s13 => pure (d12 :: s13)) >>= lenF)) >>= fun d14 => rg1 d14 >>= mkL)) >>= fun d15 => (pure []) >>= fun s16 => pure (d15 :: s16)) >>= fun s17 => run0 (fn1 f_law_sets s17))) >>= itemsD) >>= fun l20 => forS dec1 (fun (c18 : List D) z19 => ((((((pure z19) >>= fun d33 => ((((((pure v10) >>= fun d21 => (pure []) >>= fun s22 => pure (d21 :: s22)) >>= enumF) >>= fun l29 => compL dec2 (fun z23 => (((((pure z23.2) >>= fun d26 => ((pure z19) >>= fun d24 => (pure []) >>= fun s25 => pure (d24 :: s25)) >>= fun s27 => pure (d26 :: s27)) >>= fun s28 => run0 (fn2 f_law_meets s28))) >>= asB)) (fun z23 => pure z23.1) l29 >>= fun r30 => pure (D.lst r30))) >>= fun d31 => (pure []) >>= fun s32 => pure (d31 :: s32)) >>= fun s34 => pure (d33 :: s34)) >>= mkT)) >>= fun d35 => okLen (c18 ++ [d35]) >>= fun _ => pure (c18 ++ [d35])) : PM (List D))) l20 xs11 >>= fun c18 => ((pure (D.lst c18)) >>= fun d36 => pure (id d36)))))
noncomputable def f_law_case (a0 : D) : PM D := (((((pure a0) >>= fun d2 => (pure []) >>= fun s3 => pure (d2 :: s3)) >>= fn1 f_law_net_of)) >>= fun v1 => (((((pure v1) >>= fun d5 => (pure []) >>= fun s6 => pure (d5 :: s6)) >>= fun s7 => run0 (fn1 f_law_table s7))) >>= fun v4 => (((((pure v1) >>= fun d16 => ((pure v4) >>= fun d14 => (((((pure v1) >>= fun d10 => ((pure v4) >>= fun d8 => (pure []) >>= fun s9 => pure (d8 :: s9)) >>= fun s11 => pure (d10 :: s11)) >>= fn2 f_law_report)) >>= fun d12 => (pure []) >>= fun s13 => pure (d12 :: s13)) >>= fun s15 => pure (d14 :: s15)) >>= fun s17 => pure (d16 :: s17)) >>= mkT)) >>= fun d18 => pure (id d18))))
noncomputable def f_law_cell (ns : List Int) (a0 : D) : PM D := ((((pure a0) >>= fun x1 => (pure (D.int ns.length)) >>= fun x2 => ltD x1 x2 >>= asB)) >>= fun b3 => if b3 = true then ((((pure a0) >>= scrGet ns)) >>= fun d4 => pure (id d4)) else ((pure (D.int 0)) >>= fun d5 => pure (id d5)))
noncomputable def f_law_no_nets : PM D := (((((pure D.non) >>= fun d54 => ((pure (D.bl true)) >>= fun d52 => ((pure (D.int 0)) >>= fun d50 => ((pure (D.int 1)) >>= fun d48 => ((pure (D.str "")) >>= fun d46 => ((((pure []) >>= mkT)) >>= fun d44 => ((((pure []) >>= mkL)) >>= fun d42 => ((pure (D.dct [])) >>= fun d40 => (((((((pure []) >>= mkT)) >>= fun d36 => (pure []) >>= fun s37 => pure (d36 :: s37)) >>= mkL)) >>= fun d38 => (((((pure D.non) >>= fun d32 => (pure []) >>= fun s33 => pure (d32 :: s33)) >>= mkT)) >>= fun d34 => (((((pure (D.int 0)) >>= fun d28 => (pure []) >>= fun s29 => pure (d28 :: s29)) >>= mkT)) >>= fun d30 => (((((((pure []) >>= mkL)) >>= fun d24 => (pure []) >>= fun s25 => pure (d24 :: s25)) >>= mkT)) >>= fun d26 => (((((pure (D.str "")) >>= fun d20 => (pure []) >>= fun s21 => pure (d20 :: s21)) >>= mkT)) >>= fun d22 => ((((((((pure (D.int 0)) >>= fun d14 => (pure []) >>= fun s15 => pure (d14 :: s15)) >>= mkT)) >>= fun d16 => (pure []) >>= fun s17 => pure (d16 :: s17)) >>= mkT)) >>= fun d18 => ((((((((pure (D.int 1)) >>= fun d8 => (pure []) >>= fun s9 => pure (d8 :: s9)) >>= mkT)) >>= fun d10 => (pure []) >>= fun s11 => pure (d10 :: s11)) >>= mkT)) >>= fun d12 => ((((((((((pure (D.int 1)) >>= negD)) >>= fun d2 => (pure []) >>= fun s3 => pure (d2 :: s3)) >>= mkT)) >>= fun d4 => (pure []) >>= fun s5 => pure (d4 :: s5)) >>= mkT)) >>= fun d6 => (pure []) >>= fun s7 => pure (d6 :: s7)) >>= fun s13 => pure (d12 :: s13)) >>= fun s19 => pure (d18 :: s19)) >>= fun s23 => pure (d22 :: s23)) >>= fun s27 => pure (d26 :: s27)) >>= fun s31 => pure (d30 :: s31)) >>= fun s35 => pure (d34 :: s35)) >>= fun s39 => pure (d38 :: s39)) >>= fun s41 => pure (d40 :: s41)) >>= fun s43 => pure (d42 :: s43)) >>= fun s45 => pure (d44 :: s45)) >>= fun s47 => pure (d46 :: s47)) >>= fun s49 => pure (d48 :: s49)) >>= fun s51 => pure (d50 :: s51)) >>= fun s53 => pure (d52 :: s53)) >>= fun s55 => pure (d54 :: s55)) >>= mkL)) >>= fun v1 => ((((pure v1) >>= fun x107 => (((((((((pure []) >>= mkT)) >>= fun d103 => (((((pure (D.int 0)) >>= fun d99 => ((pure (D.int 0)) >>= fun d97 => (pure []) >>= fun s98 => pure (d97 :: s98)) >>= fun s100 => pure (d99 :: s100)) >>= mkT)) >>= fun d101 => (pure []) >>= fun s102 => pure (d101 :: s102)) >>= fun s104 => pure (d103 :: s104)) >>= mkT)) >>= fun d105 => (((((((pure []) >>= mkT)) >>= fun d93 => (((((pure (D.bl true)) >>= fun d89 => (pure []) >>= fun s90 => pure (d89 :: s90)) >>= mkT)) >>= fun d91 => (pure []) >>= fun s92 => pure (d91 :: s92)) >>= fun s94 => pure (d93 :: s94)) >>= mkT)) >>= fun d95 => (((((((pure []) >>= mkT)) >>= fun d85 => (((((pure (D.bl false)) >>= fun d81 => (pure []) >>= fun s82 => pure (d81 :: s82)) >>= mkT)) >>= fun d83 => (pure []) >>= fun s84 => pure (d83 :: s84)) >>= fun s86 => pure (d85 :: s86)) >>= mkT)) >>= fun d87 => (((((((pure []) >>= mkT)) >>= fun d77 => (((((pure D.non) >>= fun d73 => (pure []) >>= fun s74 => pure (d73 :: s74)) >>= mkT)) >>= fun d75 => (pure []) >>= fun s76 => pure (d75 :: s76)) >>= fun s78 => pure (d77 :: s78)) >>= mkT)) >>= fun d79 => (((((((pure []) >>= mkT)) >>= fun d69 => (((((pure (D.str "0")) >>= fun d65 => (pure []) >>= fun s66 => pure (d65 :: s66)) >>= mkT)) >>= fun d67 => (pure []) >>= fun s68 => pure (d67 :: s68)) >>= fun s70 => pure (d69 :: s70)) >>= mkT)) >>= fun d71 => (((((((pure []) >>= mkT)) >>= fun d61 => (((((pure (D.int 2)) >>= fun d57 => (pure []) >>= fun s58 => pure (d57 :: s58)) >>= mkT)) >>= fun d59 => (pure []) >>= fun s60 => pure (d59 :: s60)) >>= fun s62 => pure (d61 :: s62)) >>= mkT)) >>= fun d63 => (pure []) >>= fun s64 => pure (d63 :: s64)) >>= fun s72 => pure (d71 :: s72)) >>= fun s80 => pure (d79 :: s80)) >>= fun s88 => pure (d87 :: s88)) >>= fun s96 => pure (d95 :: s96)) >>= fun s106 => pure (d105 :: s106)) >>= mkL)) >>= fun x108 => addD x107 x108)) >>= fun v56 => ((((pure v56) >>= fun x170 => ((((((((((pure (D.int 2)) >>= fun d164 => ((pure (D.int 1)) >>= fun d162 => (pure []) >>= fun s163 => pure (d162 :: s163)) >>= fun s165 => pure (d164 :: s165)) >>= mkT)) >>= fun d166 => ((((pure []) >>= mkT)) >>= fun d160 => ((((pure []) >>= mkT)) >>= fun d158 => (pure []) >>= fun s159 => pure (d158 :: s159)) >>= fun s161 => pure (d160 :: s161)) >>= fun s167 => pure (d166 :: s167)) >>= mkT)) >>= fun d168 => ((((((((pure (D.int 1)) >>= fun d152 => ((pure (D.int 1)) >>= fun d150 => (pure []) >>= fun s151 => pure (d150 :: s151)) >>= fun s153 => pure (d152 :: s153)) >>= mkT)) >>= fun d154 => ((((pure []) >>= mkT)) >>= fun d148 => (pure []) >>= fun s149 => pure (d148 :: s149)) >>= fun s155 => pure (d154 :: s155)) >>= mkT)) >>= fun d156 => (((((((((pure []) >>= mkT)) >>= fun d142 => (pure []) >>= fun s143 => pure (d142 :: s143)) >>= mkT)) >>= fun x144 => (pure (D.int 9)) >>= fun x145 => mulG x144 x145)) >>= fun d146 => (((((((pure []) >>= mkT)) >>= fun d138 => ((pure (D.dct [])) >>= fun d136 => (pure []) >>= fun s137 => pure (d136 :: s137)) >>= fun s139 => pure (d138 :: s139)) >>= mkT)) >>= fun d140 => (((((((pure []) >>= mkT)) >>= fun d132 => ((pure D.non) >>= fun d130 => (pure []) >>= fun s131 => pure (d130 :: s131)) >>= fun s133 => pure (d132 :: s133)) >>= mkT)) >>= fun d134 => (((((((((((pure (D.int 0)) >>= fun d122 => (pure []) >>= fun s123 => pure (d122 :: s123)) >>= mkT)) >>= fun d124 => (pure []) >>= fun s125 => pure (d124 :: s125)) >>= mkT)) >>= fun d126 => ((((pure []) >>= mkT)) >>= fun d120 => (pure []) >>= fun s121 => pure (d120 :: s121)) >>= fun s127 => pure (d126 :: s127)) >>= mkT)) >>= fun d128 => ((((((((pure (D.int 0)) >>= fun d114 => ((pure (D.int 1)) >>= fun d112 => (pure []) >>= fun s113 => pure (d112 :: s113)) >>= fun s115 => pure (d114 :: s115)) >>= mkT)) >>= fun d116 => ((((pure []) >>= mkT)) >>= fun d110 => (pure []) >>= fun s111 => pure (d110 :: s111)) >>= fun s117 => pure (d116 :: s117)) >>= mkT)) >>= fun d118 => (pure []) >>= fun s119 => pure (d118 :: s119)) >>= fun s129 => pure (d128 :: s129)) >>= fun s135 => pure (d134 :: s135)) >>= fun s141 => pure (d140 :: s141)) >>= fun s147 => pure (d146 :: s147)) >>= fun s157 => pure (d156 :: s157)) >>= fun s169 => pure (d168 :: s169)) >>= mkL)) >>= fun x171 => addD x170 x171)) >>= fun v109 => ((((pure v109) >>= fun x207 => (((((((((pure []) >>= mkT)) >>= fun d203 => (((((pure (D.int 0)) >>= fun d199 => ((pure (D.int 1)) >>= fun d197 => (pure []) >>= fun s198 => pure (d197 :: s198)) >>= fun s200 => pure (d199 :: s200)) >>= mkT)) >>= fun d201 => (pure []) >>= fun s202 => pure (d201 :: s202)) >>= fun s204 => pure (d203 :: s204)) >>= mkT)) >>= fun d205 => ((((((pure []) >>= mkT)) >>= fun d194 => pure (D.dct [(D.int 0, d194)]))) >>= fun d195 => ((((((((((pure []) >>= mkT)) >>= fun d188 => (pure []) >>= fun s189 => pure (d188 :: s189)) >>= mkT)) >>= fun d190 => (pure []) >>= fun s191 => pure (d190 :: s191)) >>= mkT)) >>= fun d192 => (((((((pure []) >>= mkT)) >>= fun d184 => (((((pure (D.int 0)) >>= fun d180 => (pure []) >>= fun s181 => pure (d180 :: s181)) >>= mkL)) >>= fun d182 => (pure []) >>= fun s183 => pure (d182 :: s183)) >>= fun s185 => pure (d184 :: s185)) >>= mkT)) >>= fun d186 => (((((((pure []) >>= mkT)) >>= fun d176 => (((((pure (D.int 1)) >>= fun d172 => (pure []) >>= fun s173 => pure (d172 :: s173)) >>= mkT)) >>= fun d174 => (pure []) >>= fun s175 => pure (d174 :: s175)) >>= fun s177 => pure (d176 :: s177)) >>= mkT)) >>= fun d178 => (pure []) >>= fun s179 => pure (d178 :: s179)) >>= fun s187 => pure (d186 :: s187)) >>= fun s193 => pure (d192 :: s193)) >>= fun s196 => pure (d195 :: s196)) >>= fun s206 => pure (d205 :: s206)) >>= mkL)) >>= fun x208 => addD x207 x208)) >>= fun d209 => pure (id d209)))))
noncomputable def f_is_between (a0 a1 a2 : D) : PM D := ((((((pure a0) >>= isF "int")) >>= fun d10 => asB d10 >>= fun b11 => if b11 = true then ((((((pure a0) >>= isF "bool")) >>= fun d1 => asB d1 >>= fun b2 => pure (D.bl (!b2)))) >>= fun d8 => asB d8 >>= fun b9 => if b9 = true then ((pure a1) >>= fun x3 => (pure a0) >>= fun x4 => leD x3 x4 >>= fun x5 => asB x5 >>= fun x6 => if x6 = true then (pure a2) >>= fun x7 => leD x4 x7 else pure (D.bl false)) else pure (D.bl false)) else pure (D.bl false))) >>= fun d12 => pure (id d12))
noncomputable def f_is_rising (a0 a1 : D) : PM D := ((((((((((pure a1) >>= isF "tuple")) >>= asB)) >>= fun b1 => pure (!b1))) >>= fun b17 => if b17 = true then pure true else ((((((((((pure a1) >>= itemsD) >>= fun l12 => compL dec1 (fun z2 => pure true) (fun z2 => (((pure z2) >>= fun d9 => ((pure (D.int 0)) >>= fun d7 => ((((pure a0) >>= fun x3 => (pure (D.int 1)) >>= fun x4 => subD x3 x4)) >>= fun d5 => (pure []) >>= fun s6 => pure (d5 :: s6)) >>= fun s8 => pure (d7 :: s8)) >>= fun s10 => pure (d9 :: s10)) >>= fun s11 => run0 (fn3 f_is_between s11))) l12 >>= fun r13 => pure (D.lst r13))) >>= fun d14 => (pure []) >>= fun s15 => pure (d14 :: s15)) >>= allF)) >>= asB)) >>= fun b16 => pure (!b16)))) >>= fun b18 => if b18 = true then ((pure (D.bl false)) >>= fun d19 => pure (id d19)) else (((((((((pure a1) >>= fun d25 => ((((pure a1) >>= fun x20 => (((pure (D.int 1)) >>= asI)) >>= fun x21 => (pure none) >>= fun x22 => sliceD x20 x21 x22)) >>= fun d23 => (pure []) >>= fun s24 => pure (d23 :: s24)) >>= fun s26 => pure (d25 :: s26)) >>= zipF) >>= fun l30 => compL dec2 (fun z27 => pure true) (fun z27 => ((pure z27.1) >>= fun x28 => (pure z27.2) >>= fun x29 => ltD x28 x29)) l30 >>= fun r31 => pure (D.lst r31))) >>= fun d32 => (pure []) >>= fun s33 => pure (d32 :: s33)) >>= allF)) >>= fun d34 => pure (id d34)))
noncomputable def f_is_net (a0 : D) : PM D := ((((((((((pure a0) >>= isF "tuple")) >>= asB)) >>= fun b1 => pure (!b1))) >>= fun b10 => if b10 = true then pure true else ((((pure (D.int 1)) >>= fun x4 => ((((pure a0) >>= fun d2 => (pure []) >>= fun s3 => pure (d2 :: s3)) >>= lenF)) >>= fun x5 => leD x4 x5 >>= fun x6 => asB x6 >>= fun x7 => if x7 = true then (pure (D.int 8)) >>= fun x8 => leD x5 x8 >>= asB else pure false)) >>= fun b9 => pure (!b9)))) >>= fun b11 => if b11 = true then ((pure (D.bl false)) >>= fun d12 => pure (id d12)) else ((((pure a0) >>= fun d13 => (pure []) >>= fun s14 => pure (d13 :: s14)) >>= enumF) >>= fun l17 => forL dec2 (fun (c15 : Unit) z16 => (((((((((((((((pure a0) >>= fun d20 => (pure []) >>= fun s21 => pure (d20 :: s21)) >>= lenF)) >>= fun d22 => ((pure z16.2) >>= fun d18 => (pure []) >>= fun s19 => pure (d18 :: s19)) >>= fun s23 => pure (d22 :: s23)) >>= fun s24 => run0 (fn2 f_is_rising s24))) >>= asB)) >>= fun b25 => pure (!b25))) >>= fun b28 => if b28 = true then pure true else ((pure z16.1) >>= fun x26 => (pure z16.2) >>= fun x27 => inD x26 x27 >>= asB))) >>= fun b29 => if b29 = true then ((pure (D.bl false)) >>= fun d30 => pure (Lp.ret d30)) else pure (.go ())) : PM (Lp (Unit)))) l17 () >>= lpK id fun c15 => ((pure (D.bl true)) >>= fun d31 => pure (id d31))))
noncomputable def f_Net_init (a0 : D) : PM (List D) := (((((((((pure a0) >>= fun d1 => (pure []) >>= fun s2 => pure (d1 :: s2)) >>= fun s3 => run0 (fn1 f_is_net s3))) >>= asB)) >>= fun b4 => pure (!b4))) >>= fun b5 => if b5 = true then raiseP ⟨"NetError", []⟩ else ((pure a0) >>= fun d6 => pure (([] : List D) ++ [d6])))
noncomputable def f_is_word (a0 : D) : PM D := ((((((pure a0) >>= isF "str")) >>= fun d3 => asB d3 >>= fun b4 => if b4 = true then ((pure a0) >>= fun x1 => (pure d_WORDS) >>= fun x2 => inD x1 x2) else pure (D.bl false))) >>= fun d5 => pure (id d5))
noncomputable def f_is_report (a0 a1 : D) : PM D := ((((((pure a1) >>= isF "tuple")) >>= fun d17 => asB d17 >>= fun b18 => if b18 = true then (((((((pure a1) >>= fun d1 => (pure []) >>= fun s2 => pure (d1 :: s2)) >>= lenF)) >>= fun x5 => ((((pure a0) >>= fun d3 => (pure []) >>= fun s4 => pure (d3 :: s4)) >>= lenF)) >>= fun x6 => eqD x5 x6)) >>= fun d15 => asB d15 >>= fun b16 => if b16 = true then ((((((pure a1) >>= itemsD) >>= fun l11 => compL dec1 (fun z7 => pure true) (fun z7 => (((pure z7) >>= fun d8 => (pure []) >>= fun s9 => pure (d8 :: s9)) >>= fun s10 => run0 (fn1 f_is_word s10))) l11 >>= fun r12 => pure (D.lst r12))) >>= fun d13 => (pure []) >>= fun s14 => pure (d13 :: s14)) >>= allF) else pure (D.bl false)) else pure (D.bl false))) >>= fun d19 => pure (id d19))
noncomputable def g_need_start (a0 a1 : D) : PM Unit := ((((((((pure a0) >>= isC tab_Net)) >>= asB)) >>= fun b1 => pure (!b1))) >>= fun b2 => if b2 = true then raiseP ⟨"NetError", []⟩ else ((((((pure a1) >>= fun x3 => (pure D.non) >>= fun x4 => notND x3 x4 >>= asB)) >>= fun b11 => if b11 = true then (((((((((pure a0) >>= fldD cNet "own_needs")) >>= fun d7 => ((pure a1) >>= fun d5 => (pure []) >>= fun s6 => pure (d5 :: s6)) >>= fun s8 => pure (d7 :: s8)) >>= fun s9 => run0 (fn2 f_is_report s9))) >>= asB)) >>= fun b10 => pure (!b10)) else pure false)) >>= fun b12 => if b12 = true then raiseP ⟨"ReportError", []⟩ else pure ()))
noncomputable def f_need_start (a0 a1 : D) : PM D := g_need_start a0 a1 >>= fun _ => pure D.non
noncomputable def f_Watch_init (a0 a1 : D) : PM (List D) := (((((pure a0) >>= fun d3 => ((pure a1) >>= fun d1 => (pure []) >>= fun s2 => pure (d1 :: s2)) >>= fun s4 => pure (d3 :: s4)) >>= fun s5 => run0 (fn2 f_need_start s5))) >>= fun _ => ((pure a0) >>= fun d6 => ((((((pure a1) >>= fun x7 => (pure D.non) >>= fun x8 => isND x7 x8 >>= asB)) >>= fun b15 => if b15 = true then (((((pure (D.str "unseen")) >>= fun d9 => (pure []) >>= fun s10 => pure (d9 :: s10)) >>= mkT)) >>= fun x13 => ((((((pure a0) >>= fldD cNet "own_needs")) >>= fun d11 => (pure []) >>= fun s12 => pure (d11 :: s12)) >>= lenF)) >>= fun x14 => mulG x13 x14) else pure a1)) >>= fun d16 => ((((pure []) >>= mkT)) >>= fun d17 => ((pure d16) >>= fun _ => pure (((([] : List D) ++ [d6]) ++ [d16]) ++ [d17]))))))
noncomputable def f_law_objects : PM D := ((((((((pure (D.int 1)) >>= fun d4 => (pure []) >>= fun s5 => pure (d4 :: s5)) >>= mkT)) >>= fun d6 => ((((pure []) >>= mkT)) >>= fun d2 => (pure []) >>= fun s3 => pure (d2 :: s3)) >>= fun s7 => pure (d6 :: s7)) >>= fun s8 => mkT s8 >>= fun t9 => newO cNet ["own_needs"] (fnL1 f_Net_init) [t9])) >>= fun v1 => (((((pure v1) >>= fun d11 => (pure []) >>= fun s12 => pure (d11 :: s12)) >>= fun s13 => newO cWatch ["own_net", "kept", "past"] (fnL2 f_Watch_init) (s13 ++ [D.non]))) >>= fun v10 => (((((pure v1) >>= fun d51 => ((pure v10) >>= fun d49 => (((((pure v1) >>= fun d45 => (pure []) >>= fun s46 => pure (d45 :: s46)) >>= mkT)) >>= fun d47 => (((((pure v10) >>= fun d41 => ((pure v10) >>= fun d39 => (pure []) >>= fun s40 => pure (d39 :: s40)) >>= fun s42 => pure (d41 :: s42)) >>= mkT)) >>= fun d43 => (((((pure v10) >>= fun d35 => (pure []) >>= fun s36 => pure (d35 :: s36)) >>= mkL)) >>= fun d37 => (((((pure (D.str "broken")) >>= fun d31 => ((pure v1) >>= fun d29 => (pure []) >>= fun s30 => pure (d29 :: s30)) >>= fun s32 => pure (d31 :: s32)) >>= mkT)) >>= fun d33 => (((((pure (D.str "open")) >>= fun d25 => ((pure v10) >>= fun d23 => ((pure v1) >>= fun d21 => (pure []) >>= fun s22 => pure (d21 :: s22)) >>= fun s24 => pure (d23 :: s24)) >>= fun s26 => pure (d25 :: s26)) >>= mkT)) >>= fun d27 => (((((pure v1) >>= fun d17 => ((pure (D.str "alarm")) >>= fun d15 => (pure []) >>= fun s16 => pure (d15 :: s16)) >>= fun s18 => pure (d17 :: s18)) >>= mkT)) >>= fun d19 => (pure []) >>= fun s20 => pure (d19 :: s20)) >>= fun s28 => pure (d27 :: s28)) >>= fun s34 => pure (d33 :: s34)) >>= fun s38 => pure (d37 :: s38)) >>= fun s44 => pure (d43 :: s44)) >>= fun s48 => pure (d47 :: s48)) >>= fun s50 => pure (d49 :: s50)) >>= fun s52 => pure (d51 :: s52)) >>= mkL)) >>= fun d53 => pure (id d53))))
noncomputable def f_law_no_reports (a0 : D) : PM D := (((((((pure (D.str "unseen")) >>= fun d2 => (pure []) >>= fun s3 => pure (d2 :: s3)) >>= mkT)) >>= fun x4 => (pure a0) >>= fun x5 => mulG x4 x5)) >>= fun v1 => (((((pure D.non) >>= fun d38 => ((pure (D.bl true)) >>= fun d36 => ((pure (D.int 0)) >>= fun d34 => ((pure (D.str "")) >>= fun d32 => ((pure (D.str "alarm")) >>= fun d30 => ((((pure []) >>= mkL)) >>= fun d28 => ((pure (D.dct [])) >>= fun d26 => (((((pure v1) >>= fun d22 => (pure []) >>= fun s23 => pure (d22 :: s23)) >>= listF)) >>= fun d24 => ((((pure v1) >>= fun x18 => ((((pure (D.str "quiet")) >>= fun d16 => (pure []) >>= fun s17 => pure (d16 :: s17)) >>= mkT)) >>= fun x19 => addD x18 x19)) >>= fun d20 => ((((pure v1) >>= fun x11 => (((pure (D.int 1)) >>= asI)) >>= fun x12 => (pure none) >>= fun x13 => sliceD x11 x12 x13)) >>= fun d14 => (((((pure v1) >>= fun d7 => (pure []) >>= fun s8 => pure (d7 :: s8)) >>= mkT)) >>= fun d9 => (pure []) >>= fun s10 => pure (d9 :: s10)) >>= fun s15 => pure (d14 :: s15)) >>= fun s21 => pure (d20 :: s21)) >>= fun s25 => pure (d24 :: s25)) >>= fun s27 => pure (d26 :: s27)) >>= fun s29 => pure (d28 :: s29)) >>= fun s31 => pure (d30 :: s31)) >>= fun s33 => pure (d32 :: s33)) >>= fun s35 => pure (d34 :: s35)) >>= fun s37 => pure (d36 :: s37)) >>= fun s39 => pure (d38 :: s39)) >>= mkL)) >>= fun v6 => ((((pure v6) >>= fun x77 => ((((((((pure v1) >>= fun x68 => (((pure (D.int 1)) >>= asI)) >>= fun x69 => (pure none) >>= fun x70 => sliceD x68 x69 x70)) >>= fun x73 => ((((pure (D.str "")) >>= fun d71 => (pure []) >>= fun s72 => pure (d71 :: s72)) >>= mkT)) >>= fun x74 => addD x73 x74)) >>= fun d75 => ((((((pure v1) >>= fun x59 => (((pure (D.int 1)) >>= asI)) >>= fun x60 => (pure none) >>= fun x61 => sliceD x59 x60 x61)) >>= fun x64 => ((((pure D.non) >>= fun d62 => (pure []) >>= fun s63 => pure (d62 :: s63)) >>= mkT)) >>= fun x65 => addD x64 x65)) >>= fun d66 => ((((((pure v1) >>= fun x50 => (((pure (D.int 1)) >>= asI)) >>= fun x51 => (pure none) >>= fun x52 => sliceD x50 x51 x52)) >>= fun x55 => ((((pure (D.bl true)) >>= fun d53 => (pure []) >>= fun s54 => pure (d53 :: s54)) >>= mkT)) >>= fun x56 => addD x55 x56)) >>= fun d57 => ((((((pure v1) >>= fun x41 => (((pure (D.int 1)) >>= asI)) >>= fun x42 => (pure none) >>= fun x43 => sliceD x41 x42 x43)) >>= fun x46 => ((((pure (D.int 0)) >>= fun d44 => (pure []) >>= fun s45 => pure (d44 :: s45)) >>= mkT)) >>= fun x47 => addD x46 x47)) >>= fun d48 => (pure []) >>= fun s49 => pure (d48 :: s49)) >>= fun s58 => pure (d57 :: s58)) >>= fun s67 => pure (d66 :: s67)) >>= fun s76 => pure (d75 :: s76)) >>= mkL)) >>= fun x78 => addD x77 x78)) >>= fun v40 => ((((pure v40) >>= fun x111 => ((((((((pure v1) >>= fun x102 => (((pure (D.int 1)) >>= asI)) >>= fun x103 => (pure none) >>= fun x104 => sliceD x102 x103 x104)) >>= fun x107 => ((((pure (D.str "Alarm")) >>= fun d105 => (pure []) >>= fun s106 => pure (d105 :: s106)) >>= mkT)) >>= fun x108 => addD x107 x108)) >>= fun d109 => ((((((pure v1) >>= fun x91 => (((pure (D.int 1)) >>= asI)) >>= fun x92 => (pure none) >>= fun x93 => sliceD x91 x92 x93)) >>= fun x98 => (((((((pure (D.str "alarm")) >>= fun d94 => (pure []) >>= fun s95 => pure (d94 :: s95)) >>= mkT)) >>= fun d96 => (pure []) >>= fun s97 => pure (d96 :: s97)) >>= mkT)) >>= fun x99 => addD x98 x99)) >>= fun d100 => ((((((pure v1) >>= fun x80 => (((pure (D.int 1)) >>= asI)) >>= fun x81 => (pure none) >>= fun x82 => sliceD x80 x81 x82)) >>= fun x87 => (((((((pure (D.str "quiet")) >>= fun d83 => (pure []) >>= fun s84 => pure (d83 :: s84)) >>= mkL)) >>= fun d85 => (pure []) >>= fun s86 => pure (d85 :: s86)) >>= mkT)) >>= fun x88 => addD x87 x88)) >>= fun d89 => (pure []) >>= fun s90 => pure (d89 :: s90)) >>= fun s101 => pure (d100 :: s101)) >>= fun s110 => pure (d109 :: s110)) >>= mkL)) >>= fun x112 => addD x111 x112)) >>= fun v79 => ((((pure v79) >>= fun x135 => ((((((((pure v1) >>= fun x126 => (((pure (D.int 1)) >>= asI)) >>= fun x127 => (pure none) >>= fun x128 => sliceD x126 x127 x128)) >>= fun x131 => ((((pure (D.str "alarm ")) >>= fun d129 => (pure []) >>= fun s130 => pure (d129 :: s130)) >>= mkT)) >>= fun x132 => addD x131 x132)) >>= fun d133 => ((((((pure v1) >>= fun x117 => (((pure (D.int 1)) >>= asI)) >>= fun x118 => (pure none) >>= fun x119 => sliceD x117 x118 x119)) >>= fun x122 => ((((pure (D.str "broken")) >>= fun d120 => (pure []) >>= fun s121 => pure (d120 :: s121)) >>= mkT)) >>= fun x123 => addD x122 x123)) >>= fun d124 => ((((pure (D.str "unseen")) >>= fun x113 => (pure a0) >>= fun x114 => mulS1 x113 x114)) >>= fun d115 => (pure []) >>= fun s116 => pure (d115 :: s116)) >>= fun s125 => pure (d124 :: s125)) >>= fun s134 => pure (d133 :: s134)) >>= mkL)) >>= fun x136 => addD x135 x136)) >>= fun d137 => pure (id d137))))))
noncomputable def f_needed_of (a0 a1 : D) : PM D := (((((pure a0) >>= fun d4 => ((pure a1) >>= fun d2 => (pure []) >>= fun s3 => pure (d2 :: s3)) >>= fun s5 => pure (d4 :: s5)) >>= fun s6 => run0 (fn2 f_candidates_of s6))) >>= fun v1 => (((pure []) >>= okL) >>= fun xs7 => ((((((pure a1) >>= fun d10 => ((pure (D.str "alarm")) >>= fun d8 => (pure []) >>= fun s9 => pure (d8 :: s9)) >>= fun s11 => pure (d10 :: s11)) >>= fun s12 => run0 (fn2 f_with_word s12))) >>= itemsD) >>= fun l15 => forS dec1 (fun (c13 : List D) z14 => ((((((((((((pure a0) >>= fun d18 => ((pure z14) >>= fun d16 => (pure []) >>= fun s17 => pure (d16 :: s17)) >>= fun s19 => pure (d18 :: s19)) >>= fun s20 => run0 (fn2 f_reach_of s20))) >>= itemsD) >>= fun l24 => compL dec1 (fun z21 => ((pure z21) >>= fun x22 => (pure v1) >>= fun x23 => inD x22 x23 >>= asB)) (fun z21 => pure z21) l24 >>= fun r25 => pure (D.lst r25))) >>= fun d26 => (pure []) >>= fun s27 => pure (d26 :: s27)) >>= tupleF)) >>= fun d28 => okLen (c13 ++ [d28]) >>= fun _ => pure (c13 ++ [d28])) : PM (List D))) l15 xs7 >>= fun c13 => ((pure (D.lst c13)) >>= fun d29 => pure (id d29)))))
noncomputable def f_is_explained (a0 a1 : D) : PM D := ((((((pure []) >>= mkT)) >>= fun x6 => ((((pure a0) >>= fun d3 => ((pure a1) >>= fun d1 => (pure []) >>= fun s2 => pure (d1 :: s2)) >>= fun s4 => pure (d3 :: s4)) >>= fun s5 => run0 (fn2 f_needed_of s5))) >>= fun x7 => notInD x6 x7)) >>= fun d8 => pure (id d8))
noncomputable def g_need_net (a0 : D) : PM Unit := (((((((((pure a0) >>= fun d1 => (pure []) >>= fun s2 => pure (d1 :: s2)) >>= fun s3 => run0 (fn1 f_is_net s3))) >>= asB)) >>= fun b4 => pure (!b4))) >>= fun b5 => if b5 = true then raiseP ⟨"NetError", []⟩ else pure ())
noncomputable def f_need_net (a0 : D) : PM D := g_need_net a0 >>= fun _ => pure D.non
noncomputable def g_need_report (a0 a1 : D) : PM Unit := (((((pure a0) >>= fun d1 => (pure []) >>= fun s2 => pure (d1 :: s2)) >>= fun s3 => run0 (fn1 f_need_net s3))) >>= fun _ => (((((((((pure a0) >>= fun d6 => ((pure a1) >>= fun d4 => (pure []) >>= fun s5 => pure (d4 :: s5)) >>= fun s7 => pure (d6 :: s7)) >>= fun s8 => run0 (fn2 f_is_report s8))) >>= asB)) >>= fun b9 => pure (!b9))) >>= fun b10 => if b10 = true then raiseP ⟨"ReportError", []⟩ else pure ()))
noncomputable def f_need_report (a0 a1 : D) : PM D := g_need_report a0 a1 >>= fun _ => pure D.non
noncomputable def f_word_of (a0 a1 a2 : D) : PM D := ((((pure a2) >>= fun x6 => ((((pure a0) >>= fun d3 => ((pure a1) >>= fun d1 => (pure []) >>= fun s2 => pure (d1 :: s2)) >>= fun s4 => pure (d3 :: s4)) >>= fun s5 => run0 (fn2 f_candidates_of s5))) >>= fun x7 => notInD x6 x7 >>= asB)) >>= fun b8 => if b8 = true then ((pure (D.str "whole")) >>= fun d9 => pure (id d9)) else (((((((((pure a2) >>= fun d10 => (pure []) >>= fun s11 => pure (d10 :: s11)) >>= mkT)) >>= fun x17 => ((((pure a0) >>= fun d14 => ((pure a1) >>= fun d12 => (pure []) >>= fun s13 => pure (d12 :: s13)) >>= fun s15 => pure (d14 :: s15)) >>= fun s16 => run0 (fn2 f_needed_of s16))) >>= fun x18 => inD x17 x18 >>= asB)) >>= fun b19 => if b19 = true then pure (D.str "broken") else pure (D.str "open"))) >>= fun d20 => pure (id d20)))
noncomputable def f_certain (a0 a1 : D) : PM D := (((((pure a0) >>= fun d3 => ((pure a1) >>= fun d1 => (pure []) >>= fun s2 => pure (d1 :: s2)) >>= fun s4 => pure (d3 :: s4)) >>= fun s5 => run0 (fn2 f_need_report s5))) >>= fun _ => (((((((((pure a0) >>= fun d8 => ((pure a1) >>= fun d6 => (pure []) >>= fun s7 => pure (d6 :: s7)) >>= fun s9 => pure (d8 :: s9)) >>= fun s10 => run0 (fn2 f_is_explained s10))) >>= asB)) >>= fun b11 => pure (!b11))) >>= fun b12 => if b12 = true then ((pure D.non) >>= fun d13 => pure (id d13)) else ((((((((((((pure a0) >>= fun d14 => (pure []) >>= fun s15 => pure (d14 :: s15)) >>= lenF)) >>= fun d16 => (pure []) >>= fun s17 => pure (d16 :: s17)) >>= rangeF1) >>= fun l26 => compL dec1 (fun z18 => pure true) (fun z18 => (((pure a0) >>= fun d23 => ((pure a1) >>= fun d21 => ((pure z18) >>= fun d19 => (pure []) >>= fun s20 => pure (d19 :: s20)) >>= fun s22 => pure (d21 :: s22)) >>= fun s24 => pure (d23 :: s24)) >>= fun s25 => run0 (fn3 f_word_of s25))) l26 >>= fun r27 => pure (D.lst r27))) >>= fun d28 => (pure []) >>= fun s29 => pure (d28 :: s29)) >>= tupleF)) >>= fun d30 => pure (id d30))))
noncomputable def f_do_meet (a0 a1 : D) : PM D := ((((((((pure a0) >>= itemsD) >>= fun l4 => compL dec1 (fun z1 => pure true) (fun z1 => ((pure z1) >>= fun x2 => (pure a1) >>= fun x3 => inD x2 x3)) l4 >>= fun r5 => pure (D.lst r5))) >>= fun d6 => (pure []) >>= fun s7 => pure (d6 :: s7)) >>= anyF)) >>= fun d8 => pure (id d8))
noncomputable def f_expected_word (a0 a1 a2 : D) : PM D := (((((pure a0) >>= fun d4 => ((pure a2) >>= fun d2 => (pure []) >>= fun s3 => pure (d2 :: s3)) >>= fun s5 => pure (d4 :: s5)) >>= fun s6 => run0 (fn2 f_reach_of s6))) >>= fun v1 => (((((((((pure v1) >>= fun d14 => (((((pure a0) >>= fun d9 => ((pure a1) >>= fun d7 => (pure []) >>= fun s8 => pure (d7 :: s8)) >>= fun s10 => pure (d9 :: s10)) >>= fun s11 => run0 (fn2 f_candidates_of s11))) >>= fun d12 => (pure []) >>= fun s13 => pure (d12 :: s13)) >>= fun s15 => pure (d14 :: s15)) >>= fun s16 => run0 (fn2 f_do_meet s16))) >>= asB)) >>= fun b17 => pure (!b17))) >>= fun b18 => if b18 = true then ((pure (D.str "quiet")) >>= fun d19 => pure (id d19)) else ((((((pure a0) >>= fun d22 => ((pure a1) >>= fun d20 => (pure []) >>= fun s21 => pure (d20 :: s21)) >>= fun s23 => pure (d22 :: s23)) >>= fun s24 => run0 (fn2 f_needed_of s24))) >>= itemsD) >>= fun l27 => forL dec1 (fun (c25 : Unit) z26 => (((((((((((pure z26) >>= itemsD) >>= fun l31 => compL dec1 (fun z28 => pure true) (fun z28 => ((pure z28) >>= fun x29 => (pure v1) >>= fun x30 => inD x29 x30)) l31 >>= fun r32 => pure (D.lst r32))) >>= fun d33 => (pure []) >>= fun s34 => pure (d33 :: s34)) >>= allF)) >>= asB)) >>= fun b35 => if b35 = true then ((pure (D.str "alarm")) >>= fun d36 => pure (Lp.ret d36)) else pure (.go ())) : PM (Lp (Unit)))) l27 () >>= lpK id fun c25 => ((pure (D.str "open")) >>= fun d37 => pure (id d37)))))
noncomputable def f_expected_of (a0 a1 : D) : PM D := (((((((((pure a0) >>= fun d3 => ((pure a1) >>= fun d1 => (pure []) >>= fun s2 => pure (d1 :: s2)) >>= fun s4 => pure (d3 :: s4)) >>= fun s5 => run0 (fn2 f_is_explained s5))) >>= asB)) >>= fun b6 => pure (!b6))) >>= fun b7 => if b7 = true then ((pure D.non) >>= fun d8 => pure (id d8)) else ((((((((((((pure a0) >>= fun d9 => (pure []) >>= fun s10 => pure (d9 :: s10)) >>= lenF)) >>= fun d11 => (pure []) >>= fun s12 => pure (d11 :: s12)) >>= rangeF1) >>= fun l21 => compL dec1 (fun z13 => pure true) (fun z13 => (((pure a0) >>= fun d18 => ((pure a1) >>= fun d16 => ((pure z13) >>= fun d14 => (pure []) >>= fun s15 => pure (d14 :: s15)) >>= fun s17 => pure (d16 :: s17)) >>= fun s19 => pure (d18 :: s19)) >>= fun s20 => run0 (fn3 f_expected_word s20))) l21 >>= fun r22 => pure (D.lst r22))) >>= fun d23 => (pure []) >>= fun s24 => pure (d23 :: s24)) >>= tupleF)) >>= fun d25 => pure (id d25)))
noncomputable def f_expected (a0 a1 : D) : PM D := (((((pure a0) >>= fun d3 => ((pure a1) >>= fun d1 => (pure []) >>= fun s2 => pure (d1 :: s2)) >>= fun s4 => pure (d3 :: s4)) >>= fun s5 => run0 (fn2 f_need_report s5))) >>= fun _ => (((((pure a0) >>= fun d8 => ((pure a1) >>= fun d6 => (pure []) >>= fun s7 => pure (d6 :: s7)) >>= fun s9 => pure (d8 :: s9)) >>= fun s10 => run0 (fn2 f_expected_of s10))) >>= fun d11 => pure (id d11)))
noncomputable def f_alarms_of (a0 a1 : D) : PM D := ((((((((((((pure a0) >>= fun d1 => (pure []) >>= fun s2 => pure (d1 :: s2)) >>= fun s3 => run0 (fn1 f_all_reaches s3))) >>= fun d4 => (pure []) >>= fun s5 => pure (d4 :: s5)) >>= enumF) >>= fun l12 => compL dec2 (fun z6 => (((((pure z6.2) >>= fun d9 => ((pure a1) >>= fun d7 => (pure []) >>= fun s8 => pure (d7 :: s8)) >>= fun s10 => pure (d9 :: s10)) >>= fun s11 => run0 (fn2 f_do_meet s11))) >>= asB)) (fun z6 => pure z6.1) l12 >>= fun r13 => pure (D.lst r13))) >>= fun d14 => (pure []) >>= fun s15 => pure (d14 :: s15)) >>= tupleF)) >>= fun d16 => pure (id d16))
noncomputable def f_does_explain (a0 a1 a2 : D) : PM D := (((((pure a0) >>= fun d4 => ((pure a2) >>= fun d2 => (pure []) >>= fun s3 => pure (d2 :: s3)) >>= fun s5 => pure (d4 :: s5)) >>= fun s6 => run0 (fn2 f_alarms_of s6))) >>= fun v1 => ((((pure a1) >>= fun d7 => (pure []) >>= fun s8 => pure (d7 :: s8)) >>= enumF) >>= fun l11 => forL dec2 (fun (c9 : Unit) z10 => (((((((pure z10.2) >>= fun x12 => (pure (D.str "unseen")) >>= fun x13 => neD x12 x13 >>= asB)) >>= fun b20 => if b20 = true then ((((pure z10.2) >>= fun x14 => (pure (D.str "alarm")) >>= fun x15 => eqD x14 x15)) >>= fun x18 => (((pure z10.1) >>= fun x16 => (pure v1) >>= fun x17 => inD x16 x17)) >>= fun x19 => neD x18 x19 >>= asB) else pure false)) >>= fun b21 => if b21 = true then ((pure (D.bl false)) >>= fun d22 => pure (Lp.ret d22)) else pure (.go ())) : PM (Lp (Unit)))) l11 () >>= lpK id fun c9 => ((pure (D.bl true)) >>= fun d23 => pure (id d23))))
noncomputable def f_are_two (a0 a1 a2 a3 a4 : D) : PM D := ((((((pure a3) >>= fun d3 => ((pure a4) >>= fun d1 => (pure []) >>= fun s2 => pure (d1 :: s2)) >>= fun s4 => pure (d3 :: s4)) >>= mkT)) >>= itemsD) >>= fun l7 => forL dec1 (fun (c5 : Unit) z6 => (((((((((((((((pure a0) >>= fun d10 => (pure []) >>= fun s11 => pure (d10 :: s11)) >>= lenF)) >>= fun d12 => ((pure z6) >>= fun d8 => (pure []) >>= fun s9 => pure (d8 :: s9)) >>= fun s13 => pure (d12 :: s13)) >>= fun s14 => run0 (fn2 f_is_rising s14))) >>= asB)) >>= fun b15 => pure (!b15))) >>= fun b24 => if b24 = true then pure true else (((((((pure a0) >>= fun d20 => ((pure a1) >>= fun d18 => ((pure z6) >>= fun d16 => (pure []) >>= fun s17 => pure (d16 :: s17)) >>= fun s19 => pure (d18 :: s19)) >>= fun s21 => pure (d20 :: s21)) >>= fun s22 => run0 (fn3 f_does_explain s22))) >>= asB)) >>= fun b23 => pure (!b23)))) >>= fun b25 => if b25 = true then ((pure (D.bl false)) >>= fun d26 => pure (Lp.ret d26)) else pure (.go ())) : PM (Lp (Unit)))) l7 () >>= lpK id fun c5 => ((((((pure a2) >>= fun x27 => (pure a3) >>= fun x28 => inD x27 x28)) >>= fun d31 => asB d31 >>= fun b32 => if b32 = true then ((pure a2) >>= fun x29 => (pure a4) >>= fun x30 => notInD x29 x30) else pure (D.bl false))) >>= fun d33 => pure (id d33)))
noncomputable def g_need_component (a0 a1 : D) : PM Unit := (((((((((pure a1) >>= fun d9 => ((pure (D.int 0)) >>= fun d7 => (((((((pure a0) >>= fun d1 => (pure []) >>= fun s2 => pure (d1 :: s2)) >>= lenF)) >>= fun x3 => (pure (D.int 1)) >>= fun x4 => subD x3 x4)) >>= fun d5 => (pure []) >>= fun s6 => pure (d5 :: s6)) >>= fun s8 => pure (d7 :: s8)) >>= fun s10 => pure (d9 :: s10)) >>= fun s11 => run0 (fn3 f_is_between s11))) >>= asB)) >>= fun b12 => pure (!b12))) >>= fun b13 => if b13 = true then raiseP ⟨"ComponentError", []⟩ else pure ())
noncomputable def f_need_component (a0 a1 : D) : PM D := g_need_component a0 a1 >>= fun _ => pure D.non
noncomputable def g_need_all (a0 a1 a2 : D) : PM Unit := (((((pure a0) >>= fun d3 => ((pure a1) >>= fun d1 => (pure []) >>= fun s2 => pure (d1 :: s2)) >>= fun s4 => pure (d3 :: s4)) >>= fun s5 => run0 (fn2 f_need_report s5))) >>= fun _ => (((((pure a0) >>= fun d8 => ((pure a2) >>= fun d6 => (pure []) >>= fun s7 => pure (d6 :: s7)) >>= fun s9 => pure (d8 :: s9)) >>= fun s10 => run0 (fn2 f_need_component s10))) >>= fun _ => pure ()))
noncomputable def f_need_all (a0 a1 a2 : D) : PM D := g_need_all a0 a1 a2 >>= fun _ => pure D.non
noncomputable def f_rulers_of (a0 a1 a2 : D) : PM D := ((((((((pure a1) >>= fun d3 => ((pure (D.str "quiet")) >>= fun d1 => (pure []) >>= fun s2 => pure (d1 :: s2)) >>= fun s4 => pure (d3 :: s4)) >>= fun s5 => run0 (fn2 f_with_word s5))) >>= itemsD) >>= fun l14 => compL dec1 (fun z6 => ((pure a2) >>= fun x12 => ((((pure a0) >>= fun d9 => ((pure z6) >>= fun d7 => (pure []) >>= fun s8 => pure (d7 :: s8)) >>= fun s10 => pure (d9 :: s10)) >>= fun s11 => run0 (fn2 f_reach_of s11))) >>= fun x13 => inD x12 x13 >>= asB)) (fun z6 => pure z6) l14 >>= fun r15 => pure (D.lst r15))) >>= fun d16 => pure (id d16))
noncomputable def f_shows_witness (a0 a1 a2 a3 : D) : PM D := (((((pure a0) >>= fun d5 => ((pure a1) >>= fun d3 => ((pure a2) >>= fun d1 => (pure []) >>= fun s2 => pure (d1 :: s2)) >>= fun s4 => pure (d3 :: s4)) >>= fun s6 => pure (d5 :: s6)) >>= fun s7 => run0 (fn3 f_need_all s7))) >>= fun _ => (((((((((((pure a0) >>= fun d10 => ((pure a1) >>= fun d8 => (pure []) >>= fun s9 => pure (d8 :: s9)) >>= fun s11 => pure (d10 :: s11)) >>= fun s12 => run0 (fn2 f_is_explained s12))) >>= asB)) >>= fun b13 => pure (!b13))) >>= fun b22 => if b22 = true then pure true else ((((((((pure a3) >>= isF "tuple")) >>= asB)) >>= fun b14 => pure (!b14))) >>= fun b21 => if b21 = true then pure true else ((((pure a3) >>= fun x15 => (((pure []) >>= mkT)) >>= fun x16 => eqD x15 x16 >>= asB)) >>= fun b20 => if b20 = true then pure true else ((((((((pure a3) >>= fun x17 => (pure (D.int 0)) >>= fun x18 => getD x17 x18)) >>= isF "str")) >>= asB)) >>= fun b19 => pure (!b19)))))) >>= fun b23 => if b23 = true then ((pure (D.bl false)) >>= fun d24 => pure (id d24)) else (((((pure a3) >>= fun x29 => (pure (D.int 0)) >>= fun x30 => getD x29 x30)) >>= fun d31 => (((((pure a3) >>= fun d25 => (pure []) >>= fun s26 => pure (d25 :: s26)) >>= lenF)) >>= fun d27 => (pure []) >>= fun s28 => pure (d27 :: s28)) >>= fun s32 => pure (d31 :: s32)) >>= matK (fun a33 b34 => (if (a33 == ("broken" : Str) && b34 == (2 : Int)) = true then (((pure a1) >>= fun d37 => ((pure (D.str "alarm")) >>= fun d35 => (pure []) >>= fun s36 => pure (d35 :: s36)) >>= fun s38 => pure (d37 :: s38)) >>= fun s39 => run0 (tfn2 f_with_word_t s39) >>= fun l40 => (((((((((((((pure a3) >>= fun x50 => (pure (D.int 1)) >>= fun x51 => getD x50 x51)) >>= fun d52 => ((pure (D.int 0)) >>= fun d48 => (((((((pure a0) >>= fun d42 => (pure []) >>= fun s43 => pure (d42 :: s43)) >>= lenF)) >>= fun x44 => (pure (D.int 1)) >>= fun x45 => subD x44 x45)) >>= fun d46 => (pure []) >>= fun s47 => pure (d46 :: s47)) >>= fun s49 => pure (d48 :: s49)) >>= fun s53 => pure (d52 :: s53)) >>= fun s54 => run0 (fn3 f_is_between s54))) >>= asB)) >>= fun b55 => pure (!b55))) >>= fun b60 => if b60 = true then pure true else ((((pure a3) >>= fun x56 => (pure (D.int 1)) >>= fun x57 => getD x56 x57)) >>= fun x58 => (pure (D.tup l40)) >>= fun x59 => notInD x58 x59 >>= asB))) >>= fun b61 => if b61 = true then ((pure (D.bl false)) >>= fun d62 => pure (id d62)) else (((((((((pure a0) >>= fun d65 => ((pure a1) >>= fun d63 => (pure []) >>= fun s64 => pure (d63 :: s64)) >>= fun s66 => pure (d65 :: s66)) >>= fun s67 => run0 (fn2 f_needed_of s67))) >>= fun x71 => (((((pure a3) >>= fun x68 => (pure (D.int 1)) >>= fun x69 => getD x68 x69)) >>= fun y70 => indexT l40 y70)) >>= fun x72 => getD x71 x72)) >>= fun x75 => ((((pure a2) >>= fun d73 => (pure []) >>= fun s74 => pure (d73 :: s74)) >>= mkT)) >>= fun x76 => eqD x75 x76)) >>= fun d77 => pure (id d77)))) else (if (a33 == ("whole" : Str) && b34 == (2 : Int)) = true then (((((((((pure a3) >>= fun x86 => (pure (D.int 1)) >>= fun x87 => getD x86 x87)) >>= fun d88 => ((pure (D.int 0)) >>= fun d84 => (((((((pure a0) >>= fun d78 => (pure []) >>= fun s79 => pure (d78 :: s79)) >>= lenF)) >>= fun x80 => (pure (D.int 1)) >>= fun x81 => subD x80 x81)) >>= fun d82 => (pure []) >>= fun s83 => pure (d82 :: s83)) >>= fun s85 => pure (d84 :: s85)) >>= fun s89 => pure (d88 :: s89)) >>= fun s90 => run0 (fn3 f_is_between s90))) >>= fun d102 => asB d102 >>= fun b103 => if b103 = true then ((((pure a3) >>= fun x91 => (pure (D.int 1)) >>= fun x92 => getD x91 x92)) >>= fun x100 => ((((pure a0) >>= fun d97 => ((pure a1) >>= fun d95 => ((pure a2) >>= fun d93 => (pure []) >>= fun s94 => pure (d93 :: s94)) >>= fun s96 => pure (d95 :: s96)) >>= fun s98 => pure (d97 :: s98)) >>= fun s99 => run0 (fn3 f_rulers_of s99))) >>= fun x101 => inD x100 x101) else pure (D.bl false))) >>= fun d104 => pure (id d104)) else (if (a33 == ("open" : Str) && b34 == (3 : Int)) = true then (((((pure a0) >>= fun d117 => ((pure a1) >>= fun d115 => ((pure a2) >>= fun d113 => ((((pure a3) >>= fun x109 => (pure (D.int 1)) >>= fun x110 => getD x109 x110)) >>= fun d111 => ((((pure a3) >>= fun x105 => (pure (D.int 2)) >>= fun x106 => getD x105 x106)) >>= fun d107 => (pure []) >>= fun s108 => pure (d107 :: s108)) >>= fun s112 => pure (d111 :: s112)) >>= fun s114 => pure (d113 :: s114)) >>= fun s116 => pure (d115 :: s116)) >>= fun s118 => pure (d117 :: s118)) >>= fun s119 => run0 (fn5 f_are_two s119))) >>= fun d120 => pure (id d120)) else ((pure (D.bl false)) >>= fun d121 => pure (id d121)))))))))
noncomputable def f_witness (a0 a1 a2 : D) : PM D := (((((pure a0) >>= fun d5 => ((pure a1) >>= fun d3 => ((pure a2) >>= fun d1 => (pure []) >>= fun s2 => pure (d1 :: s2)) >>= fun s4 => pure (d3 :: s4)) >>= fun s6 => pure (d5 :: s6)) >>= fun s7 => run0 (fn3 f_need_all s7))) >>= fun _ => (((((((((pure a0) >>= fun d10 => ((pure a1) >>= fun d8 => (pure []) >>= fun s9 => pure (d8 :: s9)) >>= fun s11 => pure (d10 :: s11)) >>= fun s12 => run0 (fn2 f_is_explained s12))) >>= asB)) >>= fun b13 => pure (!b13))) >>= fun b14 => if b14 = true then ((pure D.non) >>= fun d15 => pure (id d15)) else ((((((pure a0) >>= fun d27 => ((pure a1) >>= fun d25 => (pure []) >>= fun s26 => pure (d25 :: s26)) >>= fun s28 => pure (d27 :: s28)) >>= fun s29 => run0 (fn2 f_candidates_of s29))) >>= fun d30 => (((((pure a0) >>= fun d20 => ((pure a1) >>= fun d18 => (pure []) >>= fun s19 => pure (d18 :: s19)) >>= fun s21 => pure (d20 :: s21)) >>= fun s22 => run0 (fn2 f_needed_of s22))) >>= fun d23 => (pure []) >>= fun s24 => pure (d23 :: s24)) >>= fun s31 => pure (d30 :: s31)) >>= two fun v16 v17 => ((((pure a2) >>= fun x32 => (pure v16) >>= fun x33 => notInD x32 x33 >>= asB)) >>= fun b34 => if b34 = true then (((((pure (D.str "whole")) >>= fun d46 => (((((((pure a0) >>= fun d39 => ((pure a1) >>= fun d37 => ((pure a2) >>= fun d35 => (pure []) >>= fun s36 => pure (d35 :: s36)) >>= fun s38 => pure (d37 :: s38)) >>= fun s40 => pure (d39 :: s40)) >>= fun s41 => run0 (fn3 f_rulers_of s41))) >>= fun x42 => (pure (D.int 0)) >>= fun x43 => getD x42 x43)) >>= fun d44 => (pure []) >>= fun s45 => pure (d44 :: s45)) >>= fun s47 => pure (d46 :: s47)) >>= mkT)) >>= fun d48 => pure (id d48)) else (((((((pure a2) >>= fun d49 => (pure []) >>= fun s50 => pure (d49 :: s50)) >>= mkT)) >>= fun x51 => (pure v17) >>= fun x52 => inD x51 x52 >>= asB)) >>= fun b53 => if b53 = true then (((((pure (D.str "broken")) >>= fun d68 => (((((((pure a1) >>= fun d56 => ((pure (D.str "alarm")) >>= fun d54 => (pure []) >>= fun s55 => pure (d54 :: s55)) >>= fun s57 => pure (d56 :: s57)) >>= fun s58 => run0 (fn2 f_with_word s58))) >>= fun x64 => (((pure v17) >>= fun d61 => lstOf d61 >>= fun l62 => ((((pure a2) >>= fun d59 => (pure []) >>= fun s60 => pure (d59 :: s60)) >>= mkT)) >>= fun y63 => indexD l62 y63)) >>= fun x65 => getD x64 x65)) >>= fun d66 => (pure []) >>= fun s67 => pure (d66 :: s67)) >>= fun s69 => pure (d68 :: s69)) >>= mkT)) >>= fun d70 => pure (id d70)) else (((((pure (D.str "open")) >>= fun d82 => ((pure v16) >>= fun d80 => ((((((((pure v16) >>= itemsD) >>= fun l74 => compL dec1 (fun z71 => ((pure z71) >>= fun x72 => (pure a2) >>= fun x73 => neD x72 x73 >>= asB)) (fun z71 => pure z71) l74 >>= fun r75 => pure (D.lst r75))) >>= fun d76 => (pure []) >>= fun s77 => pure (d76 :: s77)) >>= tupleF)) >>= fun d78 => (pure []) >>= fun s79 => pure (d78 :: s79)) >>= fun s81 => pure (d80 :: s81)) >>= fun s83 => pure (d82 :: s83)) >>= mkT)) >>= fun d84 => pure (id d84)))))))
noncomputable def f_law_words (a0 a1 a2 : D) : PM D := ((((saidM "done" ((((pure a0) >>= fun d4 => ((pure a1) >>= fun d2 => (pure []) >>= fun s3 => pure (d2 :: s3)) >>= fun s5 => pure (d4 :: s5)) >>= fun s6 => run0 (fn2 f_certain s6)))) >>= fun d7 => (pure []) >>= fun s8 => pure (d7 :: s8)) >>= okL) >>= fun xs1 => ((saidM "done" ((((pure a0) >>= fun d11 => ((pure a1) >>= fun d9 => (pure []) >>= fun s10 => pure (d9 :: s10)) >>= fun s12 => pure (d11 :: s12)) >>= fun s13 => run0 (fn2 f_expected s13)))) >>= fun d14 => okLen (xs1 ++ [d14]) >>= fun _ => ((saidM "done" ((((pure a0) >>= fun d19 => ((pure a1) >>= fun d17 => ((pure a2) >>= fun d15 => (pure []) >>= fun s16 => pure (d15 :: s16)) >>= fun s18 => pure (d17 :: s18)) >>= fun s20 => pure (d19 :: s20)) >>= fun s21 => run0 (fn3 f_witness s21)))) >>= fun d22 => okLen ((xs1 ++ [d14]) ++ [d22]) >>= fun _ => ((((pure (D.lst ((xs1 ++ [d14]) ++ [d22]))) >>= fun x34 => ((((saidM "done" ((((pure a0) >>= fun d29 => ((pure a1) >>= fun d27 => ((pure a2) >>= fun d25 => ((pure D.non) >>= fun d23 => (pure []) >>= fun s24 => pure (d23 :: s24)) >>= fun s26 => pure (d25 :: s26)) >>= fun s28 => pure (d27 :: s28)) >>= fun s30 => pure (d29 :: s30)) >>= fun s31 => run0 (fn4 f_shows_witness s31)))) >>= fun d32 => (pure []) >>= fun s33 => pure (d32 :: s33)) >>= mkL)) >>= fun x35 => addD x34 x35)) >>= fun d36 => pure (id d36)))))
noncomputable abbrev tR : ReprT := fun C => if C = cWatch then some (fn1 f_Watch_repr) else if C = cNet then some (fn1 f_Net_repr) else none
noncomputable def f_law_right (a0 a1 : D) : PM D := (((((((((((pure a0) >>= fun d1 => (pure []) >>= fun s2 => pure (d1 :: s2)) >>= lenF)) >>= fun d3 => (pure []) >>= fun s4 => pure (d3 :: s4)) >>= fun s5 => run0 (fn1 f_law_no_reports s5))) >>= fun x6 => (run0 (fn0 f_law_objects [])) >>= fun x7 => addD x6 x7)) >>= itemsD) >>= fun l10 => forL dec1 (fun (c8 : Unit) z9 => ((((((pure z9) >>= fun d31 => reprV tR [d31])) >>= fun d32 => (((((((pure a0) >>= fun d17 => ((pure z9) >>= fun d15 => ((pure D.non) >>= fun d13 => (pure []) >>= fun s14 => pure (d13 :: s14)) >>= fun s16 => pure (d15 :: s16)) >>= fun s18 => pure (d17 :: s18)) >>= fun s19 => run0 (fn3 f_law_words s19))) >>= fun x27 => ((((pure a0) >>= fun d24 => ((pure z9) >>= fun d22 => ((pure (D.int 0)) >>= fun d20 => (pure []) >>= fun s21 => pure (d20 :: s21)) >>= fun s23 => pure (d22 :: s23)) >>= fun s25 => pure (d24 :: s25)) >>= fun s26 => run0 (fn3 f_law_words s26))) >>= fun x28 => addD x27 x28)) >>= fun d29 => (pure []) >>= fun s30 => pure (d29 :: s30)) >>= fun s33 => pure (d32 :: s33)) >>= two fun v11 v12 => ((((((pure v12) >>= fun x38 => ((((((pure (D.str "! report")) >>= fun d34 => (pure []) >>= fun s35 => pure (d34 :: s35)) >>= mkL)) >>= fun x36 => (pure (D.int 8)) >>= fun x37 => mulL x36 x37)) >>= fun x39 => neD x38 x39 >>= asB)) >>= fun b43 => if b43 = true then pure true else ((((pure z9) >>= fun d40 => reprV tR [d40])) >>= fun x41 => (pure v11) >>= fun x42 => neD x41 x42 >>= asB))) >>= fun b44 => if b44 = true then ((pure (D.bl false)) >>= fun d45 => pure (Lp.ret d45)) else pure (.go ()))) : PM (Lp (Unit)))) l10 () >>= lpK id fun c8 => ((((((((pure D.non) >>= fun d74 => ((pure (D.bl true)) >>= fun d72 => ((pure (D.bl false)) >>= fun d70 => ((((pure (D.int 1)) >>= negD)) >>= fun d68 => (((((pure a0) >>= fun d64 => (pure []) >>= fun s65 => pure (d64 :: s65)) >>= lenF)) >>= fun d66 => ((pure (D.int 8)) >>= fun d62 => ((((pure (D.int 10)) >>= fun x58 => (pure (D.int 12)) >>= fun x59 => powD x58 x59)) >>= fun d60 => ((pure (D.str "0")) >>= fun d56 => (((((pure (D.int 0)) >>= fun d52 => (pure []) >>= fun s53 => pure (d52 :: s53)) >>= mkT)) >>= fun d54 => (((((pure (D.int 0)) >>= fun d48 => (pure []) >>= fun s49 => pure (d48 :: s49)) >>= mkL)) >>= fun d50 => ((pure (D.dct [])) >>= fun d46 => (pure []) >>= fun s47 => pure (d46 :: s47)) >>= fun s51 => pure (d50 :: s51)) >>= fun s55 => pure (d54 :: s55)) >>= fun s57 => pure (d56 :: s57)) >>= fun s61 => pure (d60 :: s61)) >>= fun s63 => pure (d62 :: s63)) >>= fun s67 => pure (d66 :: s67)) >>= fun s69 => pure (d68 :: s69)) >>= fun s71 => pure (d70 :: s71)) >>= fun s73 => pure (d72 :: s73)) >>= fun s75 => pure (d74 :: s75)) >>= mkL)) >>= fun x76 => (run0 (fn0 f_law_objects [])) >>= fun x77 => addD x76 x77)) >>= itemsD) >>= fun l80 => forL dec1 (fun (c78 : Unit) z79 => ((((((((((pure a0) >>= fun d85 => ((pure a1) >>= fun d83 => ((pure z79) >>= fun d81 => (pure []) >>= fun s82 => pure (d81 :: s82)) >>= fun s84 => pure (d83 :: s84)) >>= fun s86 => pure (d85 :: s86)) >>= fun s87 => run0 (fn3 f_law_words s87))) >>= fun x88 => (((pure (D.int 2)) >>= asI)) >>= fun x89 => (pure none) >>= fun x90 => sliceD x88 x89 x90)) >>= fun x95 => ((((((pure (D.str "! component")) >>= fun d91 => (pure []) >>= fun s92 => pure (d91 :: s92)) >>= mkL)) >>= fun x93 => (pure (D.int 2)) >>= fun x94 => mulL x93 x94)) >>= fun x96 => neD x95 x96 >>= asB)) >>= fun b97 => if b97 = true then ((pure (D.bl false)) >>= fun d98 => pure (Lp.ret d98)) else pure (.go ())) : PM (Lp (Unit)))) l80 () >>= lpK id fun c78 => (((((pure a0) >>= fun d108 => ((pure a1) >>= fun d106 => ((((((((pure a0) >>= fun d100 => (pure []) >>= fun s101 => pure (d100 :: s101)) >>= lenF)) >>= fun d102 => (pure []) >>= fun s103 => pure (d102 :: s103)) >>= fn1 f_law_draw)) >>= fun d104 => (pure []) >>= fun s105 => pure (d104 :: s105)) >>= fun s107 => pure (d106 :: s107)) >>= fun s109 => pure (d108 :: s109)) >>= fun s110 => run0 (fn3 f_law_words s110))) >>= fun v99 => (((((((pure v99) >>= itemsD) >>= fun l117 => compL dec1 (fun z111 => ((((pure z111) >>= fun x112 => (pure none) >>= fun x113 => (((pure (D.int 1)) >>= asI)) >>= fun x114 => sliceD x112 x113 x114)) >>= fun x115 => (pure (D.str "!")) >>= fun x116 => eqD x115 x116 >>= asB)) (fun z111 => pure z111) l117 >>= fun r118 => pure (D.lst r118))) >>= fun x119 => (((pure []) >>= mkL)) >>= fun x120 => eqD x119 x120)) >>= fun d121 => pure (id d121)))))
noncomputable def f_law_source (a0 : D) : PM (List Int) := (((((pure (D.int 0)) >>= fun d15 => ((((pure a0) >>= fun x11 => (((pure (D.int 10)) >>= fun x9 => (pure (D.int 18)) >>= fun x10 => powD x9 x10)) >>= fun x12 => subD x11 x12)) >>= fun d13 => (pure []) >>= fun s14 => pure (d13 :: s14)) >>= fun s16 => pure (d15 :: s16)) >>= maxF)) >>= fun d17 => ((((((pure a0) >>= fun x3 => (pure (D.int 2147483629)) >>= fun x4 => modD x3 x4)) >>= fun x5 => (pure (D.int 1)) >>= fun x6 => addD x5 x6)) >>= fun d7 => ((pure (D.int 0)) >>= fun d1 => (pure []) >>= fun s2 => pure (d1 :: s2)) >>= fun s8 => pure (d7 :: s8)) >>= fun s18 => pure (d17 :: s18)) >>= asInts
noncomputable def f_law (ns : List Int) : PM D := (((((run0 (fn0 f_law_no_nets [])) >>= fun x1 => (run0 (fn0 f_law_objects [])) >>= fun x2 => addD x1 x2)) >>= itemsD) >>= fun l5 => forL dec1 (fun (c3 : Unit) z4 => ((((((pure z4) >>= fun d28 => reprV tR [d28])) >>= fun d29 => (((((((pure z4) >>= fun d12 => ((pure D.non) >>= fun d10 => ((pure D.non) >>= fun d8 => (pure []) >>= fun s9 => pure (d8 :: s9)) >>= fun s11 => pure (d10 :: s11)) >>= fun s13 => pure (d12 :: s13)) >>= fun s14 => run0 (fn3 f_law_words s14))) >>= fun x24 => ((((pure z4) >>= fun d21 => (((((pure (D.str "alarm")) >>= fun d17 => (pure []) >>= fun s18 => pure (d17 :: s18)) >>= mkT)) >>= fun d19 => ((pure (D.int 0)) >>= fun d15 => (pure []) >>= fun s16 => pure (d15 :: s16)) >>= fun s20 => pure (d19 :: s20)) >>= fun s22 => pure (d21 :: s22)) >>= fun s23 => run0 (fn3 f_law_words s23))) >>= fun x25 => addD x24 x25)) >>= fun d26 => (pure []) >>= fun s27 => pure (d26 :: s27)) >>= fun s30 => pure (d29 :: s30)) >>= two fun v6 v7 => ((((((pure v7) >>= fun x35 => ((((((pure (D.str "! net")) >>= fun d31 => (pure []) >>= fun s32 => pure (d31 :: s32)) >>= mkL)) >>= fun x33 => (pure (D.int 8)) >>= fun x34 => mulL x33 x34)) >>= fun x36 => neD x35 x36 >>= asB)) >>= fun b40 => if b40 = true then pure true else ((((pure z4) >>= fun d37 => reprV tR [d37])) >>= fun x38 => (pure v6) >>= fun x39 => neD x38 x39 >>= asB))) >>= fun b41 => if b41 = true then ((pure (D.bl false)) >>= fun d42 => pure (Lp.ret d42)) else pure (.go ()))) : PM (Lp (Unit)))) l5 () >>= lpK id fun c3 => (((((((pure (D.int 1)) >>= fun d49 => (((((pure (D.int ns.length)) >>= fun d45 => ((pure (D.int 2)) >>= fun d43 => (pure []) >>= fun s44 => pure (d43 :: s44)) >>= fun s46 => pure (d45 :: s46)) >>= minF)) >>= fun d47 => (pure []) >>= fun s48 => pure (d47 :: s48)) >>= fun s50 => pure (d49 :: s50)) >>= maxF)) >>= fun d51 => (pure []) >>= fun s52 => pure (d51 :: s52)) >>= rangeF1) >>= fun l55 => forL dec1 (fun (c53 : Unit) z54 => (((((((pure z54) >>= fun d56 => (pure []) >>= fun s57 => pure (d56 :: s57)) >>= fun s58 => run0 (fn1 (f_law_cell ns) s58))) >>= fun d59 => (pure []) >>= fun s60 => pure (d59 :: s60)) >>= fun s61 => run0 (mfn1 f_law_source s61) >>= fun n62 => withPen n62 (((((pure (D.int 3)) >>= fun d64 => (pure []) >>= fun s65 => pure (d64 :: s65)) >>= rangeF1) >>= fun l68 => forL dec1 (fun (c66 : Unit) z67 => ((((((((pure (D.int 1)) >>= fun x74 => ((((pure (D.int 5)) >>= fun d72 => (pure []) >>= fun s73 => pure (d72 :: s73)) >>= fn1 f_law_draw)) >>= fun x75 => addD x74 x75)) >>= fun d76 => (pure []) >>= fun s77 => pure (d76 :: s77)) >>= fn1 f_law_case)) >>= unp3 fun v69 v70 v71 => (((((((((pure v69) >>= fun d80 => ((pure v71) >>= fun d78 => (pure []) >>= fun s79 => pure (d78 :: s79)) >>= fun s81 => pure (d80 :: s81)) >>= fn2 f_law_right)) >>= asB)) >>= fun b82 => pure (!b82))) >>= fun b83 => if b83 = true then ((pure (D.bl false)) >>= fun d84 => pure (Lp.ret d84)) else pure (.go ()))) : PM (Lp (Unit)))) l68 () >>= lpK Lp.ret fun c66 => pure (.go ())))) : PM (Lp (Unit)))) l55 () >>= lpK id fun c53 => ((pure (D.bl true)) >>= fun d85 => pure (id d85))))
end Lw
namespace Lw
open PySem EV
theorem isF_int (x : Int) : isF "int" (.int x) = pure (.bl true) := rfl
theorem isF_intB (x : Int) : isF "bool" (.int x) = pure (.bl false) := rfl
theorem isF_tup (xs : List D) : isF "tuple" (.tup xs) = pure (.bl true) := rfl
theorem asB_bl (b : Bool) : asB (.bl b) = pure b := rfl
theorem le_int (a b : Int) : leD (.int a) (.int b) = pure (.bl (decide (a ≤ b))) := rfl
theorem lt_int (a b : Int) : ltD (.int a) (.int b) = pure (.bl (decide (a < b))) := rfl
theorem gt_int (a b : Int) : gtD (.int a) (.int b) = pure (.bl (decide (b < a))) := rfl
theorem add_int (a b : Int) : addD (.int a) (.int b) = pure (.int (a + b)) := rfl
theorem sub_int (a b : Int) : subD (.int a) (.int b) = pure (.int (a - b)) := rfl
theorem len_tup (xs : List D) : lenF [.tup xs] = pure (.int xs.length) := rfl
theorem len_lst (xs : List D) : lenF [.lst xs] = pure (.int xs.length) := rfl
theorem items_tup (xs : List D) : itemsD (.tup xs) = pure xs := rfl
theorem items_lst (xs : List D) : itemsD (.lst xs) = pure xs := rfl
theorem fn1_eq (g : D → PM D) (a : D) : fn1 g [a] = g a := rfl
theorem fn2_eq (g : D → D → PM D) (a b : D) : fn2 g [a, b] = g a b := rfl
theorem fn3_eq (g : D → D → D → PM D) (a b c : D) : fn3 g [a, b, c] = g a b c := rfl
theorem between (x a b : Int) : f_is_between (.int x) (.int a) (.int b) = pure (.bl (decide (a ≤ x ∧ x ≤ b))) := by
  simp only [f_is_between, pure_bind, isF_int, isF_intB, asB_bl, le_int, if_true, Bool.not_false]
  by_cases h : a ≤ x <;> simp [h]
noncomputable def Rising (n : Nat) (r : List Int) : Prop := (∀ x ∈ r, 0 ≤ x ∧ x < n) ∧ r.Pairwise (· < ·)
theorem blsF (xs : List Bool) : allF [.lst (xs.map D.bl)] = pure (.bl (xs.all id)) := by
  show (match blsOf (xs.map D.bl) with | some bs => pure (.bl (bs.all id)) | none => bad : PM D) = _
  rw [blsOf_map]
theorem zipT_eq : ∀ (a b : List Int), zipT (a.map D.int) (b.map D.int) = (a.zip b).map fun p => .tup [.int p.1, .int p.2]
  | [], _ => by simp [zipT]
  | _ :: _, [] => by simp [zipT]
  | x :: a, y :: b => by simp [zipT, zipT_eq a b]
theorem adj_asc : ∀ {r : List Int}, (∀ p ∈ r.zip (r.drop 1), p.1 < p.2) → r.Pairwise (· < ·)
  | [], _ => .nil
  | [x], _ => by simp
  | x :: y :: r, h => by
    have h1 : x < y := h (x, y) (by simp)
    have ih := adj_asc (r := y :: r) fun p m => h p (by
      simp only [List.drop_succ_cons, List.drop_zero] at m ⊢
      exact List.mem_cons_of_mem _ m)
    refine List.pairwise_cons.mpr ⟨fun z m => ?_, ih⟩
    rcases List.mem_cons.mp m with rfl | m
    · exact h1
    · exact Int.lt_trans h1 ((List.pairwise_cons.mp ih).1 z m)
theorem asc_adj : ∀ {r : List Int}, r.Pairwise (· < ·) → ∀ p ∈ r.zip (r.drop 1), p.1 < p.2
  | [], _, p, m => by simp at m
  | [x], _, p, m => by simp at m
  | x :: y :: r, h, p, m => by
    simp only [List.drop_succ_cons, List.drop_zero, List.zip_cons_cons] at m
    have q := List.pairwise_cons.mp h
    rcases List.mem_cons.mp m with rfl | m
    · exact q.1 y List.mem_cons_self
    · exact asc_adj q.2 p (by simpa using m)
theorem cut1 (xs : List D) : cutD xs (some 1) none = xs.drop 1 := by
  have e : HT.sIx xs.length 0 (some 1) = min 1 xs.length := HT.sIx_nat _ _ 1
  unfold EV.cutD
  rw [e, HT.sIx_none]
  cases xs with
  | nil => rfl
  | cons x r =>
    have e : min 1 (x :: r).length = 1 := by simp
    rw [e]
    simp
theorem slice1 {r : List Int} (h : r.length ≤ lim) : sliceD (tI r) (some 1) none = pure (tI (r.drop 1)) := by
  show mkT (cutD (r.map D.int) (some 1) none) = _
  rw [cut1, ← List.map_drop]
  exact mkT_ok (by rw [List.length_map, List.length_drop]; omega)
theorem zip_ints (a b : List Int) : zipF [tI a, tI b] = pure ((a.zip b).map fun p => .tup [.int p.1, .int p.2]) := by
  show (pure (zipT (a.map D.int) (b.map D.int)) : PM (List D)) = _
  rw [zipT_eq]
theorem run0_p (d : D) : run0 (pure d : PM D) = pure d := rfl
theorem rising (n : Nat) (r : List Int) (hr : r.length ≤ lim) : ∃ b, f_is_rising (.int n) (tI r) = pure (.bl b) ∧ (b = true ↔ Rising n r) := by
  have h1 : ∀ c : D → PM Bool, (∀ z, c z = pure true) → compL dec1 c (fun z => run0 (fn3 f_is_between [z, .int 0, .int ((n : Int) - 1)])) (r.map D.int) = pure ((r.map fun x => decide (0 ≤ x ∧ x ≤ (n : Int) - 1)).map D.bl) := fun c hc => by
    rw [compIm (fun x => .bl (decide (0 ≤ x ∧ x ≤ (n : Int) - 1))) hr hc (fun x _ => by rw [fn3_eq, between]; rfl), List.map_map]
    rfl
  have h2 : compL dec2 (fun z => pure true) (fun z => ltD z.1 z.2) ((r.zip (r.drop 1)).map fun p => .tup [.int p.1, .int p.2]) = pure (((r.zip (r.drop 1)).map fun p => decide (p.1 < p.2)).map D.bl) := by
    rw [compPm (zs := r.zip (r.drop 1)) (fun p => (D.int p.1, D.int p.2)) (fun p => .bl (decide (p.1 < p.2))) (by rw [List.map_map]; rfl)
      (by rw [List.length_map, List.length_zip]; omega) (fun _ => rfl) (fun z m => rfl), List.map_map]
    rfl
  simp only [f_is_rising, pure_bind, isF_tup, asB_bl, items_tup, Bool.not_true, if_false, sub_int, slice1 hr, zip_ints, asI, id]
  rw [h1 _ fun z => rfl, h2]
  simp only [pure_bind, blsF, asB_bl]
  by_cases g : ((r.map fun x => decide (0 ≤ x ∧ x ≤ (n : Int) - 1)).all id) = true
  · rw [g]
    refine EV.in1_2 _ rfl ?_
    have g' : ∀ x ∈ r, 0 ≤ x ∧ x ≤ (n : Int) - 1 := by simpa using g
    rw [List.all_map]
    constructor
    · intro z
      refine ⟨fun x m => ⟨(g' x m).1, by have := (g' x m).2; omega⟩, adj_asc fun p m => ?_⟩
      have := List.all_eq_true.mp z p m
      simpa using this
    · intro z
      refine List.all_eq_true.mpr fun p m => ?_
      simpa using asc_adj z.2 p m
  · have g2 : ((r.map fun x => decide (0 ≤ x ∧ x ≤ (n : Int) - 1)).all id) = false := by simpa using g
    rw [g2]
    refine EV.in1_2 _ rfl ?_
    constructor
    · intro z
      exact EV.nnB z
    · intro z
      exact absurd (by
        rw [List.all_map]
        refine List.all_eq_true.mpr fun x m => ?_
        have := z.1 x m
        simp
        omega) g
end Lw
namespace Lw
open PySem EV
noncomputable abbrev Nt := List (List Int)
noncomputable abbrev dN (N : Nt) : D := .tup (N.map tI)
structure Net (N : Nt) : Prop where
  lo : 1 ≤ N.length
  hi : N.length ≤ 8
  row : ∀ (i : Nat) r, N[i]? = some r → Rising N.length r ∧ (i : Int) ∉ r
section
variable {N : Nt}
theorem Net.lim (h : Net N) : N.length ≤ EV.lim := Nat.le_trans h.hi (by decide)
theorem Rising.len {n : Nat} {r : List Int} (h : Rising n r) : r.length ≤ n := nodup_len (asc_nodup h.2) h.1
theorem Net.ixr (h : Net N) {i : Int} (h0 : 0 ≤ i) (h1 : i < N.length) : Rising N.length (ix N i) ∧ i ∉ ix N i := by
  have z := h.row i.toNat _ (ix_get h0 h1)
  rw [show ((i.toNat : Nat) : Int) = i by omega] at z
  exact z
theorem Net.rlen (h : Net N) {r : List Int} (m : r ∈ N) : r.length ≤ 8 := by
  refine EV.el1_1 (List.mem_iff_getElem?.mp m) fun i hi => ?_
  have z := (h.row i r hi).1.len
  have := h.hi
  exact Nat.le_trans (by assumption) (by assumption)
theorem is_net (h : Net N) : f_is_net (dN N) = pure (.bl true) := by
  have hl := h.hi
  have lo := h.lo
  have e1 : decide ((1 : Int) ≤ (N.length : Int)) = true := decide_eq_true (by exact Int.ofNat_lt.mpr (by assumption))
  have e2 : decide ((N.length : Int) ≤ 8) = true := decide_eq_true (by exact Int.ofNat_le.mpr (by assumption))
  simp only [f_is_net, pure_bind, isF_tup, asB_bl, len_tup, List.length_map, le_int, e1, e2, if_true, Bool.not_true, Bool.false_eq_true, if_false]
  show ((pure (pairsFrom 0 (N.map tI)) : PM (List D)) >>= _) = _
  rw [pure_bind, forL_goP (κ := List Int × Nat) (zs := N.zipIdx) (fun z => (D.int z.2, tI z.1)) (by rw [pairs_dec, List.zipIdx_map, List.map_map]; rfl) (fun z m => ?_)]
  · rfl
  · obtain ⟨r, i⟩ := z
    have hi : N[i]? = some r := by simpa [List.mem_zipIdx_iff_getElem?] using m
    refine EV.el0_2 (h.row i r hi) fun h1 h2 => ?_
    (refine EV.el1_2 (rising N.length r (by have := h1.len; show _ ≤ 1000000; omega)) fun b e q => ?_)
    have eb : b = true := q.mpr h1
    subst eb
    simp only [fn2_eq, e, run0_p, pure_bind, asB_bl, Bool.not_true, Bool.false_eq_true, if_false, inT, decide_eq_false h2]
theorem need_net (h : Net N) : f_need_net (dN N) = pure .non := by
  simp only [f_need_net, g_need_net, pure_bind, fn1_eq, is_net h, run0_p, asB_bl, Bool.not_true]
  rfl
inductive Reach (N : Nt) (c : Int) : Int → Prop
  | refl : Reach N c c
  | step {x y : Int} : Reach N c x → y ∈ ix N x → Reach N c y
theorem Net.reach_in (h : Net N) {c x : Int} (h0 : 0 ≤ c ∧ c < N.length) (r : Reach N c x) : 0 ≤ x ∧ x < N.length := by
  induction r with
  | refl => exact h0
  | step _ m ih => exact (h.ixr ih.1 ih.2).1.1 _ m
noncomputable def setOf (n : Nat) (P : Int → Prop) : List Int := (iota n).filter fun x => @decide (P x) (Classical.propDecidable _)
theorem mem_setOf {n : Nat} {P : Int → Prop} {x : Int} : x ∈ setOf n P ↔ (0 ≤ x ∧ x < n) ∧ P x := by
  unfold setOf
  rw [List.mem_filter, mem_iota]
  exact and_congr_right fun _ => @decide_eq_true_iff (P x) (Classical.propDecidable _)
theorem setOf_asc (n : Nat) (P : Int → Prop) : (setOf n P).Pairwise (· < ·) := (iota_asc n).filter _
theorem setOf_len (n : Nat) (P : Int → Prop) : (setOf n P).length ≤ n := by
  unfold setOf
  exact Nat.le_trans (List.length_filter_le _ _) (by rw [len_iota]; exact Nat.le_refl _)
theorem eq_setOf {n : Nat} {P : Int → Prop} {l : List Int} (h : l.Pairwise (· < ·)) (e : ∀ x, x ∈ l ↔ (0 ≤ x ∧ x < n) ∧ P x) : l = setOf n P :=
  asc_eq h (setOf_asc n P) fun k => by rw [e, mem_setOf]
theorem filter_setOf {n : Nat} {P : Int → Prop} {b : Int → Bool} (e : ∀ x : Int, 0 ≤ x → x < n → (b x = true ↔ P x)) : (iota n).filter b = setOf n P :=
  eq_setOf ((iota_asc n).filter _) fun x => by
    rw [List.mem_filter, mem_iota]
    constructor
    · rintro ⟨h1, h2⟩
      exact ⟨h1, (e x h1.1 h1.2).mp h2⟩
    · rintro ⟨h1, h2⟩
      exact ⟨h1, (e x h1.1 h1.2).mpr h2⟩
/-- what c reaches -/
noncomputable def reachL (N : Nt) (c : Int) : List Int := setOf N.length (Reach N c)
theorem mem_reachL (h : Net N) {c x : Int} (h0 : 0 ≤ c) (h1 : c < N.length) : x ∈ reachL N c ↔ Reach N c x := by
  unfold reachL
  rw [mem_setOf]
  exact ⟨fun z => z.2, fun z => ⟨h.reach_in ⟨h0, h1⟩ z, z⟩⟩
/-- a found list: some of what c reaches -/
structure Fd (N : Nt) (c : Int) (xs : List Int) : Prop where
  nd : xs.Nodup
  rc : ∀ x ∈ xs, Reach N c x
  c : c ∈ xs
noncomputable def Closed (N : Nt) (xs : List Int) : Prop := ∀ x ∈ xs, ∀ y ∈ ix N x, y ∈ xs
theorem Fd.done {c : Int} {xs : List Int} (f : Fd N c xs) (k : Closed N xs) (x : Int) : x ∈ xs ↔ Reach N c x := by
  refine ⟨f.rc x, fun r => ?_⟩
  induction r with
  | refl => exact f.c
  | step _ m ih => exact k _ ih _ m
theorem Fd.len {c : Int} {xs : List Int} (f : Fd N c xs) (h : Net N) (h0 : 0 ≤ c) (h1 : c < N.length) : xs.length ≤ N.length := nodup_len f.nd fun x m => h.reach_in ⟨h0, h1⟩ (f.rc x m)
theorem Fd.sorted {c : Int} {xs : List Int} (f : Fd N c xs) (h : Net N) (h0 : 0 ≤ c) (h1 : c < N.length) (k : Closed N xs) : (sortedG [lI xs] >>= fun d => tupleF [d]) = pure (tI (reachL N c)) := by
  have hl := f.len h h0 h1
  have hn := h.hi
  have e : sortI xs = reachL N c := eq_setOf (sortI_nodup f.nd) fun x => by
    rw [(sortI_perm xs).mem_iff, f.done k x]
    exact ⟨fun z => ⟨h.reach_in ⟨h0, h1⟩ z, z⟩, fun z => z.2⟩
  have e2 : (reachL N c).length ≤ 8 := Nat.le_trans (setOf_len _ _) hn
  rw [sortedI (by show _ ≤ 1000000; omega), pure_bind, e, tupleL (by rw [List.length_map]; show _ ≤ 1000000; exact EV.w_le8 (by assumption))]
theorem reach_ok (h : Net N) {c : Int} (h0 : 0 ≤ c) (h1 : c < N.length) : f_reach_of (dN N) (.int c) = pure (tI (reachL N c)) := by
  have hn := h.hi
  have e0 : okL [D.int c] = pure [D.int c] := rfl
  simp only [f_reach_of, pure_bind, e0, id]
  refine while_then
    (fun p => ∃ (k : Nat) (xs : List Int), p = (.int k, xs.map .int) ∧ Fd N c xs ∧ k ≤ xs.length ∧ ∀ i x, i < k → xs[i]? = some x → ∀ y ∈ ix N x, y ∈ xs)
    (fun p => match p.1 with | .int k => 9 - k.toNat | _ => 0)
    (fun p => ∃ xs : List Int, p.2 = xs.map .int ∧ Fd N c xs ∧ Closed N xs)
    (fun p hp => by
      (refine EV.el2_2 hp ?_; try clear hp; intro k xs q260_ q261_; obtain rfl := q260_; (refine EV.el0_3 q261_ ?_; try clear q261_; intro f hk hc))
      have hl := f.len h h0 h1
      dsimp only
      simp only [pure_bind, len_lst, lt_int, asB_bl, noExc_pure, List.length_map]
      by_cases g : k < xs.length
      · refine .inr ⟨by rw [decide_eq_true (by exact Int.ofNat_lt.mpr (by assumption))], ?_⟩
        have hx := f.rc _ (ix_mem (l := xs) (i := k) (by exact Int.natCast_nonneg _) (by exact Int.ofNat_lt.mpr (by assumption)))
        have hin := h.reach_in ⟨h0, h1⟩ hx
        have hr := h.ixr hin.1 hin.2
        rw [getL (l := xs) (i := k) (by exact Int.natCast_nonneg _) (by exact Int.ofNat_lt.mpr (by assumption)), pure_bind, getT (l := N) hin.1 hin.2, pure_bind, items_tup, pure_bind,
          compI (fun y => !decide (y ∈ xs)) D.int (by have := hr.1.len; show _ ≤ 1000000; omega) (fun y _ => by rw [ninL, pure_bind, asB_bl]) (fun _ _ _ => rfl), pure_bind, noExc_pure, pure_bind, scal_ints, pure_bind]
        have f2 : Fd N c (xs ++ (ix N (ix xs k)).filter fun y => !decide (y ∈ xs)) := ⟨by
          rw [List.nodup_append]
          refine ⟨f.nd, (asc_nodup hr.1.2).filter _, fun a ha b hb e => ?_⟩
          subst e
          simp [ha] at hb, fun y m => by
          rcases List.mem_append.mp m with m | m
          · exact f.rc y m
          · exact .step hx (List.mem_filter.mp m).1, List.mem_append_left _ f.c⟩
        have hl2 := f2.len h h0 h1
        rw [← List.map_append, okLen_ok (by rw [List.length_map]; show _ ≤ 1000000; omega), pure_bind, add_int, pure_bind]
        refine EV.in1_3 _ rfl (⟨k + 1, _, rfl, f2, by rw [List.length_append]; omega, fun i x hi e y m => ?_⟩) ?_
        · rw [List.getElem?_append_left (by exact Nat.lt_of_lt_of_le (by assumption) (by assumption))] at e
          by_cases gi : i < k
          · exact List.mem_append_left _ (hc i x gi e y m)
          · have : i = k := by exact EV.w_split (by assumption) (by assumption)
            subst this
            have ex : x = ix xs (i : Int) := by
              have z := ix_get (l := xs) (i := (i : Int)) (by exact Int.natCast_nonneg _) (by exact Int.ofNat_lt.mpr (by assumption))
              rw [show ((i : Int)).toNat = i by rfl, e] at z
              exact Option.some.inj z
            rw [← ex]
            by_cases gm : y ∈ xs
            · exact List.mem_append_left _ gm
            · exact List.mem_append_right _ (List.mem_filter.mpr ⟨m, by simp [gm]⟩)
        · show 9 - (k + 1) < 9 - k
          exact Nat.sub_lt_sub_left (by omega) (Nat.lt_succ_self k)
      · refine .inl ⟨by rw [decide_eq_false (by omega)], xs, rfl, f, fun x m y my => ?_⟩
        refine EV.el1_1 (List.mem_iff_getElem?.mp m) fun i hi => ?_
        exact hc i x (by have := (List.getElem?_eq_some_iff.mp hi).1; omega) hi y my)
    ⟨0, [c], rfl, ⟨by simp, fun x m => by rw [List.mem_singleton.mp m]; exact .refl, by simp⟩, by simp, fun i x hi => by exact absurd (by assumption) (Nat.not_lt_zero _)⟩ (by show 9 - _ < 20; decide) (fun p hp => ?_)
  (refine EV.el1_3 hp ?_; try clear hp; intro xs e2 f k)
  have e3 := f.sorted h h0 h1 k
  rw [e2]
  simp only [bind_assoc, pure_bind, bind_pure]
  exact e3
end
end Lw
namespace Lw
open PySem EV
theorem pairs_iota (n : Nat) (F : Int → D) : (pairsFrom 0 ((iota n).map F)).map dec2 = (iota n).map fun i => some (D.int i, F i) := by
  rw [pairs_dec]
  refine List.ext_getElem? fun i => ?_
  rw [List.getElem?_map, List.getElem?_map, List.getElem?_zipIdx, List.getElem?_map]
  by_cases h : i < n
  · rw [iota_get h]
    simp
  · rw [List.getElem?_eq_none (by rw [len_iota]; omega)]
    rfl
theorem pairs_ix {α : Type} [Inhabited α] (l : List α) (f : α → D) : (pairsFrom 0 (l.map f)).map dec2 = (iota l.length).map fun i => some (D.int i, f (ix l i)) := by
  rw [pairs_dec]
  refine List.ext_getElem? fun i => ?_
  rw [List.getElem?_map, List.getElem?_map, List.getElem?_zipIdx, List.getElem?_map]
  by_cases h : i < l.length
  · rw [iota_get h]
    have z := ix_get (l := l) (i := (i : Int)) (by exact Int.natCast_nonneg _) (by exact Int.ofNat_lt.mpr (by assumption))
    rw [show ((i : Int)).toNat = i by rfl] at z
    rw [z]
    simp
  · have e1 : l[i]? = none := List.getElem?_eq_none (by exact Nat.not_lt.mp (by assumption))
    have e2 : (iota l.length)[i]? = none := List.getElem?_eq_none (by rw [len_iota]; exact Nat.not_lt.mp (by assumption))
    rw [e1, e2]
    rfl
section
variable {N : Nt}
theorem reachL_len (h : Net N) (c : Int) : (reachL N c).length ≤ 8 := Nat.le_trans (setOf_len _ _) h.hi
theorem all_reaches (h : Net N) : f_all_reaches (dN N) = pure (.lst ((iota N.length).map fun c => tI (reachL N c))) := by
  have hl := h.lim
  simp only [f_all_reaches, pure_bind, len_tup, List.length_map, range1 hl, id, fn2_eq]
  rw [compIm (fun c => tI (reachL N c)) (by rw [len_iota]; exact hl) (fun _ => rfl) fun c m => by
    have m := mem_iota.mp m
    rw [reach_ok h m.1 m.2]
    rfl]
  rfl
end
end Lw
namespace Lw
open PySem EV
section
variable {N : Nt}
theorem ne_nil {xs : List D} (h : shp (.lst xs) = true) : neD (.lst xs) (.lst []) = pure (.bl (!xs.isEmpty)) := by
  show (if shp (.lst xs) = true ∧ shp (.lst []) = true then pure (.bl (!eqvD (.lst xs) (.lst []))) else bad : PM D) = _
  rw [if_pos ⟨h, by decide⟩]
  cases xs with
  | nil => rfl
  | cons x r => rfl
end
end Lw
namespace Lw
open PySem EV
section
variable {N : Nt}
theorem need_comp {c : Int} (h0 : 0 ≤ c) (h1 : c < N.length) : f_need_component (dN N) (.int c) = pure .non := by
  simp only [f_need_component, g_need_component, pure_bind, len_tup, sub_int, fn3_eq, between, run0_p, asB_bl, List.length_map]
  rw [decide_eq_true (by omega)]
  rfl
end
end Lw
namespace Lw
open PySem EV
noncomputable def Pen (k : Nat) (s : List Int) : Prop := ∃ a b c, s = [a, b, c] ∧ 0 ≤ b ∧ b < 2147483648 ∧ 0 ≤ c ∧ c ≤ k
theorem Pen.mono {k k' : Nat} {s : List Int} (h : Pen k s) (e : k ≤ k') : Pen k' s := by
  (refine EV.el3_2 h ?_; try clear h; intro a b c q262_ q263_; obtain rfl := q262_; (refine EV.el0_4 q263_ ?_; try clear q263_; intro h1 h2 h3 h4))
  exact EV.in3_5 a b c rfl h1 h2 h3 (by omega)
theorem bind_ok {α β : Type} {m : PM α} {f : α → PM β} {s s' : List Int} {a : α} (h : m s = .ok a s') : (m >>= f) s = f a s' := by
  rw [PM.bind_def, h]
theorem get0 (a b c : Int) : penGet (.int 0) [a, b, c] = .ok (.int a) [a, b, c] := rfl
theorem get1 (a b c : Int) : penGet (.int 1) [a, b, c] = .ok (.int b) [a, b, c] := rfl
theorem get2 (a b c : Int) : penGet (.int 2) [a, b, c] = .ok (.int c) [a, b, c] := rfl
theorem set0 (a b c d : Int) : penSet (.int 0) (.int d) [a, b, c] = .ok () [d, b, c] := rfl
theorem set1 (a b c d : Int) : penSet (.int 1) (.int d) [a, b, c] = .ok () [a, d, c] := rfl
theorem set2 (a b c d : Int) : penSet (.int 2) (.int d) [a, b, c] = .ok () [a, b, d] := rfl
theorem mul_ok {i j : Int} (h : L2.CMul i j) : mulD (.int i) (.int j) = pure (.int (i * j)) := if_pos h
theorem mod_ok {i j : Int} (h : j ≠ 0) : modD (.int i) (.int j) = pure (.int (i.fmod j)) := if_pos h
theorem fdiv_ok {i j : Int} (h : L2.CDivN i j) : fdivD (.int i) (.int j) = pure (.int (i.fdiv j)) := if_pos h
theorem fmod_bd {i j : Int} (h : 0 < j) : 0 ≤ i.fmod j ∧ i.fmod j < j := ⟨Int.fmod_nonneg_of_pos i h, Int.fmod_lt_of_pos i h⟩
theorem mul_l {i j : Int} (h1 : autoParam (-(2 ^ 64) < i) EV.tac11) (h2 : autoParam (i < 2 ^ 64) EV.tac11) : mulD (.int i) (.int j) = pure (.int (i * j)) := mul_ok (.inl ⟨h1, h2⟩)
theorem mul_r {i j : Int} (h1 : autoParam (-(2 ^ 64) < j) EV.tac11) (h2 : autoParam (j < 2 ^ 64) EV.tac11) : mulD (.int i) (.int j) = pure (.int (i * j)) := mul_ok (.inr ⟨h1, h2⟩)
theorem draw {k m : Nat} {s : List Int} (h : Pen k s) (hk : k ≤ 1000000) (m1 : 1 ≤ m) (m2 : m ≤ 1000000) : Ok (f_law_draw (.int m)) s fun d s' => Pen (k + 1) s' ∧ ∃ x : Int, d = .int x ∧ 0 ≤ x ∧ x < m := by
  obtain ⟨a, b, c, rfl, h1, h2, h3, h4⟩ := h
  have hm0 : (m : Int) ≠ 0 := by omega
  simp only [f_law_draw, bind_assoc, pure_bind]
  by_cases ha : 0 < a
  · refine ⟨.int (a.fmod m), [a.fdiv m, b, c], ?_, ⟨_, _, _, rfl, h1, h2, h3, by omega⟩, _, rfl, fmod_bd (by omega)⟩
    rw [bind_ok (get0 a b c), bind_ok (show gtD (.int a) (.int 0) [a, b, c] = .ok (.bl true) [a, b, c] by rw [gt_int, decide_eq_true ha]; rfl), bind_ok (show asB (.bl true) [a, b, c] = .ok true [a, b, c] from rfl), if_pos rfl, bind_ok (get0 a b c),
      mod_ok hm0, pure_bind, bind_ok (get0 a b c), fdiv_ok ⟨hm0, by omega⟩, pure_bind, bind_ok (set0 a b c _)]
    rfl
  · rw [Ok]
    have e1 := mul_r (i := b) (j := 48271)
    have e2 := mul_l (i := 1009) (j := c + 1)
    have b1 := fmod_bd (i := b * 48271 + 1009 * (c + 1) + 7) (j := 2147483647) (by decide)
    generalize hs1 : (b * 48271 + 1009 * (c + 1) + 7).fmod 2147483647 = st at b1
    have e3 := mul_l (i := st) (j := st)
    have e4 := mul_l (i := 69621) (j := st)
    have b2 := fmod_bd (i := st * st + 69621 * st + 11) (j := 2147483629) (by decide)
    generalize hs2 : (st * st + 69621 * st + 11).fmod 2147483629 = su at b2
    have e5 := mul_l (i := su) (j := su)
    have e6 := mul_l (i := 40014) (j := su)
    refine ⟨.int ((((su * su + 40014 * su).fmod 2147483587).fdiv 16).fmod m), [a, st, c + 1], ?_, ⟨_, _, _, rfl, b1.1, by omega, by omega, by omega⟩, _, rfl, fmod_bd (by omega)⟩
    rw [bind_ok (get0 a b c), bind_ok (show gtD (.int a) (.int 0) [a, b, c] = .ok (.bl false) [a, b, c] by rw [gt_int, decide_eq_false ha]; rfl), bind_ok (show asB (.bl false) [a, b, c] = .ok false [a, b, c] from rfl), if_neg (by decide),
      bind_ok (get2 a b c), add_int, pure_bind, bind_ok (set2 a b c _), bind_ok (get1 a b _), e1, pure_bind, bind_ok (get2 a b _), e2, pure_bind, add_int, pure_bind, add_int, pure_bind, mod_ok (by decide), pure_bind, hs1, bind_ok (set1 a b _ _),
      bind_ok (get1 a st _), bind_ok (get1 a st _), e3, pure_bind, bind_ok (get1 a st _), e4, pure_bind, add_int, pure_bind, add_int, pure_bind, mod_ok (by decide), pure_bind, hs2, e5, pure_bind, e6, pure_bind, add_int, pure_bind, mod_ok (by decide), pure_bind, fdiv_ok ⟨by decide, by decide⟩, pure_bind, mod_ok hm0]
    rfl
theorem choose {α : Type} [Inhabited α] {f : α → D} {k : Nat} {s : List Int} {l : List α} (h : Pen k s) (hk : k ≤ 1000000) (m1 : 1 ≤ l.length) (m2 : l.length ≤ 1000000) : Ok (f_law_choose (.lst (l.map f))) s fun d s' => Pen (k + 1) s' ∧ ∃ x, d = f x ∧ x ∈ l := by
  simp only [f_law_choose, bind_assoc, pure_bind, len_lst, List.length_map, fn1_eq]
  refine Ok.bind ((draw h hk m1 m2).imp fun d s1 h34_ => ?_); obtain ⟨p, x, e, h1, h2⟩ := h34_
  subst e
  rw [getL h1 h2]
  exact Ok.pure ⟨p, _, rfl, ix_mem h1 h2⟩
end Lw
namespace Lw
open PySem EV
theorem setI_len (ns : List Int) : (setI ns).length ≤ ns.length := by
  induction ns with
  | nil => exact Nat.le_refl _
  | cons x r ih =>
    have : ∀ l, (putI x l).length ≤ l.length + 1 := by
      intro l
      induction l with
      | nil => simp [putI]
      | cons y l ih =>
        unfold putI
        split
        · simp
        · split
          · simp
          · simp only [List.length_cons]
            omega
    have := this (setI r)
    unfold setI
    simp only [List.length_cons]
    omega
theorem ssetG {ns : List Int} (h : ns.length < 1000) (h2 : (setI ns).length < 64) : sortSetD (lI ns) = pure (lI (setI ns)) := by
  show (match intsOf (ns.map D.int) with | some ns => if ns.length < 1000 ∧ (setI ns).length < 64 then mkL ((setI ns).map D.int) else bad | none => bad : PM D) = _
  rw [intsOf_map]
  show (if ns.length < 1000 ∧ (setI ns).length < 64 then mkL ((setI ns).map D.int) else bad : PM D) = _
  rw [if_pos ⟨h, h2⟩]
  exact mkL_ok (by rw [List.length_map]; show _ ≤ 1000000; omega)
theorem filtI {c : D → PM Bool} (b : Int → Bool) {ns : List Int} (hl : ns.length ≤ lim) (hc : ∀ n ∈ ns, c (.int n) = pure (b n)) : compL dec1 c (fun z => pure z) (ns.map D.int) = pure ((ns.filter b).map D.int) := compI b D.int hl hc fun _ _ _ => rfl
/-- draws in a comprehension -/
theorem Ok.draws {k : Nat} {s : List Int} {ns : List Int} {c : D → PM Bool} (h : Pen k s) (hk : k + ns.length ≤ 1000000) (hc : ∀ n ∈ ns, ∀ j s, j ≤ 1000000 → Pen j s → Ok (c (.int n)) s fun _ s' => Pen (j + 1) s') :
    Ok (compL dec1 c (fun z => pure z) (ns.map D.int)) s fun r s' => Pen (k + ns.length) s' ∧ ∃ ms : List Int, ms.Sublist ns ∧ r = ms.map D.int := by
  unfold compL
  rw [if_pos (by rw [List.length_map]; show _ ≤ 1000000; omega)]
  induction ns generalizing k s with
  | nil => exact ⟨[], s, rfl, by simpa using h, [], .slnil, rfl⟩
  | cons n ns ih =>
    rw [List.length_cons] at hk
    rw [List.map_cons]
    unfold compG
    show Ok (EV.noExc (c (.int n)) >>= _) s _
    refine Ok.bind ((hc n List.mem_cons_self k s (by omega) h).noExc.imp fun b s1 h1 => ?_)
    have e : k + 1 + ns.length = k + (n :: ns).length := by
      rw [List.length_cons]
      omega
    cases b with
    | true =>
      rw [if_pos rfl, noExc_pure, pure_bind]
      refine Ok.bind ((ih h1 (by omega) (fun m hm => hc m (List.mem_cons_of_mem _ hm))).imp fun r s2 h35_ => ?_); obtain ⟨h2, ms, hs, er⟩ := h35_
      refine Ok.pure ⟨by rw [← e]; exact h2, n :: ms, hs.cons₂ n, by rw [er]; rfl⟩
    | false =>
      rw [if_neg (by decide)]
      refine (ih h1 (by omega) (fun m hm => hc m (List.mem_cons_of_mem _ hm))).imp fun r s2 h36_ => ?_; obtain ⟨h2, ms, hs, er⟩ := h36_
      exact ⟨by rw [← e]; exact h2, ms, hs.cons n, er⟩
theorem net {n : Nat} (n1 : 1 ≤ n) (n8 : n ≤ 8) {k : Nat} {s : List Int} (h : Pen k s) (hk : k ≤ 900000) : Ok (f_law_net_of (.int n)) s fun d s' => Pen (k + 100) s' ∧ ∃ N, Net N ∧ N.length = n ∧ d = dN N := by
  have eo : okL [] = pure [] := rfl
  have hlim : n ≤ lim := by show _ ≤ 1000000; omega
  have e4 : mkL [D.int 5, D.int 4, D.int (2 * n), D.int 2] = pure (lI [5, 4, 2 * n, 2]) := rfl
  simp only [f_law_net_of, bind_assoc, pure_bind, fn1_eq, two2, kVO, eo, id, range1 hlim]
  refine Ok.bind ((draw (m := 4) h (by omega) (by decide) (by decide)).imp fun d s1 h37_ => ?_); obtain ⟨p1, way, e, w0, w1⟩ := h37_
  subst e
  have hw : ∃ m : Nat, 1 ≤ m ∧ m ≤ 16 ∧ getD (lI [5, 4, 2 * n, 2]) (.int way) = pure (.int m) := by
    have : way = 0 ∨ way = 1 ∨ way = 2 ∨ way = 3 := by omega
    rcases this with rfl | rfl | rfl | rfl
    · exact ⟨5, by omega, by omega, rfl⟩
    · exact ⟨4, by omega, by omega, rfl⟩
    · exact ⟨2 * n, by omega, by omega, by
        have z := getL (l := ([5, 4, 2 * n, 2] : List Int)) (f := D.int) (i := 2) (by omega) (by simp)
        rw [z, show ix ([5, 4, 2 * n, 2] : List Int) 2 = ((2 * n : Nat) : Int) by
          show (2 * (n : Int)) = _
          omega]⟩
    · exact ⟨2, by omega, by omega, rfl⟩
  obtain ⟨m, m1, m16, em⟩ := hw
  refine Ok.bind ((Ok.forS (fun i c s => Pen (k + 1 + 9 * i) s ∧ ∃ N : Nt, c = N.map tI ∧ N.length = i ∧ ∀ (q : Nat) r, N[q]? = some r → Rising n r ∧ (q : Int) ∉ r) (k := 0) ⟨p1, [], rfl, rfl, by simp⟩ (fun i z c s hz hp => ?_)).imp fun c s4 hp => ?_)
  · obtain ⟨pk, N, rfl, hN, hr⟩ := hp
    rw [Nat.zero_add] at pk hN ⊢
    have hi : i < n := by
      have := (List.getElem?_eq_some_iff.mp hz).1
      rw [len_iota] at this
      exact this
    rw [iota_get hi] at hz
    have hz := (Option.some.inj hz).symm
    subst hz
    simp only [mul_l (i := 2) (j := (n : Int)) (by decide) (by decide), pure_bind, e4, em, range1 hlim]
    refine Ok.bind ((Ok.draws pk (by rw [len_iota]; omega) (fun x _ j s hj ps => ?_)).imp fun d s5 h38_ => ?_)
    · refine Ok.bind ((draw (m := m) ps hj m1 (by omega)).imp fun d s' h39_ => ?_); obtain ⟨p', y, e, _, _⟩ := h39_
      subst e
      rw [eqInt, pure_bind]
      exact Ok.pure p'
    obtain ⟨p5, ms, hs, e⟩ := h38_
    subst e
    rw [len_iota] at p5
    have hms : ∀ x ∈ ms, 0 ≤ x ∧ x < n := fun x mx => mem_iota.mp (hs.subset mx)
    have lms : ms.length ≤ n := by
      have := hs.length_le
      rw [len_iota] at this
      exact this
    simp only [eqInt, pure_bind, asB_bl, add_int, gt_int]
    refine Ok.bind (Ok.imp (Q := fun d s' => Pen (k + 1 + 9 * i + n) s' ∧ ∃ l : List Int, d = l.map D.int ∧ (∀ x ∈ l, 0 ≤ x ∧ x < n) ∧ l.length ≤ 9) ?_ fun d s6 h40_ => ?_)
    · by_cases w : way = 0
      · rw [decide_eq_true w, if_pos rfl, mod_ok (show (n : Int) ≠ 0 by omega), pure_bind, show ms.map D.int ++ [D.int (((i : Int) + 1).fmod n)] = (ms ++ [((i : Int) + 1).fmod n]).map D.int by rw [List.map_append]; rfl,
          okLen_ok (by rw [List.length_map, List.length_append, List.length_singleton]; show _ ≤ 1000000; omega), pure_bind]
        refine Ok.pure ⟨p5, _, rfl, fun x mx => ?_, by rw [List.length_append, List.length_singleton]; omega⟩
        rcases List.mem_append.mp mx with mx | mx
        · exact hms x mx
        · rw [List.mem_singleton.mp mx]
          exact fmod_bd (by omega)
      · rw [decide_eq_false w, if_neg (by decide)]
        exact Ok.pure ⟨p5, ms, rfl, hms, by omega⟩
    obtain ⟨p6, l, e, hl, ll⟩ := h40_
    subst e
    have pA : Pen (k + 1 + 9 * i + 8) s6 := p6.mono (by omega)
    have fin : ∀ (l : List Int) (s : List Int), Pen (k + 1 + 9 * i + 9) s → (∀ x ∈ l, 0 ≤ x ∧ x < n) → l.length ≤ 10 →
        Ok (compL dec1 (fun z => neD z (.int (i : Int)) >>= asB) (fun z => pure z) (l.map D.int) >>= fun r => sortSetD (.lst r) >>= fun d => tupleF [d] >>= fun d => okLen (N.map tI ++ [d]) >>= fun _ => pure (N.map tI ++ [d])) s
          fun c' s' => Pen (k + 1 + 9 * (i + 1)) s' ∧ ∃ N : Nt, c' = N.map tI ∧ N.length = i + 1 ∧ ∀ (q : Nat) r, N[q]? = some r → Rising n r ∧ (q : Int) ∉ r := fun l s ps hl ll => by
      rw [filtI (fun x => decide (x ≠ (i : Int))) (by show _ ≤ 1000000; omega) (fun x _ => by rw [neInt, pure_bind, asB_bl]), pure_bind]
      have lf : (l.filter fun x => decide (x ≠ (i : Int))).length ≤ 10 := Nat.le_trans (List.length_filter_le _ _) ll
      have ls := setI_len (l.filter fun x => decide (x ≠ (i : Int)))
      have rr : Rising n (setI (l.filter fun x => decide (x ≠ (i : Int)))) := ⟨fun x mx => hl x (List.mem_filter.mp (mem_setI.mp mx)).1, setI_asc _⟩
      have ni : (i : Int) ∉ setI (l.filter fun x => decide (x ≠ (i : Int))) := fun mx => by
        have := (List.mem_filter.mp (mem_setI.mp mx)).2
        simp at this
      show Ok (sortSetD (lI (l.filter fun x => decide (x ≠ (i : Int)))) >>= _) s _
      rw [ssetG (by omega) (by omega), pure_bind, tupleL (by rw [List.length_map]; show _ ≤ 1000000; omega), pure_bind]
      generalize setI (l.filter fun x => decide (x ≠ (i : Int))) = R at rr ni
      rw [show N.map tI ++ [D.tup (R.map D.int)] = (N ++ [R]).map tI by rw [List.map_append]; rfl, okLen_ok (by rw [List.length_map, List.length_append, List.length_singleton]; show _ ≤ 1000000; omega), pure_bind]
      refine Ok.pure ⟨ps.mono (by omega), _, rfl, by rw [List.length_append, List.length_singleton, hN], fun q r hq => ?_⟩
      rw [List.getElem?_append] at hq
      split at hq
      · exact hr q r hq
      · rename_i hql
        have : q - N.length = 0 := by
          cases hz : q - N.length with
          | zero => rfl
          | succ t => rw [hz] at hq; simp at hq
        rw [this] at hq
        have hq := Option.some.inj hq
        subst hq
        have : q = i := by omega
        subst this
        exact ⟨rr, ni⟩
    by_cases w : way = 2
    · by_cases ip : (0 : Int) < i
      · rw [decide_eq_true w, decide_eq_true ip]
        simp only [if_true, pure_bind]
        refine Ok.bind (Ok.bind ((draw (m := i) pA (by omega) (by omega) (by omega)).imp fun d s7 h41_ => ?_)); obtain ⟨p7, x, e, x0, x1⟩ := h41_
        subst e
        rw [show l.map D.int ++ [D.int x] = (l ++ [x]).map D.int by rw [List.map_append]; rfl, okLen_ok (by rw [List.length_map, List.length_append, List.length_singleton]; show _ ≤ 1000000; omega), pure_bind]
        refine Ok.pure ?_
        simp only [items_lst, pure_bind]
        refine fin (l ++ [x]) s7 p7 (fun y my => ?_) (by rw [List.length_append, List.length_singleton]; omega)
        rcases List.mem_append.mp my with my | my
        · exact hl y my
        · rw [List.mem_singleton.mp my]
          omega
      · rw [decide_eq_true w, decide_eq_false ip]
        simp only [if_true, pure_bind, Bool.false_eq_true, if_false, items_lst]
        exact fin l s6 (pA.mono (by omega)) hl (by omega)
    · rw [decide_eq_false w]
      simp only [Bool.false_eq_true, if_false, pure_bind, items_lst]
      exact fin l s6 (pA.mono (by omega)) hl (by omega)
  · obtain ⟨p5, N, rfl, hN, hr⟩ := hp
    rw [len_iota, Nat.zero_add] at p5 hN
    rw [tupleL (by rw [List.length_map]; show _ ≤ 1000000; omega)]
    refine Ok.pure ⟨p5.mono (by omega), N, ⟨by omega, by omega, fun q r hq => ?_⟩, hN, rfl⟩
    rw [hN]
    exact hr q r hq
end Lw
namespace Lw
open PySem EV
theorem Net.sm {N : Nt} (h : Net N) : Sm 2 72 (dN N) := .tup (c := 8) (fun x m => by
  (refine EV.el1_2 (List.mem_map.mp m) fun r hr q270_ => ?_; obtain rfl := q270_)
  refine EV.el1_1 (List.mem_iff_getElem?.mp hr) fun i hi => ?_
  have z := h.row i r hi
  have hn := h.hi
  exact (SmI.smT fun y my => by have := z.1.1 y my; omega).mono (by decide) (h.rlen hr)) (by rw [List.length_map]; have := h.hi; omega)
end Lw
namespace Lw
open PySem EV
theorem ok_end {m : PM D} (key : Ok m [] fun d _ => d = .bl true) : ∃ s, m [] = .ok (.bl true) s := by
  obtain ⟨d, s, e, rfl⟩ := key
  exact ⟨s, e⟩
theorem mkT1 (a : D) : mkT [a] = pure (.tup [a]) := rfl
theorem mkT2 (a b : D) : mkT [a, b] = pure (.tup [a, b]) := rfl
theorem mkT3 (a b c : D) : mkT [a, b, c] = pure (.tup [a, b, c]) := rfl
theorem neStr (x : Str) : neD (.str x) (.str x) = pure (.bl false) := by
  show (pure (D.bl (!(x == x))) : PM D) = _
  rw [beq_self_eq_true]
  rfl
theorem rising_sm {n : Nat} (hn : n ≤ 8) {B : List Int} (h : Rising n B) : Sm 1 8 (tI B) :=
  (SmI.smT fun y my => by have := h.1 y my; omega).mono (by omega) (Nat.le_trans h.len hn)
theorem rg_iota {n : Nat} (h : n ≤ lim) : rg1 (.int n) = pure ((iota n).map D.int) := by
  have h : n ≤ 1000000 := h
  unfold rg1
  dsimp only
  unfold rgD
  rw [if_pos ⟨by omega, by omega, by omega, by omega, by show _ ≤ 1000000; omega⟩, show ((n : Int) - 0).toNat = n by omega, rangeL_iota]
theorem addL {a b : List D} (h : a.length + b.length ≤ lim) : addD (.lst a) (.lst b) = pure (.lst (a ++ b)) := mkL_ok (by rw [List.length_append]; exact h)
end Lw
namespace Lw
open PySem EV
theorem forL_goD {body : Unit → D → PM (Lp Unit)} {ds : List D} (h : ∀ d ∈ ds, body () d = pure (.go ())) : forL dec1 body ds () = pure (.go ()) := by
  induction ds with
  | nil => rfl
  | cons n ns ih =>
    show (body () n >>= _) = _
    rw [h n List.mem_cons_self, pure_bind]
    exact ih fun m hm => h m (List.mem_cons_of_mem _ hm)
noncomputable def meets (xs ys : List Int) : Bool := xs.any fun x => decide (x ∈ ys)
theorem meets_iff {xs ys : List Int} : meets xs ys = true ↔ ∃ x ∈ xs, x ∈ ys := by
  unfold meets
  rw [List.any_eq_true]
  constructor
  · rintro ⟨x, h1, h2⟩
    exact EV.in1_2 x h1 (of_decide_eq_true h2)
  · rintro ⟨x, h1, h2⟩
    exact EV.in1_2 x h1 (decide_eq_true h2)
theorem blsAny (xs : List Bool) : anyF [.lst (xs.map D.bl)] = pure (.bl (xs.any id)) := by
  show (match blsOf (xs.map D.bl) with | some bs => pure (.bl (bs.any id)) | none => bad : PM D) = _
  rw [blsOf_map]
theorem do_meet (xs ys : List Int) (hx : xs.length ≤ lim) : f_do_meet (tI xs) (tI ys) = pure (.bl (meets xs ys)) := by
  simp only [f_do_meet, pure_bind, items_tup, id]
  rw [compIm (fun x => .bl (decide (x ∈ ys))) hx (fun _ => rfl) (fun x _ => inT x ys), show (xs.map fun x => D.bl (decide (x ∈ ys))) = (xs.map fun x => decide (x ∈ ys)).map D.bl by rw [List.map_map]; rfl]
  simp only [pure_bind, blsAny, List.any_map]
  rfl
section
variable {N : Nt}
/-- the components with a broken one in their reach -/
noncomputable def alarmsL (N : Nt) (B : List Int) : List Int := setOf N.length fun o => ∃ b ∈ B, Reach N o b
theorem alarm_iff (h : Net N) {B : List Int} {o : Int} (h0 : 0 ≤ o) (h1 : o < N.length) : meets (reachL N o) B = true ↔ ∃ b ∈ B, Reach N o b := by
  rw [meets_iff]
  constructor
  · rintro ⟨x, m, b⟩
    exact EV.in1_2 x b ((mem_reachL h h0 h1).mp m)
  · rintro ⟨x, b, r⟩
    exact EV.in1_2 x ((mem_reachL h h0 h1).mpr r) b
theorem alarm_filter (h : Net N) (B : List Int) : (iota N.length).filter (fun o => meets (reachL N o) B) = alarmsL N B :=
  filter_setOf fun x h0 h1 => alarm_iff h h0 h1
end
section
variable {N : Nt}
theorem filt_meets (xs ys : List Int) : (!(xs.filter fun x => decide (x ∈ ys)).isEmpty) = meets xs ys := by
  rw [Bool.eq_iff_iff, meets_iff]
  constructor
  · intro h
    cases e : xs.filter fun x => decide (x ∈ ys) with
    | nil => rw [e] at h; exact EV.nnB h
    | cons x r =>
      have : x ∈ xs.filter fun x => decide (x ∈ ys) := by rw [e]; exact List.mem_cons_self
      exact EV.in1_2 x ((List.mem_filter.mp this).1) (of_decide_eq_true (List.mem_filter.mp this).2)
  · rintro ⟨x, h1, h2⟩
    have : x ∈ xs.filter fun x => decide (x ∈ ys) := List.mem_filter.mpr ⟨h1, decide_eq_true h2⟩
    cases e : xs.filter fun x => decide (x ∈ ys) with
    | nil => rw [e] at this; cases this
    | cons _ _ => rfl
theorem isE_map {α β : Type} (f : α → β) (xs : List α) : (xs.map f).isEmpty = xs.isEmpty := by
  cases xs <;> rfl
end
theorem Rising.sub {n : Nat} {l m : List Int} (h : Rising n l) (s : m.Sublist l) : Rising n m := ⟨fun x hx => h.1 x (s.subset hx), h.2.sublist s⟩
end Lw
namespace Lw
open PySem EV
theorem forS_map {body : List D → D → PM (List D)} (f : Int → D) : ∀ {ns : List Int} {c : List D}, (∀ c n, n ∈ ns → c.length + 1 ≤ lim → body c (.int n) = pure (c ++ [f n])) → c.length + ns.length ≤ lim → forS dec1 body (ns.map D.int) c = pure (c ++ ns.map f)
  | [], c, _, _ => by
    rw [List.map_nil, List.map_nil, List.append_nil]
    rfl
  | n :: ns, c, h, hl => by
    rw [List.length_cons] at hl
    rw [List.map_cons]
    show (body c (.int n) >>= forS dec1 body (ns.map D.int)) = _
    rw [h c n List.mem_cons_self (by omega), pure_bind, forS_map f (fun c m hm => h c m (List.mem_cons_of_mem _ hm)) (by rw [List.length_append, List.length_singleton]; omega), List.map_cons, List.append_assoc]
    rfl
noncomputable abbrev tS (ws : List Str) : D := .tup (ws.map .str)
noncomputable def Words (ws : List Str) : Prop := ∀ w ∈ ws, w = "alarm" ∨ w = "quiet" ∨ w = "unseen"
theorem word_sm {w : Str} (h : w = "alarm" ∨ w = "quiet" ∨ w = "unseen") : Sm 0 6 (.str w) := by
  rcases h with rfl | rfl | rfl <;> exact .str (by decide +kernel) (by decide +kernel)
theorem words_sm {ws : List Str} (h : Words ws) (hl : ws.length ≤ 8) : Sm 1 56 (tS ws) := .tup (c := 6) (fun x m => by
  (refine EV.el1_2 (List.mem_map.mp m) fun w hw q272_ => ?_; obtain rfl := q272_)
  exact word_sm (h w hw)) (by rw [List.length_map]; omega)
end Lw
namespace Lw
open PySem EV
theorem eqStr (a b : Str) : eqD (.str a) (.str b) = pure (.bl (a == b)) := rfl
/-- where the word w stands -/
noncomputable def withL (ws : List Str) (w : Str) : List Int := (iota ws.length).filter fun i => ix ws i == w
theorem mem_withL {ws : List Str} {w : Str} {i : Int} : i ∈ withL ws w ↔ (0 ≤ i ∧ i < ws.length) ∧ ix ws i = w := by
  unfold withL
  rw [List.mem_filter, mem_iota, beq_iff_eq]
theorem withL_rising (ws : List Str) (w : Str) : Rising ws.length (withL ws w) := ⟨fun x m => (mem_withL.mp m).1, (iota_asc _).filter _⟩
theorem with_word (ws : List Str) (w : Str) (h : ws.length ≤ lim) : f_with_word (tS ws) (.str w) = pure (tI (withL ws w)) := by
  simp only [f_with_word, pure_bind, bind_assoc, enum_tup, id]
  rw [compPf (fun i => (D.int i, D.str (ix ws i))) (fun i => ix ws i == w) D.int (pairs_ix ws D.str) (by rw [pairs_len, List.length_map]; exact h) (fun i _ => by rw [eqStr, pure_bind, asB_bl]) (fun _ _ _ => rfl), pure_bind,
    tupleL (by rw [List.length_map]; exact Nat.le_trans (List.length_filter_le _ _) (by rw [len_iota]; exact h))]
  rfl
/-- a report of the net -/
structure Rep (N : Nt) (ws : List Str) : Prop where
  len : ws.length = N.length
  ws : Words ws
section
variable {N : Nt} {ws : List Str}
theorem Rep.sm (r : Rep N ws) (h : Net N) : Sm 1 56 (tS ws) := words_sm r.ws (by rw [r.len]; exact h.hi)
theorem Rep.lim (r : Rep N ws) (h : Net N) : ws.length ≤ EV.lim := by
  rw [r.len]
  exact h.lim
/-- the components in the reach of no quiet one -/
noncomputable def candL (N : Nt) (ws : List Str) : List Int := setOf N.length fun o => ¬ ∃ q ∈ withL ws "quiet", Reach N q o
theorem candL_len (h : Net N) (ws : List Str) : (candL N ws).length ≤ 8 := Nat.le_trans (setOf_len _ _) h.hi
theorem candL_rising (N : Nt) (ws : List Str) : Rising N.length (candL N ws) := ⟨fun x m => (mem_setOf.mp m).1, setOf_asc _ _⟩
theorem quiet_reach (h : Net N) (r : Rep N ws) {o : Int} : (withL ws "quiet").any (fun q => decide (o ∈ reachL N q)) = true ↔ ∃ q ∈ withL ws "quiet", Reach N q o := by
  rw [List.any_eq_true]
  constructor
  · rintro ⟨q, m, e⟩
    have z := (mem_withL.mp m).1
    exact EV.in1_2 q m ((mem_reachL h z.1 (by rw [← r.len]; exact z.2)).mp (of_decide_eq_true e))
  · rintro ⟨q, m, e⟩
    have z := (mem_withL.mp m).1
    exact EV.in1_2 q m (decide_eq_true ((mem_reachL h z.1 (by rw [← r.len]; exact z.2)).mpr e))
theorem cand_filter (h : Net N) (r : Rep N ws) : (iota N.length).filter (fun o => !(withL ws "quiet").any fun q => decide (o ∈ reachL N q)) = candL N ws :=
  filter_setOf fun x h0 h1 => by
    rw [Bool.not_eq_true', ← Bool.not_eq_true, quiet_reach h r]
theorem candidates_of (h : Net N) (r : Rep N ws) : f_candidates_of (dN N) (tS ws) = pure (tI (candL N ws)) := by
  have hl := h.lim
  have wl := (withL_rising ws "quiet").len
  have rl := r.lim h
  simp only [f_candidates_of, pure_bind, bind_assoc, fn1_eq, fn2_eq, all_reaches h, with_word ws _ rl, run0_p, id, len_tup, List.length_map, range1 hl, items_tup]
  rw [filtI (fun o => !(withL ws "quiet").any fun q => decide (o ∈ reachL N q)) (by rw [len_iota]; exact hl) (fun o _ => ?_), cand_filter h r, pure_bind, tupleL (by rw [List.length_map]; have := candL_len h ws; show _ ≤ 1000000; exact EV.w_le8 (by assumption))]
  · rfl
  · rw [compIm (fun q => .bl (decide (o ∈ reachL N q))) (Nat.le_trans wl rl) (fun _ => rfl) (fun q mq => ?_), pure_bind, show ((withL ws "quiet").map fun q => D.bl (decide (o ∈ reachL N q))) = ((withL ws "quiet").map fun q => decide (o ∈ reachL N q)).map D.bl by rw [List.map_map]; rfl, blsAny, pure_bind, asB_bl, pure_bind, List.any_map]
    · rfl
    · have z := (mem_withL.mp mq).1
      have z2 : q < N.length := by rw [← r.len]; exact z.2
      rw [getL (f := fun c => tI (reachL N c)) z.1 (by rw [len_iota]; exact z2), pure_bind, ix_iota z.1 z2, inT]
theorem is_word {w : Str} (h : w = "alarm" ∨ w = "quiet" ∨ w = "unseen") : f_is_word (.str w) = pure (.bl true) := by
  have e : ∀ w : Str, isF "str" (.str w) = pure (.bl true) := fun _ => rfl
  have s : shp d_WORDS = true := by decide +kernel
  have s1 : ∀ w : Str, (w = "alarm" ∨ w = "quiet" ∨ w = "unseen") → inD (.str w) d_WORDS = pure (.bl true) := fun w h => by
    show (if shp (.str w) = true ∧ shp d_WORDS = true then pure (.bl ((["alarm", "quiet", "unseen"] : List Str).map D.str |>.any fun z => eqvD z (.str w))) else bad : PM D) = _
    rcases h with rfl | rfl | rfl
    · rw [if_pos ⟨by decide +kernel, s⟩, show ((["alarm", "quiet", "unseen"] : List Str).map D.str |>.any fun z => eqvD z (.str "alarm")) = true by decide +kernel]
    · rw [if_pos ⟨by decide +kernel, s⟩, show ((["alarm", "quiet", "unseen"] : List Str).map D.str |>.any fun z => eqvD z (.str "quiet")) = true by decide +kernel]
    · rw [if_pos ⟨by decide +kernel, s⟩, show ((["alarm", "quiet", "unseen"] : List Str).map D.str |>.any fun z => eqvD z (.str "unseen")) = true by decide +kernel]
  simp only [f_is_word, pure_bind, e, asB_bl, if_true, s1 w h, id]
theorem comp_words {e : D → PM D} (hl : ws.length ≤ lim) (he : ∀ w ∈ ws, e (.str w) = pure (.bl true)) : compL dec1 (fun _ => pure true) e (ws.map D.str) = pure ((ws.map fun _ => true).map D.bl) := by
  rw [compPm (zs := ws) (g := D.str) (f := fun _ => D.bl true) (by rw [List.map_map]; rfl) (by rw [List.length_map]; exact hl) (fun _ => rfl) he, List.map_map]
  rfl
theorem is_report (h : Net N) (r : Rep N ws) : f_is_report (dN N) (tS ws) = pure (.bl true) := by
  have e : ∀ w : Str, isF "str" (.str w) = pure (.bl true) := fun _ => rfl
  simp only [f_is_report, pure_bind, bind_assoc, isF_tup, asB_bl, if_true, len_tup, List.length_map, eqInt, r.len, decide_true, items_tup, fn1_eq, id]
  rw [comp_words (r.lim h) (fun w m => by rw [is_word (r.ws w m)]; rfl), pure_bind, blsF, pure_bind, List.all_map]
  congr 2
  exact List.all_eq_true.mpr fun _ _ => rfl
theorem need_report (h : Net N) (r : Rep N ws) : f_need_report (dN N) (tS ws) = pure .non := by
  simp only [f_need_report, g_need_report, pure_bind, bind_assoc, fn1_eq, fn2_eq, need_net h, is_report h r, run0_p, asB_bl, Bool.not_true]
  rfl
end
end Lw
namespace Lw
open PySem EV
section
variable {N : Nt} {ws : List Str}
theorem ones_lay {α : Type} (l : List α) : shp (.lst (l.map fun _ => D.int 1)) = true := by
  have := shpLI (l.map fun _ => (1 : Int))
  rw [show l.map (fun _ => D.int 1) = (l.map fun _ => (1 : Int)).map D.int by rw [List.map_map]; rfl]
  exact this
end
theorem strs_of {n : Nat} : ∀ {r : List D}, (∀ d ∈ r, ∃ w : Str, d = .str w ∧ (w = "alarm" ∨ w = "quiet" ∨ w = "unseen")) → ∃ ws : List Str, r = ws.map .str ∧ Words ws
  | [], _ => ⟨[], rfl, fun _ m => by cases m⟩
  | d :: r, h => by
    obtain ⟨w, rfl, hw⟩ := h d List.mem_cons_self
    obtain ⟨ws, rfl, hs⟩ := strs_of (n := n) (r := r) fun x m => h x (List.mem_cons_of_mem _ m)
    refine ⟨w :: ws, rfl, fun x m => ?_⟩
    rcases List.mem_cons.mp m with rfl | m
    · exact hw
    · exact hs x m
end Lw
namespace Lw
open PySem EV
noncomputable def leI (a b : List Int) : Bool := decide (a ≤ b)
theorem leI_tr (a b c : List Int) (h : leI a b = true) (h2 : leI b c = true) : leI a c = true := decide_eq_true (List.le_trans (of_decide_eq_true h) (of_decide_eq_true h2))
theorem leI_tot (a b : List Int) : (leI a b || leI b a) = true := by
  rw [Bool.or_eq_true]
  rcases List.le_total a b with h | h
  · exact .inl (decide_eq_true h)
  · exact .inr (decide_eq_true h)
theorem leI_anti {a b : List Int} (h : leI a b = true) (h2 : leI b a = true) : a = b := List.le_antisymm (of_decide_eq_true h) (of_decide_eq_true h2)
theorem toPy_tI (a : List Int) : toPy (tI a) = .tuple (a.map PyData.int) := by
  show PyData.tuple (toPyL (a.map D.int)) = _
  rw [toPyL_map, List.map_map]
  rfl
theorem leD2_rows (a b : List Int) : leD2 (tI a) (tI b) = leI a b := by
  unfold leD2 leI
  rw [toPy_tI, toPy_tI, PySem.W.dataLt_tuple, show PyProof.Rows.lexLt PyProof.Rows.itemOrd (PySem.W.keyToksAll (b.map PyData.int)) (PySem.W.keyToksAll (a.map PyData.int)) = PySem.W.rowLt (b.map .int) (a.map .int) from rfl, PySem.W.dataLt_ints]
  by_cases h : b < a
  · rw [decide_eq_true h, decide_eq_false (fun z => (List.not_lt.mpr z) h)]
    rfl
  · rw [decide_eq_false h, decide_eq_true (List.not_lt.mp h)]
    rfl
theorem sortP_rows {L : List (List Int)} (h : (∃ r, L = [] :: r) ∨ ∀ r ∈ L, r ≠ []) : sortP (L.map tI) = true := by
  unfold sortP
  have e1 : ((L.map tI).all fun a => (L.map tI).all fun b => PySem.W.alike (toPy a) (toPy b)) = true := by
    refine List.all_eq_true.mpr fun x hx => List.all_eq_true.mpr fun y hy => ?_
    obtain ⟨a, _, rfl⟩ := List.mem_map.mp hx
    obtain ⟨b, _, rfl⟩ := List.mem_map.mp hy
    rw [toPy_tI, toPy_tI]
    simp only [PySem.W.alike]
    exact PySem.W.alike_ints a b
  have e2 : ((L.map tI).all fun a => decide ((toPy a).depth ≤ 60)) = true := by
    refine List.all_eq_true.mpr fun x hx => ?_
    obtain ⟨a, _, rfl⟩ := List.mem_map.mp hx
    rw [toPy_tI]
    simp only [PyData.depth, PySem.W.depth_ints, decide_eq_true_eq]
    omega
  rw [e1, e2]
  rcases h with ⟨r, rfl⟩ | h
  · have e3 : ((([] : List Int) :: r).map tI).all (fun a => isTup (toPy a)) = true := by
      refine List.all_eq_true.mpr fun x hx => ?_
      obtain ⟨a, _, rfl⟩ := List.mem_map.mp hx
      rw [toPy_tI]
      rfl
    have e4 : tup0 (((([] : List Int) :: r).map tI).map toPy) = true := by
      rw [List.map_cons, List.map_cons, toPy_tI]
      rfl
    rw [e3, e4]
    simp
  · have e3 : (L.map tI).all (fun a => neTup (toPy a)) = true := by
      refine List.all_eq_true.mpr fun x hx => ?_
      obtain ⟨a, ha, rfl⟩ := List.mem_map.mp hx
      rw [toPy_tI]
      cases a with
      | nil => exact absurd rfl (h [] ha)
      | cons y r => rfl
    rw [e3]
    simp
theorem map_sort (L : List (List Int)) : (L.map tI).mergeSort leD2 = (L.mergeSort leI).map tI := (List.map_mergeSort fun a _ b _ => (leD2_rows a b).symm).symm
theorem sort_rows {L : List (List Int)} (h : (∃ r, L = [] :: r) ∨ ∀ r ∈ L, r ≠ []) (hl : L.length ≤ lim) : sortedG [.lst (L.map tI)] = pure (.lst ((L.mergeSort leI).map tI)) := by
  cases L with
  | nil =>
    rw [List.mergeSort_nil]
    rfl
  | cons x r =>
    have e : intsQ [.lst ((x :: r).map tI)] = false := rfl
    unfold sortedG
    rw [e, if_neg (by decide)]
    show (if sortP ((x :: r).map tI) = true then mkL (((x :: r).map tI).mergeSort leD2) else bad : PM D) = _
    rw [if_pos (sortP_rows h), map_sort]
    exact mkL_ok (by rw [List.length_map, List.length_mergeSort]; exact hl)
structure IsSubs (k : Nat) (L : List (List Int)) : Prop where
  mem : ∀ B, B ∈ L ↔ Rising k B
  nd : L.Nodup
  hd : ∃ r, L = [] :: r
  len : L.length = 2 ^ k
theorem rising_zero (B : List Int) : Rising 0 B ↔ B = [] := by
  constructor
  · intro h
    cases B with
    | nil => rfl
    | cons x r =>
      have := h.1 x List.mem_cons_self
      omega
  · rintro rfl
    exact ⟨by simp, .nil⟩
theorem rising_succ (k : Nat) (B : List Int) : Rising (k + 1) B ↔ Rising k B ∨ ∃ r, B = r ++ [(k : Int)] ∧ Rising k r := by
  constructor
  · intro h
    by_cases hk : (k : Int) ∈ B
    · obtain ⟨s, t, rfl⟩ := List.append_of_mem hk
      have q := List.pairwise_append.mp h.2
      have q2 := List.pairwise_cons.mp q.2.1
      have ht : t = [] := by
        cases t with
        | nil => rfl
        | cons y t =>
          have h1 := q2.1 y List.mem_cons_self
          have h2 := h.1 y (by simp)
          omega
      subst ht
      refine .inr ⟨s, rfl, fun x m => ?_, q.1⟩
      have h1 := q.2.2 x m (k : Int) (by simp)
      have h2 := h.1 x (by simp [m])
      omega
    · refine .inl ⟨fun x m => ?_, h.2⟩
      have h1 := h.1 x m
      have h2 : x ≠ k := fun e => hk (e ▸ m)
      omega
  · rintro (h | ⟨r, rfl, h⟩)
    · exact ⟨fun x m => by have := h.1 x m; omega, h.2⟩
    · refine ⟨fun x m => ?_, List.pairwise_append.mpr ⟨h.2, by simp, fun a ha b hb => ?_⟩⟩
      · rcases List.mem_append.mp m with m | m
        · have := h.1 x m
          omega
        · rw [List.mem_singleton.mp m]
          omega
      · rw [List.mem_singleton.mp hb]
        have := h.1 a ha
        omega
theorem subs_zero : IsSubs 0 [[]] := ⟨fun B => by rw [rising_zero, List.mem_singleton], by simp, ⟨[], rfl⟩, rfl⟩
theorem not_self {k : Nat} {L : List (List Int)} (h : IsSubs k L) {r : List Int} : r ++ [(k : Int)] ∉ L := fun m => by
  have := ((h.mem _).mp m).1 k (by simp)
  omega
/-- all rows, then all rows with k -/
theorem subs_app {k : Nat} {L : List (List Int)} (h : IsSubs k L) : IsSubs (k + 1) (L ++ L.map fun r => r ++ [(k : Int)]) := by
  refine ⟨fun B => ?_, ?_, ?_, ?_⟩
  · rw [List.mem_append, rising_succ, h.mem, List.mem_map]
    constructor
    · rintro (hB | ⟨r, hr, rfl⟩)
      · exact .inl hB
      · exact .inr ⟨r, rfl, (h.mem _).mp hr⟩
    · rintro (hB | ⟨r, rfl, hr⟩)
      · exact .inl hB
      · exact .inr ⟨r, (h.mem _).mpr hr, rfl⟩
  · refine List.nodup_append.mpr ⟨h.nd, ?_, fun a ha b hb e => ?_⟩
    · exact List.pairwise_map.mpr (h.nd.imp fun hne e => hne (List.append_cancel_right e))
    · subst e
      obtain ⟨r, _, e⟩ := List.mem_map.mp hb
      exact not_self h (e ▸ ha)
  · obtain ⟨r, rfl⟩ := h.hd
    exact ⟨_, rfl⟩
  · rw [List.length_append, List.length_map, h.len, Nat.pow_succ]
    omega
noncomputable def genS : Nat → List (List Int)
  | 0 => [[]]
  | k + 1 => genS k ++ (genS k).map fun r => r ++ [(k : Int)]
theorem genS_is : ∀ k, IsSubs k (genS k)
  | 0 => subs_zero
  | k + 1 => subs_app (genS_is k)
/-- all sets of components, ascending -/
noncomputable def subs (n : Nat) : List (List Int) := (genS n).mergeSort leI
theorem mem_subs {n : Nat} {B : List Int} : B ∈ subs n ↔ Rising n B := by
  unfold subs
  rw [(List.mergeSort_perm _ _).mem_iff, (genS_is n).mem]
theorem subs_len (n : Nat) : (subs n).length = 2 ^ n := by
  unfold subs
  rw [List.length_mergeSort, (genS_is n).len]
theorem subs_sorted (n : Nat) : (subs n).Pairwise fun a b => leI a b = true := List.pairwise_mergeSort leI_tr leI_tot _
theorem subs_nodup (n : Nat) : (subs n).Nodup := (List.mergeSort_perm _ _).nodup_iff.mpr (genS_is n).nd
/-- loops over rows -/
theorem forS_flat {α : Type} {body : List D → D → PM (List D)} (g : α → D) (f : α → List D) {m : Nat} : ∀ {L : List α} {c : List D}, (∀ c r, r ∈ L → c.length + m ≤ lim → body c (g r) = pure (c ++ f r)) → (∀ r ∈ L, (f r).length ≤ m) → c.length + L.length * m ≤ lim → forS dec1 body (L.map g) c = pure (c ++ L.flatMap f)
  | [], c, _, _, _ => by
    rw [List.map_nil, List.flatMap_nil, List.append_nil]
    rfl
  | r :: L, c, h, hm, hl => by
    rw [List.length_cons, Nat.succ_mul] at hl
    rw [List.map_cons]
    show (body c (g r) >>= forS dec1 body (L.map g)) = _
    have := hm r List.mem_cons_self
    rw [h c r List.mem_cons_self (by omega), pure_bind, forS_flat g f (fun c m hm => h c m (List.mem_cons_of_mem _ hm)) (fun x mx => hm x (List.mem_cons_of_mem _ mx)) (by rw [List.length_append]; omega), List.flatMap_cons, List.append_assoc]
end Lw
namespace Lw
open PySem EV
section
variable {N : Nt} {ws : List Str}
/-- every alarming one has a candidate in its reach -/
noncomputable def explained (N : Nt) (ws : List Str) : Bool := (withL ws "alarm").all fun a => meets (reachL N a) (candL N ws)
end
end Lw
namespace Lw
open PySem EV
section
variable {N : Nt} {ws : List Str}
/-- the candidates in the reach of a -/
noncomputable def needL (N : Nt) (ws : List Str) (a : Int) : List Int := (reachL N a).filter fun x => decide (x ∈ candL N ws)
theorem needL_len (h : Net N) (ws : List Str) (a : Int) : (needL N ws a).length ≤ 8 := Nat.le_trans (List.length_filter_le _ _) (reachL_len h a)
theorem withL_in (r : Rep N ws) {w : Str} {i : Int} (m : i ∈ withL ws w) : 0 ≤ i ∧ i < N.length := by
  have z := (mem_withL.mp m).1
  exact ⟨z.1, by rw [← r.len]; exact z.2⟩
theorem withL_len8 (h : Net N) (r : Rep N ws) (w : Str) : (withL ws w).length ≤ 8 := by
  have z := (withL_rising ws w).len
  have := r.len
  have := h.hi
  omega
theorem needed_of (h : Net N) (r : Rep N ws) : f_needed_of (dN N) (tS ws) = pure (.lst (((withL ws "alarm").map (needL N ws)).map tI)) := by
  have rl := r.lim h
  have w8 := withL_len8 h r "alarm"
  have eo : okL [] = pure [] := rfl
  simp only [f_needed_of, pure_bind, bind_assoc, fn2_eq, candidates_of h r, with_word ws _ rl, run0_p, items_tup, eo, id]
  rw [forS_map (fun a => tI (needL N ws a)) (fun c a ma hc => ?_) (by rw [List.length_nil]; show _ ≤ 1000000; omega), pure_bind, List.nil_append, List.map_map]
  · rfl
  · have z := withL_in r ma
    rw [reach_ok h z.1 z.2, run0_p, pure_bind, items_tup, pure_bind, filtI (fun x => decide (x ∈ candL N ws)) (by have := reachL_len h a; show _ ≤ 1000000; exact EV.w_le8 (by assumption)) (fun x _ => by rw [inT, pure_bind, asB_bl]), pure_bind,
      tupleL (by rw [List.length_map]; have := needL_len h ws a; show (needL N ws a).length ≤ 1000000; exact EV.w_le8 (by assumption)), pure_bind, okLen_ok (by rw [List.length_append, List.length_singleton]; exact hc)]
    rfl
/-- rows of ints, small: how they compare -/
theorem rows_shp {L : List (List Int)} : shp (.lst (L.map tI)) = true := by
  unfold EV.shp SeqAt.shaped
  have e1 : PyData.canLayAll0 (toPyL (L.map tI)) = true := all_lay fun x m => by
    (refine EV.el1_2 (List.mem_map.mp m) fun a _ q282_ => ?_; obtain rfl := q282_)
    have z := allI_lay a
    simp only [toPy, PyData.canLay0]
    exact z
  have e2 : PyData.depthAll (toPyL (L.map tI)) ≤ 1 := all_deep fun x m => by
    (refine EV.el1_2 (List.mem_map.mp m) fun a _ q283_ => ?_; obtain rfl := q283_)
    have z := allI_deep a
    simp only [toPy, PyData.depth]
    exact Nat.lt_succ_of_le (by assumption)
  simp only [toPy, PyData.canLay0, PyData.depth, e1, Bool.true_and, decide_eq_true_eq]
  omega
theorem eqv_rows : ∀ a b : List Int, eqvD (tI a) (tI b) = (a == b)
  | [], [] => rfl
  | [], _ :: _ => rfl
  | _ :: _, [] => rfl
  | x :: a, y :: b => by
    show (x == y && eqvD (tI a) (tI b)) = (x == y && a == b)
    rw [eqv_rows a b]
theorem any_rows (L : List (List Int)) (b : List Int) : ((L.map tI).any fun z => eqvD z (tI b)) = decide (b ∈ L) := by
  rw [Bool.eq_iff_iff, List.any_eq_true, decide_eq_true_eq]
  constructor
  · rintro ⟨z, hz, e⟩
    (refine EV.el1_2 (List.mem_map.mp hz) fun a ha q284_ => ?_; obtain rfl := q284_)
    rw [eqv_rows, beq_iff_eq] at e
    exact e ▸ ha
  · intro h
    exact EV.in1_2 (tI b) (List.mem_map.mpr (EV.in1_2 b h rfl)) (by rw [eqv_rows, beq_iff_eq])
theorem inRows (b : List Int) (L : List (List Int)) : inD (tI b) (.lst (L.map tI)) = pure (.bl (decide (b ∈ L))) := by
  show (if shp (tI b) = true ∧ shp (.lst (L.map tI)) = true then pure (.bl ((L.map tI).any fun z => eqvD z (tI b))) else bad : PM D) = _
  rw [if_pos ⟨shpTI b, rows_shp⟩, any_rows]
theorem ninRows (b : List Int) (L : List (List Int)) : notInD (tI b) (.lst (L.map tI)) = pure (.bl (!decide (b ∈ L))) := by
  show (if shp (tI b) = true ∧ shp (.lst (L.map tI)) = true then pure (.bl (!(L.map tI).any fun z => eqvD z (tI b))) else bad : PM D) = _
  rw [if_pos ⟨shpTI b, rows_shp⟩, any_rows]
theorem need_empty (N : Nt) (ws : List Str) (a : Int) : needL N ws a = [] ↔ meets (reachL N a) (candL N ws) = false := by
  unfold needL
  rw [List.filter_eq_nil_iff, ← Bool.not_eq_true, meets_iff]
  constructor
  · rintro h ⟨x, h1, h2⟩
    exact h x h1 (decide_eq_true h2)
  · intro h x h1 h2
    exact h ⟨x, h1, of_decide_eq_true h2⟩
theorem is_explained (h : Net N) (r : Rep N ws) : f_is_explained (dN N) (tS ws) = pure (.bl ((withL ws "alarm").all fun a => meets (reachL N a) (candL N ws))) := by
  have e1 : mkT [] = pure (tI []) := rfl
  simp only [f_is_explained, pure_bind, fn2_eq, needed_of h r, run0_p, e1, ninRows, id]
  congr 2
  rw [Bool.eq_iff_iff, Bool.not_eq_true', decide_eq_false_iff_not, List.all_eq_true]
  constructor
  · intro z a ma
    cases e : meets (reachL N a) (candL N ws) with
    | true => rfl
    | false => exact absurd (List.mem_map.mpr (EV.in1_2 a ma ((need_empty N ws a).mpr e))) z
  · intro z m
    refine EV.el1_2 (List.mem_map.mp m) fun a ma e => ?_
    have q := z a ma
    rw [(need_empty N ws a).mp e] at q
    exact EV.nnB q
/-- the quiet ones that reach c -/
noncomputable def rulersL (N : Nt) (ws : List Str) (c : Int) : List Int := (withL ws "quiet").filter fun q => decide (c ∈ reachL N q)
theorem rulers_of (h : Net N) (r : Rep N ws) (c : Int) : f_rulers_of (dN N) (tS ws) (.int c) = pure (lI (rulersL N ws c)) := by
  have rl := r.lim h
  have w8 := withL_len8 h r "quiet"
  simp only [f_rulers_of, pure_bind, bind_assoc, fn2_eq, with_word ws _ rl, run0_p, items_tup, id]
  rw [filtI (fun q => decide (c ∈ reachL N q)) (by show _ ≤ 1000000; omega) (fun q mq => by
    have z := withL_in r mq
    rw [reach_ok h z.1 z.2, run0_p, pure_bind, inT, pure_bind, asB_bl]), pure_bind]
  rfl
theorem rulers_ne (h : Net N) (r : Rep N ws) {c : Int} (h0 : 0 ≤ c) (h1 : c < N.length) (hc : c ∉ candL N ws) : rulersL N ws c ≠ [] := by
  have : ∃ q ∈ withL ws "quiet", Reach N q c := Classical.byContradiction fun z => hc (mem_setOf.mpr ⟨⟨h0, h1⟩, z⟩)
  (refine EV.el1_2 this ?_; try clear this; intro q mq rq)
  have z := withL_in r mq
  intro e
  have m : q ∈ rulersL N ws c := List.mem_filter.mpr ⟨mq, decide_eq_true ((mem_reachL h z.1 z.2).mpr rq)⟩
  rw [e] at m
  cases m
theorem first0 {l : List Int} (h : l ≠ []) : getD (lI l) (.int 0) = pure (.int (ix l 0)) := by
  have : 0 < l.length := List.length_pos_iff.mpr h
  rw [getL (l := l) (f := D.int) (by decide) (by exact Int.ofNat_lt.mpr (by assumption))]
noncomputable def firstL (N : Nt) (ws : List Str) (c : Int) : Int := ix (rulersL N ws c) 0
end
end Lw
namespace Lw
open PySem EV
section
variable {N : Nt}
/-- rows on their way to the reaches -/
structure Tab (N : Nt) (t : Nat) (T : List (List Int)) : Prop where
  len : T.length = N.length
  fd : ∀ i : Int, 0 ≤ i → i < N.length → Fd N i (ix T i)
  ne : ∀ i : Int, 0 ≤ i → i < N.length → ∀ y ∈ ix N i, y ∈ ix T i
  grow : ∀ i : Int, 0 ≤ i → i < N.length → Closed N (ix T i) ∨ t + 1 ≤ (ix T i).length
  asc : 1 ≤ t → ∀ i : Int, 0 ≤ i → i < N.length → (ix T i).Pairwise (· < ·)
theorem setI_nodup (l : List Int) : (setI l).Nodup := asc_nodup (setI_asc l)
/-- one turn -/
noncomputable def turnL (T : List (List Int)) : List (List Int) := T.map fun own => setI (own.flatMap fun x => ix T x)
theorem ix_turn {T : List (List Int)} {i : Int} (h0 : 0 ≤ i) (h1 : i < T.length) : ix (turnL T) i = setI ((ix T i).flatMap fun x => ix T x) := by
  unfold turnL
  rw [ix_map h0 h1]
theorem Reach.trans {c x y : Int} (h : Reach N c x) (h2 : Reach N x y) : Reach N c y := by
  induction h2 with
  | refl => exact h
  | step _ m ih => exact .step ih m
theorem nodup_sub_len {a b : List Int} (ha : a.Nodup) (h : ∀ x ∈ a, x ∈ b) {y : Int} (hy : y ∈ b) (hn : y ∉ a) : a.length + 1 ≤ b.length := by
  have p : (sortI (y :: a)).length ≤ (setI b).length := by
    have nd : (y :: a).Nodup := List.nodup_cons.mpr ⟨hn, ha⟩
    have e : sortI (y :: a) = (setI b).filter fun x => decide (x ∈ y :: a) := asc_eq (sortI_nodup nd) ((setI_asc b).filter _) fun k => by
      rw [(sortI_perm _).mem_iff, List.mem_filter, mem_setI, decide_eq_true_eq]
      refine ⟨fun m => ⟨?_, m⟩, fun m => m.2⟩
      rcases List.mem_cons.mp m with rfl | m
      · exact hy
      · exact h k m
    rw [e]
    exact List.length_filter_le _ _
  rw [(sortI_perm _).length_eq, List.length_cons] at p
  have := setI_len b
  omega
theorem Tab.turn (h : Net N) {t : Nat} {T : List (List Int)} (a : Tab N t T) : Tab N (t + 1) (turnL T) := by
  have hin : ∀ i : Int, 0 ≤ i → i < N.length → ∀ x ∈ ix T i, 0 ≤ x ∧ x < N.length := fun i h0 h1 x m => h.reach_in ⟨h0, h1⟩ ((a.fd i h0 h1).rc x m)
  have ex : ∀ i : Int, 0 ≤ i → i < N.length → ix (turnL T) i = setI ((ix T i).flatMap fun x => ix T x) := fun i h0 h1 => ix_turn h0 (by rw [a.len]; exact h1)
  have sup : ∀ i : Int, 0 ≤ i → i < N.length → ∀ x ∈ ix T i, x ∈ ix (turnL T) i := fun i h0 h1 x m => by
    rw [ex i h0 h1, mem_setI, List.mem_flatMap]
    have z := hin i h0 h1 x m
    exact ⟨x, m, (a.fd x z.1 z.2).c⟩
  have fd : ∀ i : Int, 0 ≤ i → i < N.length → Fd N i (ix (turnL T) i) := fun i h0 h1 => by
    refine ⟨by rw [ex i h0 h1]; exact setI_nodup _, fun y m => ?_, sup i h0 h1 _ (a.fd i h0 h1).c⟩
    rw [ex i h0 h1, mem_setI, List.mem_flatMap] at m
    obtain ⟨x, m1, m2⟩ := m
    have z := hin i h0 h1 x m1
    exact ((a.fd i h0 h1).rc x m1).trans ((a.fd x z.1 z.2).rc y m2)
  refine ⟨by unfold turnL; rw [List.length_map, a.len], fd, fun i h0 h1 y m => sup i h0 h1 y (a.ne i h0 h1 y m), fun i h0 h1 => ?_, fun _ i h0 h1 => by rw [ex i h0 h1]; exact setI_asc _⟩
  by_cases hc : Closed N (ix T i)
  · refine .inl fun x m y my => sup i h0 h1 y ?_
    have r := (fd i h0 h1).rc x m
    exact hc x (((a.fd i h0 h1).done hc x).mpr r) y my
  · refine .inr ?_
    have l : t + 1 ≤ (ix T i).length := by
      rcases a.grow i h0 h1 with z | z
      · exact absurd z hc
      · exact z
    have : ∃ x ∈ ix T i, ∃ y ∈ ix N x, y ∉ ix T i := by
      refine Classical.byContradiction fun z => hc fun x m y my => Classical.byContradiction fun q => z ⟨x, m, y, my, q⟩
    obtain ⟨x, mx, y, my, ny⟩ := this
    have z := hin i h0 h1 x mx
    have my2 : y ∈ ix (turnL T) i := by
      rw [ex i h0 h1, mem_setI, List.mem_flatMap]
      exact ⟨x, mx, a.ne x z.1 z.2 y my⟩
    have := nodup_sub_len (a.fd i h0 h1).nd (sup i h0 h1) my2 ny
    omega
theorem tab0 (h : Net N) : Tab N 0 ((iota N.length).map fun i => i :: ix N i) := by
  have e : ∀ i : Int, 0 ≤ i → i < N.length → ix ((iota N.length).map fun i => i :: ix N i) i = i :: ix N i := fun i h0 h1 => by
    rw [ix_map h0 (by rw [len_iota]; exact h1), ix_iota h0 h1]
  refine ⟨by rw [List.length_map, len_iota], fun i h0 h1 => ?_, fun i h0 h1 y m => ?_, fun i h0 h1 => .inr ?_, fun h => by omega⟩
  · rw [e i h0 h1]
    have z := h.ixr h0 h1
    refine ⟨List.nodup_cons.mpr ⟨z.2, asc_nodup z.1.2⟩, fun x m => ?_, List.mem_cons_self⟩
    rcases List.mem_cons.mp m with rfl | m
    · exact .refl
    · exact .step .refl m
  · rw [e i h0 h1]
    exact List.mem_cons_of_mem _ m
  · rw [e i h0 h1, List.length_cons]
    omega
theorem Tab.done (h : Net N) {T : List (List Int)} (a : Tab N N.length T) : T = (iota N.length).map fun i => reachL N i := by
  refine List.ext_getElem? fun k => ?_
  by_cases hk : k < N.length
  · have z := ix_get (l := T) (i := (k : Int)) (by omega) (by rw [a.len]; omega)
    rw [show ((k : Int)).toNat = k by omega] at z
    rw [z, List.getElem?_map, iota_get hk]
    have f := a.fd k (by omega) (by omega)
    have hc : Closed N (ix T k) := by
      rcases a.grow k (by omega) (by omega) with c | c
      · exact c
      · have := f.len h (by omega) (by omega)
        omega
    show some (ix T k) = some (reachL N k)
    congr 1
    exact eq_setOf (a.asc h.lo k (by omega) (by omega)) fun x => by
      rw [f.done hc x]
      exact ⟨fun r => ⟨h.reach_in ⟨by omega, by omega⟩ r, r⟩, fun r => r.2⟩
  · rw [List.getElem?_eq_none (by rw [a.len]; omega), List.getElem?_eq_none (by rw [List.length_map, len_iota]; omega)]
noncomputable abbrev lR (T : List (List Int)) : D := .lst (T.map lI)
theorem reaches (h : Net N) : f_law_reaches (dN N) = pure (.lst ((iota N.length).map fun i => lI (reachL N i))) := by
  have hl := h.lim
  have h8 := h.hi
  have eo : okL [] = pure [] := rfl
  have e1 : ∀ d : D, mkL [d] = pure (.lst [d]) := fun _ => rfl
  simp only [f_law_reaches, pure_bind, bind_assoc, enum_tup, len_tup, List.length_map, range1 hl, eo, e1, id]
  rw [compPm (zs := iota N.length) (fun i => (D.int i, tI (ix N i))) (fun i => lI (i :: ix N i)) (pairs_ix N tI) (by rw [pairs_len, List.length_map]; exact hl) (fun _ => rfl) (fun i mi => by
    have mi := mem_iota.mp mi
    have z := (h.ixr mi.1 mi.2).1.len
    show (listF [tI (ix N i)] >>= fun x => addD (.lst [.int i]) x) = _
    show (mkL ((ix N i).map D.int) >>= fun x => addD (.lst [.int i]) x) = _
    rw [mkL_ok (by rw [List.length_map]; show _ ≤ 1000000; omega), pure_bind]
    exact mkL_ok (by rw [List.length_append, List.length_map]; show 1 + _ ≤ 1000000; omega)), pure_bind]
  refine forS_then (fun t c => ∃ T, c = lR T ∧ Tab N t T) ⟨_, by rw [lR, List.map_map]; rfl, tab0 h⟩ (fun t z c hz hc => ?_) (fun c hc => ?_)
  · obtain ⟨T, rfl, a⟩ := hc
    refine ⟨_, ?_, _, rfl, a.turn h⟩
    have hT := a.len
    rw [items_lst, pure_bind, forS_flat lI (fun own => [lI (setI (own.flatMap fun x => ix T x))]) (m := 1) (fun c own mo hc => ?_) (fun _ _ => by simp) (by rw [List.length_nil]; show _ ≤ 1000000; omega)]
    · rw [pure_bind, List.nil_append, ← List.map_eq_flatMap]
      unfold lR turnL
      rw [List.map_map]
      rfl
    · obtain ⟨k, hk⟩ := List.mem_iff_getElem?.mp mo
      have hkl := (List.getElem?_eq_some_iff.mp hk).1
      have eo : own = ix T k := by
        have z := ix_get (l := T) (i := (k : Int)) (by omega) (by omega)
        rw [show ((k : Int)).toNat = k by omega, hk] at z
        exact Option.some.inj z
      have f := a.fd k (by omega) (by omega)
      have fl := f.len h (by omega) (by omega)
      rw [← eo] at f fl
      have hin : ∀ x ∈ own, 0 ≤ x ∧ x < N.length := fun x m => h.reach_in ⟨by omega, by omega⟩ (f.rc x m)
      have hrow : ∀ x ∈ own, (ix T x).length ≤ 8 := fun x m => by
        have z := hin x m
        have := (a.fd x z.1 z.2).len h z.1 z.2
        omega
      rw [items_lst, pure_bind, forS_flat D.int (fun x => (ix T x).map D.int) (m := 8) (fun c x mx hc => ?_) (fun x mx => by rw [List.length_map]; exact hrow x mx) (by rw [List.length_nil]; show _ ≤ 1000000; omega), pure_bind, List.nil_append]
      · have lf : ∀ l : List Int, (∀ x ∈ l, (ix T x).length ≤ 8) → (l.flatMap fun x => ix T x).length ≤ l.length * 8 := fun l => by
          induction l with
          | nil => intro _; simp
          | cons y l ih =>
            intro hl
            have h1 := hl y List.mem_cons_self
            have h2 := ih fun x m => hl x (List.mem_cons_of_mem _ m)
            rw [List.flatMap_cons, List.length_append, List.length_cons, Nat.succ_mul]
            omega
        have l64 := lf own hrow
        have ls : (setI (own.flatMap fun x => ix T x)).length ≤ N.length := nodup_len (setI_nodup _) fun y m => by
          obtain ⟨x, m1, m2⟩ := List.mem_flatMap.mp (mem_setI.mp m)
          have z := hin x m1
          exact h.reach_in z ((a.fd x z.1 z.2).rc y m2)
        show (sortSetD (.lst (own.flatMap fun x => (ix T x).map D.int)) >>= _) = _
        rw [show (own.flatMap fun x => (ix T x).map D.int) = (own.flatMap fun x => ix T x).map D.int by rw [List.map_flatMap], ssetG (by omega) (by omega), pure_bind, okLen_ok (by rw [List.length_append, List.length_singleton]; exact hc)]
        rfl
      · have z := hin x mx
        rw [getL (l := T) z.1 (by rw [hT]; exact z.2), pure_bind]
        show (pure ((ix T x).map D.int) >>= _) = _
        rw [pure_bind, okLen_ok (by rw [List.length_append, List.length_map]; have := hrow x mx; omega)]
        rfl
  · obtain ⟨T, rfl, a⟩ := hc
    rw [len_iota] at a
    rw [a.done h, lR, List.map_map]
    rfl
end
end Lw
namespace Lw
open PySem EV
/-- all sublists -/
structure IsSub (l : List Int) (L : List (List Int)) : Prop where
  mem : ∀ B, B ∈ L ↔ B.Sublist l
  nd : L.Nodup
  hd : ∃ r, L = [] :: r
  len : L.length = 2 ^ l.length
theorem sub_zero : IsSub [] [[]] := ⟨fun B => by rw [List.mem_singleton, List.sublist_nil], by simp, ⟨[], rfl⟩, rfl⟩
theorem sub_app {l : List Int} {x : Int} {L : List (List Int)} (h : IsSub l L) (hx : x ∉ l) : IsSub (l ++ [x]) (L ++ L.map fun r => r ++ [x]) := by
  have no : ∀ r : List Int, r ++ [x] ∉ L := fun r m => hx (((h.mem _).mp m).subset (by simp))
  refine ⟨fun B => ?_, ?_, ?_, ?_⟩
  · rw [List.mem_append, h.mem, List.mem_map, List.sublist_append_iff]
    constructor
    · rintro (hB | ⟨r, hr, rfl⟩)
      · exact ⟨B, [], by simp, hB, by simp⟩
      · exact ⟨r, [x], rfl, (h.mem _).mp hr, List.Sublist.refl _⟩
    · rintro ⟨a, b, rfl, ha, hb⟩
      have hb' : b = [] ∨ b = [x] := by
        cases hb with
        | cons _ h => exact .inl (List.sublist_nil.mp h)
        | cons_cons _ h => exact .inr (by rw [List.sublist_nil.mp h])
      rcases hb' with rfl | rfl
      · exact .inl (by simpa using ha)
      · exact .inr ⟨a, (h.mem _).mpr ha, rfl⟩
  · refine List.nodup_append.mpr ⟨h.nd, ?_, fun a ha b hb e => ?_⟩
    · exact List.pairwise_map.mpr (h.nd.imp fun hne e => hne (List.append_cancel_right e))
    · subst e
      obtain ⟨r, _, e⟩ := List.mem_map.mp hb
      exact no r (e ▸ ha)
  · obtain ⟨r, rfl⟩ := h.hd
    exact ⟨_, rfl⟩
  · rw [List.length_append, List.length_map, h.len, List.length_append, List.length_singleton, Nat.pow_succ]
    omega
theorem sub_ex (l : List Int) (hl : l.Nodup) : ∃ L, IsSub l L := by
  have : ∀ n, n ≤ l.length → ∃ L, IsSub (l.take n) L := fun n => by
    induction n with
    | zero => exact fun _ => ⟨_, by rw [List.take_zero]; exact sub_zero⟩
    | succ n ih =>
      intro hn
      obtain ⟨L, h⟩ := ih (by omega)
      have e : l.take (n + 1) = l.take n ++ [l[n]] := by rw [List.take_append_getElem]
      have nd : (l.take n ++ [l[n]]).Nodup := by
        rw [← e]
        exact hl.sublist (List.take_sublist _ _)
      rw [e]
      exact ⟨_, sub_app h fun m => (List.nodup_append.mp nd).2.2 _ m _ (by simp) rfl⟩
  obtain ⟨L, h⟩ := this l.length (Nat.le_refl _)
  rw [List.take_length] at h
  exact ⟨L, h⟩
open Classical in
/-- all sublists, ascending -/
noncomputable def subsL (l : List Int) : List (List Int) := if h : ∃ L, IsSub l L then (Classical.choose h).mergeSort leI else []
theorem sorted_uniq {A B : List (List Int)} (ha : A.Pairwise fun a b => leI a b = true) (hb : B.Pairwise fun a b => leI a b = true) (na : A.Nodup) (nb : B.Nodup) (e : ∀ x, x ∈ A ↔ x ∈ B) : A = B :=
  List.Perm.eq_of_pairwise (fun a b _ _ h1 h2 => leI_anti h1 h2) ha hb ((List.perm_ext_iff_of_nodup na nb).mpr e)
theorem subsL_of {l : List Int} {L : List (List Int)} (h : IsSub l L) : L.mergeSort leI = subsL l := by
  have ex : ∃ L, IsSub l L := ⟨L, h⟩
  unfold subsL
  rw [dif_pos ex]
  have h2 := Classical.choose_spec ex
  refine sorted_uniq (List.pairwise_mergeSort leI_tr leI_tot _) (List.pairwise_mergeSort leI_tr leI_tot _) ((List.mergeSort_perm _ _).nodup_iff.mpr h.nd) ((List.mergeSort_perm _ _).nodup_iff.mpr h2.nd) fun x => ?_
  rw [(List.mergeSort_perm _ _).mem_iff, (List.mergeSort_perm _ _).mem_iff, h.mem, h2.mem]
section
variable {l : List Int}
theorem mem_subsL (hl : l.Nodup) {B : List Int} : B ∈ subsL l ↔ B.Sublist l := by
  obtain ⟨L, h⟩ := sub_ex l hl
  rw [← subsL_of h, (List.mergeSort_perm _ _).mem_iff, h.mem]
theorem subsL_nodup (hl : l.Nodup) : (subsL l).Nodup := by
  obtain ⟨L, h⟩ := sub_ex l hl
  rw [← subsL_of h]
  exact (List.mergeSort_perm _ _).nodup_iff.mpr h.nd
theorem subsL_sorted (hl : l.Nodup) : (subsL l).Pairwise fun a b => leI a b = true := by
  obtain ⟨L, h⟩ := sub_ex l hl
  rw [← subsL_of h]
  exact List.pairwise_mergeSort leI_tr leI_tot _
end
theorem sub_asc {l B : List Int} (hl : l.Pairwise (· < ·)) : B.Sublist l ↔ B.Pairwise (· < ·) ∧ ∀ x ∈ B, x ∈ l := by
  constructor
  · intro h
    exact ⟨hl.sublist h, fun x m => h.subset m⟩
  · rintro ⟨h1, h2⟩
    have e : B = l.filter fun x => decide (x ∈ B) := asc_eq h1 (hl.filter _) fun k => by
      rw [List.mem_filter, decide_eq_true_eq]
      exact ⟨fun m => ⟨h2 k m, m⟩, fun m => m.2⟩
    rw [e]
    exact List.filter_sublist
theorem take_snoc {l : List Int} {i : Nat} {z : Int} (h : l[i]? = some z) : l.take (i + 1) = l.take i ++ [z] := by
  obtain ⟨hi, e⟩ := List.getElem?_eq_some_iff.mp h
  subst e
  rw [List.take_append_getElem]
theorem not_take {l : List Int} (hl : l.Nodup) {i : Nat} {z : Int} (h : l[i]? = some z) : z ∉ l.take i := fun m => by
  have e := take_snoc h
  have nd : (l.take i ++ [z]).Nodup := by
    rw [← e]
    exact hl.sublist (List.take_sublist _ _)
  exact (List.nodup_append.mp nd).2.2 _ m _ (by simp) rfl
theorem pow8' {n : Nat} (h : n ≤ 8) : 2 ^ n ≤ 256 := Nat.pow_le_pow_right (by decide) h
end Lw
namespace Lw
open PySem EV
section
variable {N : Nt} {ws : List Str}
/-- the word of c among all explanations -/
noncomputable def certW (N : Nt) (ws : List Str) (c : Int) : Str := if c ∉ candL N ws then "whole" else if [c] ∈ (withL ws "alarm").map (needL N ws) then "broken" else "open"
noncomputable def certL (N : Nt) (ws : List Str) : List Str := (iota N.length).map (certW N ws)
theorem word_of (h : Net N) (r : Rep N ws) (c : Int) : f_word_of (dN N) (tS ws) (.int c) = pure (.str (certW N ws c)) := by
  simp only [f_word_of, pure_bind, bind_assoc, fn2_eq, candidates_of h r, run0_p, ninT, asB_bl, needed_of h r, id]
  unfold certW
  by_cases q : c ∈ candL N ws
  · rw [decide_eq_true q, Bool.not_true, if_neg (by decide), if_neg (fun z => z q), mkT1, pure_bind]
    show (inD (tI [c]) _ >>= _) = _
    rw [inRows, pure_bind, asB_bl, pure_bind]
    by_cases g : [c] ∈ (withL ws "alarm").map (needL N ws)
    · rw [decide_eq_true g, if_pos rfl, if_pos g]
      rfl
    · rw [decide_eq_false g, if_neg (by decide), if_neg g]
      rfl
  · rw [decide_eq_false q, Bool.not_false, if_pos rfl, if_pos q]
noncomputable def certD (N : Nt) (ws : List Str) : D := if explained N ws = true then tS (certL N ws) else .non
theorem certain (h : Net N) (r : Rep N ws) : f_certain (dN N) (tS ws) = pure (certD N ws) := by
  have hl := h.lim
  simp only [f_certain, pure_bind, bind_assoc, fn2_eq, fn3_eq, need_report h r, is_explained h r, run0_p, asB_bl, len_tup, List.length_map, range1 hl, id]
  unfold certD
  cases e : explained N ws with
  | false =>
    have e' : (withL ws "alarm").all (fun a => meets (reachL N a) (candL N ws)) = false := e
    rw [e']
    rfl
  | true =>
    have e' : (withL ws "alarm").all (fun a => meets (reachL N a) (candL N ws)) = true := e
    rw [e', Bool.not_true, if_neg (by decide), if_pos rfl, compIm (fun c => .str (certW N ws c)) (by rw [len_iota]; exact hl) (fun _ => rfl) (fun c _ => by rw [word_of h r, run0_p]), pure_bind, tupleL (by rw [List.length_map, len_iota]; exact hl)]
    unfold certL
    rw [tS, List.map_map]
    rfl
/-- what c does with all explanations -/
noncomputable def expW (N : Nt) (ws : List Str) (c : Int) : Str := if meets (reachL N c) (candL N ws) = false then "quiet" else if ((withL ws "alarm").any fun a => (needL N ws a).all fun x => decide (x ∈ reachL N c)) = true then "alarm" else "open"
noncomputable def expL (N : Nt) (ws : List Str) : List Str := (iota N.length).map (expW N ws)
noncomputable def expD (N : Nt) (ws : List Str) : D := if explained N ws = true then tS (expL N ws) else .non
theorem forL_any {ι κ : Type} {dec : D → Option ι} {body : Unit → ι → PM (Lp Unit)} (g : κ → ι) (p : κ → Bool) {v : D} : ∀ {ds : List D} {zs : List κ}, ds.map dec = zs.map (fun z => some (g z)) → (∀ z ∈ zs, body () (g z) = pure (if p z = true then .ret v else .go ())) → forL dec body ds () = pure (if zs.any p = true then .ret v else .go ())
  | [], [], _, _ => rfl
  | [], _ :: _, h, _ => by simp at h
  | _ :: _, [], h, _ => by simp at h
  | d :: ds, z :: zs, h, hb => by
    rw [List.map_cons, List.map_cons] at h
    injection h with h1 h2
    unfold forL
    rw [h1]
    show (body () (g z) >>= _) = _
    rw [hb z List.mem_cons_self, pure_bind, List.any_cons]
    cases p z with
    | false =>
      rw [if_neg (by decide), Bool.false_or]
      exact forL_any g p h2 fun y m => hb y (List.mem_cons_of_mem _ m)
    | true => rfl
theorem expected_word (h : Net N) (r : Rep N ws) {c : Int} (h0 : 0 ≤ c) (h1 : c < N.length) : f_expected_word (dN N) (tS ws) (.int c) = pure (.str (expW N ws c)) := by
  have w8 := withL_len8 h r "alarm"
  have r8 := reachL_len h c
  simp only [f_expected_word, pure_bind, bind_assoc, fn2_eq, candidates_of h r, run0_p, asB_bl, needed_of h r, reach_ok h h0 h1, do_meet _ _ (show (reachL N c).length ≤ lim by show _ ≤ 1000000; omega), items_lst, id]
  unfold expW
  cases q : meets (reachL N c) (candL N ws) with
  | false => rfl
  | true =>
    rw [Bool.not_true, if_neg (by decide), if_neg (by decide), forL_any (v := .str "alarm") (zs := (withL ws "alarm").map (needL N ws)) tI (fun l => l.all fun x => decide (x ∈ reachL N c)) (by rw [List.map_map]; rfl) (fun l ml => ?_), pure_bind, List.any_map]
    · show lpK id _ (if ((withL ws "alarm").any fun a => (needL N ws a).all fun x => decide (x ∈ reachL N c)) = true then _ else _) = _
      cases ((withL ws "alarm").any fun a => (needL N ws a).all fun x => decide (x ∈ reachL N c)) <;> rfl
    · obtain ⟨a, _, rfl⟩ := List.mem_map.mp ml
      have := needL_len h ws a
      rw [items_tup, pure_bind, compIm (fun x => .bl (decide (x ∈ reachL N c))) (by show _ ≤ 1000000; omega) (fun _ => rfl) (fun x _ => inT x _), pure_bind, show ((needL N ws a).map fun x => D.bl (decide (x ∈ reachL N c))) = ((needL N ws a).map fun x => decide (x ∈ reachL N c)).map D.bl by rw [List.map_map]; rfl, blsF, pure_bind, asB_bl, pure_bind, List.all_map]
      show (if ((needL N ws a).all fun x => decide (x ∈ reachL N c)) = true then _ else _) = _
      cases ((needL N ws a).all fun x => decide (x ∈ reachL N c)) <;> rfl
theorem expected_of (h : Net N) (r : Rep N ws) : f_expected_of (dN N) (tS ws) = pure (expD N ws) := by
  have hl := h.lim
  simp only [f_expected_of, pure_bind, bind_assoc, fn2_eq, fn3_eq, is_explained h r, run0_p, asB_bl, len_tup, List.length_map, range1 hl, id]
  unfold expD
  cases e : explained N ws with
  | false =>
    have e' : (withL ws "alarm").all (fun a => meets (reachL N a) (candL N ws)) = false := e
    rw [e']
    rfl
  | true =>
    have e' : (withL ws "alarm").all (fun a => meets (reachL N a) (candL N ws)) = true := e
    rw [e', Bool.not_true, if_neg (by decide), if_pos rfl, compIm (fun c => .str (expW N ws c)) (by rw [len_iota]; exact hl) (fun _ => rfl) (fun c mc => by
      have mc := mem_iota.mp mc
      rw [expected_word h r mc.1 mc.2, run0_p]), pure_bind, tupleL (by rw [List.length_map, len_iota]; exact hl)]
    unfold expL
    rw [tS, List.map_map]
    rfl
theorem expected (h : Net N) (r : Rep N ws) : f_expected (dN N) (tS ws) = pure (expD N ws) := by
  simp only [f_expected, pure_bind, bind_assoc, fn2_eq, need_report h r, expected_of h r, run0_p, id]
end
end Lw
namespace Lw
open PySem EV
theorem lmeets (xs ys : List Int) (hx : xs.length ≤ lim) : f_law_meets (lI xs) (tI ys) = pure (.bl (meets xs ys)) := by
  have eL : mkL [] = pure (.lst []) := rfl
  simp only [f_law_meets, pure_bind, bind_assoc, items_lst, eL, id]
  rw [compI (fun x => decide (x ∈ ys)) (fun _ => .int 1) hx (fun x _ => by rw [inT, pure_bind, asB_bl]) (fun _ _ _ => rfl), pure_bind, ne_nil (ones_lay _), isE_map, filt_meets]
  rfl
theorem lsets {l : List Int} (hl : l.Nodup) (h8 : l.length ≤ 8) : f_law_sets (lI l) = pure (.lst ((subsL l).map tI)) := by
  have e1 : mkT [] = pure (.tup []) := rfl
  have e2 : ∀ d : D, mkL [d] = pure (.lst [d]) := fun _ => rfl
  simp only [f_law_sets, pure_bind, bind_assoc, e1, e2, items_lst, id]
  refine forS_then (fun i c => ∃ L, c = .lst (L.map tI) ∧ IsSub (l.take i) L) ⟨[[]], rfl, by rw [List.take_zero]; exact sub_zero⟩ (fun i z c hz hc => ?_) (fun c hc => ?_)
  · obtain ⟨L, rfl, h⟩ := hc
    have hi := (List.getElem?_eq_some_iff.mp hz).1
    refine ⟨_, ?_, _, rfl, by rw [take_snoc hz]; exact sub_app h (not_take hl hz)⟩
    have tl : (l.take i).length ≤ 8 := by rw [List.length_take]; omega
    have h256 := pow8' tl
    have hL := h.len
    rw [items_lst, pure_bind, compPm (zs := L) tI (fun r => tI (r ++ [z])) (by rw [List.map_map]; rfl) (by rw [List.length_map]; show _ ≤ 1000000; omega) (fun _ => rfl) (fun r mr => ?_), pure_bind, addL (by rw [List.length_map, List.length_map]; show _ ≤ 1000000; omega)]
    · rw [List.map_append, List.map_map]
      rfl
    · have hr := ((h.mem r).mp mr).length_le
      rw [mkT1, pure_bind]
      show mkT (_ ++ _) = _
      rw [show r.map D.int ++ [D.int z] = (r ++ [z]).map D.int by rw [List.map_append]; rfl]
      exact mkT_ok (by rw [List.length_map, List.length_append, List.length_singleton]; show _ ≤ 1000000; omega)
  · obtain ⟨L, rfl, h⟩ := hc
    rw [List.take_length] at h
    have h256 := pow8' h8
    rw [sort_rows (.inl h.hd) (by rw [h.len]; show _ ≤ 1000000; omega), subsL_of h]
    rfl
theorem subsL_iota (n : Nat) : subsL (iota n) = subs n := by
  have nd := asc_nodup (iota_asc n)
  refine sorted_uniq (subsL_sorted nd) (subs_sorted n) (subsL_nodup nd) (subs_nodup n) fun B => ?_
  rw [mem_subsL nd, mem_subs, sub_asc (iota_asc n)]
  constructor
  · rintro ⟨h1, h2⟩
    exact ⟨fun x m => mem_iota.mp (h2 x m), h1⟩
  · rintro ⟨h1, h2⟩
    exact ⟨h2, fun x m => mem_iota.mpr (h1 x m)⟩
section
variable {N : Nt} {ws : List Str}
/-- a row of the table -/
noncomputable abbrev rowD (N : Nt) (B : List Int) : D := .tup [tI B, lI (alarmsL N B)]
noncomputable abbrev tableD (N : Nt) : D := .lst ((subs N.length).map (rowD N))
theorem rg_list {n : Nat} (h : n ≤ lim) : (rg1 (.int n) >>= mkL) = pure (lI (iota n)) := by
  rw [rg_iota h, pure_bind]
  exact mkL_ok (by rw [List.length_map, len_iota]; exact h)
theorem ltable (h : Net N) : f_law_table (dN N) = pure (tableD N) := by
  have hl := h.lim
  have h8 := h.hi
  have eo : okL [] = pure [] := rfl
  have nd := asc_nodup (iota_asc N.length)
  have p := pow8' h8
  simp only [f_law_table, pure_bind, fn1_eq, fn2_eq, reaches h, run0_p, eo, two2, kVO, len_tup, List.length_map, rg_list hl, id, enum_lst, lsets nd (by rw [len_iota]; exact h8), items_lst, subsL_iota]
  rw [forS_flat tI (fun B => [rowD N B]) (m := 1) (fun c B mB hc => ?_) (fun _ _ => by simp) (by rw [List.length_nil, subs_len]; show _ ≤ 1000000; omega), pure_bind, List.nil_append, ← List.map_eq_flatMap]
  rw [compPf (fun i => (D.int i, lI (reachL N i))) (fun i => meets (reachL N i) B) D.int (pairs_iota _ _) (by rw [pairs_len, List.length_map, len_iota]; exact hl)
      (fun i _ => by rw [lmeets _ _ (by have := reachL_len h i; show _ ≤ 1000000; omega), run0_p, pure_bind, asB_bl]) (fun _ _ _ => rfl), alarm_filter h, pure_bind, pure_bind]
  show (mkT [tI B, lI (alarmsL N B)] >>= _) = _
  rw [mkT2, pure_bind, okLen_ok (by rw [List.length_append, List.length_singleton]; exact hc)]
  rfl
end
theorem Ok.compD {e : D → PM D} {P : D → Prop} {t : Nat} {ds : List D} {k : Nat} {s : List Int} (hl : ds.length ≤ lim) (h : Pen k s) (hk : k + ds.length * t ≤ 1000000)
    (he : ∀ n ∈ ds, ∀ j s, j + t ≤ 1000000 → Pen j s → Ok (e n) s fun d s' => Pen (j + t) s' ∧ P d) :
    Ok (compL dec1 (fun _ => pure true) e ds) s fun r s' => Pen (k + ds.length * t) s' ∧ r.length = ds.length ∧ ∀ d ∈ r, P d := by
  unfold compL
  rw [if_pos hl]
  clear hl
  induction ds generalizing k s with
  | nil => exact ⟨[], s, rfl, by simpa using h, rfl, by simp⟩
  | cons n ns ih =>
    rw [List.length_cons, Nat.succ_mul] at hk
    unfold compG
    show Ok (EV.noExc (pure true) >>= _) s _
    rw [noExc_pure, pure_bind, if_pos rfl]
    refine Ok.bind ((he n List.mem_cons_self k s (by omega) h).noExc.imp fun d s1 h42_ => ?_); obtain ⟨h1, hd⟩ := h42_
    refine Ok.bind ((ih h1 (by omega) (fun m hm => he m (List.mem_cons_of_mem _ hm))).imp fun r s2 h43_ => ?_); obtain ⟨h2, h3, h4⟩ := h43_
    refine Ok.pure ⟨by rw [List.length_cons, Nat.succ_mul, show k + (ns.length * t + t) = k + t + ns.length * t by omega]; exact h2, by rw [List.length_cons, h3, List.length_cons], fun x m => ?_⟩
    rcases List.mem_cons.mp m with rfl | m
    · exact hd
    · exact h4 x m
theorem forS_ok {body : List D → D → PM (List D)} {P : D → Prop} {t : Nat} : ∀ {ns : List Int} {c : List D} {k : Nat} {s : List Int}, Pen k s → k + ns.length * t ≤ 1000000 → c.length + ns.length ≤ lim →
    (∀ c n j s, n ∈ ns → j + t ≤ 1000000 → c.length + 1 ≤ lim → Pen j s → Ok (body c (.int n)) s fun c' s' => Pen (j + t) s' ∧ ∃ d, c' = c ++ [d] ∧ P d) →
    Ok (forS dec1 body (ns.map D.int) c) s fun c' s' => Pen (k + ns.length * t) s' ∧ ∃ r, c' = c ++ r ∧ r.length = ns.length ∧ ∀ d ∈ r, P d
  | [], c, k, s, h, _, _, _ => Ok.pure ⟨by simpa using h, [], by simp, rfl, by simp⟩
  | n :: ns, c, k, s, h, hk, hl, hb => by
    rw [List.length_cons, Nat.succ_mul] at hk
    rw [List.length_cons] at hl
    rw [List.map_cons]
    show Ok (body c (.int n) >>= forS dec1 body (ns.map D.int)) s _
    refine Ok.bind ((hb c n k s List.mem_cons_self (by omega) (by omega) h).imp fun c1 s1 h44_ => ?_); obtain ⟨h1, d, e, hd⟩ := h44_
    subst e
    refine (forS_ok h1 (by omega) (by rw [List.length_append, List.length_singleton]; omega) fun c m j s hm => hb c m j s (List.mem_cons_of_mem _ hm)).imp fun c' s' h45_ => ?_; obtain ⟨h2, r, e, hr, hp⟩ := h45_
    refine ⟨by rw [List.length_cons, Nat.succ_mul, show k + (ns.length * t + t) = k + t + ns.length * t by omega]; exact h2, d :: r, by rw [e, List.append_assoc]; rfl, by rw [List.length_cons, hr, List.length_cons], fun x m => ?_⟩
    rcases List.mem_cons.mp m with rfl | m
    · exact hd
    · exact hp x m
theorem report {N : Nt} (hN : Net N) {k : Nat} {s : List Int} (h : Pen k s) (hk : k ≤ 900000) : Ok (f_law_report (dN N) (tableD N)) s fun d s' => Pen (k + 10) s' ∧ ∃ ws, Rep N ws ∧ d = tS ws := by
  have hl := hN.lim
  have h8 := hN.hi
  have h1 := hN.lo
  have eo : okL [] = pure [] := rfl
  have p := pow8' h8
  have p1 : 1 ≤ (subs N.length).length := by rw [subs_len]; exact Nat.one_le_two_pow
  have e3 : mkL [D.str "alarm", D.str "quiet", D.str "unseen"] = pure (.lst ((["alarm", "quiet", "unseen"] : List Str).map .str)) := rfl
  simp only [f_law_report, bind_assoc, pure_bind, fn1_eq, two, eo, id]
  refine Ok.bind ((draw (m := 6) h (by omega) (by decide) (by decide)).imp fun d s1 h46_ => ?_); obtain ⟨p1', way, e, _, _⟩ := h46_
  subst e
  refine Ok.bind ((choose (l := subs N.length) (f := rowD N) p1' (by omega) p1 (by rw [subs_len]; omega)).imp fun d s2 h47_ => ?_); obtain ⟨p2, B, e, _⟩ := h47_
  subst e
  have eg : getD (rowD N B) (.int 1) = pure (lI (alarmsL N B)) := rfl
  simp only [eg, pure_bind, eqInt, asB_bl, len_tup, List.length_map, range1 hl, items_tup, e3]
  by_cases w : way = 0
  · rw [decide_eq_true w, if_pos rfl]
    refine Ok.bind ((Ok.compD (t := 1) (P := fun d => ∃ w : Str, d = .str w ∧ (w = "alarm" ∨ w = "quiet" ∨ w = "unseen")) (by rw [List.length_map]; exact hl) p2 (by rw [List.length_map]; omega) (fun _ _ j s hj ps => ?_)).imp fun r s5 ⟨p5, hr, hp⟩ => ?_)
    · refine (choose (f := D.str) ps (by omega) (by decide) (by decide)).imp fun d s' ⟨p', x, e, hx⟩ => ⟨p', x, e, ?_⟩
      simp only [List.mem_cons, List.not_mem_nil, or_false] at hx
      exact hx
    · rw [List.length_map] at p5 hr
      obtain ⟨ws, rfl, hs⟩ := strs_of (n := 0) hp
      rw [List.length_map] at hr
      rw [tupleL (by rw [List.length_map, hr]; exact hl)]
      exact Ok.pure ⟨p5.mono (by omega), ws, ⟨hr, hs⟩, rfl⟩
  · rw [decide_eq_false w, if_neg (by decide)]
    refine Ok.bind ((forS_ok (t := 1) (P := fun d => ∃ w : Str, d = .str w ∧ (w = "alarm" ∨ w = "quiet" ∨ w = "unseen")) p2 (by rw [len_iota]; omega) (by rw [len_iota, List.length_nil]; exact (by show 0 + _ ≤ 1000000; omega)) (fun c n j s _ hj hc ps => ?_)).imp fun c s5 ⟨p5, r, e, hr, hp⟩ => ?_)
    · rw [inL, pure_bind, asB_bl, pure_bind]
      have e1 : (if decide (n ∈ alarmsL N B) = true then pure (D.str "alarm") else pure (D.str "quiet") : PM D) = pure (.str (if decide (n ∈ alarmsL N B) = true then "alarm" else "quiet")) := by
        cases decide (n ∈ alarmsL N B) <;> rfl
      rw [e1, pure_bind]
      refine Ok.bind ((draw (m := 5) ps (by omega) (by decide) (by decide)).imp fun d s' h51_ => ?_); obtain ⟨p', y, e, _, _⟩ := h51_
      subst e
      rw [lt_int, pure_bind, asB_bl, pure_bind]
      cases decide (y < way) with
      | true =>
        rw [if_pos rfl, pure_bind, okLen_ok (by rw [List.length_append, List.length_singleton]; exact hc), pure_bind]
        refine Ok.pure ⟨p', _, rfl, _, rfl, ?_⟩
        cases decide (n ∈ alarmsL N B) with
        | true => exact .inl rfl
        | false => exact .inr (.inl rfl)
      | false =>
        rw [if_neg (by decide), pure_bind, okLen_ok (by rw [List.length_append, List.length_singleton]; exact hc), pure_bind]
        exact Ok.pure ⟨p', _, rfl, _, rfl, .inr (.inr rfl)⟩
    · rw [List.nil_append] at e
      subst e
      rw [len_iota] at p5 hr
      obtain ⟨ws, rfl, hs⟩ := strs_of (n := 0) hp
      rw [List.length_map] at hr
      rw [tupleL (by rw [List.length_map, hr]; exact hl)]
      exact Ok.pure ⟨p5.mono (by omega), ws, ⟨hr, hs⟩, rfl⟩
theorem case_ {n : Nat} (n1 : 1 ≤ n) (n8 : n ≤ 8) {k : Nat} {s : List Int} (h : Pen k s) (hk : k ≤ 850000) : Ok (f_law_case (.int n)) s fun d s' => Pen (k + 110) s' ∧ ∃ N ws, Net N ∧ N.length = n ∧ Rep N ws ∧ d = .tup [dN N, tableD N, tS ws] := by
  simp only [f_law_case, bind_assoc, pure_bind, fn1_eq, fn2_eq, id]
  refine Ok.bind ((net n1 n8 h (by omega)).imp fun d s1 h52_ => ?_); obtain ⟨p1, N, hN, hn, e⟩ := h52_
  subst e
  rw [ltable hN, run0_p, pure_bind]
  refine Ok.bind ((report hN p1 (by omega)).imp fun d s2 h53_ => ?_); obtain ⟨p2, ws, r, e⟩ := h53_
  subst e
  exact Ok.pure ⟨p2.mono (by omega), N, ws, hN, hn, r, rfl⟩
theorem cellB {ns : List Int} {z : Int} (h : 0 ≤ z) : ∃ v : Int, f_law_cell ns (.int z) = pure (.int v) := by
  simp only [f_law_cell, pure_bind, lt_int, asB_bl, id]
  by_cases g : z < ns.length
  · rw [decide_eq_true g, if_pos rfl]
    refine ⟨ix ns z, ?_⟩
    show ((match L2.atI ns z with | some m => pure (.int m) | none => bad : PM D) >>= _) = _
    rw [atI_ix h g]
    rfl
  · rw [decide_eq_false g, if_neg (by decide)]
    exact ⟨0, rfl⟩
theorem source (v : Int) : ∃ p, f_law_source (.int v) = pure p ∧ Pen 0 p := by
  have e : powD (.int 10) (.int 18) = pure (.int (10 ^ 18)) := by
    show (if L2.CPow 10 18 then pure (.int (10 ^ 18)) else bad : PM D) = _
    exact if_pos ⟨by decide, by decide, by decide⟩
  simp only [f_law_source, pure_bind, e, sub_int, mod_ok (show (2147483629 : Int) ≠ 0 by decide), add_int]
  have b := fmod_bd (i := v) (j := 2147483629) (by decide)
  exact ⟨_, rfl, _, _, _, rfl, by omega, by omega, Int.le_refl _, by omega⟩
end Lw
namespace Lw
open PySem EV
section
variable {N : Nt} {ws : List Str}
theorem need_all (h : Net N) (r : Rep N ws) {c : Int} (h0 : 0 ≤ c) (h1 : c < N.length) : f_need_all (dN N) (tS ws) (.int c) = pure .non := by
  simp only [f_need_all, g_need_all, pure_bind, bind_assoc, fn2_eq, need_report h r, need_comp h0 h1, run0_p]
theorem getP {l : List Int} {i : Nat} {x : Int} (h : l[i]? = some x) : ix l (i : Int) = x := by
  have hi := (List.getElem?_eq_some_iff.mp h).1
  have z := ix_get (l := l) (i := (i : Int)) (by omega) (by omega)
  rw [show ((i : Int)).toNat = i by omega, h] at z
  exact (Option.some.inj z).symm
end
end Lw
namespace Lw
open PySem EV
theorem idx_find {α : Type} (p : α → Bool) : ∀ {L : List α} {a : α}, L.find? p = some a → ∃ j : Nat, L.findIdx? p = some j ∧ L[j]? = some a
  | [], a, h => by cases h
  | x :: L, a, h => by
    rw [List.find?_cons] at h
    rw [List.findIdx?_cons]
    cases e : p x with
    | true =>
      rw [e] at h
      exact ⟨0, by simp, by simpa using h⟩
    | false =>
      rw [e] at h
      obtain ⟨j, h1, h2⟩ := idx_find p (L := L) h
      exact ⟨j + 1, by simp [h1], by simpa using h2⟩
section
variable {N : Nt} {ws : List Str}
theorem indexRows (L : List (List Int)) (b : List Int) {j : Nat} (h : L.findIdx? (fun l => l == b) = some j) : indexD (L.map tI) (tI b) = pure (.int (j : Nat)) := by
  unfold indexD
  rw [if_pos ⟨rows_shp, shpTI b⟩, List.findIdx?_map]
  have e : (fun z => eqvD z (tI b)) ∘ tI = fun l => l == b := funext fun l => eqv_rows l b
  rw [e, h]
/-- the first alarming one whose only candidate is c -/
noncomputable def soleA (N : Nt) (ws : List Str) (c : Int) : Option Int := (withL ws "alarm").find? fun a => needL N ws a == [c]
theorem sole_some {c : Int} (h : [c] ∈ (withL ws "alarm").map (needL N ws)) : ∃ a, soleA N ws c = some a := by
  obtain ⟨a, ma, e⟩ := List.mem_map.mp h
  unfold soleA
  cases q : (withL ws "alarm").find? fun a => needL N ws a == [c] with
  | some a => exact ⟨a, rfl⟩
  | none =>
    have z := List.find?_eq_none.mp q a ma
    rw [e] at z
    simp at z
theorem sole_none {c : Int} (h : [c] ∉ (withL ws "alarm").map (needL N ws)) : soleA N ws c = none := by
  unfold soleA
  rw [List.find?_eq_none]
  intro a ma z
  exact h (List.mem_map.mpr ⟨a, ma, by simpa using z⟩)
noncomputable def lessL (N : Nt) (ws : List Str) (c : Int) : List Int := (candL N ws).filter fun x => decide (x ≠ c)
/-- what shows it -/
noncomputable def witD (N : Nt) (ws : List Str) (c : Int) : D := if explained N ws = true then (if c ∉ candL N ws then .tup [.str "whole", .int (firstL N ws c)] else match soleA N ws c with
  | some a => .tup [.str "broken", .int a]
  | none => .tup [.str "open", tI (candL N ws), tI (lessL N ws c)]) else .non
theorem witness (h : Net N) (r : Rep N ws) {c : Int} (h0 : 0 ≤ c) (h1 : c < N.length) : f_witness (dN N) (tS ws) (.int c) = pure (witD N ws c) := by
  have rl := r.lim h
  have c8 := candL_len h ws
  have w8 := withL_len8 h r "alarm"
  have ll : ∀ xs : List D, lstOf (.lst xs) = pure xs := fun _ => rfl
  simp only [f_witness, pure_bind, bind_assoc, fn2_eq, fn3_eq, need_all h r h0 h1, is_explained h r, run0_p, asB_bl, candidates_of h r, needed_of h r, two, ninT, id]
  unfold witD
  cases e : explained N ws with
  | false =>
    have e' : (withL ws "alarm").all (fun a => meets (reachL N a) (candL N ws)) = false := e
    rw [e']
    rfl
  | true =>
    have e' : (withL ws "alarm").all (fun a => meets (reachL N a) (candL N ws)) = true := e
    rw [e', Bool.not_true, if_neg (by decide), if_pos rfl]
    by_cases q : c ∈ candL N ws
    · rw [decide_eq_true q, Bool.not_true, if_neg (by decide), if_neg (fun z => z q), mkT1, pure_bind]
      show (inD (tI [c]) _ >>= _) = _
      rw [inRows, pure_bind, asB_bl, pure_bind]
      by_cases g : [c] ∈ (withL ws "alarm").map (needL N ws)
      · obtain ⟨a, ea⟩ := sole_some g
        obtain ⟨j, j1, j2⟩ := idx_find _ ea
        rw [decide_eq_true g, if_pos rfl, with_word ws _ rl, run0_p, pure_bind, ll, pure_bind, pure_bind]
        show (indexD (((withL ws "alarm").map (needL N ws)).map tI) (tI [c]) >>= _) = _
        rw [indexRows _ _ (j := j) (by rw [List.findIdx?_map]; exact j1), pure_bind, getT (l := withL ws "alarm") (f := D.int) (by omega) (by have := (List.getElem?_eq_some_iff.mp j2).1; omega), pure_bind, mkT2, getP j2, ea]
        rfl
      · rw [decide_eq_false g, if_neg (by decide), sole_none g, items_tup, pure_bind, filtI (fun x => decide (x ≠ c)) (by show _ ≤ 1000000; omega) (fun x _ => by rw [neInt, pure_bind, asB_bl]), pure_bind]
        show (tupleF [lI (lessL N ws c)] >>= _) = _
        rw [tupleL (by rw [List.length_map]; have := List.length_filter_le (fun x => decide (x ≠ c)) (candL N ws); show (lessL N ws c).length ≤ 1000000; unfold lessL; omega), pure_bind, mkT3]
        rfl
    · rw [decide_eq_false q, Bool.not_false, if_pos rfl, if_pos q, rulers_of h r, run0_p, pure_bind, first0 (rulers_ne h r h0 h1 q), pure_bind, mkT2]
      rfl
theorem witD_sm (h : Net N) (r : Rep N ws) {c : Int} (h0 : 0 ≤ c) (h1 : c < N.length) : Sm 2 27 (witD N ws c) := by
  have h8 := h.hi
  unfold witD
  split
  · by_cases q : c ∈ candL N ws
    · rw [if_neg (fun z => z q)]
      cases ea : soleA N ws c with
      | some a =>
        have ma : a ∈ withL ws "alarm" := List.mem_of_find?_eq_some ea
        have z := withL_in r ma
        refine .tup (c := 8) (fun x mx => ?_) (by simp)
        simp only [List.mem_cons, List.not_mem_nil, or_false] at mx
        rcases mx with rfl | rfl
        · exact .str (by decide +kernel) (by decide +kernel)
        · exact .int (by omega) (by omega)
      | none =>
        refine .tup (c := 8) (fun x mx => ?_) (by simp)
        simp only [List.mem_cons, List.not_mem_nil, or_false] at mx
        rcases mx with rfl | rfl | rfl
        · exact .str (by decide +kernel) (by decide +kernel)
        · exact rising_sm h8 (candL_rising N ws)
        · exact rising_sm h8 (Rising.sub (candL_rising N ws) List.filter_sublist)
    · rw [if_pos q]
      have hn := rulers_ne h r h0 h1 q
      have hp : 0 < (rulersL N ws c).length := List.length_pos_iff.mpr hn
      have m : firstL N ws c ∈ rulersL N ws c := ix_mem (by omega) (by omega)
      have z := withL_in r (List.mem_filter.mp m).1
      refine .tup (c := 8) (fun x mx => ?_) (by simp)
      simp only [List.mem_cons, List.not_mem_nil, or_false] at mx
      rcases mx with rfl | rfl
      · exact .str (by decide +kernel) (by decide +kernel)
      · exact .int (by omega) (by omega)
  · exact .non
end
end Lw
namespace Lw
open PySem EV
section
variable {N : Nt}
/-- what c reaches and what reaches c -/
noncomputable def ringL (N : Nt) (c : Int) : List Int := (reachL N c).filter fun o => decide (c ∈ reachL N o)
theorem mem_ringL (h : Net N) {c o : Int} (h0 : 0 ≤ c) (h1 : c < N.length) : o ∈ ringL N c ↔ Reach N c o ∧ Reach N o c := by
  unfold ringL
  rw [List.mem_filter, mem_reachL h h0 h1, decide_eq_true_eq]
  constructor
  · rintro ⟨r1, r2⟩
    have z := h.reach_in ⟨h0, h1⟩ r1
    exact ⟨r1, (mem_reachL h z.1 z.2).mp r2⟩
  · rintro ⟨r1, r2⟩
    have z := h.reach_in ⟨h0, h1⟩ r1
    exact ⟨r1, (mem_reachL h z.1 z.2).mpr r2⟩
theorem ringL_asc (N : Nt) (c : Int) : (ringL N c).Pairwise (· < ·) := (setOf_asc _ _).filter _
theorem ringL_self (h : Net N) {c : Int} (h0 : 0 ≤ c) (h1 : c < N.length) : c ∈ ringL N c := (mem_ringL h h0 h1).mpr ⟨.refl, .refl⟩
theorem Reach.trans' {c x y : Int} (h : Reach N c x) (h2 : Reach N x y) : Reach N c y := by
  induction h2 with
  | refl => exact h
  | step _ m ih => exact .step ih m
theorem ringL_in (h : Net N) {c o : Int} (h0 : 0 ≤ c) (h1 : c < N.length) (m : o ∈ ringL N c) : 0 ≤ o ∧ o < N.length := h.reach_in ⟨h0, h1⟩ ((mem_ringL h h0 h1).mp m).1
theorem ringL_eq (h : Net N) {c o : Int} (h0 : 0 ≤ c) (h1 : c < N.length) (m : o ∈ ringL N c) : ringL N o = ringL N c := by
  have z := ringL_in h h0 h1 m
  refine EV.el0_2 ((mem_ringL h h0 h1).mp m) fun r1 r2 => ?_
  refine asc_eq (ringL_asc N o) (ringL_asc N c) fun k => ?_
  rw [mem_ringL h z.1 z.2, mem_ringL h h0 h1]
  exact ⟨fun q => ⟨r1.trans' q.1, q.2.trans' r2⟩, fun q => ⟨r2.trans' q.1, q.2.trans' r1⟩⟩
/-- all rings, ascending -/
noncomputable def ringsL (N : Nt) : List (List Int) := setT ((iota N.length).map (ringL N))
theorem iota_snoc (n : Nat) : iota (n + 1) = iota n ++ [(n : Int)] := by
  unfold iota
  rw [List.range_succ, List.map_append]
  rfl
/-- the rings of the first i components -/
structure RgUp (N : Nt) (i : Nat) (L : List (List Int)) : Prop where
  mem : ∀ B, B ∈ L ↔ ∃ c ∈ iota i, B = ringL N c
  st : L.Pairwise fun a b => leR a b = true
  nd : L.Nodup
  len : L.length ≤ i
theorem asc_head {l : List Int} {x : Int} (h : l.Pairwise (· < ·)) (m : x ∈ l) : ∃ y r, l = y :: r ∧ y ≤ x := by
  cases l with
  | nil => cases m
  | cons y r =>
    refine EV.in2_2 y r rfl ?_
    rcases List.mem_cons.mp m with e | m
    · omega
    · have := (List.pairwise_cons.mp h).1 x m
      exact Int.le_of_lt (by assumption)
theorem RgUp.step (h : Net N) {i : Nat} {L : List (List Int)} (a : RgUp N i L) (hi : i < N.length) : RgUp N (i + 1) (if ringL N i ∈ L then L else L ++ [ringL N i]) := by
  have mem' : ∀ B, (B ∈ L ∨ B = ringL N i) ↔ ∃ c ∈ iota (i + 1), B = ringL N c := fun B => by
    rw [a.mem, iota_snoc]
    constructor
    · rintro (⟨c, m, e⟩ | e)
      · exact EV.in1_2 c (List.mem_append_left _ m) e
      · exact EV.in1_2 i (by simp) e
    · rintro ⟨c, m, e⟩
      rcases List.mem_append.mp m with m | m
      · exact .inl (EV.in1_2 c m e)
      · rw [List.mem_singleton.mp m] at e
        exact .inr e
  by_cases q : ringL N i ∈ L
  · rw [if_pos q]
    refine ⟨fun B => ?_, a.st, a.nd, by have := a.len; omega⟩
    rw [← mem']
    constructor
    · exact .inl
    · rintro (m | e)
      · exact m
      · rw [e]
        exact q
  · rw [if_neg q]
    refine ⟨fun B => by rw [List.mem_append, List.mem_singleton]; exact mem' B, ?_, ?_, by rw [List.length_append, List.length_singleton]; have := a.len; exact Nat.lt_succ_of_le (by assumption)⟩
    · refine List.pairwise_append.mpr ⟨a.st, by simp, fun B mB R mR => ?_⟩
      rw [List.mem_singleton.mp mR]
      (refine EV.el1_2 ((a.mem B).mp mB) fun c mc q293_ => ?_; obtain rfl := q293_)
      have hc := mem_iota.mp mc
      refine EV.el2_2 (asc_head (ringL_asc N c) (ringL_self h hc.1 (by omega))) fun y r e1 l1 => ?_
      refine EV.el2_2 (asc_head (ringL_asc N i) (ringL_self h (by exact Int.natCast_nonneg _) (by exact Int.ofNat_lt.mpr (by assumption)))) fun z t e2 l2 => ?_
      have mz : z ∈ ringL N i := by rw [e2]; exact List.mem_cons_self
      have hz := ringL_in h (by exact Int.natCast_nonneg _) (by exact Int.ofNat_lt.mpr (by assumption)) mz
      have : z = (i : Int) := by
        refine Classical.byContradiction fun ne => q ((a.mem _).mpr ⟨z, mem_iota.mpr ⟨hz.1, by omega⟩, ?_⟩)
        exact (ringL_eq h (by exact Int.natCast_nonneg _) (by exact Int.ofNat_lt.mpr (by assumption)) mz).symm
      refine decide_eq_true ?_
      rw [e1, e2, this]
      exact List.le_of_lt (List.Lex.rel (by omega))
    · refine List.nodup_append.mpr ⟨a.nd, by simp, fun x hx y hy e => ?_⟩
      rw [List.mem_singleton.mp hy] at e
      exact q (e ▸ hx)
theorem RgUp.done {L : List (List Int)} (a : RgUp N N.length L) : L = ringsL N := setT_uniq a.st (setT_sorted _) a.nd (setT_nodup _) fun B => by
  rw [a.mem]
  unfold ringsL
  rw [mem_setT, List.mem_map]
  exact ⟨fun h54_ => by (refine EV.el1_2 h54_ ?_; try clear h54_; intro c m e); exact ⟨c, m, e.symm⟩, fun h55_ => by (refine EV.el1_2 h55_ ?_; try clear h55_; intro c m e); exact ⟨c, m, e.symm⟩⟩
end
end Lw
namespace Lw
open PySem EV
theorem run0_raise {α : Type} (e : Ex) : run0 (raiseP e : PM α) = raiseP e := rfl
theorem raise_bind {α β : Type} (e : Ex) (f : α → PM β) : ((raiseP e : PM α) >>= f) = raiseP e := rfl
theorem said_net (w8 : Str) : saidM w8 (raiseP ⟨"NetError", []⟩) = pure (.str "! net") := funext fun s => by kernel_rfl
theorem said_comp (w8 : Str) : saidM w8 (raiseP ⟨"ComponentError", []⟩) = pure (.str "! component") := funext fun s => by kernel_rfl
theorem said_rep (w8 : Str) : saidM w8 (raiseP ⟨"ReportError", []⟩) = pure (.str "! report") := funext fun s => by kernel_rfl
theorem said_ok (w8 : Str) {h b : Nat} {d : D} (s : Sm h b d) (e1 : autoParam (h ≤ 60) EV.tac11) (e2 : autoParam (b ≤ 60000) EV.tac11) : saidM w8 (pure d) = pure (.str (shown d)) := funext fun z => by
  show reprF [d] z = _
  rw [s.repr e1 e2]
/-- a run without a pen whose end is known -/
theorem run0_at {α : Type} {m : PM α} {a : α} {s : List Int} (h : m [] = .ok a s) : run0 m = pure a := funext fun z => by
  show (match m [] with | .ok a _ => R.ok a z | .exc e => .exc e | .bad => .bad) = _
  rw [h]
  rfl
/-- how a text begins -/
noncomputable def Open40 (z : Str) : Prop := ∃ r, z.cps.toList = 40 :: r
theorem open_app (J T : Str) : Open40 (("(" : Str) ++ J ++ T) := ⟨J.cps.toList ++ T.cps.toList, by
  show ((#[40] ++ J.cps) ++ T.cps).toList = _
  simp⟩
theorem open_tup (xs : List D) : Open40 (shown (.tup xs)) := by
  unfold EV.shown
  simp only [toPy, PyData.shown, PySem.tupleText]
  exact open_app _ _
theorem cut_open {z : Str} (h : Open40 z) : (L2.cutS z none (some 1) == ("!" : Str)) = false := by
  obtain ⟨r, e⟩ := h
  have hl : z.length = r.length + 1 := by
    have q := congrArg List.length e
    rw [Array.length_toList] at q
    exact q
  have c : L2.cutS z none (some 1) = ⟨#[40]⟩ := by
    unfold L2.cutS
    have e1 : HT.sIx z.length z.length (some 1) = 1 := by
      have q := HT.sIx_nat z.length z.length 1
      rw [show ((1 : Nat) : Int) = 1 from rfl] at q
      rw [q, hl]
      omega
    rw [e1, e]
    rfl
  rw [c]
  decide +kernel
theorem shownLe {h b : Nat} {d : D} (s : Sm h b d) (e1 : autoParam (h ≤ 60) EV.tac11) (e2 : autoParam (b ≤ 60000) EV.tac11) : (shown d).length ≤ lim := by
  have f := s.facts
  have l := PyData.shown_le_bulk 13 (by decide) (toPy d) f.2.1
  show (toPy d).shown.length ≤ 1000000
  omega
end Lw
namespace Lw
open PySem EV
noncomputable def outM (m : PM D) : List D := match m [] with
  | .ok (.lst xs) _ => xs
  | _ => []
noncomputable def isFls (m : PM D) : Bool := match m [] with
  | .ok (.bl false) _ => true
  | _ => false
set_option tactic.hygienic true in
theorem isFls_run {m : PM D} (h : isFls m = true) : run0 m = pure (.bl false) := by
  unfold isFls at h
  split at h
  · rename_i s e
    exact run0_at e
  · cases h
theorem eightN {P : Int → Prop} (h1 : P 1) (h2 : P 2) (h3 : P 3) (h4 : P 4) (h5 : P 5) (h6 : P 6) (h7 : P 7) (h8 : P 8) : ∀ n : Nat, 1 ≤ n → n ≤ 8 → P n
  | 0, h, _ => absurd h (by decide)
  | 1, _, _ => h1
  | 2, _, _ => h2
  | 3, _, _ => h3
  | 4, _, _ => h4
  | 5, _, _ => h5
  | 6, _, _ => h6
  | 7, _, _ => h7
  | 8, _, _ => h8
  | n + 9, _, h => absurd h (by omega)
theorem eightM {P : Nat → Prop} (h1 : P 1) (h2 : P 2) (h3 : P 3) (h4 : P 4) (h5 : P 5) (h6 : P 6) (h7 : P 7) (h8 : P 8) : ∀ n : Nat, 1 ≤ n → n ≤ 8 → P n
  | 0, h, _ => absurd h (by decide)
  | 1, _, _ => h1
  | 2, _, _ => h2
  | 3, _, _ => h3
  | 4, _, _ => h4
  | 5, _, _ => h5
  | 6, _, _ => h6
  | 7, _, _ => h7
  | 8, _, _ => h8
  | n + 9, _, h => absurd h (by omega)
/-- a text that does not begin with the mark -/
noncomputable def NoMk (z : Str) : Prop := (L2.cutS z none (some 1) == ("!" : Str)) = false ∧ z.length ≤ lim
theorem noMk_open {z : Str} (h : Open40 z) (hl : z.length ≤ lim) : NoMk z := ⟨cut_open h, hl⟩
theorem noMk_none : NoMk (shown .non) := ⟨by decide +kernel, by decide +kernel⟩
theorem noMk_bl (b : Bool) : NoMk (shown (.bl b)) := by
  cases b <;> exact ⟨by decide +kernel, by decide +kernel⟩
theorem no_marksN {zs : List Str} (h : ∀ z ∈ zs, NoMk z) (hl : zs.length ≤ lim) :
    compL dec1 (fun z => sliceD z none (some 1) >>= fun x => eqD x (.str "!") >>= asB) (fun z => pure z) (zs.map D.str) = pure [] := by
  unfold compL
  rw [if_pos (by rw [List.length_map]; exact hl)]
  clear hl
  induction zs with
  | nil => rfl
  | cons z zs ih =>
    rw [List.map_cons]
    unfold compG
    obtain ⟨h1, h2⟩ := h z List.mem_cons_self
    have e1 : sliceD (.str z) none (some 1) = pure (.str (L2.cutS z none (some 1))) := if_pos h2
    have e2 : eqD (.str (L2.cutS z none (some 1))) (.str "!") = pure (.bl false) := by
      show (pure (.bl (L2.cutS z none (some 1) == ("!" : Str))) : PM D) = _
      rw [h1]
    show (noExc (sliceD (.str z) none (some 1) >>= fun x => eqD x (.str "!") >>= asB) >>= _) = _
    rw [e1, pure_bind, e2, pure_bind]
    show (noExc (pure false) >>= _) = _
    rw [noExc_pure, pure_bind]
    exact ih fun y m => h y (List.mem_cons_of_mem _ m)
theorem laps2 (n : Nat) : ∃ m : Nat, m ≤ 2 ∧ ∀ {β : Type} (kk : List D → PM β), (minF [.int n, .int 2] >>= fun d5 => maxF [.int 1, d5] >>= fun d9 => rangeF1 [d9] >>= kk) = kk ((iota m).map D.int) := by
  refine ⟨if n ≤ 1 then 1 else 2, by split <;> omega, fun kk => ?_⟩
  show (rangeF1 [.int (if (if (2 : Int) < n then (2 : Int) else n) > 1 then (if (2 : Int) < n then (2 : Int) else n) else 1)] >>= kk) = _
  have e : (if (if (2 : Int) < n then (2 : Int) else n) > 1 then (if (2 : Int) < n then (2 : Int) else n) else 1) = ((if n ≤ 1 then 1 else 2 : Nat) : Int) := by
    split <;> split <;> (try split) <;> omega
  rw [e, range1 (by show _ ≤ 1000000; split <;> omega), pure_bind]
end Lw
namespace Lw
open PySem EV
mutual
noncomputable def ncB : D → Bool
  | .tup xs => decide (xs.length ≤ 1000000) && ncBL xs
  | .lst xs => decide (xs.length ≤ 1000000) && ncBL xs
  | .cls _ => false
  | .non => true
  | .bl _ => true
  | .int _ => true
  | .str _ => true
  | .dct _ => true
  | .obj _ _ => true
noncomputable def ncBL : List D → Bool
  | [] => true
  | x :: xs => ncB x && ncBL xs
end
theorem ncBL_iff : ∀ {xs : List D}, ncBL xs = true ↔ ∀ x ∈ xs, ncB x = true
  | [] => by simp [ncBL]
  | x :: xs => by
    rw [ncBL, Bool.and_eq_true, ncBL_iff]
    constructor
    · rintro ⟨h1, h2⟩ y m
      rcases List.mem_cons.mp m with rfl | m
      · exact h1
      · exact h2 y m
    · intro h
      exact ⟨h x List.mem_cons_self, fun y m => h y (List.mem_cons_of_mem _ m)⟩
theorem nc_tup {xs : List D} : ncB (.tup xs) = true ↔ xs.length ≤ 1000000 ∧ ∀ x ∈ xs, ncB x = true := by
  rw [ncB, Bool.and_eq_true, decide_eq_true_eq, ncBL_iff]
theorem nc_lst {xs : List D} : ncB (.lst xs) = true ↔ xs.length ≤ 1000000 ∧ ∀ x ∈ xs, ncB x = true := by
  rw [ncB, Bool.and_eq_true, decide_eq_true_eq, ncBL_iff]
end Lw
namespace Lw
open PySem EV
noncomputable instance : Inhabited D := ⟨.non⟩
/-- repr shows it, in at most b signs -/
noncomputable def Gd (T : ReprT) (h b : Nat) (d : D) : Prop := ncB d = true ∧ ∃ t, shownV T d = some t ∧ ht d ≤ h ∧ t.length ≤ b
section
variable {T : ReprT} {h b h' b' : Nat} {d : D}
theorem Gd.mono (g : Gd T h b d) (e1 : h ≤ h') (e2 : b ≤ b') : Gd T h' b' d := by
  obtain ⟨n, t, g1, g2, g3⟩ := g
  exact ⟨n, t, g1, by omega, by omega⟩
theorem Gd.repr (g : Gd T h b d) (e1 : h ≤ 40) (e2 : b ≤ 1000000) : ∃ t, reprV T [d] = pure (.str t) := by
  obtain ⟨n, t, g1, g2, g3⟩ := g
  refine ⟨t, ?_⟩
  show (match shownV T d with
    | some t => if ht d ≤ 40 ∧ t.length ≤ lim then pure (.str t) else bad
    | none => bad : PM D) = _
  rw [g1]
  exact if_pos ⟨by omega, by show t.length ≤ 1000000; omega⟩
theorem Gd.list : ∀ {xs : List D}, (∀ x ∈ xs, Gd T h b x) → ∃ ts, shownVL T xs = some ts ∧ htL xs ≤ h ∧ ts.length = xs.length ∧ (ts.map (·.length)).sum ≤ xs.length * b
  | [], _ => ⟨[], by rw [shownVL], by rw [htL]; omega, rfl, by simp⟩
  | x :: xs, g => by
    obtain ⟨n, t, g1, g2, g3⟩ := g x List.mem_cons_self
    obtain ⟨ts, h1, h2, h3, h4⟩ := Gd.list fun y m => g y (List.mem_cons_of_mem _ m)
    refine ⟨t :: ts, by rw [shownVL, g1, h1]; rfl, by rw [htL]; omega, by simp [h3], ?_⟩
    rw [List.map_cons, List.sum_cons, List.length_cons, Nat.succ_mul]
    omega
theorem Gd.tup {xs : List D} {k : Nat} (g : ∀ x ∈ xs, Gd T h b x) (hl : xs.length ≤ k) (hk : autoParam (k ≤ 1000000) EV.tac11) : Gd T (h + 1) (k * (b + 2) + 3) (.tup xs) := by
  obtain ⟨ts, h1, h2, h3, h4⟩ := Gd.list g
  refine ⟨nc_tup.mpr ⟨by omega, fun x m => (g x m).1⟩, PySem.tupleText ts, by rw [shownV, h1]; rfl, by rw [ht]; omega, ?_⟩
  have := PySem.tupleText_len_le ts
  have e : xs.length * (b + 2) ≤ k * (b + 2) := Nat.mul_le_mul_right _ hl
  rw [Nat.mul_add] at e
  omega
theorem Gd.lst {xs : List D} {k : Nat} (g : ∀ x ∈ xs, Gd T h b x) (hl : xs.length ≤ k) (hk : autoParam (k ≤ 1000000) EV.tac11) : Gd T (h + 1) (k * (b + 2) + 3) (.lst xs) := by
  obtain ⟨ts, h1, h2, h3, h4⟩ := Gd.list g
  refine ⟨nc_lst.mpr ⟨by omega, fun x m => (g x m).1⟩, PySem.listText ts, by rw [shownV, h1]; rfl, by rw [ht]; omega, ?_⟩
  have := PySem.listText_len_le ts
  have e : xs.length * (b + 2) ≤ k * (b + 2) := Nat.mul_le_mul_right _ hl
  rw [Nat.mul_add] at e
  omega
theorem Gd.bigI {i : Int} (h : i.natAbs < 10 ^ 12) : Gd T 0 13 (.int i) := by
  have l2 : i.natAbs.log2 < 1920 := by
    by_cases h0 : i.natAbs = 0
    · rw [h0]
      decide
    · exact (Nat.log2_lt h0).2 (Nat.lt_of_lt_of_le (Nat.lt_trans h (show 10 ^ 12 < 2 ^ 40 by decide)) (Nat.pow_le_pow_right (Nat.zero_lt_succ 1) (show 40 ≤ 1920 by decide)))
  exact ⟨rfl, _, by rw [shownV, if_pos l2]; rfl, by rw [ht]; omega, PyData.shown_int_le h⟩
theorem Gd.int {i : Int} (h1 : -2 ≤ i) (h2 : i < 300) : Gd T 0 13 (.int i) := Gd.bigI (by omega)
theorem Gd.str {x : Str} {n : Nat} (h1 : PyData.strOk x = true) (h2 : x.cps.size ≤ n) (hn : n ≤ 60000) : Gd T 0 1000000 (.str x) := by
  have f := (Sm.str (h := 0) (b := n) h1 h2).facts
  have l := PyData.shown_le_bulk 13 (by decide) (toPy (.str x)) f.2.1
  have h5 := f.2.2.2.2
  exact ⟨rfl, _, by rw [shownV], by rw [ht]; omega, by show (toPy (.str x)).shown.length ≤ 1000000; omega⟩
theorem Gd.bl (x : Bool) : Gd T 0 13 (.bl x) := ⟨rfl, _, by rw [shownV], by rw [ht]; omega, by cases x <;> decide +kernel⟩
theorem Gd.non : Gd T 0 13 .non := ⟨rfl, _, by rw [shownV], by rw [ht]; omega, by decide +kernel⟩
/-- decided -/
noncomputable def gdB (T : ReprT) (h b : Nat) (d : D) : Bool := ncB d && match shownV T d with
  | some t => decide (ht d ≤ h ∧ t.length ≤ b)
  | none => false
theorem Gd.of (e : gdB T h b d = true) : Gd T h b d := by
  unfold gdB at e
  rw [Bool.and_eq_true] at e
  refine ⟨e.1, ?_⟩
  cases q : shownV T d with
  | none => rw [q] at e; cases e.2
  | some t =>
    rw [q] at e
    exact ⟨t, rfl, of_decide_eq_true e.2⟩
end
/-- drawn with at most t draws, and shown -/
noncomputable def BOk (t h b : Nat) (m : PM D) : Prop := ∀ k s, Pen k s → k + t ≤ 900000 → Ok m s fun d s' => Pen (k + t) s' ∧ Gd tR h b d
theorem BOk.mono {t h b t' h' b' : Nat} {m : PM D} (g : BOk t h b m) (e0 : t ≤ t') (e1 : h ≤ h') (e2 : b ≤ b') : BOk t' h' b' m := fun k s p hk => (g k s p (by omega)).imp fun d s' h56_ => by obtain ⟨p', g'⟩ := h56_; exact ⟨p'.mono (by omega), g'.mono e1 e2⟩
end Lw
namespace Lw
open PySem EV
theorem words_raise {a b c : D} {e : Ex} {w : Str} (hw : saidM "done" (raiseP e) = pure (.str w)) (h1 : f_certain a b = raiseP e) (h2 : f_expected a b = raiseP e) (h3 : f_witness a b c = raiseP e) (h4 : f_shows_witness a b c .non = raiseP e) :
    f_law_words a b c = pure (.lst [.str w, .str w, .str w, .str w]) := by
  have eO : ∀ xs : List D, xs.length ≤ 1000 → okL xs = pure xs := fun xs q => okL_ok (by show _ ≤ 1000000; omega)
  have eK : ∀ xs : List D, xs.length ≤ 1000 → okLen xs = pure () := fun xs q => okLen_ok (by show _ ≤ 1000000; omega)
  have e1 : mkL [D.str w] = pure (.lst [.str w]) := rfl
  have ea : addD (.lst [D.str w, D.str w, D.str w]) (.lst [D.str w]) = pure (.lst [.str w, .str w, .str w, .str w]) := rfl
  simp only [f_law_words, pure_bind, bind_assoc, fn2_eq, fn3_eq, fn4, h1, h2, h3, h4, run0_raise, hw, eO [D.str w] (by simp), List.cons_append, List.nil_append, eK [D.str w, D.str w] (by simp), eK [D.str w, D.str w, D.str w] (by simp), e1, ea, id]
theorem need_net_bad {d : D} (h : run0 (f_is_net d) = pure (.bl false)) : f_need_net d = raiseP ⟨"NetError", []⟩ := by
  simp only [f_need_net, g_need_net, pure_bind, fn1_eq, h, asB_bl, Bool.not_false, if_true, raise_bind, bind_assoc]
theorem need_rep_bad {d r : D} (h : run0 (f_is_net d) = pure (.bl false)) : f_need_report d r = raiseP ⟨"NetError", []⟩ := by
  simp only [f_need_report, g_need_report, pure_bind, fn1_eq, need_net_bad h, run0_raise, raise_bind, bind_assoc]
theorem of_need {a b c : D} {e : Ex} (h : f_need_report a b = raiseP e) : f_certain a b = raiseP e ∧ f_expected a b = raiseP e ∧ f_witness a b c = raiseP e ∧ f_shows_witness a b c .non = raiseP e := by
  have ha : f_need_all a b c = raiseP e := by
    simp only [f_need_all, g_need_all, pure_bind, fn2_eq, h, run0_raise, raise_bind, bind_assoc]
  refine ⟨?_, ?_, ?_, ?_⟩
  · simp only [f_certain, pure_bind, fn2_eq, h, run0_raise, raise_bind, bind_assoc]
  · simp only [f_expected, pure_bind, fn2_eq, h, run0_raise, raise_bind, bind_assoc]
  · simp only [f_witness, pure_bind, fn3_eq, ha, run0_raise, raise_bind, bind_assoc]
  · simp only [f_shows_witness, pure_bind, fn3_eq, ha, run0_raise, raise_bind, bind_assoc]
theorem words_net {d b c : D} (h : run0 (f_is_net d) = pure (.bl false)) : f_law_words d b c = pure (.lst [.str "! net", .str "! net", .str "! net", .str "! net"]) := by
  obtain ⟨h1, h2, h3, h4⟩ := of_need (c := c) (need_rep_bad (r := b) h)
  exact words_raise (said_net _) h1 h2 h3 h4
section
variable {N : Nt} {ws : List Str}
theorem isrep_len {xs ys : List D} (h : xs.length = ys.length) (d : D) : f_is_report (.tup xs) d = f_is_report (.tup ys) d := by
  simp only [f_is_report, pure_bind, len_tup, h]
theorem words_rep (h : Net N) {d c : D} (hd : isFls (f_is_report (.tup (List.replicate N.length .non)) d) = true) : f_law_words (dN N) d c = pure (.lst [.str "! report", .str "! report", .str "! report", .str "! report"]) := by
  have e : run0 (f_is_report (dN N) d) = pure (.bl false) := by
    rw [isrep_len (ys := List.replicate N.length .non) (by rw [List.length_map, List.length_replicate])]
    exact isFls_run hd
  have hn : f_need_report (dN N) d = raiseP ⟨"ReportError", []⟩ := by
    simp only [f_need_report, g_need_report, pure_bind, fn1_eq, fn2_eq, need_net h, run0_p, e, asB_bl, Bool.not_false, if_true, raise_bind, bind_assoc]
  obtain ⟨h1, h2, h3, h4⟩ := of_need (c := c) hn
  exact words_raise (said_rep _) h1 h2 h3 h4
/-- what is said where the first two answer -/
theorem words_two {a b c : D} {v1 v2 : D} {w3 w4 : Str} {m3 m4 : PM D} {k1 b1 k2 b2 : Nat} (s1 : Sm k1 b1 v1) (s2 : Sm k2 b2 v2) (l1 : k1 ≤ 2) (l2 : b1 ≤ 100) (l3 : k2 ≤ 2) (l4 : b2 ≤ 100) (h1 : f_certain a b = pure v1) (h2 : f_expected a b = pure v2) (h3 : f_witness a b c = m3) (h4 : f_shows_witness a b c .non = m4)
    (q3 : saidM "done" (run0 m3) = pure (.str w3)) (q4 : saidM "done" (run0 m4) = pure (.str w4)) : f_law_words a b c = pure (.lst [.str (shown v1), .str (shown v2), .str w3, .str w4]) := by
  have eO : ∀ xs : List D, xs.length ≤ 1000 → okL xs = pure xs := fun xs q => okL_ok (by show _ ≤ 1000000; omega)
  have eK : ∀ xs : List D, xs.length ≤ 1000 → okLen xs = pure () := fun xs q => okLen_ok (by show _ ≤ 1000000; omega)
  have e1 : ∀ w : Str, mkL [D.str w] = pure (.lst [.str w]) := fun _ => rfl
  have ea : ∀ x y z w : Str, addD (.lst [D.str x, D.str y, D.str z]) (.lst [D.str w]) = pure (.lst [.str x, .str y, .str z, .str w]) := fun _ _ _ _ => rfl
  simp only [f_law_words, pure_bind, bind_assoc, fn2_eq, fn3_eq, fn4, h1, h2, h3, h4, run0_p, said_ok "done" s1, said_ok "done" s2, q3, q4, eO [D.str (shown v1)] (by simp), List.cons_append, List.nil_append, eK [D.str (shown v1), D.str (shown v2)] (by simp), eK [D.str (shown v1), D.str (shown v2), D.str w3] (by simp), e1, ea, id]
theorem certD_sm29 (h : Net N) : Sm 1 56 (certD N ws) := by
  unfold certD
  split
  · refine .tup (c := 6) (fun x m => ?_) (by unfold certL; simp only [List.length_map, len_iota]; have := h.hi; omega)
    obtain ⟨w, mw, rfl⟩ := List.mem_map.mp m
    obtain ⟨c, _, rfl⟩ := List.mem_map.mp mw
    unfold certW
    split
    · exact .str (by decide +kernel) (by decide +kernel)
    · split <;> exact .str (by decide +kernel) (by decide +kernel)
  · exact .non
theorem expD_sm29 (h : Net N) : Sm 1 56 (expD N ws) := by
  unfold expD
  split
  · refine .tup (c := 6) (fun x m => ?_) (by unfold expL; simp only [List.length_map, len_iota]; have := h.hi; omega)
    obtain ⟨w, mw, rfl⟩ := List.mem_map.mp m
    obtain ⟨c, _, rfl⟩ := List.mem_map.mp mw
    unfold expW
    split
    · exact .str (by decide +kernel) (by decide +kernel)
    · split <;> exact .str (by decide +kernel) (by decide +kernel)
  · exact .non
theorem words_comp (h : Net N) (r : Rep N ws) {d : D} (hd : isFls (f_is_between d (.int 0) (.int ((N.length : Int) - 1))) = true) : ∃ x y : Str, f_law_words (dN N) (tS ws) d = pure (.lst [.str x, .str y, .str "! component", .str "! component"]) := by
  have z := isFls_run hd
  have e : f_need_component (dN N) d = raiseP ⟨"ComponentError", []⟩ := by
    simp only [f_need_component, g_need_component, pure_bind, len_tup, List.length_map, sub_int, fn3_eq, z, asB_bl, Bool.not_false, if_true, raise_bind, bind_assoc]
  have ha : f_need_all (dN N) (tS ws) d = raiseP ⟨"ComponentError", []⟩ := by
    simp only [f_need_all, g_need_all, pure_bind, fn2_eq, need_report h r, run0_p, e, run0_raise, raise_bind, bind_assoc]
  have h3 : f_witness (dN N) (tS ws) d = raiseP ⟨"ComponentError", []⟩ := by
    simp only [f_witness, pure_bind, fn3_eq, ha, run0_raise, raise_bind, bind_assoc]
  have h4 : f_shows_witness (dN N) (tS ws) d .non = raiseP ⟨"ComponentError", []⟩ := by
    simp only [f_shows_witness, pure_bind, fn3_eq, ha, run0_raise, raise_bind, bind_assoc]
  exact ⟨_, _, words_two (certD_sm29 h) (expD_sm29 h) (by omega) (by omega) (by omega) (by omega) (certain h r) (expected h r) h3 h4 (said_comp _) (said_comp _)⟩
theorem shows_non (h : Net N) (r : Rep N ws) {c : Int} (h0 : 0 ≤ c) (h1 : c < N.length) : f_shows_witness (dN N) (tS ws) (.int c) .non = pure (.bl false) := by
  have en : isF "tuple" .non = pure (.bl false) := rfl
  simp only [f_shows_witness, pure_bind, bind_assoc, fn2_eq, fn3_eq, need_all h r h0 h1, is_explained h r, run0_p, asB_bl, en, Bool.not_false, if_true, id]
  cases ((withL ws "alarm").all fun a => meets (reachL N a) (candL N ws)) <;> rfl
theorem noMk_cert (h : Net N) : NoMk (shown (certD N ws)) := by
  have l := shownLe (certD_sm29 (ws := ws) h)
  unfold certD at l ⊢
  by_cases e : explained N ws = true
  · rw [if_pos e] at l ⊢
    exact noMk_open (open_tup _) l
  · rw [if_neg e]
    exact noMk_none
theorem noMk_exp (h : Net N) : NoMk (shown (expD N ws)) := by
  have l := shownLe (expD_sm29 (ws := ws) h)
  unfold expD at l ⊢
  by_cases e : explained N ws = true
  · rw [if_pos e] at l ⊢
    exact noMk_open (open_tup _) l
  · rw [if_neg e]
    exact noMk_none
theorem noMk_wit (h : Net N) (r : Rep N ws) {c : Int} (h0 : 0 ≤ c) (h1 : c < N.length) : NoMk (shown (witD N ws c)) := by
  have l := shownLe (witD_sm h r h0 h1)
  unfold witD at l ⊢
  by_cases e : explained N ws = true
  · rw [if_pos e] at l ⊢
    by_cases q : c ∉ candL N ws
    · rw [if_pos q] at l ⊢
      exact noMk_open (open_tup _) l
    · rw [if_neg q] at l ⊢
      cases e2 : soleA N ws c with
      | some a => rw [e2] at l; exact noMk_open (open_tup _) l
      | none => rw [e2] at l; exact noMk_open (open_tup _) l
  · rw [if_neg e]
    exact noMk_none
end
noncomputable def OBJ : List D := outM f_law_objects
theorem objs_ok : run0 (fn0 f_law_objects []) = pure (.lst OBJ) := run0_at (m := f_law_objects) (a := .lst OBJ) (s := []) (by kernel_rfl)
theorem nn_ok : run0 (fn0 f_law_no_nets []) = pure (.lst (outM f_law_no_nets)) := run0_at (m := f_law_no_nets) (a := .lst (outM f_law_no_nets)) (s := []) (by kernel_rfl)
theorem nets_chk : ((outM f_law_no_nets ++ OBJ).all fun d => gdB tR 5 300 d && isFls (f_is_net d)) = true := by kernel_rfl
theorem nets_len : decide ((outM f_law_no_nets).length + OBJ.length ≤ 200) = true := by kernel_rfl
noncomputable def noReps (n : Nat) : List D := outM (f_law_no_reports (.int n))
theorem reps_ok : ∀ n : Nat, 1 ≤ n → n ≤ 8 → f_law_no_reports (.int n) [] = .ok (.lst (noReps n)) [] := eightM (P := fun n => f_law_no_reports (.int (n : Int)) [] = .ok (.lst (noReps n)) []) (by kernel_rfl) (by kernel_rfl) (by kernel_rfl) (by kernel_rfl) (by kernel_rfl) (by kernel_rfl) (by kernel_rfl) (by kernel_rfl)
theorem reps_chk : ∀ n : Nat, 1 ≤ n → n ≤ 8 → (((noReps n ++ OBJ).all fun d => gdB tR 5 300 d && isFls (f_is_report (.tup (List.replicate n .non)) d)) && decide ((noReps n).length + OBJ.length ≤ 200)) = true := eightM (P := fun n => (((noReps n ++ OBJ).all fun d => gdB tR 5 300 d && isFls (f_is_report (.tup (List.replicate n .non)) d)) && decide ((noReps n).length + OBJ.length ≤ 200)) = true) (by kernel_rfl) (by kernel_rfl) (by kernel_rfl) (by kernel_rfl) (by kernel_rfl) (by kernel_rfl) (by kernel_rfl) (by kernel_rfl)
noncomputable def noComps (n : Int) : List D := [.non, .bl true, .bl false, .int (-1), .int n, .int 8, .int (10 ^ 12), .str "0", .tup [.int 0], .lst [.int 0], .dct []]
theorem comps_chk : ∀ n : Nat, 1 ≤ n → n ≤ 8 → ((noComps n ++ OBJ).all fun d => isFls (f_is_between d (.int 0) (.int ((n : Int) - 1)))) = true := eightN (P := fun n => ((noComps n ++ OBJ).all fun d => isFls (f_is_between d (.int 0) (.int (n - 1)))) = true) (by kernel_rfl) (by kernel_rfl) (by kernel_rfl) (by kernel_rfl) (by kernel_rfl) (by kernel_rfl) (by kernel_rfl) (by kernel_rfl)
theorem add4 (w : Str) : addD (.lst [.str w, .str w, .str w, .str w]) (.lst [.str w, .str w, .str w, .str w]) = pure (.lst [.str w, .str w, .str w, .str w, .str w, .str w, .str w, .str w]) := rfl
section
variable {N : Nt} {ws : List Str}
theorem right29 (h : Net N) (r : Rep N ws) {k : Nat} {s : List Int} (hp : Pen k s) (hk : k ≤ 850000) : Ok (f_law_right (dN N) (tS ws)) s fun d s' => d = .bl true ∧ Pen (k + 1) s' := by
  have h8 := h.hi
  have h1 := h.lo
  have chk := reps_chk N.length h1 h8
  rw [Bool.and_eq_true, List.all_eq_true, decide_eq_true_eq] at chk
  have er : run0 (f_law_no_reports (.int N.length)) = pure (.lst (noReps N.length)) := run0_at (reps_ok N.length h1 h8)
  have ea : addD (.lst (noReps N.length)) (.lst OBJ) = pure (.lst (noReps N.length ++ OBJ)) := addL (by show _ ≤ 1000000; omega)
  have eo : run0 (f_law_objects) = pure (.lst OBJ) := objs_ok
  have mr : mulL (.lst [D.str "! report"]) (.int 8) = pure (.lst [.str "! report", .str "! report", .str "! report", .str "! report", .str "! report", .str "! report", .str "! report", .str "! report"]) := by kernel_rfl
  have nr : ∀ s, neD (.lst [.str "! report", .str "! report", .str "! report", .str "! report", .str "! report", .str "! report", .str "! report", .str "! report"]) (.lst [.str "! report", .str "! report", .str "! report", .str "! report", .str "! report", .str "! report", .str "! report", .str "! report"]) s = (pure (.bl false) : PM D) s := fun s => by kernel_rfl
  have mc : mulL (.lst [D.str "! component"]) (.int 2) = pure (.lst [.str "! component", .str "! component"]) := by kernel_rfl
  have nc : ∀ s, neD (.lst [.str "! component", .str "! component"]) (.lst [.str "! component", .str "! component"]) s = (pure (.bl false) : PM D) s := fun s => by kernel_rfl
  have e1 : ∀ w : Str, mkL [D.str w] = pure (.lst [.str w]) := fun _ => rfl
  have eL : mkL [] = pure (.lst []) := rfl
  have ng : (negD (.int 1) : PM D) = pure (.int (-1)) := rfl
  have eP : powD (.int 10) (.int 12) = pure (.int (10 ^ 12)) := by kernel_rfl
  have eT1 : ∀ a : D, mkT [a] = pure (.tup [a]) := fun _ => rfl
  have eL1 : ∀ a : D, mkL [a] = pure (.lst [a]) := fun _ => rfl
  have eI : ∀ i : Int, asI (.int i) = pure (some i) := fun _ => rfl
  have eL11 : mkL (noComps N.length) = pure (.lst (noComps N.length)) := mkL_ok (by show 11 ≤ 1000000; decide)
  have ec : addD (.lst (noComps N.length)) (.lst OBJ) = pure (.lst (noComps N.length ++ OBJ)) := addL (by show 11 + _ ≤ 1000000; omega)
  simp only [f_law_right, pure_bind, bind_assoc, len_tup, List.length_map, fn1_eq, fn3_eq, fn0, er, eo, ea, items_lst, id]
  rw [forL_goD (fun d md => by
    have c := chk.1 d md
    rw [Bool.and_eq_true] at c
    obtain ⟨t, et⟩ := (Gd.of c.1).repr (by omega) (by omega)
    simp only [et, pure_bind, words_rep h c.2, run0_p, add4, two, e1, mr, funext nr, asB_bl, Bool.false_eq_true, if_false, neStr]), pure_bind]
  simp only [lpK, ng, eP, eT1, eL1, pure_bind, eI]
  show Ok (mkL (noComps N.length) >>= _) _ _
  rw [eL11, pure_bind, ec, pure_bind, items_lst, pure_bind]
  rw [forL_goD (fun d md => by
    obtain ⟨x, y, e⟩ := words_comp h r (List.all_eq_true.mp (comps_chk N.length h1 h8) d md)
    have sl : sliceD (.lst [.str x, .str y, .str "! component", .str "! component"]) (some 2) none = pure (.lst [.str "! component", .str "! component"]) := rfl
    simp only [e, run0_p, pure_bind, sl, e1, mc, funext nc, asB_bl, Bool.false_eq_true, if_false]), pure_bind]
  refine Ok.bind ((draw hp (by omega) h1 (by omega)).imp fun d s1 h57_ => ?_); obtain ⟨p1, c, e, c0, c1⟩ := h57_
  subst e
  have sw := witD_sm h r c0 c1
  have wd := words_two (c := .int c) (certD_sm29 (ws := ws) h) (expD_sm29 (ws := ws) h) (by omega) (by omega) (by omega) (by omega) (certain h r) (expected h r) (witness h r c0 c1) (shows_non h r c0 c1) (w3 := shown (witD N ws c)) (w4 := shown (.bl false))
    (by rw [run0_p]; exact said_ok "done" sw) (by rw [run0_p]; exact said_ok "done" (Sm.bl (h := 0) (b := 0) false))
  have em := no_marksN (zs := [shown (certD N ws), shown (expD N ws), shown (witD N ws c), shown (.bl false)]) (fun z mz => by
    simp only [List.mem_cons, List.not_mem_nil, or_false] at mz
    rcases mz with rfl | rfl | rfl | rfl
    · exact noMk_cert h
    · exact noMk_exp h
    · exact noMk_wit h r c0 c1
    · exact noMk_bl false) (by show 4 ≤ 1000000; decide)
  simp only [List.map_cons, List.map_nil] at em
  have eE : eqD (.lst []) (.lst []) = pure (.bl true) := by kernel_rfl
  simp only [wd, run0_p, pure_bind, items_lst, em, eL, eE]
  exact Ok.pure ⟨rfl, p1⟩
end
theorem law_true (ns : List Int) (hn : ns.length ≤ 63) : ∃ s, fn0 (f_law ns) [] [] = .ok (.bl true) s := by
  refine ok_end ?_
  show Ok (f_law ns) [] _
  have nl := of_decide_eq_true nets_len
  have ea : addD (.lst (outM f_law_no_nets)) (.lst OBJ) = pure (.lst (outM f_law_no_nets ++ OBJ)) := addL (by show _ ≤ 1000000; omega)
  have mr : mulL (.lst [D.str "! net"]) (.int 8) = pure (.lst [.str "! net", .str "! net", .str "! net", .str "! net", .str "! net", .str "! net", .str "! net", .str "! net"]) := by kernel_rfl
  have nr : ∀ s, neD (.lst [.str "! net", .str "! net", .str "! net", .str "! net", .str "! net", .str "! net", .str "! net", .str "! net"]) (.lst [.str "! net", .str "! net", .str "! net", .str "! net", .str "! net", .str "! net", .str "! net", .str "! net"]) s = (pure (.bl false) : PM D) s := fun s => by kernel_rfl
  have e1 : ∀ w : Str, mkL [D.str w] = pure (.lst [.str w]) := fun _ => rfl
  have eT1 : ∀ a : D, mkT [a] = pure (.tup [a]) := fun _ => rfl
  simp only [f_law, bind_assoc, pure_bind, fn1_eq, fn2_eq, fn3_eq, objs_ok, nn_ok, ea, items_lst, eT1, id]
  rw [forL_goD (fun d md => by
    have c := List.all_eq_true.mp nets_chk d md
    rw [Bool.and_eq_true] at c
    obtain ⟨t, et⟩ := (Gd.of c.1).repr (by omega) (by omega)
    have hz := isFls_run c.2
    simp only [et, pure_bind, words_net hz, run0_p, add4, two, e1, mr, funext nr, asB_bl, Bool.false_eq_true, if_false, neStr]), pure_bind]
  show Ok _ [] _
  obtain ⟨m, hm, el⟩ := laps2 ns.length
  simp only [lpK]
  rw [el]
  refine Ok.bind ((Ok.forL (fun _ _ => True) (t := 0) (k := 0) trivial (fun z hz _ s _ _ _ => ?_)).imp fun r s ⟨e, _⟩ => ?_)
  · obtain ⟨v, ev⟩ := cellB (ns := ns) (mem_iota.mp hz).1
    obtain ⟨p, ep, pp⟩ := source v
    have er : ∀ p : List Int, run0 (pure p : PM (List Int)) = pure p := fun _ => rfl
    have em : mfn1 f_law_source [.int v] = pure p := ep
    have e3 : rangeF1 [.int 3] = pure ((iota 3).map D.int) := range1 (n := 3) (by show _ ≤ 1000000; omega)
    rw [ev, run0_p, pure_bind, em, er, pure_bind, e3, pure_bind]
    refine Ok.withPen (Ok.bind ((Ok.forL Pen (t := 120) pp (fun y my j s hj1 hj2 pj => ?_)).imp fun r s ⟨e, _⟩ => ?_))
    · have l3 : (iota 3).length = 3 := len_iota 3
      refine Ok.bind ((draw (m := 5) pj (by omega) (by decide) (by decide)).imp fun d s1 h60_ => ?_); obtain ⟨p1, x, e, x0, x1⟩ := h60_
      subst e
      rw [add_int, pure_bind, show (1 + x : Int) = (((1 + x).toNat : Nat) : Int) by omega]
      refine Ok.bind ((case_ (n := (1 + x).toNat) (by omega) (by omega) p1 (by omega)).imp fun d s2 h61_ => ?_); obtain ⟨p2, N, ws, h, hn, r, e⟩ := h61_
      subst e
      simp only [unp3]
      refine Ok.bind ((right29 h r p2 (by omega)).imp fun d s3 h62_ => ?_); obtain ⟨e, p3⟩ := h62_
      subst e
      exact Ok.pure ⟨rfl, p3.mono (by omega)⟩
    · subst e
      exact Ok.pure ⟨rfl, trivial⟩
  · subst e
    exact Ok.pure rfl
end Lw
section
set_option maxHeartbeats 4000000
namespace Lw
open PySem PySem.Spec PyProof.Rows L2 EV
def topS (i : Nat) : Stmt := PySem.Challenge.pw_rootalarms_k29_certain_refused.main.body.getD i (.Pass ⟨0, 0, 0, 0⟩)
noncomputable abbrev s_Net_repr : Stmt := (clsBody (topS 58)).getD 14 (.Pass ⟨0, 0, 0, 0⟩)
theorem sc_Net_repr : FnScope ["self"] ["self"] (defScope s_Net_repr) := ⟨rfl, rfl, rfl, by decide +kernel, rfl, by decide +kernel, by decide +kernel⟩
noncomputable abbrev s_reach_of : Stmt := topS 21
theorem sc_reach_of : FnScope ["net", "component", "found", "at", "needed"] ["net", "component"] (defScope s_reach_of) := ⟨rfl, rfl, rfl, by decide +kernel, rfl, by decide +kernel, by decide +kernel⟩
noncomputable abbrev s_all_reaches : Stmt := topS 22
theorem sc_all_reaches : FnScope ["net", "component"] ["net"] (defScope s_all_reaches) := ⟨rfl, rfl, rfl, by decide +kernel, rfl, by decide +kernel, by decide +kernel⟩
noncomputable abbrev s_with_word : Stmt := topS 34
theorem sc_with_word : FnScope ["report", "word", "component", "own"] ["report", "word"] (defScope s_with_word) := ⟨rfl, rfl, rfl, by decide +kernel, rfl, by decide +kernel, by decide +kernel⟩
noncomputable abbrev s_candidates_of : Stmt := topS 35
theorem sc_candidates_of : FnScope ["net", "report", "reaches", "quiet", "one", "other"] ["net", "report"] (defScope s_candidates_of) := ⟨rfl, rfl, rfl, by decide +kernel, rfl, by decide +kernel, by decide +kernel⟩
noncomputable abbrev s_watched_of : Stmt := topS 61
theorem sc_watched_of : FnScope ["report", "word"] ["report"] (defScope s_watched_of) := ⟨rfl, rfl, rfl, by decide +kernel, rfl, by decide +kernel, by decide +kernel⟩
noncomputable abbrev s_Watch_repr : Stmt := (clsBody (topS 62)).getD 23 (.Pass ⟨0, 0, 0, 0⟩)
theorem sc_Watch_repr : FnScope ["self", "many"] ["self"] (defScope s_Watch_repr) := ⟨rfl, rfl, rfl, by decide +kernel, rfl, by decide +kernel, by decide +kernel⟩
noncomputable abbrev s_law_draw : Stmt := topS 66
theorem sc_law_draw : FnScope ["_law_supply", "_law_many", "_law_found", "_law_mixed"] ["_law_supply", "_law_many"] (defScope s_law_draw) := ⟨rfl, rfl, rfl, by decide +kernel, rfl, by decide +kernel, by decide +kernel⟩
noncomputable abbrev s_law_net_of : Stmt := topS 68
theorem sc_law_net_of : FnScope ["_law_supply", "_law_size", "_law_way", "_law_found", "_law_component", "_law_needs", "_law_other"] ["_law_supply", "_law_size"] (defScope s_law_net_of) := ⟨rfl, rfl, rfl, by decide +kernel, rfl, by decide +kernel, by decide +kernel⟩
noncomputable abbrev s_law_choose : Stmt := topS 67
theorem sc_law_choose : FnScope ["_law_supply", "_law_values"] ["_law_supply", "_law_values"] (defScope s_law_choose) := ⟨rfl, rfl, rfl, by decide +kernel, rfl, by decide +kernel, by decide +kernel⟩
noncomputable abbrev s_law_report : Stmt := topS 72
theorem sc_law_report : FnScope ["_law_supply", "_law_net", "_law_table_here", "_law_way", "_law_told", "_law_found", "_law_component", "_law_word"] ["_law_supply", "_law_net", "_law_table_here"] (defScope s_law_report) := ⟨rfl, rfl, rfl, by decide +kernel, rfl, by decide +kernel, by decide +kernel⟩
noncomputable abbrev s_law_meets : Stmt := topS 79
theorem sc_law_meets : FnScope ["_law_one", "_law_other", "_law_thing"] ["_law_one", "_law_other"] (defScope s_law_meets) := ⟨rfl, rfl, rfl, by decide +kernel, rfl, by decide +kernel, by decide +kernel⟩
noncomputable abbrev s_law_reaches : Stmt := topS 69
theorem sc_law_reaches : FnScope ["_law_net", "_law_found", "_law_turn", "_law_wider", "_law_own", "_law_far", "_law_near", "_law_component", "_law_needs"] ["_law_net"] (defScope s_law_reaches) := ⟨rfl, rfl, rfl, by decide +kernel, rfl, by decide +kernel, by decide +kernel⟩
noncomputable abbrev s_law_sets : Stmt := topS 70
theorem sc_law_sets : FnScope ["_law_things", "_law_found", "_law_thing", "_law_row"] ["_law_things"] (defScope s_law_sets) := ⟨rfl, rfl, rfl, by decide +kernel, rfl, by decide +kernel, by decide +kernel⟩
noncomputable abbrev s_law_table : Stmt := topS 71
theorem sc_law_table : FnScope ["_law_net", "_law_reaches_here", "_law_found", "_law_broken", "_law_component", "_law_own"] ["_law_net"] (defScope s_law_table) := ⟨rfl, rfl, rfl, by decide +kernel, rfl, by decide +kernel, by decide +kernel⟩
noncomputable abbrev s_law_case : Stmt := topS 73
theorem sc_law_case : FnScope ["_law_supply", "_law_size", "_law_net", "_law_table_here"] ["_law_supply", "_law_size"] (defScope s_law_case) := ⟨rfl, rfl, rfl, by decide +kernel, rfl, by decide +kernel, by decide +kernel⟩
noncomputable abbrev s_law_cell : Stmt := topS 64
theorem sc_law_cell : FnScope ["_law_script", "_law_index"] ["_law_script", "_law_index"] (defScope s_law_cell) := ⟨rfl, rfl, rfl, by decide +kernel, rfl, by decide +kernel, by decide +kernel⟩
noncomputable abbrev s_law_no_nets : Stmt := topS 77
theorem sc_law_no_nets : FnScope ["_law_found"] [] (defScope s_law_no_nets) := ⟨rfl, rfl, rfl, by decide +kernel, rfl, by decide +kernel, by decide +kernel⟩
noncomputable abbrev s_is_between : Stmt := topS 15
theorem sc_is_between : FnScope ["thing", "low", "high"] ["thing", "low", "high"] (defScope s_is_between) := ⟨rfl, rfl, rfl, by decide +kernel, rfl, by decide +kernel, by decide +kernel⟩
noncomputable abbrev s_is_rising : Stmt := topS 16
theorem sc_is_rising : FnScope ["size", "thing", "one", "later"] ["size", "thing"] (defScope s_is_rising) := ⟨rfl, rfl, rfl, by decide +kernel, rfl, by decide +kernel, by decide +kernel⟩
noncomputable abbrev s_is_net : Stmt := topS 17
theorem sc_is_net : FnScope ["thing", "component", "needs"] ["thing"] (defScope s_is_net) := ⟨rfl, rfl, rfl, by decide +kernel, rfl, by decide +kernel, by decide +kernel⟩
noncomputable abbrev s_Net_init : Stmt := (clsBody (topS 58)).getD 0 (.Pass ⟨0, 0, 0, 0⟩)
theorem sc_Net_init : FnScope ["self", "needs"] ["self", "needs"] (defScope s_Net_init) := ⟨rfl, rfl, rfl, by decide +kernel, rfl, by decide +kernel, by decide +kernel⟩
noncomputable abbrev s_is_word : Stmt := topS 31
theorem sc_is_word : FnScope ["thing"] ["thing"] (defScope s_is_word) := ⟨rfl, rfl, rfl, by decide +kernel, rfl, by decide +kernel, by decide +kernel⟩
noncomputable abbrev s_is_report : Stmt := topS 32
theorem sc_is_report : FnScope ["net", "thing", "word"] ["net", "thing"] (defScope s_is_report) := ⟨rfl, rfl, rfl, by decide +kernel, rfl, by decide +kernel, by decide +kernel⟩
noncomputable abbrev s_need_start : Stmt := topS 60
theorem sc_need_start : FnScope ["net", "report"] ["net", "report"] (defScope s_need_start) := ⟨rfl, rfl, rfl, by decide +kernel, rfl, by decide +kernel, by decide +kernel⟩
noncomputable abbrev s_Watch_init : Stmt := (clsBody (topS 62)).getD 1 (.Pass ⟨0, 0, 0, 0⟩)
theorem sc_Watch_init : FnScope ["self", "net", "report"] ["self", "net", "report"] (defScope s_Watch_init) := ⟨rfl, rfl, rfl, by decide +kernel, rfl, by decide +kernel, by decide +kernel⟩
noncomputable abbrev s_law_objects : Stmt := topS 74
theorem sc_law_objects : FnScope ["_law_net", "_law_watch"] [] (defScope s_law_objects) := ⟨rfl, rfl, rfl, by decide +kernel, rfl, by decide +kernel, by decide +kernel⟩
noncomputable abbrev s_law_no_reports : Stmt := topS 78
theorem sc_law_no_reports : FnScope ["_law_size", "_law_good", "_law_found"] ["_law_size"] (defScope s_law_no_reports) := ⟨rfl, rfl, rfl, by decide +kernel, rfl, by decide +kernel, by decide +kernel⟩
noncomputable abbrev s_needed_of : Stmt := topS 36
theorem sc_needed_of : FnScope ["net", "report", "some", "found", "component", "one"] ["net", "report"] (defScope s_needed_of) := ⟨rfl, rfl, rfl, by decide +kernel, rfl, by decide +kernel, by decide +kernel⟩
noncomputable abbrev s_is_explained : Stmt := topS 37
theorem sc_is_explained : FnScope ["net", "report"] ["net", "report"] (defScope s_is_explained) := ⟨rfl, rfl, rfl, by decide +kernel, rfl, by decide +kernel, by decide +kernel⟩
noncomputable abbrev s_need_net : Stmt := topS 18
theorem sc_need_net : FnScope ["thing"] ["thing"] (defScope s_need_net) := ⟨rfl, rfl, rfl, by decide +kernel, rfl, by decide +kernel, by decide +kernel⟩
noncomputable abbrev s_need_report : Stmt := topS 33
theorem sc_need_report : FnScope ["net", "thing"] ["net", "thing"] (defScope s_need_report) := ⟨rfl, rfl, rfl, by decide +kernel, rfl, by decide +kernel, by decide +kernel⟩
noncomputable abbrev s_word_of : Stmt := topS 43
theorem sc_word_of : FnScope ["net", "report", "component"] ["net", "report", "component"] (defScope s_word_of) := ⟨rfl, rfl, rfl, by decide +kernel, rfl, by decide +kernel, by decide +kernel⟩
noncomputable abbrev s_certain : Stmt := topS 44
theorem sc_certain : FnScope ["net", "report", "component"] ["net", "report"] (defScope s_certain) := ⟨rfl, rfl, rfl, by decide +kernel, rfl, by decide +kernel, by decide +kernel⟩
noncomputable abbrev s_do_meet : Stmt := topS 23
theorem sc_do_meet : FnScope ["one", "other", "thing"] ["one", "other"] (defScope s_do_meet) := ⟨rfl, rfl, rfl, by decide +kernel, rfl, by decide +kernel, by decide +kernel⟩
noncomputable abbrev s_expected_word : Stmt := topS 45
theorem sc_expected_word : FnScope ["net", "report", "component", "own", "needed", "one"] ["net", "report", "component"] (defScope s_expected_word) := ⟨rfl, rfl, rfl, by decide +kernel, rfl, by decide +kernel, by decide +kernel⟩
noncomputable abbrev s_expected_of : Stmt := topS 46
theorem sc_expected_of : FnScope ["net", "report", "component"] ["net", "report"] (defScope s_expected_of) := ⟨rfl, rfl, rfl, by decide +kernel, rfl, by decide +kernel, by decide +kernel⟩
noncomputable abbrev s_expected : Stmt := topS 47
theorem sc_expected : FnScope ["net", "report"] ["net", "report"] (defScope s_expected) := ⟨rfl, rfl, rfl, by decide +kernel, rfl, by decide +kernel, by decide +kernel⟩
noncomputable abbrev s_alarms_of : Stmt := topS 24
theorem sc_alarms_of : FnScope ["net", "broken", "component", "own"] ["net", "broken"] (defScope s_alarms_of) := ⟨rfl, rfl, rfl, by decide +kernel, rfl, by decide +kernel, by decide +kernel⟩
noncomputable abbrev s_does_explain : Stmt := topS 39
theorem sc_does_explain : FnScope ["net", "report", "broken", "alarming", "component", "word"] ["net", "report", "broken"] (defScope s_does_explain) := ⟨rfl, rfl, rfl, by decide +kernel, rfl, by decide +kernel, by decide +kernel⟩
noncomputable abbrev s_are_two : Stmt := topS 50
theorem sc_are_two : FnScope ["net", "report", "component", "one", "other", "thing"] ["net", "report", "component", "one", "other"] (defScope s_are_two) := ⟨rfl, rfl, rfl, by decide +kernel, rfl, by decide +kernel, by decide +kernel⟩
noncomputable abbrev s_need_component : Stmt := topS 19
theorem sc_need_component : FnScope ["net", "thing"] ["net", "thing"] (defScope s_need_component) := ⟨rfl, rfl, rfl, by decide +kernel, rfl, by decide +kernel, by decide +kernel⟩
noncomputable abbrev s_need_all : Stmt := topS 48
theorem sc_need_all : FnScope ["net", "report", "component"] ["net", "report", "component"] (defScope s_need_all) := ⟨rfl, rfl, rfl, by decide +kernel, rfl, by decide +kernel, by decide +kernel⟩
noncomputable abbrev s_rulers_of : Stmt := topS 38
theorem sc_rulers_of : FnScope ["net", "report", "component", "other"] ["net", "report", "component"] (defScope s_rulers_of) := ⟨rfl, rfl, rfl, by decide +kernel, rfl, by decide +kernel, by decide +kernel⟩
noncomputable abbrev s_shows_witness : Stmt := topS 51
theorem sc_shows_witness : FnScope ["net", "report", "component", "thing", "alarming"] ["net", "report", "component", "thing"] (defScope s_shows_witness) := ⟨rfl, rfl, rfl, by decide +kernel, rfl, by decide +kernel, by decide +kernel⟩
noncomputable abbrev s_witness : Stmt := topS 49
theorem sc_witness : FnScope ["net", "report", "component", "some", "needed", "one"] ["net", "report", "component"] (defScope s_witness) := ⟨rfl, rfl, rfl, by decide +kernel, rfl, by decide +kernel, by decide +kernel⟩
noncomputable abbrev s_law_words : Stmt := topS 80
theorem sc_law_words : FnScope ["_law_net", "_law_report_here", "_law_component", "_law_words_here"] ["_law_net", "_law_report_here", "_law_component"] (defScope s_law_words) := ⟨rfl, rfl, rfl, by decide +kernel, rfl, by decide +kernel, by decide +kernel⟩
noncomputable abbrev s_law_right : Stmt := topS 81
theorem sc_law_right : FnScope ["_law_supply", "_law_net", "_law_report_here", "_law_bad", "_law_kept", "_law_words_here", "_law_word"] ["_law_supply", "_law_net", "_law_report_here"] (defScope s_law_right) := ⟨rfl, rfl, rfl, by decide +kernel, rfl, by decide +kernel, by decide +kernel⟩
noncomputable abbrev s_law_source : Stmt := topS 65
theorem sc_law_source : FnScope ["_law_cell_here"] ["_law_cell_here"] (defScope s_law_source) := ⟨rfl, rfl, rfl, by decide +kernel, rfl, by decide +kernel, by decide +kernel⟩
noncomputable abbrev s_law : Stmt := topS 82
theorem sc_law : FnScope ["_law_script", "_law_bad", "_law_kept", "_law_words_here", "_law_k", "_law_supply", "_law_lap", "_law_net", "_law_table_here", "_law_report_here"] ["_law_script"] (defScope s_law) := ⟨rfl, rfl, rfl, by decide +kernel, rfl, by decide +kernel, by decide +kernel⟩
noncomputable abbrev s_law_said : Stmt := topS 76
theorem sc_law_said : FnScope ["_law_call", "_law_e"] ["_law_call"] (defScope s_law_said) := ⟨rfl, rfl, rfl, by decide +kernel, rfl, by decide +kernel, by decide +kernel⟩
noncomputable abbrev s_law_kind : Stmt := topS 75
theorem sc_law_kind : FnScope ["_law_e", "_law_marks", "_law_words_here"] ["_law_e"] (defScope s_law_kind) := ⟨rfl, rfl, rfl, by decide +kernel, rfl, by decide +kernel, by decide +kernel⟩
noncomputable abbrev s_fit : Stmt := (clsBody (topS 62)).getD 9 (.Pass ⟨0, 0, 0, 0⟩)
theorem sc_fit : FnScope ["self", "report"] ["self", "report"] (defScope s_fit) := ⟨rfl, rfl, rfl, by decide +kernel, rfl, by decide +kernel, by decide +kernel⟩
section
variable {P : Program} {w : World} {K : PySem.W.Frag} {mg : Str → Option Value} {base : Heap}
theorem q_kind (B : Bn mg) (hV : mg "ValueError" = none) {CA : Addr} {f : Addr} {fd : FuncData} (FU : Fun K "_law_kind" "_law_kind" s_law_kind f fd) : FnQ P w K mg base 31 f fd ["_law_e"] (spK "done" K mg CA) := by
  refine fn_q (N := ["_law_e", "_law_marks", "_law_words_here"]) (k := 30) FU sc_law_kind (fun p vs H Q h => by obtain ⟨D, j, hj, rfl, _⟩ := h; rfl) (fun cdv A outer s H vs Q p hr h => ?_)
  obtain ⟨D, j, hj, rfl, hz, hf, ej, hQ⟩ := h
  have hE : HotE (cxQ P w K mg base ["_law_e", "_law_marks", "_law_words_here"] "_law_kind" (defScope s_law_kind) f cdv A outer s H p) p.1 D p.2 := ⟨List.mem_cons_self, ej.cls, hz, hf, ⟨_, rfl, .inl rfl⟩⟩
  obtain ⟨C0, m0, k0⟩ := ej.is 0 _ rfl
  obtain ⟨C1, m1, k1⟩ := ej.is 1 _ rfl
  obtain ⟨C2, m2, k2⟩ := ej.is 2 _ rfl
  obtain ⟨C3, m3, k3⟩ := ej.is 3 _ rfl
  obtain ⟨C4, m4, k4⟩ := ej.is 4 _ rfl
  obtain ⟨C5, m5, k5⟩ := ej.is 5 _ rfl
  obtain ⟨C6, m6, k6⟩ := ej.is 6 _ rfl
  obtain ⟨C7, m7, k7⟩ := ej.is 7 _ rfl
  obtain ⟨C8, m8, k8⟩ := ej.is 8 _ rfl
  obtain ⟨C9, m9, k9⟩ := ej.is 9 _ rfl
  have hu := hr.un
  exact ⟨_, pss_kind (e := "_law_e") (q35 := ⟨0, 0, 0, 0⟩) (k12 := 0) (k13 := 0) (k14 := 0) (w8 := "done") hj (show (A.deeper (envOfC "_law_kind" (defScope s_law_kind) s.heap.objs.size f cdv)).units + 65 < cLine from by omega) sc_law_kind.nd rfl rfl (.inl rfl) (.inl rfl) (.inl rfl) (.inl rfl) (pe_isi (c := "NetError") hE rfl (.inl rfl) rfl B.isinstance rfl m0 k0) (pe_isi (c := "ComponentError") hE rfl (.inl rfl) rfl B.isinstance rfl m1 k1) (pe_isi (c := "SetError") hE rfl (.inl rfl) rfl B.isinstance rfl m2 k2) (pe_isi (c := "ReportError") hE rfl (.inl rfl) rfl B.isinstance rfl m3 k3) (pe_isi (c := "WordError") hE rfl (.inl rfl) rfl B.isinstance rfl m4 k4) (pe_isi (c := "NumberError") hE rfl (.inl rfl) rfl B.isinstance rfl m5 k5) (pe_isi (c := "TextError") hE rfl (.inl rfl) rfl B.isinstance rfl m6 k6) (pe_isi (c := "NothingDone") hE rfl (.inl rfl) rfl B.isinstance rfl m7 k7) (pe_isi (c := "Unexplained") hE rfl (.inl rfl) rfl B.isinstance rfl m8 k8) (pe_isi (c := "LimitError") hE rfl (.inl rfl) rfl B.isinstance rfl m9 k9) (pt_val (pe_isiT (c := "ValueError") hE rfl (.inl rfl) rfl B.isinstance rfl hV (by decide +kernel) ej.val)), rfl, hQ⟩
theorem c_said (B : Bn mg) (hV : mg "ValueError" = none) {CA : Addr} (hA : mg "AlarmError" = some (.ref CA)) (hE : ∀ j y, errsL[j]? = some y → ∃ D, mg y = some (.ref D) ∧ ErrJ K mg CA D j) (AS : FunAt K mg "_law_said" s_law_said) (AK : FunAt K mg "_law_kind" s_law_kind) : SaidC P w K mg base 31 "_law_said" "done" := by
  refine EV.el2_2 (AS.ex) fun fs fds FS hs => ?_
  obtain ⟨fk, fdk, FK, hk⟩ := AK.ex
  obtain ⟨oc, od, kV, doc, pm, an, cdv, ct, osl, e, lk, hcd⟩ := FS.ex
  subst e
  refine ⟨fs, CA, _, _, defScope s_law_said, kV, doc, pm, cdv, ct, oc, an, od, osl, "_law_call", ["_law_call", "_law_e"], hs, FS.kp, lk, hcd, FS.binds (ps := ["_law_call"]) (fun _ _ _ _ _ _ us hl => (by obtain ⟨_, rfl⟩ := EV.lv1 hl; rfl)), sc_law_said, rfl, .inl rfl, by decide, by decide, hE, ?_⟩
  intro X e1 e2 e3 e4 e5 hr hg q
  subst e1 e2 e3 e4 e5
  exact said_gives (by decide) (q_kind B hV FK) hk FK.kp (FK.binds (ps := ["_law_e"]) (fun _ _ _ _ _ _ us hl => (by obtain ⟨_, rfl⟩ := EV.lv1 hl; rfl))) hr hg rfl B.repr rfl rfl hA rfl (by decide) (by decide) (by decide) (by decide) (by decide)
theorem ok_Net_repr (B : Bn mg) (NA_Net_own_needs : NoAttr K cNet "own_needs") (FA : MethF K cNet "__repr__" "Net.__repr__" s_Net_repr) : CalM P w K mg base 1 cNet "__repr__" ["self"] (spF K mg false 1 (fn1 f_Net_repr)) := by
  refine mk_meth (N := ["self"]) (k := 0) FA sc_Net_repr rfl (fun _ _ _ _ _ _ us hl => (by (refine EV.el1_1 (EV.lv1 hl) fun _ q303_ => ?_; obtain rfl := q303_); rfl)) (fun f cdv A outer s H E C ds hn => ?_)
  (refine EV.el1_1 (len1 hn) fun a0 q304_ => ?_; obtain rfl := q304_)
  refine ⟨D, Out.ret, f_Net_repr a0, ?_, out_ret _⟩
  unfold f_Net_repr
  change SV _ _ _ [.val a0] _ _ _
  exact sv_ret (inj := id) (fun _ => rfl) (ev_fstr (.cons ev_str (.cons (ev_fmt (ev_callB cd_len (by rfl) B.len PySem.boot_len (el_cons (ev_fldO NA_Net_own_needs (vv 0)) el_nil))) (.cons ev_str .nil))))
theorem ok_reach_of (B : Bn mg) (FA : FunAt K mg "reach_of" s_reach_of) : Cal P w K mg base 1 "reach_of" ["net", "component"] (spF K mg false 2 (fn2 f_reach_of)) := by
  refine mk_pure (N := ["net", "component", "found", "at", "needed"]) (k := 0) FA sc_reach_of rfl (fun _ _ _ _ _ _ us hl => (by (refine EV.el2_1 (EV.lv2 hl) fun _ _ q305_ => ?_; obtain rfl := q305_); rfl)) (fun f cdv A outer s H E C ds hn => ?_)
  (refine EV.el2_1 (len2 hn) fun a0 a1 q306_ => ?_; obtain rfl := q306_)
  refine ⟨D, Out.ret, f_reach_of a0 a1, ?_, out_ret _⟩
  unfold f_reach_of
  change SV _ _ _ [.val a0, .val a1, .junk, .junk, .junk] _ _ _
  refine sv_setO 2 (ps_o C.nd (eo_lst (el_cons (vv 1) el_nil))) (fun xs1 => ?_)
  change SV _ _ _ [.val a0, .val a1, .own xs1, .junk, .junk] _ _ _
  refine sv_set 3 C.nd ev_int (fun v4 => ?_)
  change SV _ _ _ [.val a0, .val a1, .own xs1, .val v4, .junk] _ _ _
  refine sv_while 20 (mk := (fun (c5 : D × List D) => [.val a0, .val a1, .own c5.2, .val c5.1, .junk])) (c0 := (v4, xs1)) C (wk (wk (wk (wk (wj wn))))) (fun c5 => (peekB [.val a0, .val a1, .val (D.lst c5.2), .val c5.1, .junk] 2 (xs := c5.2) rfl rfl (eb_cmp od_lt (vv 3) (ev_callB cd_len (by rfl) B.len PySem.boot_len (el_cons (vv 2) el_nil)) (nomark _)))) (fun c5 => ?_) (fun c5 => ?_)
  · change SV _ _ _ [.val a0, .val a1, .own c5.2, .val c5.1, .junk] _ _ _
    refine sv_ext [.val a0, .val a1, .val (D.lst c5.2), .val c5.1, .junk] 2 (xs := c5.2) rfl rfl (ev_lc (own := [(("needed" : Str), 4)]) (dec := dec1) (g := gName 4) (Γz := fun z14 => [.val a0, .val a1, .val (D.lst c5.2), .val c5.1, .val z14]) C (ei_seq (ev_ix (vv 0) (ev_ix (vv 2) (vv 3) (fun _ _ => rfl)) (fun _ _ => rfl))) (blkOk_by (by rfl)) (tg_name (by simp)) (fun _ _ _ _ _ => pgn 4 C.nd) (fun z14 _ _ _ _ _ => (ets_one (eb_cmp (od_notIn C.blk.room) (vv 4) (vv 2) (by rfl)))) (fun z14 _ _ _ _ _ => (vv 4))) (fun ys19 => ?_)
    change SV _ _ _ [.val a0, .val a1, .own (c5.2 ++ ys19), .val c5.1, .junk] _ _ _
    refine sv_set 3 C.nd (ev_op od_add (vv 3) ev_int) (fun v20 => ?_)
    change SV _ _ _ [.val a0, .val a1, .own (c5.2 ++ ys19), .val v20, .junk] _ _ _
    exact sv_nil rfl (wk (wk (wk (wk (wj wn)))))
  · change SV _ _ _ [.val a0, .val a1, .own c5.2, .val c5.1, .junk] _ _ _
    refine sv_pub 2 (xs := c5.2) rfl ?_
    change SV _ _ _ [.val a0, .val a1, .val (D.lst c5.2), .val c5.1, .junk] _ _ _
    exact sv_ret (inj := id) (fun _ => rfl) (ev_callTy cd_tuple (by rfl) B.tuple (by decide +kernel) (el_cons (ev_callB (cd_sortedG C.room) (by rfl) B.sorted (by decide +kernel) (el_cons (vv 2) el_nil)) el_nil))
theorem ok_all_reaches (B : Bn mg) (K_reach_of : Cal P w K mg base 1 "reach_of" ["net", "component"] (spF K mg false 2 (fn2 f_reach_of))) (FA : FunAt K mg "all_reaches" s_all_reaches) : Cal P w K mg base 2 "all_reaches" ["net"] (spF K mg false 1 (fn1 f_all_reaches)) := by
  refine mk_pure (N := ["net", "component"]) (k := 1) FA sc_all_reaches rfl (fun _ _ _ _ _ _ us hl => (by (refine EV.el1_1 (EV.lv1 hl) fun _ q307_ => ?_; obtain rfl := q307_); rfl)) (fun f cdv A outer s H E C ds hn => ?_)
  (refine EV.el1_1 (len1 hn) fun a0 q308_ => ?_; obtain rfl := q308_)
  refine ⟨D, Out.ret, f_all_reaches a0, ?_, out_ret _⟩
  unfold f_all_reaches
  change SV _ _ _ [.val a0, .junk] _ _ _
  exact sv_ret (inj := id) (fun _ => rfl) (ev_lc (own := [(("component" : Str), 1)]) (dec := dec1) (g := gName 1) (Γz := fun z5 => [.val a0, .val z5]) C (ei_range1 (by rfl) B.range (el_cons (ev_callB cd_len (by rfl) B.len PySem.boot_len (el_cons (vv 0) el_nil)) el_nil)) (blkOk_by (by rfl)) (tg_name (by simp)) (fun _ _ _ _ _ => pgn 1 C.nd) (fun z5 _ _ _ _ _ => ets_nil) (fun z5 _ _ _ _ _ => (call C.blk K_reach_of ar2 (el_cons (vv 0) (el_cons (vv 1) el_nil)))))
theorem ok_with_word (B : Bn mg) (FA : FunAt K mg "with_word" s_with_word) : Cal P w K mg base 1 "with_word" ["report", "word"] (spF K mg false 2 (fn2 f_with_word)) := by
  refine mk_pure (N := ["report", "word", "component", "own"]) (k := 0) FA sc_with_word rfl (fun _ _ _ _ _ _ us hl => (by (refine EV.el2_1 (EV.lv2 hl) fun _ _ q309_ => ?_; obtain rfl := q309_); rfl)) (fun f cdv A outer s H E C ds hn => ?_)
  (refine EV.el2_1 (len2 hn) fun a0 a1 q310_ => ?_; obtain rfl := q310_)
  refine ⟨D, Out.ret, f_with_word a0 a1, ?_, out_ret _⟩
  unfold f_with_word
  change SV _ _ _ [.val a0, .val a1, .junk, .junk] _ _ _
  exact sv_ret (inj := id) (fun _ => rfl) (ev_callTy cd_tuple (by rfl) B.tuple (by decide +kernel) (el_cons (ev_lc (own := [(("component" : Str), 2), (("own" : Str), 3)]) (dec := dec2) (g := gTup _ 2 (gCons (gName 2) (gCons (gName 3) gNil))) (Γz := fun z3 => [.val a0, .val a1, .val z3.1, .val z3.2]) C (ei_enum (by rfl) B.enumerate (el_cons (vv 0) el_nil)) (blkOk_by (by rfl)) (tg_pair (by simp) (by simp)) (fun _ _ _ _ _ => pg_tup rfl (pgs_cons (pgn 2 C.nd) (pgs_cons (pgn 3 C.nd) pgs_nil))) (fun z3 _ _ _ _ _ => (ets_one (eb_cmp (od_eq C.blk.room) (vv 3) (vv 1) (nomark _)))) (fun z3 _ _ _ _ _ => (vv 2))) el_nil))
theorem ok_with_word_t (B : Bn mg) (FA : FunAt K mg "with_word" s_with_word) : Cal P w K mg base 1 "with_word" ["report", "word"] (spT K mg 2 (tfn2 f_with_word_t)) := by
  refine mk_tu (N := ["report", "word", "component", "own"]) (k := 0) FA sc_with_word rfl (fun _ _ _ _ _ _ us hl => (by obtain ⟨_, _, rfl⟩ := EV.lv2 hl; rfl)) rfl B.tuple (fun f cdv A outer s H E C ds hn => ?_)
  obtain ⟨a0, a1, rfl⟩ := len2 hn
  exact ⟨_, (ev_lc (own := [(("component" : Str), 2), (("own" : Str), 3)]) (dec := dec2) (g := gTup _ 2 (gCons (gName 2) (gCons (gName 3) gNil))) (Γz := fun z3 => [.val a0, .val a1, .val z3.1, .val z3.2]) C (ei_enum (by rfl) B.enumerate (el_cons (vv 0) el_nil)) (blkOk_by (by rfl)) (tg_pair (by simp) (by simp)) (fun _ _ _ _ _ => pg_tup rfl (pgs_cons (pgn 2 C.nd) (pgs_cons (pgn 3 C.nd) pgs_nil))) (fun z3 _ _ _ _ _ => (ets_one (eb_cmp (od_eq C.blk.room) (vv 3) (vv 1) (nomark _)))) (fun z3 _ _ _ _ _ => (vv 2))), rfl, by rfl, by rfl, by rfl⟩
theorem ok_candidates_of (B : Bn mg) (c_QUIET : ∃ t, mg "QUIET" = some (.str "quiet" t)) (K_all_reaches : Cal P w K mg base 2 "all_reaches" ["net"] (spF K mg false 1 (fn1 f_all_reaches))) (K_with_word : Cal P w K mg base 1 "with_word" ["report", "word"] (spF K mg false 2 (fn2 f_with_word))) (FA : FunAt K mg "candidates_of" s_candidates_of) : Cal P w K mg base 3 "candidates_of" ["net", "report"] (spF K mg false 2 (fn2 f_candidates_of)) := by
  (refine EV.el1_1 c_QUIET ?_; try clear c_QUIET; intro _ c_QUIET)
  refine mk_pure (N := ["net", "report", "reaches", "quiet", "one", "other"]) (k := 2) FA sc_candidates_of rfl (fun _ _ _ _ _ _ us hl => (by (refine EV.el2_1 (EV.lv2 hl) fun _ _ q313_ => ?_; obtain rfl := q313_); rfl)) (fun f cdv A outer s H E C ds hn => ?_)
  (refine EV.el2_1 (len2 hn) fun a0 a1 q314_ => ?_; obtain rfl := q314_)
  refine ⟨D, Out.ret, f_candidates_of a0 a1, ?_, out_ret _⟩
  unfold f_candidates_of
  change SV _ _ _ [.val a0, .val a1, .junk, .junk, .junk, .junk] _ _ _
  refine sv_set 2 C.nd (call C K_all_reaches ar1 (el_cons (vv 0) el_nil)) (fun v1 => ?_)
  change SV _ _ _ [.val a0, .val a1, .val v1, .junk, .junk, .junk] _ _ _
  refine sv_set 3 C.nd (call C K_with_word ar2 (el_cons (vv 1) (el_cons (ev_glob (v := .str "quiet") (by rfl) c_QUIET ⟨_, rfl⟩ fun _ => .str _) el_nil))) (fun v5 => ?_)
  change SV _ _ _ [.val a0, .val a1, .val v1, .val v5, .junk, .junk] _ _ _
  exact sv_ret (inj := id) (fun _ => rfl) (ev_callTy cd_tuple (by rfl) B.tuple (by decide +kernel) (el_cons (ev_lc (own := [(("one" : Str), 4)]) (dec := dec1) (g := gName 4) (Γz := fun z15 => [.val a0, .val a1, .val v1, .val v5, .val z15, .junk]) C (ei_range1 (by rfl) B.range (el_cons (ev_callB cd_len (by rfl) B.len PySem.boot_len (el_cons (vv 0) el_nil)) el_nil)) (blkOk_by (by rfl)) (tg_name (by simp)) (fun _ _ _ _ _ => pgn 4 C.nd) (fun z15 _ _ _ _ _ => (ets_one (eb_not (eb_val (ev_callB (cd_any C.blk.calm) (by rfl) B.any (by decide +kernel) (el_cons (ev_lc (own := [(("other" : Str), 5)]) (dec := dec1) (g := gName 5) (Γz := fun z16 => [.val a0, .val a1, .val v1, .val v5, .val z15, .val z16]) C.blk (ei_seq (vv 3)) (blkOk_by (by rfl)) (tg_name (by simp)) (fun _ _ _ _ _ => pgn 5 C.blk.nd) (fun z16 _ _ _ _ _ => ets_nil) (fun z16 _ _ _ _ _ => (ev_cmp (od_in C.blk.blk.room) (vv 4) (ev_ix (vv 2) (vv 5) (fun _ _ => rfl)) (by rfl)))) el_nil)))))) (fun z15 _ _ _ _ _ => (vv 4))) el_nil))
theorem ok_watched_of (B : Bn mg) (c_UNSEEN : ∃ t, mg "UNSEEN" = some (.str "unseen" t)) (FA : FunAt K mg "watched_of" s_watched_of) : Cal P w K mg base 1 "watched_of" ["report"] (spF K mg false 1 (fn1 f_watched_of)) := by
  (refine EV.el1_1 c_UNSEEN ?_; try clear c_UNSEEN; intro _ c_UNSEEN)
  refine mk_pure (N := ["report", "word"]) (k := 0) FA sc_watched_of rfl (fun _ _ _ _ _ _ us hl => (by (refine EV.el1_1 (EV.lv1 hl) fun _ q315_ => ?_; obtain rfl := q315_); rfl)) (fun f cdv A outer s H E C ds hn => ?_)
  (refine EV.el1_1 (len1 hn) fun a0 q316_ => ?_; obtain rfl := q316_)
  refine ⟨D, Out.ret, f_watched_of a0, ?_, out_ret _⟩
  unfold f_watched_of
  change SV _ _ _ [.val a0, .junk] _ _ _
  exact sv_ret (inj := id) (fun _ => rfl) (ev_lc (own := [(("word" : Str), 1)]) (dec := dec1) (g := gName 1) (Γz := fun z1 => [.val a0, .val z1]) C (ei_seq (vv 0)) (blkOk_by (by rfl)) (tg_name (by simp)) (fun _ _ _ _ _ => pgn 1 C.nd) (fun z1 _ _ _ _ _ => (ets_one (eb_cmp (od_ne C.blk.room) (vv 1) (ev_glob (v := .str "unseen") (by rfl) c_UNSEEN ⟨_, rfl⟩ fun _ => .str _) (nomark _)))) (fun z1 _ _ _ _ _ => (vv 1)))
theorem ok_Watch_repr (B : Bn mg) (NA_Net_own_needs : NoAttr K cNet "own_needs") (NA_Watch_kept : NoAttr K cWatch "kept") (NA_Watch_own_net : NoAttr K cWatch "own_net") (CN_Watch_NAME : ConC K cWatch "NAME" "Watch") (K_candidates_of : Cal P w K mg base 3 "candidates_of" ["net", "report"] (spF K mg false 2 (fn2 f_candidates_of))) (K_watched_of : Cal P w K mg base 1 "watched_of" ["report"] (spF K mg false 1 (fn1 f_watched_of))) (FA : MethF K cWatch "__repr__" "Watch.__repr__" s_Watch_repr) : CalM P w K mg base 4 cWatch "__repr__" ["self"] (spF K mg false 1 (fn1 f_Watch_repr)) := by
  refine mk_meth (N := ["self", "many"]) (k := 3) FA sc_Watch_repr rfl (fun _ _ _ _ _ _ us hl => (by (refine EV.el1_1 (EV.lv1 hl) fun _ q317_ => ?_; obtain rfl := q317_); rfl)) (fun f cdv A outer s H E C ds hn => ?_)
  (refine EV.el1_1 (len1 hn) fun a0 q318_ => ?_; obtain rfl := q318_)
  refine ⟨D, Out.ret, f_Watch_repr a0, ?_, out_ret _⟩
  unfold f_Watch_repr
  change SV _ _ _ [.val a0, .junk] _ _ _
  refine sv_set 1 C.nd (ev_callB cd_len (by rfl) B.len PySem.boot_len (el_cons (call C K_candidates_of ar2 (el_cons (ev_fldO NA_Net_own_needs (ev_fldO NA_Watch_own_net (vv 0))) (el_cons (ev_fldO NA_Watch_kept (vv 0)) el_nil))) el_nil)) (fun v1 => ?_)
  change SV _ _ _ [.val a0, .val v1] _ _ _
  exact sv_ret (inj := id) (fun _ => rfl) (ev_fstr (.cons (ev_fmt (ev_conO CN_Watch_NAME (vv 0))) (.cons ev_str (.cons (ev_fmt (ev_callB cd_len (by rfl) B.len PySem.boot_len (el_cons (call C K_watched_of ar1 (el_cons (ev_fldO NA_Watch_kept (vv 0)) el_nil)) el_nil))) (.cons ev_str (.cons (ev_fmt (vv 1)) (.cons ev_str .nil)))))))
theorem ok_law_draw (B : Bn mg) (FA : FunAt K mg "_law_draw" s_law_draw) : Cal P w K mg base 1 "_law_draw" ["_law_supply", "_law_many"] (spF K mg true 1 (fn1 f_law_draw)) := by
  refine mk_pen (N := ["_law_supply", "_law_many", "_law_found", "_law_mixed"]) (k := 0) FA sc_law_draw rfl (fun _ _ _ _ _ _ us hl => (by obtain ⟨_, _, rfl⟩ := EV.lv2 hl; rfl)) (fun f cdv A outer s H E C q ds hn => ?_)
  obtain ⟨a0, rfl⟩ := len1 hn
  refine ⟨D, Out.ret, f_law_draw a0, ?_, out_ret _⟩
  unfold f_law_draw
  change SV _ _ _ [.pen, .val a0, .junk, .junk] _ _ _
  refine sv_ifR (eb_cmp od_gt (pget 0 ev_int (fun _ _ => rfl)) ev_int (nomark _)) ?_ (by repeat first | exact nf_bad | exact nf_raise | exact nf_raiseF | exact nf_ret (fun _ => rfl) | refine nf_bind (fun _ => ?_) | refine nf_unp2 (fun _ _ => ?_) | refine nf_ite ?_ ?_) ?_
  · refine sv_set 2 C.nd (ev_op od_mod (pget 0 ev_int (fun _ _ => rfl)) (vv 1)) (fun v4 => ?_)
    change SV _ _ _ [.pen, .val a0, .val v4, .junk] _ _ _
    refine sv_pen (i := 0) rfl rfl (by first | exact Or.inl rfl | exact Or.inr (Or.inl rfl)) (ev_op od_fdiv (pget 0 ev_int (fun _ _ => rfl)) (vv 1)) ev_int ?_
    change SV _ _ _ [.pen, .val a0, .val v4, .junk] _ _ _
    exact sv_ret (inj := id) (fun _ => rfl) (vv 2)
  · refine sv_pen (i := 0) rfl rfl (by first | exact Or.inl rfl | exact Or.inr (Or.inl rfl)) (ev_op od_add (pget 0 ev_int (fun _ _ => rfl)) ev_int) ev_int ?_
    change SV _ _ _ [.pen, .val a0, .junk, .junk] _ _ _
    refine sv_pen (i := 0) rfl rfl (by first | exact Or.inl rfl | exact Or.inr (Or.inl rfl)) (ev_op od_mod (ev_op od_add (ev_op od_add (ev_op od_mul (pget 0 ev_int (fun _ _ => rfl)) ev_int) (ev_op od_mul ev_int (pget 0 ev_int (fun _ _ => rfl)))) ev_int) ev_int) ev_int ?_
    change SV _ _ _ [.pen, .val a0, .junk, .junk] _ _ _
    refine sv_set 3 C.nd (ev_op od_mod (ev_op od_add (ev_op od_add (ev_op od_mul (pget 0 ev_int (fun _ _ => rfl)) (pget 0 ev_int (fun _ _ => rfl))) (ev_op od_mul ev_int (pget 0 ev_int (fun _ _ => rfl)))) ev_int) ev_int) (fun v28 => ?_)
    change SV _ _ _ [.pen, .val a0, .junk, .val v28] _ _ _
    refine sv_set 3 C.nd (ev_op od_mod (ev_op od_add (ev_op od_mul (vv 3) (vv 3)) (ev_op od_mul ev_int (vv 3))) ev_int) (fun v39 => ?_)
    change SV _ _ _ [.pen, .val a0, .junk, .val v39] _ _ _
    exact sv_ret (inj := id) (fun _ => rfl) (ev_op od_mod (ev_op od_fdiv (vv 3) ev_int) (vv 1))
theorem ok_law_net_of (B : Bn mg) (K_law_draw : Cal P w K mg base 1 "_law_draw" ["_law_supply", "_law_many"] (spF K mg true 1 (fn1 f_law_draw))) (FA : FunAt K mg "_law_net_of" s_law_net_of) : Cal P w K mg base 2 "_law_net_of" ["_law_supply", "_law_size"] (spF K mg true 1 (fn1 f_law_net_of)) := by
  refine mk_pen (N := ["_law_supply", "_law_size", "_law_way", "_law_found", "_law_component", "_law_needs", "_law_other"]) (k := 1) FA sc_law_net_of rfl (fun _ _ _ _ _ _ us hl => (by obtain ⟨_, _, rfl⟩ := EV.lv2 hl; rfl)) (fun f cdv A outer s H E C q ds hn => ?_)
  obtain ⟨a0, rfl⟩ := len1 hn
  refine ⟨D, Out.ret, f_law_net_of a0, ?_, out_ret _⟩
  unfold f_law_net_of
  change SV _ _ _ [.pen, .val a0, .junk, .junk, .junk, .junk, .junk] _ _ _
  refine sv_unpM 2 3 C (em_v (callP 0 C K_law_draw ar1 (el_cons ev_int el_nil)) (em_o (eo_lst el_nil) em_nil)) (h_vo fun v9 xs10 => ?_) (pg_tup rfl (pgs_cons (pgn 2 C.nd) (pgs_cons (pgn 3 C.nd) pgs_nil)))
  change SV _ _ _ [.pen, .val a0, .val v9, .own xs10, .junk, .junk, .junk] _ _ _
  refine sv_forS (dec := dec1) (g := gName 4) (vs := [4]) (mk := (fun (c13 : List D) => [.pen, .val a0, .val v9, .own c13, .junk, .junk, .junk])) (c0 := xs10) C (ei_range1 (by rfl) B.range (el_cons (vv 1) el_nil)) (pgn 4 C.nd) (fun _ => tg_name (by simp)) (wk (wk (wk (wk (wj (wj (wj wn))))))) (fun c13 z14 => ?_) (fun c13 => ?_)
  · change SV _ _ _ [.pen, .val a0, .val v9, .own c13, .val z14, .junk, .junk] _ _ _
    refine sv_setO 5 (ps_lcO (own := [(("_law_other" : Str), 6)]) (dec := dec1) (g := gName 6) (Γz := fun z19 => [.pen, .val a0, .val v9, .own c13, .val z14, .junk, .val z19]) C rfl rfl (sw_true rfl rfl rfl (by decide +kernel)) (ei_range1 (by rfl) B.range (el_cons (vv 1) el_nil)) (blkOk_by (by rfl)) (tg_name (by simp)) (fun _ _ _ _ _ => pgn 6 C.nd) (fun z19 _ _ _ _ _ => (ets_one (eb_cmp (od_eq C.blk.room) (callP 0 C.blk K_law_draw ar1 (el_cons (ev_ix (ev_lst (el_cons ev_int (el_cons ev_int (el_cons (ev_op od_mul ev_int (vv 1)) (el_cons ev_int el_nil))))) (vv 2) (fun _ _ => rfl)) el_nil)) ev_int (nomark _)))) (fun z19 _ _ _ _ _ => (vv 6))) (fun xs16 => ?_)
    change SV _ _ _ [.pen, .val a0, .val v9, .own c13, .val z14, .own xs16, .junk] _ _ _
    refine sv_ifJ (mk := (fun (j41 : List D) => [.pen, .val a0, .val v9, .own c13, .val z14, .own j41, .junk])) (eb_cmp (od_eq C.room) (vv 2) ev_int (nomark _)) ?_ ?_ (fun j41 => ?_)
    · refine sv_append 5 (xs := xs16) rfl (ev_op od_mod (ev_op od_add (vv 4) ev_int) (vv 1)) (fun d46 => ?_)
      change SV _ _ _ [.pen, .val a0, .val v9, .own c13, .val z14, .own (xs16 ++ [d46]), .junk] _ _ _
      exact sv_nil rfl (wk (wk (wk (wk (wk (wk (wj wn)))))))
    · exact sv_nil rfl (wk (wk (wk (wk (wk (wk (wj wn)))))))
    · change SV _ _ _ [.pen, .val a0, .val v9, .own c13, .val z14, .own j41, .junk] _ _ _
      refine sv_ifJ (mk := (fun (j54 : List D) => [.pen, .val a0, .val v9, .own c13, .val z14, .own j54, .junk])) (eb_bool (ew_and (eb_cmp (od_eq C.room) (vv 2) ev_int (nomark _)) (ew_and1 (eb_cmp od_gt (vv 4) ev_int (nomark _))))) ?_ ?_ (fun j54 => ?_)
      · refine sv_append 5 (xs := j41) rfl (callP 0 C K_law_draw ar1 (el_cons (vv 4) el_nil)) (fun d57 => ?_)
        change SV _ _ _ [.pen, .val a0, .val v9, .own c13, .val z14, .own (j41 ++ [d57]), .junk] _ _ _
        exact sv_nil rfl (wk (wk (wk (wk (wk (wk (wj wn)))))))
      · exact sv_nil rfl (wk (wk (wk (wk (wk (wk (wj wn)))))))
      · change SV _ _ _ [.pen, .val a0, .val v9, .own c13, .val z14, .own j54, .junk] _ _ _
        refine sv_pub 5 (xs := j54) rfl ?_
        change SV _ _ _ [.pen, .val a0, .val v9, .own c13, .val z14, .val (D.lst j54), .junk] _ _ _
        refine sv_append 3 (xs := c13) rfl (ev_callTy cd_tuple (by rfl) B.tuple (by decide +kernel) (el_cons (ev_setI C.calm (by rfl) B.sorted (by rfl) B.set (ev_lc (own := [(("_law_other" : Str), 6)]) (dec := dec1) (g := gName 6) (Γz := fun z58 => [.pen, .val a0, .val v9, .own c13, .val z14, .val (D.lst j54), .val z58]) C (ei_seq (vv 5)) (blkOk_by (by rfl)) (tg_name (by simp)) (fun _ _ _ _ _ => pgn 6 C.nd) (fun z58 _ _ _ _ _ => (ets_one (eb_cmp (od_ne C.blk.room) (vv 6) (vv 4) (nomark _)))) (fun z58 _ _ _ _ _ => (vv 6)))) el_nil)) (fun d65 => ?_)
        change SV _ _ _ [.pen, .val a0, .val v9, .own (c13 ++ [d65]), .val z14, .val (D.lst j54), .junk] _ _ _
        exact sv_nil rfl (wk (wk (wk (wk (wj (wj (wj wn)))))))
  · change SV _ _ _ [.pen, .val a0, .val v9, .own c13, .junk, .junk, .junk] _ _ _
    refine sv_pub 3 (xs := c13) rfl ?_
    change SV _ _ _ [.pen, .val a0, .val v9, .val (D.lst c13), .junk, .junk, .junk] _ _ _
    exact sv_ret (inj := id) (fun _ => rfl) (ev_callTy cd_tuple (by rfl) B.tuple (by decide +kernel) (el_cons (vv 3) el_nil))
theorem ok_law_choose (B : Bn mg) (K_law_draw : Cal P w K mg base 1 "_law_draw" ["_law_supply", "_law_many"] (spF K mg true 1 (fn1 f_law_draw))) (FA : FunAt K mg "_law_choose" s_law_choose) : Cal P w K mg base 2 "_law_choose" ["_law_supply", "_law_values"] (spF K mg true 1 (fn1 f_law_choose)) := by
  refine mk_pen (N := ["_law_supply", "_law_values"]) (k := 1) FA sc_law_choose rfl (fun _ _ _ _ _ _ us hl => (by obtain ⟨_, _, rfl⟩ := EV.lv2 hl; rfl)) (fun f cdv A outer s H E C q ds hn => ?_)
  obtain ⟨a0, rfl⟩ := len1 hn
  refine ⟨D, Out.ret, f_law_choose a0, ?_, out_ret _⟩
  unfold f_law_choose
  change SV _ _ _ [.pen, .val a0] _ _ _
  exact sv_ret (inj := id) (fun _ => rfl) (ev_ix (vv 1) (callP 0 C K_law_draw ar1 (el_cons (ev_callB cd_len (by rfl) B.len PySem.boot_len (el_cons (vv 1) el_nil)) el_nil)) (fun _ _ => rfl))
theorem ok_law_report (B : Bn mg) (K_law_choose : Cal P w K mg base 2 "_law_choose" ["_law_supply", "_law_values"] (spF K mg true 1 (fn1 f_law_choose))) (K_law_draw : Cal P w K mg base 1 "_law_draw" ["_law_supply", "_law_many"] (spF K mg true 1 (fn1 f_law_draw))) (FA : FunAt K mg "_law_report" s_law_report) : Cal P w K mg base 3 "_law_report" ["_law_supply", "_law_net", "_law_table_here"] (spF K mg true 2 (fn2 f_law_report)) := by
  refine mk_pen (N := ["_law_supply", "_law_net", "_law_table_here", "_law_way", "_law_told", "_law_found", "_law_component", "_law_word"]) (k := 2) FA sc_law_report rfl (fun _ _ _ _ _ _ us hl => (by obtain ⟨_, _, _, rfl⟩ := EV.lv3 hl; rfl)) (fun f cdv A outer s H E C q ds hn => ?_)
  (refine EV.el2_1 (len2 hn) fun a0 a1 q326_ => ?_; obtain rfl := q326_)
  refine ⟨D, Out.ret, f_law_report a0 a1, ?_, out_ret _⟩
  unfold f_law_report
  change SV _ _ _ [.pen, .val a0, .val a1, .junk, .junk, .junk, .junk, .junk] _ _ _
  refine sv_par 3 4 C.calm C.nd (el_cons (callP 0 C K_law_draw ar1 (el_cons ev_int el_nil)) (el_cons (ev_ix (callP 0 C K_law_choose ar1 (el_cons (vv 2) el_nil)) ev_int (fun _ _ => rfl)) el_nil)) (by decide) (fun v1 v2 => ?_)
  change SV _ _ _ [.pen, .val a0, .val a1, .val v1, .val v2, .junk, .junk, .junk] _ _ _
  refine sv_ifR (eb_cmp (od_eq C.room) (vv 3) ev_int (nomark _)) ?_ (by repeat first | exact nf_bad | exact nf_raise | exact nf_raiseF | exact nf_ret (fun _ => rfl) | refine nf_bind (fun _ => ?_) | refine nf_unp2 (fun _ _ => ?_) | refine nf_ite ?_ ?_) ?_
  · exact sv_ret (inj := id) (fun _ => rfl) (ev_callTy cd_tuple (by rfl) B.tuple (by decide +kernel) (el_cons (ev_lc (own := [(("_law_component" : Str), 6)]) (dec := dec1) (g := gName 6) (Γz := fun z16 => [.pen, .val a0, .val a1, .val v1, .val v2, .junk, .val z16, .junk]) C (ei_seq (vv 1)) (blkOk_by (by rfl)) (tg_name (by simp)) (fun _ _ _ _ _ => pgn 6 C.nd) (fun z16 _ _ _ _ _ => ets_nil) (fun z16 _ _ _ _ _ => (callP 0 C.blk K_law_choose ar1 (el_cons (ev_lst (el_cons ev_str (el_cons ev_str (el_cons ev_str el_nil)))) el_nil)))) el_nil))
  · refine sv_setO 5 (ps_o C.nd (eo_lst el_nil)) (fun xs30 => ?_)
    change SV _ _ _ [.pen, .val a0, .val a1, .val v1, .val v2, .own xs30, .junk, .junk] _ _ _
    refine sv_forS (dec := dec1) (g := gName 6) (vs := [6]) (mk := (fun (c35 : List D) => [.pen, .val a0, .val a1, .val v1, .val v2, .own c35, .junk, .junk])) (c0 := xs30) C (ei_range1 (by rfl) B.range (el_cons (ev_callB cd_len (by rfl) B.len PySem.boot_len (el_cons (vv 1) el_nil)) el_nil)) (pgn 6 C.nd) (fun _ => tg_name (by simp)) (wk (wk (wk (wk (wk (wk (wj (wj wn)))))))) (fun c35 z36 => ?_) (fun c35 => ?_)
    · change SV _ _ _ [.pen, .val a0, .val a1, .val v1, .val v2, .own c35, .val z36, .junk] _ _ _
      refine sv_set 7 C.nd (ev_ifExp (eb_cmp (od_in C.room) (vv 6) (vv 4) (by rfl)) ev_str ev_str) (fun v38 => ?_)
      change SV _ _ _ [.pen, .val a0, .val a1, .val v1, .val v2, .own c35, .val z36, .val v38] _ _ _
      refine sv_append 5 (xs := c35) rfl (ev_ifExp (eb_cmp od_lt (callP 0 C K_law_draw ar1 (el_cons ev_int el_nil)) (vv 3) (nomark _)) (vv 7) ev_str) (fun d47 => ?_)
      change SV _ _ _ [.pen, .val a0, .val a1, .val v1, .val v2, .own (c35 ++ [d47]), .val z36, .val v38] _ _ _
      exact sv_nil rfl (wk (wk (wk (wk (wk (wk (wj (wj wn))))))))
    · change SV _ _ _ [.pen, .val a0, .val a1, .val v1, .val v2, .own c35, .junk, .junk] _ _ _
      refine sv_pub 5 (xs := c35) rfl ?_
      change SV _ _ _ [.pen, .val a0, .val a1, .val v1, .val v2, .val (D.lst c35), .junk, .junk] _ _ _
      exact sv_ret (inj := id) (fun _ => rfl) (ev_callTy cd_tuple (by rfl) B.tuple (by decide +kernel) (el_cons (vv 5) el_nil))
theorem ok_law_meets (B : Bn mg) (FA : FunAt K mg "_law_meets" s_law_meets) : Cal P w K mg base 1 "_law_meets" ["_law_one", "_law_other"] (spF K mg false 2 (fn2 f_law_meets)) := by
  refine mk_pure (N := ["_law_one", "_law_other", "_law_thing"]) (k := 0) FA sc_law_meets rfl (fun _ _ _ _ _ _ us hl => (by obtain ⟨_, _, rfl⟩ := EV.lv2 hl; rfl)) (fun f cdv A outer s H E C ds hn => ?_)
  obtain ⟨a0, a1, rfl⟩ := len2 hn
  refine ⟨D, Out.ret, f_law_meets a0 a1, ?_, out_ret _⟩
  unfold f_law_meets
  change SV _ _ _ [.val a0, .val a1, .junk] _ _ _
  exact sv_ret (inj := id) (fun _ => rfl) (ev_cmp (od_ne C.room) (ev_lc (own := [(("_law_thing" : Str), 2)]) (dec := dec1) (g := gName 2) (Γz := fun z1 => [.val a0, .val a1, .val z1]) C (ei_seq (vv 0)) (blkOk_by (by rfl)) (tg_name (by simp)) (fun _ _ _ _ _ => pgn 2 C.nd) (fun z1 _ _ _ _ _ => (ets_one (eb_cmp (od_in C.blk.room) (vv 2) (vv 1) (by rfl)))) (fun z1 _ _ _ _ _ => ev_int)) (ev_lst el_nil) (nomark _))
theorem ok_law_reaches (B : Bn mg) (FA : FunAt K mg "_law_reaches" s_law_reaches) : Cal P w K mg base 1 "_law_reaches" ["_law_net"] (spF K mg false 1 (fn1 f_law_reaches)) := by
  refine mk_pure (N := ["_law_net", "_law_found", "_law_turn", "_law_wider", "_law_own", "_law_far", "_law_near", "_law_component", "_law_needs"]) (k := 0) FA sc_law_reaches rfl (fun _ _ _ _ _ _ us hl => (by obtain ⟨_, rfl⟩ := EV.lv1 hl; rfl)) (fun f cdv A outer s H E C ds hn => ?_)
  obtain ⟨a0, rfl⟩ := len1 hn
  refine ⟨D, Out.ret, f_law_reaches a0, ?_, out_ret _⟩
  unfold f_law_reaches
  change SV _ _ _ [.val a0, .junk, .junk, .junk, .junk, .junk, .junk, .junk, .junk] _ _ _
  refine sv_setV 1 (ps_lcV (own := [(("_law_component" : Str), 7), (("_law_needs" : Str), 8)]) (dec := dec2) (g := gTup _ 2 (gCons (gName 7) (gCons (gName 8) gNil))) (Γz := fun z4 => [.val a0, .junk, .junk, .junk, .junk, .junk, .junk, .val z4.1, .val z4.2]) C rfl rfl (sw_true rfl rfl rfl (by decide +kernel)) (ei_enum (by rfl) B.enumerate (el_cons (vv 0) el_nil)) (blkOk_by (by rfl)) (tg_pair (by simp) (by simp)) (fun _ _ _ _ _ => pg_tup rfl (pgs_cons (pgn 7 C.nd) (pgs_cons (pgn 8 C.nd) pgs_nil))) (fun z4 _ _ _ _ _ => ets_nil) (fun z4 _ _ _ _ _ => (ev_op od_add (ev_lst (el_cons (vv 7) el_nil)) (ev_callTy cd_list (by rfl) B.list (by decide +kernel) (el_cons (vv 8) el_nil))))) (fun v1 => ?_)
  change SV _ _ _ [.val a0, .val v1, .junk, .junk, .junk, .junk, .junk, .junk, .junk] _ _ _
  refine sv_forS (dec := dec1) (g := gName 2) (vs := [2]) (mk := (fun (c17 : D) => [.val a0, .val c17, .junk, .junk, .junk, .junk, .junk, .junk, .junk])) (c0 := v1) C (ei_range1 (by rfl) B.range (el_cons (ev_callB cd_len (by rfl) B.len PySem.boot_len (el_cons (vv 0) el_nil)) el_nil)) (pgn 2 C.nd) (fun _ => tg_name (by simp)) (wk (wk (wj (wj (wj (wj (wj (wj (wj wn))))))))) (fun c17 z18 => ?_) (fun c17 => ?_)
  · change SV _ _ _ [.val a0, .val c17, .val z18, .junk, .junk, .junk, .junk, .junk, .junk] _ _ _
    refine sv_setO 3 (ps_o C.nd (eo_lst el_nil)) (fun xs20 => ?_)
    change SV _ _ _ [.val a0, .val c17, .val z18, .own xs20, .junk, .junk, .junk, .junk, .junk] _ _ _
    refine sv_forS (dec := dec1) (g := gName 4) (vs := [4]) (mk := (fun (c21 : List D) => [.val a0, .val c17, .val z18, .own c21, .junk, .junk, .junk, .junk, .junk])) (c0 := xs20) C (ei_seq (vv 1)) (pgn 4 C.nd) (fun _ => tg_name (by simp)) (wk (wk (wk (wk (wj (wj (wj (wj (wj wn))))))))) (fun c21 z22 => ?_) (fun c21 => ?_)
    · change SV _ _ _ [.val a0, .val c17, .val z18, .own c21, .val z22, .junk, .junk, .junk, .junk] _ _ _
      refine sv_setO 5 (ps_o C.nd (eo_lst el_nil)) (fun xs24 => ?_)
      change SV _ _ _ [.val a0, .val c17, .val z18, .own c21, .val z22, .own xs24, .junk, .junk, .junk] _ _ _
      refine sv_forS (dec := dec1) (g := gName 6) (vs := [6]) (mk := (fun (c25 : List D) => [.val a0, .val c17, .val z18, .own c21, .val z22, .own c25, .junk, .junk, .junk])) (c0 := xs24) C (ei_seq (vv 4)) (pgn 6 C.nd) (fun _ => tg_name (by simp)) (wk (wk (wk (wk (wk (wk (wj (wj (wj wn))))))))) (fun c25 z26 => ?_) (fun c25 => ?_)
      · change SV _ _ _ [.val a0, .val c17, .val z18, .own c21, .val z22, .own c25, .val z26, .junk, .junk] _ _ _
        refine sv_extV 5 (xs := c25) rfl (ev_ix (vv 1) (vv 6) (fun _ _ => rfl)) (fun ys30 => ?_)
        change SV _ _ _ [.val a0, .val c17, .val z18, .own c21, .val z22, .own (c25 ++ ys30), .val z26, .junk, .junk] _ _ _
        exact sv_nil rfl (wk (wk (wk (wk (wk (wk (wj (wj (wj wn)))))))))
      · change SV _ _ _ [.val a0, .val c17, .val z18, .own c21, .val z22, .own c25, .junk, .junk, .junk] _ _ _
        refine sv_pub 5 (xs := c25) rfl ?_
        change SV _ _ _ [.val a0, .val c17, .val z18, .own c21, .val z22, .val (D.lst c25), .junk, .junk, .junk] _ _ _
        refine sv_append 3 (xs := c21) rfl (ev_setI C.calm (by rfl) B.sorted (by rfl) B.set (vv 5)) (fun d31 => ?_)
        change SV _ _ _ [.val a0, .val c17, .val z18, .own (c21 ++ [d31]), .val z22, .val (D.lst c25), .junk, .junk, .junk] _ _ _
        exact sv_nil rfl (wk (wk (wk (wk (wj (wj (wj (wj (wj wn)))))))))
    · change SV _ _ _ [.val a0, .val c17, .val z18, .own c21, .junk, .junk, .junk, .junk, .junk] _ _ _
      refine sv_pub 3 (xs := c21) rfl ?_
      change SV _ _ _ [.val a0, .val c17, .val z18, .val (D.lst c21), .junk, .junk, .junk, .junk, .junk] _ _ _
      refine sv_set 1 C.nd (vv 3) (fun v32 => ?_)
      change SV _ _ _ [.val a0, .val v32, .val z18, .val (D.lst c21), .junk, .junk, .junk, .junk, .junk] _ _ _
      exact sv_nil rfl (wk (wk (wj (wj (wj (wj (wj (wj (wj wn)))))))))
  · change SV _ _ _ [.val a0, .val c17, .junk, .junk, .junk, .junk, .junk, .junk, .junk] _ _ _
    exact sv_ret (inj := id) (fun _ => rfl) (vv 1)
theorem ok_law_sets (B : Bn mg) (FA : FunAt K mg "_law_sets" s_law_sets) : Cal P w K mg base 1 "_law_sets" ["_law_things"] (spF K mg false 1 (fn1 f_law_sets)) := by
  refine mk_pure (N := ["_law_things", "_law_found", "_law_thing", "_law_row"]) (k := 0) FA sc_law_sets rfl (fun _ _ _ _ _ _ us hl => (by obtain ⟨_, rfl⟩ := EV.lv1 hl; rfl)) (fun f cdv A outer s H E C ds hn => ?_)
  obtain ⟨a0, rfl⟩ := len1 hn
  refine ⟨D, Out.ret, f_law_sets a0, ?_, out_ret _⟩
  unfold f_law_sets
  change SV _ _ _ [.val a0, .junk, .junk, .junk] _ _ _
  refine sv_set 1 C.nd (ev_lst (el_cons (ev_tup el_nil) el_nil)) (fun v1 => ?_)
  change SV _ _ _ [.val a0, .val v1, .junk, .junk] _ _ _
  refine sv_forS (dec := dec1) (g := gName 2) (vs := [2]) (mk := (fun (c4 : D) => [.val a0, .val c4, .junk, .junk])) (c0 := v1) C (ei_seq (vv 0)) (pgn 2 C.nd) (fun _ => tg_name (by simp)) (wk (wk (wj (wj wn)))) (fun c4 z5 => ?_) (fun c4 => ?_)
  · change SV _ _ _ [.val a0, .val c4, .val z5, .junk] _ _ _
    refine sv_set 1 C.nd (ev_op od_add (vv 1) (ev_lc (own := [(("_law_row" : Str), 3)]) (dec := dec1) (g := gName 3) (Γz := fun z8 => [.val a0, .val c4, .val z5, .val z8]) C (ei_seq (vv 1)) (blkOk_by (by rfl)) (tg_name (by simp)) (fun _ _ _ _ _ => pgn 3 C.nd) (fun z8 _ _ _ _ _ => ets_nil) (fun z8 _ _ _ _ _ => (ev_op od_add (vv 3) (ev_tup (el_cons (vv 2) el_nil)))))) (fun v7 => ?_)
    change SV _ _ _ [.val a0, .val v7, .val z5, .junk] _ _ _
    exact sv_nil rfl (wk (wk (wj (wj wn))))
  · change SV _ _ _ [.val a0, .val c4, .junk, .junk] _ _ _
    exact sv_ret (inj := id) (fun _ => rfl) (ev_callB (cd_sortedG C.room) (by rfl) B.sorted (by decide +kernel) (el_cons (vv 1) el_nil))
theorem ok_law_table (B : Bn mg) (K_law_meets : Cal P w K mg base 1 "_law_meets" ["_law_one", "_law_other"] (spF K mg false 2 (fn2 f_law_meets))) (K_law_reaches : Cal P w K mg base 1 "_law_reaches" ["_law_net"] (spF K mg false 1 (fn1 f_law_reaches))) (K_law_sets : Cal P w K mg base 1 "_law_sets" ["_law_things"] (spF K mg false 1 (fn1 f_law_sets))) (FA : FunAt K mg "_law_table" s_law_table) : Cal P w K mg base 2 "_law_table" ["_law_net"] (spF K mg false 1 (fn1 f_law_table)) := by
  refine mk_pure (N := ["_law_net", "_law_reaches_here", "_law_found", "_law_broken", "_law_component", "_law_own"]) (k := 1) FA sc_law_table rfl (fun _ _ _ _ _ _ us hl => (by obtain ⟨_, rfl⟩ := EV.lv1 hl; rfl)) (fun f cdv A outer s H E C ds hn => ?_)
  obtain ⟨a0, rfl⟩ := len1 hn
  refine ⟨D, Out.ret, f_law_table a0, ?_, out_ret _⟩
  unfold f_law_table
  change SV _ _ _ [.val a0, .junk, .junk, .junk, .junk, .junk] _ _ _
  refine sv_parM 1 2 C.calm C.nd (em_v (call C K_law_reaches ar1 (el_cons (vv 0) el_nil)) (em_o (eo_lst el_nil) em_nil)) (by decide) (h_vo fun v10 xs11 => ?_)
  change SV _ _ _ [.val a0, .val v10, .own xs11, .junk, .junk, .junk] _ _ _
  refine sv_forS (dec := dec1) (g := gName 3) (vs := [3]) (mk := (fun (c18 : List D) => [.val a0, .val v10, .own c18, .junk, .junk, .junk])) (c0 := xs11) C (ei_seq (call C K_law_sets ar1 (el_cons (ev_lstRg1 C (by rfl) B.list (by rfl) B.range (ev_callB cd_len (by rfl) B.len PySem.boot_len (el_cons (vv 0) el_nil))) el_nil))) (pgn 3 C.nd) (fun _ => tg_name (by simp)) (wk (wk (wk (wj (wj (wj wn)))))) (fun c18 z19 => ?_) (fun c18 => ?_)
  · change SV _ _ _ [.val a0, .val v10, .own c18, .val z19, .junk, .junk] _ _ _
    refine sv_append 2 (xs := c18) rfl (ev_tup (el_cons (vv 3) (el_cons (ev_lc (own := [(("_law_component" : Str), 4), (("_law_own" : Str), 5)]) (dec := dec2) (g := gTup _ 2 (gCons (gName 4) (gCons (gName 5) gNil))) (Γz := fun z23 => [.val a0, .val v10, .own c18, .val z19, .val z23.1, .val z23.2]) C (ei_enum (by rfl) B.enumerate (el_cons (vv 1) el_nil)) (blkOk_by (by rfl)) (tg_pair (by simp) (by simp)) (fun _ _ _ _ _ => pg_tup rfl (pgs_cons (pgn 4 C.nd) (pgs_cons (pgn 5 C.nd) pgs_nil))) (fun z23 _ _ _ _ _ => (ets_one (eb_val (call C.blk K_law_meets ar2 (el_cons (vv 5) (el_cons (vv 3) el_nil)))))) (fun z23 _ _ _ _ _ => (vv 4))) el_nil))) (fun d35 => ?_)
    change SV _ _ _ [.val a0, .val v10, .own (c18 ++ [d35]), .val z19, .junk, .junk] _ _ _
    exact sv_nil rfl (wk (wk (wk (wj (wj (wj wn))))))
  · change SV _ _ _ [.val a0, .val v10, .own c18, .junk, .junk, .junk] _ _ _
    refine sv_pub 2 (xs := c18) rfl ?_
    change SV _ _ _ [.val a0, .val v10, .val (D.lst c18), .junk, .junk, .junk] _ _ _
    exact sv_ret (inj := id) (fun _ => rfl) (vv 2)
theorem ok_law_case (B : Bn mg) (K_law_net_of : Cal P w K mg base 2 "_law_net_of" ["_law_supply", "_law_size"] (spF K mg true 1 (fn1 f_law_net_of))) (K_law_report : Cal P w K mg base 3 "_law_report" ["_law_supply", "_law_net", "_law_table_here"] (spF K mg true 2 (fn2 f_law_report))) (K_law_table : Cal P w K mg base 2 "_law_table" ["_law_net"] (spF K mg false 1 (fn1 f_law_table))) (FA : FunAt K mg "_law_case" s_law_case) : Cal P w K mg base 4 "_law_case" ["_law_supply", "_law_size"] (spF K mg true 1 (fn1 f_law_case)) := by
  refine mk_pen (N := ["_law_supply", "_law_size", "_law_net", "_law_table_here"]) (k := 3) FA sc_law_case rfl (fun _ _ _ _ _ _ us hl => (by obtain ⟨_, _, rfl⟩ := EV.lv2 hl; rfl)) (fun f cdv A outer s H E C q ds hn => ?_)
  obtain ⟨a0, rfl⟩ := len1 hn
  refine ⟨D, Out.ret, f_law_case a0, ?_, out_ret _⟩
  unfold f_law_case
  change SV _ _ _ [.pen, .val a0, .junk, .junk] _ _ _
  refine sv_set 2 C.nd (callP 0 C K_law_net_of ar1 (el_cons (vv 1) el_nil)) (fun v1 => ?_)
  change SV _ _ _ [.pen, .val a0, .val v1, .junk] _ _ _
  refine sv_set 3 C.nd (call C K_law_table ar1 (el_cons (vv 2) el_nil)) (fun v4 => ?_)
  change SV _ _ _ [.pen, .val a0, .val v1, .val v4] _ _ _
  exact sv_ret (inj := id) (fun _ => rfl) (ev_tup (el_cons (vv 2) (el_cons (vv 3) (el_cons (callP 0 C K_law_report ar2 (el_cons (vv 2) (el_cons (vv 3) el_nil))) el_nil))))
theorem ok_law_cell (B : Bn mg) (FA : FunAt K mg "_law_cell" s_law_cell) : Cal P w K mg base 1 "_law_cell" ["_law_script", "_law_index"] (spS K mg 1 (fun ns => fn1 (f_law_cell ns))) := by
  refine mk_scr (N := ["_law_script", "_law_index"]) (k := 0) FA sc_law_cell rfl (fun _ _ _ _ _ _ us hl => (by (refine EV.el2_1 (EV.lv2 hl) fun _ _ q337_ => ?_; obtain rfl := q337_); rfl)) (fun f cdv A outer s H E C ns ds hn => ?_)
  (refine EV.el1_1 (len1 hn) fun a0 q338_ => ?_; obtain rfl := q338_)
  refine ⟨D, Out.ret, f_law_cell ns a0, ?_, out_ret _⟩
  unfold f_law_cell
  change SV _ _ _ [.scr ns, .val a0] _ _ _
  refine sv_ifR (eb_cmp od_lt (vv 1) (slen 0 B.len) (nomark _)) ?_ (by repeat first | exact nf_bad | exact nf_raise | exact nf_raiseF | exact nf_ret (fun _ => rfl) | refine nf_bind (fun _ => ?_) | refine nf_unp2 (fun _ _ => ?_) | refine nf_ite ?_ ?_) ?_
  · exact sv_ret (inj := id) (fun _ => rfl) (sget 0 (vv 1) (fun _ _ => rfl))
  · exact sv_ret (inj := id) (fun _ => rfl) ev_int
theorem ok_law_no_nets (B : Bn mg) (FA : FunAt K mg "_law_no_nets" s_law_no_nets) : Cal P w K mg base 1 "_law_no_nets" [] (spF K mg false 0 (fn0 f_law_no_nets)) := by
  refine mk_pure (N := ["_law_found"]) (k := 0) FA sc_law_no_nets rfl (fun _ _ _ _ _ _ us hl => (by obtain rfl := EV.lv0 hl; rfl)) (fun f cdv A outer s H E C ds hn => ?_)
  obtain rfl := len0 hn
  refine ⟨D, Out.ret, f_law_no_nets, ?_, out_ret _⟩
  unfold f_law_no_nets
  change SV _ _ _ [.junk] _ _ _
  refine sv_set 0 C.nd (ev_lst (el_cons ev_non (el_cons ev_bl (el_cons ev_int (el_cons ev_int (el_cons ev_str (el_cons (ev_tup el_nil) (el_cons (ev_lst el_nil) (el_cons ev_dict0 (el_cons (ev_lst (el_cons (ev_tup el_nil) el_nil)) (el_cons (ev_tup (el_cons ev_non el_nil)) (el_cons (ev_tup (el_cons ev_int el_nil)) (el_cons (ev_tup (el_cons (ev_lst el_nil) el_nil)) (el_cons (ev_tup (el_cons ev_str el_nil)) (el_cons (ev_tup (el_cons (ev_tup (el_cons ev_int el_nil)) el_nil)) (el_cons (ev_tup (el_cons (ev_tup (el_cons ev_int el_nil)) el_nil)) (el_cons (ev_tup (el_cons (ev_tup (el_cons (ev_neg ev_int) el_nil)) el_nil)) el_nil))))))))))))))))) (fun v1 => ?_)
  change SV _ _ _ [.val v1] _ _ _
  refine sv_set 0 C.nd (ev_op od_add (vv 0) (ev_lst (el_cons (ev_tup (el_cons (ev_tup el_nil) (el_cons (ev_tup (el_cons ev_int (el_cons ev_int el_nil))) el_nil))) (el_cons (ev_tup (el_cons (ev_tup el_nil) (el_cons (ev_tup (el_cons ev_bl el_nil)) el_nil))) (el_cons (ev_tup (el_cons (ev_tup el_nil) (el_cons (ev_tup (el_cons ev_bl el_nil)) el_nil))) (el_cons (ev_tup (el_cons (ev_tup el_nil) (el_cons (ev_tup (el_cons ev_non el_nil)) el_nil))) (el_cons (ev_tup (el_cons (ev_tup el_nil) (el_cons (ev_tup (el_cons ev_str el_nil)) el_nil))) (el_cons (ev_tup (el_cons (ev_tup el_nil) (el_cons (ev_tup (el_cons ev_int el_nil)) el_nil))) el_nil)))))))) (fun v56 => ?_)
  change SV _ _ _ [.val v56] _ _ _
  refine sv_set 0 C.nd (ev_op od_add (vv 0) (ev_lst (el_cons (ev_tup (el_cons (ev_tup (el_cons ev_int (el_cons ev_int el_nil))) (el_cons (ev_tup el_nil) (el_cons (ev_tup el_nil) el_nil)))) (el_cons (ev_tup (el_cons (ev_tup (el_cons ev_int (el_cons ev_int el_nil))) (el_cons (ev_tup el_nil) el_nil))) (el_cons (ev_op od_mulG (ev_tup (el_cons (ev_tup el_nil) el_nil)) ev_int) (el_cons (ev_tup (el_cons (ev_tup el_nil) (el_cons ev_dict0 el_nil))) (el_cons (ev_tup (el_cons (ev_tup el_nil) (el_cons ev_non el_nil))) (el_cons (ev_tup (el_cons (ev_tup (el_cons (ev_tup (el_cons ev_int el_nil)) el_nil)) (el_cons (ev_tup el_nil) el_nil))) (el_cons (ev_tup (el_cons (ev_tup (el_cons ev_int (el_cons ev_int el_nil))) (el_cons (ev_tup el_nil) el_nil))) el_nil))))))))) (fun v109 => ?_)
  change SV _ _ _ [.val v109] _ _ _
  exact sv_ret (inj := id) (fun _ => rfl) (ev_op od_add (vv 0) (ev_lst (el_cons (ev_tup (el_cons (ev_tup el_nil) (el_cons (ev_tup (el_cons ev_int (el_cons ev_int el_nil))) el_nil))) (el_cons (ev_dict1 (ev_tup el_nil)) (el_cons (ev_tup (el_cons (ev_tup (el_cons (ev_tup el_nil) el_nil)) el_nil)) (el_cons (ev_tup (el_cons (ev_tup el_nil) (el_cons (ev_lst (el_cons ev_int el_nil)) el_nil))) (el_cons (ev_tup (el_cons (ev_tup el_nil) (el_cons (ev_tup (el_cons ev_int el_nil)) el_nil))) el_nil)))))))
theorem ok_is_between (B : Bn mg) (FA : FunAt K mg "is_between" s_is_between) : Cal P w K mg base 1 "is_between" ["thing", "low", "high"] (spF K mg false 3 (fn3 f_is_between)) := by
  refine mk_pure (N := ["thing", "low", "high"]) (k := 0) FA sc_is_between rfl (fun _ _ _ _ _ _ us hl => (by (refine EV.el3_1 (EV.lv3 hl) fun _ _ _ q339_ => ?_; obtain rfl := q339_); rfl)) (fun f cdv A outer s H E C ds hn => ?_)
  (refine EV.el3_1 (len3 hn) fun a0 a1 a2 q340_ => ?_; obtain rfl := q340_)
  refine ⟨D, Out.ret, f_is_between a0 a1 a2, ?_, out_ret _⟩
  unfold f_is_between
  change SV _ _ _ [.val a0, .val a1, .val a2] _ _ _
  exact sv_ret (inj := id) (fun _ => rfl) (ev_and (ev_isi (T := "int") (by decide) (vv 0) (by rfl) B.isinstance (by rfl) B.int (by decide +kernel)) (ev_and (ev_not (ev_isi (T := "bool") (by decide) (vv 0) (by rfl) B.isinstance (by rfl) B.bool (by decide +kernel))) (ev_one (ev_chain od_le od_le (vv 1) (vv 0) (vv 2)))))
theorem ok_is_rising (B : Bn mg) (K_is_between : Cal P w K mg base 1 "is_between" ["thing", "low", "high"] (spF K mg false 3 (fn3 f_is_between))) (FA : FunAt K mg "is_rising" s_is_rising) : Cal P w K mg base 2 "is_rising" ["size", "thing"] (spF K mg false 2 (fn2 f_is_rising)) := by
  refine mk_pure (N := ["size", "thing", "one", "later"]) (k := 1) FA sc_is_rising rfl (fun _ _ _ _ _ _ us hl => (by (refine EV.el2_1 (EV.lv2 hl) fun _ _ q341_ => ?_; obtain rfl := q341_); rfl)) (fun f cdv A outer s H E C ds hn => ?_)
  (refine EV.el2_1 (len2 hn) fun a0 a1 q342_ => ?_; obtain rfl := q342_)
  refine ⟨D, Out.ret, f_is_rising a0 a1, ?_, out_ret _⟩
  unfold f_is_rising
  change SV _ _ _ [.val a0, .val a1, .junk, .junk] _ _ _
  refine sv_ifR (eb_bool (ew_or (eb_not (eb_val (ev_isi (T := "tuple") (by decide) (vv 1) (by rfl) B.isinstance (by rfl) B.tuple (by decide +kernel)))) (ew_or1 (eb_not (eb_val (ev_callB (cd_all C.calm) (by rfl) B.all (by decide +kernel) (el_cons (ev_lc (own := [(("one" : Str), 2)]) (dec := dec1) (g := gName 2) (Γz := fun z2 => [.val a0, .val a1, .val z2, .junk]) C (ei_seq (vv 1)) (blkOk_by (by rfl)) (tg_name (by simp)) (fun _ _ _ _ _ => pgn 2 C.nd) (fun z2 _ _ _ _ _ => ets_nil) (fun z2 _ _ _ _ _ => (call C.blk K_is_between ar3 (el_cons (vv 2) (el_cons ev_int (el_cons (ev_op od_sub (vv 0) ev_int) el_nil)))))) el_nil))))))) ?_ (by repeat first | exact nf_bad | exact nf_raise | exact nf_raiseF | exact nf_ret (fun _ => rfl) | refine nf_bind (fun _ => ?_) | refine nf_unp2 (fun _ _ => ?_) | refine nf_ite ?_ ?_) ?_
  · exact sv_ret (inj := id) (fun _ => rfl) ev_bl
  · exact sv_ret (inj := id) (fun _ => rfl) (ev_callB (cd_all C.calm) (by rfl) B.all (by decide +kernel) (el_cons (ev_lc (own := [(("one" : Str), 2), (("later" : Str), 3)]) (dec := dec2) (g := gTup _ 2 (gCons (gName 2) (gCons (gName 3) gNil))) (Γz := fun z27 => [.val a0, .val a1, .val z27.1, .val z27.2]) C (ei_zip (by rfl) B.zip (el_cons (vv 1) (el_cons (ev_slice (vv 1) (eo_some ev_int) eo_none) el_nil))) (blkOk_by (by rfl)) (tg_pair (by simp) (by simp)) (fun _ _ _ _ _ => pg_tup rfl (pgs_cons (pgn 2 C.nd) (pgs_cons (pgn 3 C.nd) pgs_nil))) (fun z27 _ _ _ _ _ => ets_nil) (fun z27 _ _ _ _ _ => (ev_cmp od_lt (vv 2) (vv 3) (nomark _)))) el_nil))
theorem ok_is_net (B : Bn mg) (c_MOST_COMPONENTS : ∃ t, mg "MOST_COMPONENTS" = some (.int 8 t)) (K_is_rising : Cal P w K mg base 2 "is_rising" ["size", "thing"] (spF K mg false 2 (fn2 f_is_rising))) (FA : FunAt K mg "is_net" s_is_net) : Cal P w K mg base 3 "is_net" ["thing"] (spF K mg false 1 (fn1 f_is_net)) := by
  (refine EV.el1_1 c_MOST_COMPONENTS ?_; try clear c_MOST_COMPONENTS; intro _ c_MOST_COMPONENTS)
  refine mk_pure (N := ["thing", "component", "needs"]) (k := 2) FA sc_is_net rfl (fun _ _ _ _ _ _ us hl => (by (refine EV.el1_1 (EV.lv1 hl) fun _ q343_ => ?_; obtain rfl := q343_); rfl)) (fun f cdv A outer s H E C ds hn => ?_)
  (refine EV.el1_1 (len1 hn) fun a0 q344_ => ?_; obtain rfl := q344_)
  refine ⟨D, Out.ret, f_is_net a0, ?_, out_ret _⟩
  unfold f_is_net
  change SV _ _ _ [.val a0, .junk, .junk] _ _ _
  refine sv_ifR (eb_bool (ew_or (eb_not (eb_val (ev_isi (T := "tuple") (by decide) (vv 0) (by rfl) B.isinstance (by rfl) B.tuple (by decide +kernel)))) (ew_or1 (eb_not (eb_chain od_le od_le ev_int (ev_callB cd_len (by rfl) B.len PySem.boot_len (el_cons (vv 0) el_nil)) (ev_glob (v := .int 8) (by rfl) c_MOST_COMPONENTS ⟨_, rfl⟩ fun _ => .int _)))))) ?_ (by repeat first | exact nf_bad | exact nf_raise | exact nf_raiseF | exact nf_ret (fun _ => rfl) | refine nf_bind (fun _ => ?_) | refine nf_unp2 (fun _ _ => ?_) | refine nf_ite ?_ ?_) ?_
  · exact sv_ret (inj := id) (fun _ => rfl) ev_bl
  · refine sv_forL (dec := dec2) (g := gTup _ 2 (gCons (gName 1) (gCons (gName 2) gNil))) (vs := [1, 2]) (mk := (fun (c15 : Unit) => [.val a0, .junk, .junk])) (c0 := ()) (inj := id) C (ei_enum (by rfl) B.enumerate (el_cons (vv 0) el_nil)) (pg_tup rfl (pgs_cons (pgn 1 C.nd) (pgs_cons (pgn 2 C.nd) pgs_nil))) (fun _ => tg_pair (by simp) (by simp)) (wk (wj (wj wn))) (fun _ => rfl) (fun c15 z16 => ?_) (fun c15 => ?_)
    · change SV _ _ _ [.val a0, .val z16.1, .val z16.2] _ _ _
      refine sv_ifR (eb_bool (ew_or (eb_not (eb_val (call C K_is_rising ar2 (el_cons (ev_callB cd_len (by rfl) B.len PySem.boot_len (el_cons (vv 0) el_nil)) (el_cons (vv 2) el_nil))))) (ew_or1 (eb_cmp (od_in C.room) (vv 1) (vv 2) (by rfl))))) ?_ (by repeat first | exact nf_bad | exact nf_raise | exact nf_raiseF | exact nf_ret (fun _ => rfl) | refine nf_bind (fun _ => ?_) | refine nf_unp2 (fun _ _ => ?_) | refine nf_ite ?_ ?_) ?_
      · exact sv_ret (inj := Lp.ret) (fun _ => rfl) ev_bl
      · exact sv_nil rfl (wk (wj (wj wn)))
    · change SV _ _ _ [.val a0, .junk, .junk] _ _ _
      exact sv_ret (inj := id) (fun _ => rfl) ev_bl
theorem ok_Net_init (B : Bn mg) (E_NetError : ErrC K mg "NetError") (NA_Net_own_needs : NoAttr K cNet "own_needs") (OC_Net : ObjC K cNet) (K_is_net : Cal P w K mg base 3 "is_net" ["thing"] (spF K mg false 1 (fn1 f_is_net))) (CA : ClsAt K mg "Net" cNet "Net.__init__" s_Net_init []) : MkC P w K mg base 4 "Net" cNet (spStar (spI K mg cNet ["own_needs"] 1 (fnL1 f_Net_init))) := by
  refine mkS (N := ["self", "needs"]) (k := 3) CA sc_Net_init (by decide) (fun kV doc pm an cdv ct => StX.bind_star1 (B := fun vs => bindArgs (PySem.W.fnOf "__init__" "Net.__init__" (defArgs s_Net_init) (defBody s_Net_init) (defScope s_Net_init) .none kV doc pm an cdv ct) ⟨vs, []⟩) (p1 := "self") (pv := "needs") (fun _ => rfl) (fun _ _ _ => rfl)) (fun f => ⟨fun cdv A outer s H E C x dx ds hn => ?_⟩)
  (refine EV.el1_1 (len1 hn) fun a0 q345_ => ?_; obtain rfl := q345_)
  refine EV.in1_2 (fun fs => [insS x cNet dx ["own_needs"] fs, .junk]) (fun _ => rfl) ?_
  change SV _ _ _ [insS x cNet dx ([] : List Str) ([] : List D), .val a0] _ _ (f_Net_init a0)
  unfold f_Net_init
  refine sv_ifR (eb_not (eb_val (call C K_is_net ar1 (el_cons (vv 1) el_nil)))) ?_ (by repeat first | exact nf_bad | exact nf_raise | exact nf_raiseF | exact nf_ret (fun _ => rfl) | refine nf_bind (fun _ => ?_) | refine nf_unp2 (fun _ _ => ?_) | refine nf_ite ?_ ?_) ?_
  · exact sv_raise C E_NetError
  · refine sv_fldNew 0 OC_Net.cl NA_Net_own_needs rfl (by decide) (by decide) (vv 1) (fun d6 => ?_)
    change SV _ _ _ [insS x cNet dx (([] : List Str) ++ [("own_needs" : Str)]) (([] : List D) ++ [d6]), .val a0] _ _ _
    exact sv_nil rfl (wk (wj wn))
theorem ok_is_word (B : Bn mg) (c_WORDS : CT K mg "WORDS" d_WORDS) (FA : FunAt K mg "is_word" s_is_word) : Cal P w K mg base 1 "is_word" ["thing"] (spF K mg false 1 (fn1 f_is_word)) := by
  refine EV.el1_2 (c_WORDS.ex) fun a_WORDS c_WORDS r_WORDS => ?_
  refine mk_pure (N := ["thing"]) (k := 0) FA sc_is_word rfl (fun _ _ _ _ _ _ us hl => (by (refine EV.el1_1 (EV.lv1 hl) fun _ q346_ => ?_; obtain rfl := q346_); rfl)) (fun f cdv A outer s H E C ds hn => ?_)
  (refine EV.el1_1 (len1 hn) fun a0 q347_ => ?_; obtain rfl := q347_)
  refine ⟨D, Out.ret, f_is_word a0, ?_, out_ret _⟩
  unfold f_is_word
  change SV _ _ _ [.val a0] _ _ _
  exact sv_ret (inj := id) (fun _ => rfl) (ev_and (ev_isi (T := "str") (by decide) (vv 0) (by rfl) B.isinstance (by rfl) B.str (by decide +kernel)) (ev_one (ev_cmp (od_in C.room) (vv 0) (ev_glob (v := .ref a_WORDS) (by rfl) c_WORDS rfl r_WORDS) (by rfl))))
theorem ok_is_report (B : Bn mg) (K_is_word : Cal P w K mg base 1 "is_word" ["thing"] (spF K mg false 1 (fn1 f_is_word))) (FA : FunAt K mg "is_report" s_is_report) : Cal P w K mg base 2 "is_report" ["net", "thing"] (spF K mg false 2 (fn2 f_is_report)) := by
  refine mk_pure (N := ["net", "thing", "word"]) (k := 1) FA sc_is_report rfl (fun _ _ _ _ _ _ us hl => (by (refine EV.el2_1 (EV.lv2 hl) fun _ _ q348_ => ?_; obtain rfl := q348_); rfl)) (fun f cdv A outer s H E C ds hn => ?_)
  (refine EV.el2_1 (len2 hn) fun a0 a1 q349_ => ?_; obtain rfl := q349_)
  refine ⟨D, Out.ret, f_is_report a0 a1, ?_, out_ret _⟩
  unfold f_is_report
  change SV _ _ _ [.val a0, .val a1, .junk] _ _ _
  exact sv_ret (inj := id) (fun _ => rfl) (ev_and (ev_isi (T := "tuple") (by decide) (vv 1) (by rfl) B.isinstance (by rfl) B.tuple (by decide +kernel)) (ev_and (ev_cmp (od_eq C.room) (ev_callB cd_len (by rfl) B.len PySem.boot_len (el_cons (vv 1) el_nil)) (ev_callB cd_len (by rfl) B.len PySem.boot_len (el_cons (vv 0) el_nil)) (nomark _)) (ev_one (ev_callB (cd_all C.calm) (by rfl) B.all (by decide +kernel) (el_cons (ev_lc (own := [(("word" : Str), 2)]) (dec := dec1) (g := gName 2) (Γz := fun z7 => [.val a0, .val a1, .val z7]) C (ei_seq (vv 1)) (blkOk_by (by rfl)) (tg_name (by simp)) (fun _ _ _ _ _ => pgn 2 C.nd) (fun z7 _ _ _ _ _ => ets_nil) (fun z7 _ _ _ _ _ => (call C.blk K_is_word ar1 (el_cons (vv 2) el_nil)))) el_nil)))))
theorem ok_need_start (B : Bn mg) (E_NetError : ErrC K mg "NetError") (E_ReportError : ErrC K mg "ReportError") (NA_Net_own_needs : NoAttr K cNet "own_needs") (I_Net : IsCl K mg "Net" tab_Net) (K_is_report : Cal P w K mg base 2 "is_report" ["net", "thing"] (spF K mg false 2 (fn2 f_is_report))) (FA : FunAt K mg "need_start" s_need_start) : Cal P w K mg base 3 "need_start" ["net", "report"] (spF K mg false 2 (fn2 f_need_start)) := by
  refine mk_pure (N := ["net", "report"]) (k := 2) FA sc_need_start rfl (fun _ _ _ _ _ _ us hl => (by (refine EV.el2_1 (EV.lv2 hl) fun _ _ q350_ => ?_; obtain rfl := q350_); rfl)) (fun f cdv A outer s H E C ds hn => ?_)
  (refine EV.el2_1 (len2 hn) fun a0 a1 q351_ => ?_; obtain rfl := q351_)
  refine ⟨Unit, fun _ => Out.fall [.junk, .junk], g_need_start a0 a1, ?_, rfl⟩
  unfold g_need_start
  change SV _ _ _ [.val a0, .val a1] _ _ _
  refine sv_ifR (eb_not (eb_val (ev_isC (vv 0) I_Net (by rfl) B.isinstance (by rfl)))) ?_ (by repeat first | exact nf_bad | exact nf_raise | exact nf_raiseF | exact nf_ret (fun _ => rfl) | refine nf_bind (fun _ => ?_) | refine nf_unp2 (fun _ _ => ?_) | refine nf_ite ?_ ?_) ?_
  · exact sv_raise C E_NetError
  · refine sv_ifR (eb_bool (ew_and (eb_cmp od_notN (vv 1) ev_non (nomark _)) (ew_and1 (eb_not (eb_val (call C K_is_report ar2 (el_cons (ev_fldO NA_Net_own_needs (vv 0)) (el_cons (vv 1) el_nil)))))))) ?_ (by repeat first | exact nf_bad | exact nf_raise | exact nf_raiseF | exact nf_ret (fun _ => rfl) | refine nf_bind (fun _ => ?_) | refine nf_unp2 (fun _ _ => ?_) | refine nf_ite ?_ ?_) ?_
    · exact sv_raise C E_ReportError
    · exact sv_nil rfl (wj (wj wn))
theorem ok_Watch_init (B : Bn mg) (c_UNSEEN : ∃ t, mg "UNSEEN" = some (.str "unseen" t)) (NA_Net_own_needs : NoAttr K cNet "own_needs") (NA_Watch_kept : NoAttr K cWatch "kept") (NA_Watch_own_net : NoAttr K cWatch "own_net") (NA_Watch_past : NoAttr K cWatch "past") (OC_Watch : ObjC K cWatch) (FIT : FitC P w K mg base 1 cWatch "need_fit") (K_need_start : Cal P w K mg base 3 "need_start" ["net", "report"] (spF K mg false 2 (fn2 f_need_start))) (CA : ClsAt K mg "Watch" cWatch "Watch.__init__" s_Watch_init [.non]) : MkD2 P w K mg base 4 "Watch" cWatch ["own_net", "kept", "past"] (fnL2 f_Watch_init) "report" := by
  (refine EV.el1_1 c_UNSEEN ?_; try clear c_UNSEEN; intro _ c_UNSEEN)
  refine mkD2 (N := ["self", "net", "report"]) (k := 3) CA sc_Watch_init (by decide) (fun _ _ _ _ _ _ _ us its hu hi => (by (refine EV.el2_1 (EV.lv2 hu) fun _ _ q352_ => ?_; obtain rfl := q352_); (refine EV.el1_1 (EV.lv1 hi) fun _ q353_ => ?_; obtain rfl := q353_); exact EV.in1_2 _ rfl rfl)) (fun _ _ _ _ _ _ _ us its hu hi => (by (refine EV.el3_1 (EV.lv3 hu) fun _ _ _ q354_ => ?_; obtain rfl := q354_); (refine EV.el1_1 (EV.lv1 hi) fun _ q355_ => ?_; obtain rfl := q355_); exact EV.in1_2 _ rfl rfl)) (fun _ _ _ _ _ _ _ us its ws hu hi hw => (by (refine EV.el2_1 (EV.lv2 hu) fun _ _ q356_ => ?_; obtain rfl := q356_); (refine EV.el1_1 (EV.lv1 hi) fun _ q357_ => ?_; obtain rfl := q357_); (refine EV.el1_1 (EV.lv1 hw) fun _ q358_ => ?_; obtain rfl := q358_); exact EV.in1_2 _ rfl rfl)) (fun f => ⟨fun cdv A outer s H E C x dx ds hn => ?_⟩)
  (refine EV.el2_1 (len2 hn) fun a0 a1 q359_ => ?_; obtain rfl := q359_)
  refine EV.in1_2 (fun fs => [insS x cWatch dx ["own_net", "kept", "past"] fs, .junk, .junk]) (fun _ => rfl) ?_
  change SV _ _ _ [insS x cWatch dx ([] : List Str) ([] : List D), .val a0, .val a1] _ _ (f_Watch_init a0 a1)
  unfold f_Watch_init
  refine sv_expr (call C K_need_start ar2 (el_cons (vv 1) (el_cons (vv 2) el_nil))) ?_
  change SV _ _ _ [insS x cWatch dx ([] : List Str) ([] : List D), .val a0, .val a1] _ _ _
  refine sv_fldNew 0 OC_Watch.cl NA_Watch_own_net rfl (by decide) (by decide) (vv 1) (fun d6 => ?_)
  change SV _ _ _ [insS x cWatch dx (([] : List Str) ++ [("own_net" : Str)]) (([] : List D) ++ [d6]), .val a0, .val a1] _ _ _
  refine sv_fldNew 0 OC_Watch.cl NA_Watch_kept rfl (by decide) (by decide) (ev_ifExp (eb_cmp od_isN (vv 2) ev_non (nomark _)) (ev_op od_mulG (ev_tup (el_cons (ev_glob (v := .str "unseen") (by rfl) c_UNSEEN ⟨_, rfl⟩ fun _ => .str _) el_nil)) (ev_callB cd_len (by rfl) B.len PySem.boot_len (el_cons (ev_fldO NA_Net_own_needs (vv 1)) el_nil))) (vv 2)) (fun d16 => ?_)
  change SV _ _ _ [insS x cWatch dx ((([] : List Str) ++ [("own_net" : Str)]) ++ [("kept" : Str)]) ((([] : List D) ++ [d6]) ++ [d16]), .val a0, .val a1] _ _ _
  refine sv_fldNew 0 OC_Watch.cl NA_Watch_past rfl (by decide) (by decide) (ev_tup el_nil) (fun d17 => ?_)
  change SV _ _ _ [insS x cWatch dx (((([] : List Str) ++ [("own_net" : Str)]) ++ [("kept" : Str)]) ++ [("past" : Str)]) (((([] : List D) ++ [d6]) ++ [d16]) ++ [d17]), .val a0, .val a1] _ _ _
  refine sv_fit 0 C OC_Watch.cl FIT rfl (by decide) (ev_fldOwn 0 1 OC_Watch.cl NA_Watch_kept rfl rfl (by decide) rfl) ?_
  change SV _ _ _ [insS x cWatch dx (((([] : List Str) ++ [("own_net" : Str)]) ++ [("kept" : Str)]) ++ [("past" : Str)]) (((([] : List D) ++ [d6]) ++ [d16]) ++ [d17]), .val a0, .val a1] _ _ _
  exact sv_nil rfl (wk (wj (wj wn)))
theorem ok_law_objects (B : Bn mg) (K_Net_init : MkC P w K mg base 4 "Net" cNet (spStar (spI K mg cNet ["own_needs"] 1 (fnL1 f_Net_init)))) (K_Watch_init : MkD2 P w K mg base 4 "Watch" cWatch ["own_net", "kept", "past"] (fnL2 f_Watch_init) "report") (FA : FunAt K mg "_law_objects" s_law_objects) : Cal P w K mg base 6 "_law_objects" [] (spF K mg false 0 (fn0 f_law_objects)) := by
  refine mk_pure (N := ["_law_net", "_law_watch"]) (k := 5) FA sc_law_objects rfl (fun _ _ _ _ _ _ us hl => (by obtain rfl := EV.lv0 hl; rfl)) (fun f cdv A outer s H E C ds hn => ?_)
  obtain rfl := len0 hn
  refine ⟨D, Out.ret, f_law_objects, ?_, out_ret _⟩
  unfold f_law_objects
  change SV _ _ _ [.junk, .junk] _ _ _
  refine sv_set 0 C.nd (newS C K_Net_init (el_cons (ev_tup (el_cons ev_int el_nil)) (el_cons (ev_tup el_nil) el_nil))) (fun v1 => ?_)
  change SV _ _ _ [.val v1, .junk] _ _ _
  refine sv_set 1 C.nd (newD1 C (MkD2.one K_Watch_init) arL2 (el_cons (vv 0) el_nil)) (fun v10 => ?_)
  change SV _ _ _ [.val v1, .val v10] _ _ _
  exact sv_ret (inj := id) (fun _ => rfl) (ev_lst (el_cons (vv 0) (el_cons (vv 1) (el_cons (ev_tup (el_cons (vv 0) el_nil)) (el_cons (ev_tup (el_cons (vv 1) (el_cons (vv 1) el_nil))) (el_cons (ev_lst (el_cons (vv 1) el_nil)) (el_cons (ev_tup (el_cons ev_str (el_cons (vv 0) el_nil))) (el_cons (ev_tup (el_cons ev_str (el_cons (vv 1) (el_cons (vv 0) el_nil)))) (el_cons (ev_tup (el_cons (vv 0) (el_cons ev_str el_nil))) el_nil)))))))))
theorem ok_law_no_reports (B : Bn mg) (FA : FunAt K mg "_law_no_reports" s_law_no_reports) : Cal P w K mg base 1 "_law_no_reports" ["_law_size"] (spF K mg false 1 (fn1 f_law_no_reports)) := by
  refine mk_pure (N := ["_law_size", "_law_good", "_law_found"]) (k := 0) FA sc_law_no_reports rfl (fun _ _ _ _ _ _ us hl => (by (refine EV.el1_1 (EV.lv1 hl) fun _ q360_ => ?_; obtain rfl := q360_); rfl)) (fun f cdv A outer s H E C ds hn => ?_)
  (refine EV.el1_1 (len1 hn) fun a0 q361_ => ?_; obtain rfl := q361_)
  refine ⟨D, Out.ret, f_law_no_reports a0, ?_, out_ret _⟩
  unfold f_law_no_reports
  change SV _ _ _ [.val a0, .junk, .junk] _ _ _
  refine sv_set 1 C.nd (ev_op od_mulG (ev_tup (el_cons ev_str el_nil)) (vv 0)) (fun v1 => ?_)
  change SV _ _ _ [.val a0, .val v1, .junk] _ _ _
  refine sv_set 2 C.nd (ev_lst (el_cons ev_non (el_cons ev_bl (el_cons ev_int (el_cons ev_str (el_cons ev_str (el_cons (ev_lst el_nil) (el_cons ev_dict0 (el_cons (ev_callTy cd_list (by rfl) B.list (by decide +kernel) (el_cons (vv 1) el_nil)) (el_cons (ev_op od_add (vv 1) (ev_tup (el_cons ev_str el_nil))) (el_cons (ev_slice (vv 1) (eo_some ev_int) eo_none) (el_cons (ev_tup (el_cons (vv 1) el_nil)) el_nil)))))))))))) (fun v6 => ?_)
  change SV _ _ _ [.val a0, .val v1, .val v6] _ _ _
  refine sv_set 2 C.nd (ev_op od_add (vv 2) (ev_lst (el_cons (ev_op od_add (ev_slice (vv 1) (eo_some ev_int) eo_none) (ev_tup (el_cons ev_str el_nil))) (el_cons (ev_op od_add (ev_slice (vv 1) (eo_some ev_int) eo_none) (ev_tup (el_cons ev_non el_nil))) (el_cons (ev_op od_add (ev_slice (vv 1) (eo_some ev_int) eo_none) (ev_tup (el_cons ev_bl el_nil))) (el_cons (ev_op od_add (ev_slice (vv 1) (eo_some ev_int) eo_none) (ev_tup (el_cons ev_int el_nil))) el_nil)))))) (fun v40 => ?_)
  change SV _ _ _ [.val a0, .val v1, .val v40] _ _ _
  refine sv_set 2 C.nd (ev_op od_add (vv 2) (ev_lst (el_cons (ev_op od_add (ev_slice (vv 1) (eo_some ev_int) eo_none) (ev_tup (el_cons ev_str el_nil))) (el_cons (ev_op od_add (ev_slice (vv 1) (eo_some ev_int) eo_none) (ev_tup (el_cons (ev_tup (el_cons ev_str el_nil)) el_nil))) (el_cons (ev_op od_add (ev_slice (vv 1) (eo_some ev_int) eo_none) (ev_tup (el_cons (ev_lst (el_cons ev_str el_nil)) el_nil))) el_nil))))) (fun v79 => ?_)
  change SV _ _ _ [.val a0, .val v1, .val v79] _ _ _
  exact sv_ret (inj := id) (fun _ => rfl) (ev_op od_add (vv 2) (ev_lst (el_cons (ev_op od_add (ev_slice (vv 1) (eo_some ev_int) eo_none) (ev_tup (el_cons ev_str el_nil))) (el_cons (ev_op od_add (ev_slice (vv 1) (eo_some ev_int) eo_none) (ev_tup (el_cons ev_str el_nil))) (el_cons (ev_op od_mulS1 ev_str (vv 0)) el_nil)))))
theorem ok_needed_of (B : Bn mg) (c_ALARM : ∃ t, mg "ALARM" = some (.str "alarm" t)) (K_candidates_of : Cal P w K mg base 3 "candidates_of" ["net", "report"] (spF K mg false 2 (fn2 f_candidates_of))) (K_reach_of : Cal P w K mg base 1 "reach_of" ["net", "component"] (spF K mg false 2 (fn2 f_reach_of))) (K_with_word : Cal P w K mg base 1 "with_word" ["report", "word"] (spF K mg false 2 (fn2 f_with_word))) (FA : FunAt K mg "needed_of" s_needed_of) : Cal P w K mg base 4 "needed_of" ["net", "report"] (spF K mg false 2 (fn2 f_needed_of)) := by
  (refine EV.el1_1 c_ALARM ?_; try clear c_ALARM; intro _ c_ALARM)
  refine mk_pure (N := ["net", "report", "some", "found", "component", "one"]) (k := 3) FA sc_needed_of rfl (fun _ _ _ _ _ _ us hl => (by (refine EV.el2_1 (EV.lv2 hl) fun _ _ q362_ => ?_; obtain rfl := q362_); rfl)) (fun f cdv A outer s H E C ds hn => ?_)
  (refine EV.el2_1 (len2 hn) fun a0 a1 q363_ => ?_; obtain rfl := q363_)
  refine ⟨D, Out.ret, f_needed_of a0 a1, ?_, out_ret _⟩
  unfold f_needed_of
  change SV _ _ _ [.val a0, .val a1, .junk, .junk, .junk, .junk] _ _ _
  refine sv_set 2 C.nd (call C K_candidates_of ar2 (el_cons (vv 0) (el_cons (vv 1) el_nil))) (fun v1 => ?_)
  change SV _ _ _ [.val a0, .val a1, .val v1, .junk, .junk, .junk] _ _ _
  refine sv_setO 3 (ps_o C.nd (eo_lst el_nil)) (fun xs7 => ?_)
  change SV _ _ _ [.val a0, .val a1, .val v1, .own xs7, .junk, .junk] _ _ _
  refine sv_forS (dec := dec1) (g := gName 4) (vs := [4]) (mk := (fun (c13 : List D) => [.val a0, .val a1, .val v1, .own c13, .junk, .junk])) (c0 := xs7) C (ei_seq (call C K_with_word ar2 (el_cons (vv 1) (el_cons (ev_glob (v := .str "alarm") (by rfl) c_ALARM ⟨_, rfl⟩ fun _ => .str _) el_nil)))) (pgn 4 C.nd) (fun _ => tg_name (by simp)) (wk (wk (wk (wk (wj (wj wn)))))) (fun c13 z14 => ?_) (fun c13 => ?_)
  · change SV _ _ _ [.val a0, .val a1, .val v1, .own c13, .val z14, .junk] _ _ _
    refine sv_append 3 (xs := c13) rfl (ev_callTy cd_tuple (by rfl) B.tuple (by decide +kernel) (el_cons (ev_lc (own := [(("one" : Str), 5)]) (dec := dec1) (g := gName 5) (Γz := fun z21 => [.val a0, .val a1, .val v1, .own c13, .val z14, .val z21]) C (ei_seq (call C K_reach_of ar2 (el_cons (vv 0) (el_cons (vv 4) el_nil)))) (blkOk_by (by rfl)) (tg_name (by simp)) (fun _ _ _ _ _ => pgn 5 C.nd) (fun z21 _ _ _ _ _ => (ets_one (eb_cmp (od_in C.blk.room) (vv 5) (vv 2) (by rfl)))) (fun z21 _ _ _ _ _ => (vv 5))) el_nil)) (fun d28 => ?_)
    change SV _ _ _ [.val a0, .val a1, .val v1, .own (c13 ++ [d28]), .val z14, .junk] _ _ _
    exact sv_nil rfl (wk (wk (wk (wk (wj (wj wn))))))
  · change SV _ _ _ [.val a0, .val a1, .val v1, .own c13, .junk, .junk] _ _ _
    refine sv_pub 3 (xs := c13) rfl ?_
    change SV _ _ _ [.val a0, .val a1, .val v1, .val (D.lst c13), .junk, .junk] _ _ _
    exact sv_ret (inj := id) (fun _ => rfl) (vv 3)
theorem ok_is_explained (B : Bn mg) (K_needed_of : Cal P w K mg base 4 "needed_of" ["net", "report"] (spF K mg false 2 (fn2 f_needed_of))) (FA : FunAt K mg "is_explained" s_is_explained) : Cal P w K mg base 5 "is_explained" ["net", "report"] (spF K mg false 2 (fn2 f_is_explained)) := by
  refine mk_pure (N := ["net", "report"]) (k := 4) FA sc_is_explained rfl (fun _ _ _ _ _ _ us hl => (by (refine EV.el2_1 (EV.lv2 hl) fun _ _ q364_ => ?_; obtain rfl := q364_); rfl)) (fun f cdv A outer s H E C ds hn => ?_)
  (refine EV.el2_1 (len2 hn) fun a0 a1 q365_ => ?_; obtain rfl := q365_)
  refine ⟨D, Out.ret, f_is_explained a0 a1, ?_, out_ret _⟩
  unfold f_is_explained
  change SV _ _ _ [.val a0, .val a1] _ _ _
  exact sv_ret (inj := id) (fun _ => rfl) (ev_cmp (od_notIn C.room) (ev_tup el_nil) (call C K_needed_of ar2 (el_cons (vv 0) (el_cons (vv 1) el_nil))) (by rfl))
theorem ok_need_net (B : Bn mg) (E_NetError : ErrC K mg "NetError") (K_is_net : Cal P w K mg base 3 "is_net" ["thing"] (spF K mg false 1 (fn1 f_is_net))) (FA : FunAt K mg "need_net" s_need_net) : Cal P w K mg base 4 "need_net" ["thing"] (spF K mg false 1 (fn1 f_need_net)) := by
  refine mk_pure (N := ["thing"]) (k := 3) FA sc_need_net rfl (fun _ _ _ _ _ _ us hl => (by obtain ⟨_, rfl⟩ := EV.lv1 hl; rfl)) (fun f cdv A outer s H E C ds hn => ?_)
  obtain ⟨a0, rfl⟩ := len1 hn
  refine ⟨Unit, fun _ => Out.fall [.junk], g_need_net a0, ?_, rfl⟩
  unfold g_need_net
  change SV _ _ _ [.val a0] _ _ _
  refine sv_ifR (eb_not (eb_val (call C K_is_net ar1 (el_cons (vv 0) el_nil)))) ?_ (by repeat first | exact nf_bad | exact nf_raise | exact nf_raiseF | exact nf_ret (fun _ => rfl) | refine nf_bind (fun _ => ?_) | refine nf_unp2 (fun _ _ => ?_) | refine nf_ite ?_ ?_) ?_
  · exact sv_raise C E_NetError
  · exact sv_nil rfl (wj wn)
theorem ok_need_report (B : Bn mg) (E_ReportError : ErrC K mg "ReportError") (K_is_report : Cal P w K mg base 2 "is_report" ["net", "thing"] (spF K mg false 2 (fn2 f_is_report))) (K_need_net : Cal P w K mg base 4 "need_net" ["thing"] (spF K mg false 1 (fn1 f_need_net))) (FA : FunAt K mg "need_report" s_need_report) : Cal P w K mg base 5 "need_report" ["net", "thing"] (spF K mg false 2 (fn2 f_need_report)) := by
  refine mk_pure (N := ["net", "thing"]) (k := 4) FA sc_need_report rfl (fun _ _ _ _ _ _ us hl => (by obtain ⟨_, _, rfl⟩ := EV.lv2 hl; rfl)) (fun f cdv A outer s H E C ds hn => ?_)
  obtain ⟨a0, a1, rfl⟩ := len2 hn
  refine ⟨Unit, fun _ => Out.fall [.junk, .junk], g_need_report a0 a1, ?_, rfl⟩
  unfold g_need_report
  change SV _ _ _ [.val a0, .val a1] _ _ _
  refine sv_expr (call C K_need_net ar1 (el_cons (vv 0) el_nil)) ?_
  change SV _ _ _ [.val a0, .val a1] _ _ _
  refine sv_ifR (eb_not (eb_val (call C K_is_report ar2 (el_cons (vv 0) (el_cons (vv 1) el_nil))))) ?_ (by repeat first | exact nf_bad | exact nf_raise | exact nf_raiseF | exact nf_ret (fun _ => rfl) | refine nf_bind (fun _ => ?_) | refine nf_unp2 (fun _ _ => ?_) | refine nf_ite ?_ ?_) ?_
  · exact sv_raise C E_ReportError
  · exact sv_nil rfl (wj (wj wn))
theorem ok_word_of (B : Bn mg) (c_BROKEN : ∃ t, mg "BROKEN" = some (.str "broken" t)) (c_WHOLE : ∃ t, mg "WHOLE" = some (.str "whole" t)) (c_OPEN : ∃ t, mg "OPEN" = some (.str "open" t)) (K_candidates_of : Cal P w K mg base 3 "candidates_of" ["net", "report"] (spF K mg false 2 (fn2 f_candidates_of))) (K_needed_of : Cal P w K mg base 4 "needed_of" ["net", "report"] (spF K mg false 2 (fn2 f_needed_of))) (FA : FunAt K mg "word_of" s_word_of) : Cal P w K mg base 5 "word_of" ["net", "report", "component"] (spF K mg false 3 (fn3 f_word_of)) := by
  obtain ⟨_, c_BROKEN⟩ := c_BROKEN
  obtain ⟨_, c_WHOLE⟩ := c_WHOLE
  obtain ⟨_, c_OPEN⟩ := c_OPEN
  refine mk_pure (N := ["net", "report", "component"]) (k := 4) FA sc_word_of rfl (fun _ _ _ _ _ _ us hl => (by obtain ⟨_, _, _, rfl⟩ := EV.lv3 hl; rfl)) (fun f cdv A outer s H E C ds hn => ?_)
  obtain ⟨a0, a1, a2, rfl⟩ := len3 hn
  refine ⟨D, Out.ret, f_word_of a0 a1 a2, ?_, out_ret _⟩
  unfold f_word_of
  change SV _ _ _ [.val a0, .val a1, .val a2] _ _ _
  refine sv_ifR (eb_cmp (od_notIn C.room) (vv 2) (call C K_candidates_of ar2 (el_cons (vv 0) (el_cons (vv 1) el_nil))) (by rfl)) ?_ (by repeat first | exact nf_bad | exact nf_raise | exact nf_raiseF | exact nf_ret (fun _ => rfl) | refine nf_bind (fun _ => ?_) | refine nf_unp2 (fun _ _ => ?_) | refine nf_ite ?_ ?_) ?_
  · exact sv_ret (inj := id) (fun _ => rfl) (ev_glob (v := .str "whole") (by rfl) c_WHOLE ⟨_, rfl⟩ fun _ => .str _)
  · exact sv_ret (inj := id) (fun _ => rfl) (ev_ifExp (eb_cmp (od_in C.room) (ev_tup (el_cons (vv 2) el_nil)) (call C K_needed_of ar2 (el_cons (vv 0) (el_cons (vv 1) el_nil))) (by rfl)) (ev_glob (v := .str "broken") (by rfl) c_BROKEN ⟨_, rfl⟩ fun _ => .str _) (ev_glob (v := .str "open") (by rfl) c_OPEN ⟨_, rfl⟩ fun _ => .str _))
theorem ok_certain (B : Bn mg) (K_is_explained : Cal P w K mg base 5 "is_explained" ["net", "report"] (spF K mg false 2 (fn2 f_is_explained))) (K_need_report : Cal P w K mg base 5 "need_report" ["net", "thing"] (spF K mg false 2 (fn2 f_need_report))) (K_word_of : Cal P w K mg base 5 "word_of" ["net", "report", "component"] (spF K mg false 3 (fn3 f_word_of))) (FA : FunAt K mg "certain" s_certain) : Cal P w K mg base 6 "certain" ["net", "report"] (spF K mg false 2 (fn2 f_certain)) := by
  refine mk_pure (N := ["net", "report", "component"]) (k := 5) FA sc_certain rfl (fun _ _ _ _ _ _ us hl => (by obtain ⟨_, _, rfl⟩ := EV.lv2 hl; rfl)) (fun f cdv A outer s H E C ds hn => ?_)
  obtain ⟨a0, a1, rfl⟩ := len2 hn
  refine ⟨D, Out.ret, f_certain a0 a1, ?_, out_ret _⟩
  unfold f_certain
  change SV _ _ _ [.val a0, .val a1, .junk] _ _ _
  refine sv_expr (call C K_need_report ar2 (el_cons (vv 0) (el_cons (vv 1) el_nil))) ?_
  change SV _ _ _ [.val a0, .val a1, .junk] _ _ _
  refine sv_ifR (eb_not (eb_val (call C K_is_explained ar2 (el_cons (vv 0) (el_cons (vv 1) el_nil))))) ?_ (by repeat first | exact nf_bad | exact nf_raise | exact nf_raiseF | exact nf_ret (fun _ => rfl) | refine nf_bind (fun _ => ?_) | refine nf_unp2 (fun _ _ => ?_) | refine nf_ite ?_ ?_) ?_
  · exact sv_ret (inj := id) (fun _ => rfl) ev_non
  · exact sv_ret (inj := id) (fun _ => rfl) (ev_callTy cd_tuple (by rfl) B.tuple (by decide +kernel) (el_cons (ev_lc (own := [(("component" : Str), 2)]) (dec := dec1) (g := gName 2) (Γz := fun z18 => [.val a0, .val a1, .val z18]) C (ei_range1 (by rfl) B.range (el_cons (ev_callB cd_len (by rfl) B.len PySem.boot_len (el_cons (vv 0) el_nil)) el_nil)) (blkOk_by (by rfl)) (tg_name (by simp)) (fun _ _ _ _ _ => pgn 2 C.nd) (fun z18 _ _ _ _ _ => ets_nil) (fun z18 _ _ _ _ _ => (call C.blk K_word_of ar3 (el_cons (vv 0) (el_cons (vv 1) (el_cons (vv 2) el_nil)))))) el_nil))
theorem ok_do_meet (B : Bn mg) (FA : FunAt K mg "do_meet" s_do_meet) : Cal P w K mg base 1 "do_meet" ["one", "other"] (spF K mg false 2 (fn2 f_do_meet)) := by
  refine mk_pure (N := ["one", "other", "thing"]) (k := 0) FA sc_do_meet rfl (fun _ _ _ _ _ _ us hl => (by obtain ⟨_, _, rfl⟩ := EV.lv2 hl; rfl)) (fun f cdv A outer s H E C ds hn => ?_)
  obtain ⟨a0, a1, rfl⟩ := len2 hn
  refine ⟨D, Out.ret, f_do_meet a0 a1, ?_, out_ret _⟩
  unfold f_do_meet
  change SV _ _ _ [.val a0, .val a1, .junk] _ _ _
  exact sv_ret (inj := id) (fun _ => rfl) (ev_callB (cd_any C.calm) (by rfl) B.any (by decide +kernel) (el_cons (ev_lc (own := [(("thing" : Str), 2)]) (dec := dec1) (g := gName 2) (Γz := fun z1 => [.val a0, .val a1, .val z1]) C (ei_seq (vv 0)) (blkOk_by (by rfl)) (tg_name (by simp)) (fun _ _ _ _ _ => pgn 2 C.nd) (fun z1 _ _ _ _ _ => ets_nil) (fun z1 _ _ _ _ _ => (ev_cmp (od_in C.blk.room) (vv 2) (vv 1) (by rfl)))) el_nil))
theorem ok_expected_word (B : Bn mg) (c_ALARM : ∃ t, mg "ALARM" = some (.str "alarm" t)) (c_QUIET : ∃ t, mg "QUIET" = some (.str "quiet" t)) (c_OPEN : ∃ t, mg "OPEN" = some (.str "open" t)) (K_candidates_of : Cal P w K mg base 3 "candidates_of" ["net", "report"] (spF K mg false 2 (fn2 f_candidates_of))) (K_do_meet : Cal P w K mg base 1 "do_meet" ["one", "other"] (spF K mg false 2 (fn2 f_do_meet))) (K_needed_of : Cal P w K mg base 4 "needed_of" ["net", "report"] (spF K mg false 2 (fn2 f_needed_of))) (K_reach_of : Cal P w K mg base 1 "reach_of" ["net", "component"] (spF K mg false 2 (fn2 f_reach_of))) (FA : FunAt K mg "expected_word" s_expected_word) : Cal P w K mg base 5 "expected_word" ["net", "report", "component"] (spF K mg false 3 (fn3 f_expected_word)) := by
  obtain ⟨_, c_ALARM⟩ := c_ALARM
  obtain ⟨_, c_QUIET⟩ := c_QUIET
  obtain ⟨_, c_OPEN⟩ := c_OPEN
  refine mk_pure (N := ["net", "report", "component", "own", "needed", "one"]) (k := 4) FA sc_expected_word rfl (fun _ _ _ _ _ _ us hl => (by obtain ⟨_, _, _, rfl⟩ := EV.lv3 hl; rfl)) (fun f cdv A outer s H E C ds hn => ?_)
  obtain ⟨a0, a1, a2, rfl⟩ := len3 hn
  refine ⟨D, Out.ret, f_expected_word a0 a1 a2, ?_, out_ret _⟩
  unfold f_expected_word
  change SV _ _ _ [.val a0, .val a1, .val a2, .junk, .junk, .junk] _ _ _
  refine sv_set 3 C.nd (call C K_reach_of ar2 (el_cons (vv 0) (el_cons (vv 2) el_nil))) (fun v1 => ?_)
  change SV _ _ _ [.val a0, .val a1, .val a2, .val v1, .junk, .junk] _ _ _
  refine sv_ifR (eb_not (eb_val (call C K_do_meet ar2 (el_cons (vv 3) (el_cons (call C K_candidates_of ar2 (el_cons (vv 0) (el_cons (vv 1) el_nil))) el_nil))))) ?_ (by repeat first | exact nf_bad | exact nf_raise | exact nf_raiseF | exact nf_ret (fun _ => rfl) | refine nf_bind (fun _ => ?_) | refine nf_unp2 (fun _ _ => ?_) | refine nf_ite ?_ ?_) ?_
  · exact sv_ret (inj := id) (fun _ => rfl) (ev_glob (v := .str "quiet") (by rfl) c_QUIET ⟨_, rfl⟩ fun _ => .str _)
  · refine sv_forL (dec := dec1) (g := gName 4) (vs := [4]) (mk := (fun (c25 : Unit) => [.val a0, .val a1, .val a2, .val v1, .junk, .junk])) (c0 := ()) (inj := id) C (ei_seq (call C K_needed_of ar2 (el_cons (vv 0) (el_cons (vv 1) el_nil)))) (pgn 4 C.nd) (fun _ => tg_name (by simp)) (wk (wk (wk (wk (wj (wj wn)))))) (fun _ => rfl) (fun c25 z26 => ?_) (fun c25 => ?_)
    · change SV _ _ _ [.val a0, .val a1, .val a2, .val v1, .val z26, .junk] _ _ _
      refine sv_ifR (eb_val (ev_callB (cd_all C.calm) (by rfl) B.all (by decide +kernel) (el_cons (ev_lc (own := [(("one" : Str), 5)]) (dec := dec1) (g := gName 5) (Γz := fun z28 => [.val a0, .val a1, .val a2, .val v1, .val z26, .val z28]) C (ei_seq (vv 4)) (blkOk_by (by rfl)) (tg_name (by simp)) (fun _ _ _ _ _ => pgn 5 C.nd) (fun z28 _ _ _ _ _ => ets_nil) (fun z28 _ _ _ _ _ => (ev_cmp (od_in C.blk.room) (vv 5) (vv 3) (by rfl)))) el_nil))) ?_ (by repeat first | exact nf_bad | exact nf_raise | exact nf_raiseF | exact nf_ret (fun _ => rfl) | refine nf_bind (fun _ => ?_) | refine nf_unp2 (fun _ _ => ?_) | refine nf_ite ?_ ?_) ?_
      · exact sv_ret (inj := Lp.ret) (fun _ => rfl) (ev_glob (v := .str "alarm") (by rfl) c_ALARM ⟨_, rfl⟩ fun _ => .str _)
      · exact sv_nil rfl (wk (wk (wk (wk (wj (wj wn))))))
    · change SV _ _ _ [.val a0, .val a1, .val a2, .val v1, .junk, .junk] _ _ _
      exact sv_ret (inj := id) (fun _ => rfl) (ev_glob (v := .str "open") (by rfl) c_OPEN ⟨_, rfl⟩ fun _ => .str _)
theorem ok_expected_of (B : Bn mg) (K_expected_word : Cal P w K mg base 5 "expected_word" ["net", "report", "component"] (spF K mg false 3 (fn3 f_expected_word))) (K_is_explained : Cal P w K mg base 5 "is_explained" ["net", "report"] (spF K mg false 2 (fn2 f_is_explained))) (FA : FunAt K mg "expected_of" s_expected_of) : Cal P w K mg base 6 "expected_of" ["net", "report"] (spF K mg false 2 (fn2 f_expected_of)) := by
  refine mk_pure (N := ["net", "report", "component"]) (k := 5) FA sc_expected_of rfl (fun _ _ _ _ _ _ us hl => (by obtain ⟨_, _, rfl⟩ := EV.lv2 hl; rfl)) (fun f cdv A outer s H E C ds hn => ?_)
  obtain ⟨a0, a1, rfl⟩ := len2 hn
  refine ⟨D, Out.ret, f_expected_of a0 a1, ?_, out_ret _⟩
  unfold f_expected_of
  change SV _ _ _ [.val a0, .val a1, .junk] _ _ _
  refine sv_ifR (eb_not (eb_val (call C K_is_explained ar2 (el_cons (vv 0) (el_cons (vv 1) el_nil))))) ?_ (by repeat first | exact nf_bad | exact nf_raise | exact nf_raiseF | exact nf_ret (fun _ => rfl) | refine nf_bind (fun _ => ?_) | refine nf_unp2 (fun _ _ => ?_) | refine nf_ite ?_ ?_) ?_
  · exact sv_ret (inj := id) (fun _ => rfl) ev_non
  · exact sv_ret (inj := id) (fun _ => rfl) (ev_callTy cd_tuple (by rfl) B.tuple (by decide +kernel) (el_cons (ev_lc (own := [(("component" : Str), 2)]) (dec := dec1) (g := gName 2) (Γz := fun z13 => [.val a0, .val a1, .val z13]) C (ei_range1 (by rfl) B.range (el_cons (ev_callB cd_len (by rfl) B.len PySem.boot_len (el_cons (vv 0) el_nil)) el_nil)) (blkOk_by (by rfl)) (tg_name (by simp)) (fun _ _ _ _ _ => pgn 2 C.nd) (fun z13 _ _ _ _ _ => ets_nil) (fun z13 _ _ _ _ _ => (call C.blk K_expected_word ar3 (el_cons (vv 0) (el_cons (vv 1) (el_cons (vv 2) el_nil)))))) el_nil))
theorem ok_expected (B : Bn mg) (K_expected_of : Cal P w K mg base 6 "expected_of" ["net", "report"] (spF K mg false 2 (fn2 f_expected_of))) (K_need_report : Cal P w K mg base 5 "need_report" ["net", "thing"] (spF K mg false 2 (fn2 f_need_report))) (FA : FunAt K mg "expected" s_expected) : Cal P w K mg base 7 "expected" ["net", "report"] (spF K mg false 2 (fn2 f_expected)) := by
  refine mk_pure (N := ["net", "report"]) (k := 6) FA sc_expected rfl (fun _ _ _ _ _ _ us hl => (by obtain ⟨_, _, rfl⟩ := EV.lv2 hl; rfl)) (fun f cdv A outer s H E C ds hn => ?_)
  obtain ⟨a0, a1, rfl⟩ := len2 hn
  refine ⟨D, Out.ret, f_expected a0 a1, ?_, out_ret _⟩
  unfold f_expected
  change SV _ _ _ [.val a0, .val a1] _ _ _
  refine sv_expr (call C K_need_report ar2 (el_cons (vv 0) (el_cons (vv 1) el_nil))) ?_
  change SV _ _ _ [.val a0, .val a1] _ _ _
  exact sv_ret (inj := id) (fun _ => rfl) (call C K_expected_of ar2 (el_cons (vv 0) (el_cons (vv 1) el_nil)))
theorem ok_alarms_of (B : Bn mg) (K_all_reaches : Cal P w K mg base 2 "all_reaches" ["net"] (spF K mg false 1 (fn1 f_all_reaches))) (K_do_meet : Cal P w K mg base 1 "do_meet" ["one", "other"] (spF K mg false 2 (fn2 f_do_meet))) (FA : FunAt K mg "alarms_of" s_alarms_of) : Cal P w K mg base 3 "alarms_of" ["net", "broken"] (spF K mg false 2 (fn2 f_alarms_of)) := by
  refine mk_pure (N := ["net", "broken", "component", "own"]) (k := 2) FA sc_alarms_of rfl (fun _ _ _ _ _ _ us hl => (by obtain ⟨_, _, rfl⟩ := EV.lv2 hl; rfl)) (fun f cdv A outer s H E C ds hn => ?_)
  obtain ⟨a0, a1, rfl⟩ := len2 hn
  refine ⟨D, Out.ret, f_alarms_of a0 a1, ?_, out_ret _⟩
  unfold f_alarms_of
  change SV _ _ _ [.val a0, .val a1, .junk, .junk] _ _ _
  exact sv_ret (inj := id) (fun _ => rfl) (ev_callTy cd_tuple (by rfl) B.tuple (by decide +kernel) (el_cons (ev_lc (own := [(("component" : Str), 2), (("own" : Str), 3)]) (dec := dec2) (g := gTup _ 2 (gCons (gName 2) (gCons (gName 3) gNil))) (Γz := fun z6 => [.val a0, .val a1, .val z6.1, .val z6.2]) C (ei_enum (by rfl) B.enumerate (el_cons (call C K_all_reaches ar1 (el_cons (vv 0) el_nil)) el_nil)) (blkOk_by (by rfl)) (tg_pair (by simp) (by simp)) (fun _ _ _ _ _ => pg_tup rfl (pgs_cons (pgn 2 C.nd) (pgs_cons (pgn 3 C.nd) pgs_nil))) (fun z6 _ _ _ _ _ => (ets_one (eb_val (call C.blk K_do_meet ar2 (el_cons (vv 3) (el_cons (vv 1) el_nil)))))) (fun z6 _ _ _ _ _ => (vv 2))) el_nil))
theorem ok_does_explain (B : Bn mg) (c_ALARM : ∃ t, mg "ALARM" = some (.str "alarm" t)) (c_UNSEEN : ∃ t, mg "UNSEEN" = some (.str "unseen" t)) (K_alarms_of : Cal P w K mg base 3 "alarms_of" ["net", "broken"] (spF K mg false 2 (fn2 f_alarms_of))) (FA : FunAt K mg "does_explain" s_does_explain) : Cal P w K mg base 4 "does_explain" ["net", "report", "broken"] (spF K mg false 3 (fn3 f_does_explain)) := by
  obtain ⟨_, c_ALARM⟩ := c_ALARM
  obtain ⟨_, c_UNSEEN⟩ := c_UNSEEN
  refine mk_pure (N := ["net", "report", "broken", "alarming", "component", "word"]) (k := 3) FA sc_does_explain rfl (fun _ _ _ _ _ _ us hl => (by obtain ⟨_, _, _, rfl⟩ := EV.lv3 hl; rfl)) (fun f cdv A outer s H E C ds hn => ?_)
  obtain ⟨a0, a1, a2, rfl⟩ := len3 hn
  refine ⟨D, Out.ret, f_does_explain a0 a1 a2, ?_, out_ret _⟩
  unfold f_does_explain
  change SV _ _ _ [.val a0, .val a1, .val a2, .junk, .junk, .junk] _ _ _
  refine sv_set 3 C.nd (call C K_alarms_of ar2 (el_cons (vv 0) (el_cons (vv 2) el_nil))) (fun v1 => ?_)
  change SV _ _ _ [.val a0, .val a1, .val a2, .val v1, .junk, .junk] _ _ _
  refine sv_forL (dec := dec2) (g := gTup _ 2 (gCons (gName 4) (gCons (gName 5) gNil))) (vs := [4, 5]) (mk := (fun (c9 : Unit) => [.val a0, .val a1, .val a2, .val v1, .junk, .junk])) (c0 := ()) (inj := id) C (ei_enum (by rfl) B.enumerate (el_cons (vv 1) el_nil)) (pg_tup rfl (pgs_cons (pgn 4 C.nd) (pgs_cons (pgn 5 C.nd) pgs_nil))) (fun _ => tg_pair (by simp) (by simp)) (wk (wk (wk (wk (wj (wj wn)))))) (fun _ => rfl) (fun c9 z10 => ?_) (fun c9 => ?_)
  · change SV _ _ _ [.val a0, .val a1, .val a2, .val v1, .val z10.1, .val z10.2] _ _ _
    refine sv_ifR (eb_bool (ew_and (eb_cmp (od_ne C.room) (vv 5) (ev_glob (v := .str "unseen") (by rfl) c_UNSEEN ⟨_, rfl⟩ fun _ => .str _) (nomark _)) (ew_and1 (eb_cmp (od_ne C.room) (ev_cmp (od_eq C.room) (vv 5) (ev_glob (v := .str "alarm") (by rfl) c_ALARM ⟨_, rfl⟩ fun _ => .str _) (nomark _)) (ev_cmp (od_in C.room) (vv 4) (vv 3) (by rfl)) (nomark _))))) ?_ (by repeat first | exact nf_bad | exact nf_raise | exact nf_raiseF | exact nf_ret (fun _ => rfl) | refine nf_bind (fun _ => ?_) | refine nf_unp2 (fun _ _ => ?_) | refine nf_ite ?_ ?_) ?_
    · exact sv_ret (inj := Lp.ret) (fun _ => rfl) ev_bl
    · exact sv_nil rfl (wk (wk (wk (wk (wj (wj wn))))))
  · change SV _ _ _ [.val a0, .val a1, .val a2, .val v1, .junk, .junk] _ _ _
    exact sv_ret (inj := id) (fun _ => rfl) ev_bl
theorem ok_are_two (B : Bn mg) (K_does_explain : Cal P w K mg base 4 "does_explain" ["net", "report", "broken"] (spF K mg false 3 (fn3 f_does_explain))) (K_is_rising : Cal P w K mg base 2 "is_rising" ["size", "thing"] (spF K mg false 2 (fn2 f_is_rising))) (FA : FunAt K mg "are_two" s_are_two) : Cal P w K mg base 5 "are_two" ["net", "report", "component", "one", "other"] (spF K mg false 5 (fn5 f_are_two)) := by
  refine mk_pure (N := ["net", "report", "component", "one", "other", "thing"]) (k := 4) FA sc_are_two rfl (fun _ _ _ _ _ _ us hl => (by obtain ⟨_, _, _, _, _, rfl⟩ := EV.lv5 hl; rfl)) (fun f cdv A outer s H E C ds hn => ?_)
  obtain ⟨a0, a1, a2, a3, a4, rfl⟩ := len5 hn
  refine ⟨D, Out.ret, f_are_two a0 a1 a2 a3 a4, ?_, out_ret _⟩
  unfold f_are_two
  change SV _ _ _ [.val a0, .val a1, .val a2, .val a3, .val a4, .junk] _ _ _
  refine sv_forL (dec := dec1) (g := gName 5) (vs := [5]) (mk := (fun (c5 : Unit) => [.val a0, .val a1, .val a2, .val a3, .val a4, .junk])) (c0 := ()) (inj := id) C (ei_seq (ev_tup (el_cons (vv 3) (el_cons (vv 4) el_nil)))) (pgn 5 C.nd) (fun _ => tg_name (by simp)) (wk (wk (wk (wk (wk (wj wn)))))) (fun _ => rfl) (fun c5 z6 => ?_) (fun c5 => ?_)
  · change SV _ _ _ [.val a0, .val a1, .val a2, .val a3, .val a4, .val z6] _ _ _
    refine sv_ifR (eb_bool (ew_or (eb_not (eb_val (call C K_is_rising ar2 (el_cons (ev_callB cd_len (by rfl) B.len PySem.boot_len (el_cons (vv 0) el_nil)) (el_cons (vv 5) el_nil))))) (ew_or1 (eb_not (eb_val (call C K_does_explain ar3 (el_cons (vv 0) (el_cons (vv 1) (el_cons (vv 5) el_nil))))))))) ?_ (by repeat first | exact nf_bad | exact nf_raise | exact nf_raiseF | exact nf_ret (fun _ => rfl) | refine nf_bind (fun _ => ?_) | refine nf_unp2 (fun _ _ => ?_) | refine nf_ite ?_ ?_) ?_
    · exact sv_ret (inj := Lp.ret) (fun _ => rfl) ev_bl
    · exact sv_nil rfl (wk (wk (wk (wk (wk (wj wn))))))
  · change SV _ _ _ [.val a0, .val a1, .val a2, .val a3, .val a4, .junk] _ _ _
    exact sv_ret (inj := id) (fun _ => rfl) (ev_and (ev_cmp (od_in C.room) (vv 2) (vv 3) (by rfl)) (ev_one (ev_cmp (od_notIn C.room) (vv 2) (vv 4) (by rfl))))
theorem ok_need_component (B : Bn mg) (E_ComponentError : ErrC K mg "ComponentError") (K_is_between : Cal P w K mg base 1 "is_between" ["thing", "low", "high"] (spF K mg false 3 (fn3 f_is_between))) (FA : FunAt K mg "need_component" s_need_component) : Cal P w K mg base 2 "need_component" ["net", "thing"] (spF K mg false 2 (fn2 f_need_component)) := by
  refine mk_pure (N := ["net", "thing"]) (k := 1) FA sc_need_component rfl (fun _ _ _ _ _ _ us hl => (by (refine EV.el2_1 (EV.lv2 hl) fun _ _ q388_ => ?_; obtain rfl := q388_); rfl)) (fun f cdv A outer s H E C ds hn => ?_)
  (refine EV.el2_1 (len2 hn) fun a0 a1 q389_ => ?_; obtain rfl := q389_)
  refine ⟨Unit, fun _ => Out.fall [.junk, .junk], g_need_component a0 a1, ?_, rfl⟩
  unfold g_need_component
  change SV _ _ _ [.val a0, .val a1] _ _ _
  refine sv_ifR (eb_not (eb_val (call C K_is_between ar3 (el_cons (vv 1) (el_cons ev_int (el_cons (ev_op od_sub (ev_callB cd_len (by rfl) B.len PySem.boot_len (el_cons (vv 0) el_nil)) ev_int) el_nil)))))) ?_ (by repeat first | exact nf_bad | exact nf_raise | exact nf_raiseF | exact nf_ret (fun _ => rfl) | refine nf_bind (fun _ => ?_) | refine nf_unp2 (fun _ _ => ?_) | refine nf_ite ?_ ?_) ?_
  · exact sv_raise C E_ComponentError
  · exact sv_nil rfl (wj (wj wn))
theorem ok_need_all (B : Bn mg) (K_need_component : Cal P w K mg base 2 "need_component" ["net", "thing"] (spF K mg false 2 (fn2 f_need_component))) (K_need_report : Cal P w K mg base 5 "need_report" ["net", "thing"] (spF K mg false 2 (fn2 f_need_report))) (FA : FunAt K mg "need_all" s_need_all) : Cal P w K mg base 6 "need_all" ["net", "report", "component"] (spF K mg false 3 (fn3 f_need_all)) := by
  refine mk_pure (N := ["net", "report", "component"]) (k := 5) FA sc_need_all rfl (fun _ _ _ _ _ _ us hl => (by obtain ⟨_, _, _, rfl⟩ := EV.lv3 hl; rfl)) (fun f cdv A outer s H E C ds hn => ?_)
  obtain ⟨a0, a1, a2, rfl⟩ := len3 hn
  refine ⟨Unit, fun _ => Out.fall [.junk, .junk, .junk], g_need_all a0 a1 a2, ?_, rfl⟩
  unfold g_need_all
  change SV _ _ _ [.val a0, .val a1, .val a2] _ _ _
  refine sv_expr (call C K_need_report ar2 (el_cons (vv 0) (el_cons (vv 1) el_nil))) ?_
  change SV _ _ _ [.val a0, .val a1, .val a2] _ _ _
  refine sv_expr (call C K_need_component ar2 (el_cons (vv 0) (el_cons (vv 2) el_nil))) ?_
  change SV _ _ _ [.val a0, .val a1, .val a2] _ _ _
  exact sv_nil rfl (wj (wj (wj wn)))
theorem ok_rulers_of (B : Bn mg) (c_QUIET : ∃ t, mg "QUIET" = some (.str "quiet" t)) (K_reach_of : Cal P w K mg base 1 "reach_of" ["net", "component"] (spF K mg false 2 (fn2 f_reach_of))) (K_with_word : Cal P w K mg base 1 "with_word" ["report", "word"] (spF K mg false 2 (fn2 f_with_word))) (FA : FunAt K mg "rulers_of" s_rulers_of) : Cal P w K mg base 2 "rulers_of" ["net", "report", "component"] (spF K mg false 3 (fn3 f_rulers_of)) := by
  obtain ⟨_, c_QUIET⟩ := c_QUIET
  refine mk_pure (N := ["net", "report", "component", "other"]) (k := 1) FA sc_rulers_of rfl (fun _ _ _ _ _ _ us hl => (by obtain ⟨_, _, _, rfl⟩ := EV.lv3 hl; rfl)) (fun f cdv A outer s H E C ds hn => ?_)
  obtain ⟨a0, a1, a2, rfl⟩ := len3 hn
  refine ⟨D, Out.ret, f_rulers_of a0 a1 a2, ?_, out_ret _⟩
  unfold f_rulers_of
  change SV _ _ _ [.val a0, .val a1, .val a2, .junk] _ _ _
  exact sv_ret (inj := id) (fun _ => rfl) (ev_lc (own := [(("other" : Str), 3)]) (dec := dec1) (g := gName 3) (Γz := fun z6 => [.val a0, .val a1, .val a2, .val z6]) C (ei_seq (call C K_with_word ar2 (el_cons (vv 1) (el_cons (ev_glob (v := .str "quiet") (by rfl) c_QUIET ⟨_, rfl⟩ fun _ => .str _) el_nil)))) (blkOk_by (by rfl)) (tg_name (by simp)) (fun _ _ _ _ _ => pgn 3 C.nd) (fun z6 _ _ _ _ _ => (ets_one (eb_cmp (od_in C.blk.room) (vv 2) (call C.blk K_reach_of ar2 (el_cons (vv 0) (el_cons (vv 3) el_nil))) (by rfl)))) (fun z6 _ _ _ _ _ => (vv 3)))
theorem ok_shows_witness (B : Bn mg) (c_ALARM : ∃ t, mg "ALARM" = some (.str "alarm" t)) (K_are_two : Cal P w K mg base 5 "are_two" ["net", "report", "component", "one", "other"] (spF K mg false 5 (fn5 f_are_two))) (K_is_between : Cal P w K mg base 1 "is_between" ["thing", "low", "high"] (spF K mg false 3 (fn3 f_is_between))) (K_is_explained : Cal P w K mg base 5 "is_explained" ["net", "report"] (spF K mg false 2 (fn2 f_is_explained))) (K_need_all : Cal P w K mg base 6 "need_all" ["net", "report", "component"] (spF K mg false 3 (fn3 f_need_all))) (K_needed_of : Cal P w K mg base 4 "needed_of" ["net", "report"] (spF K mg false 2 (fn2 f_needed_of))) (K_rulers_of : Cal P w K mg base 2 "rulers_of" ["net", "report", "component"] (spF K mg false 3 (fn3 f_rulers_of))) (K_with_word : Cal P w K mg base 1 "with_word" ["report", "word"] (spF K mg false 2 (fn2 f_with_word))) (Kt_with_word : Cal P w K mg base 1 "with_word" ["report", "word"] (spT K mg 2 (tfn2 f_with_word_t))) (FA : FunAt K mg "shows_witness" s_shows_witness) : Cal P w K mg base 7 "shows_witness" ["net", "report", "component", "thing"] (spF K mg false 4 (fn4 f_shows_witness)) := by
  obtain ⟨_, c_ALARM⟩ := c_ALARM
  refine mk_pure (N := ["net", "report", "component", "thing", "alarming"]) (k := 6) FA sc_shows_witness rfl (fun _ _ _ _ _ _ us hl => (by obtain ⟨_, _, _, _, rfl⟩ := EV.lv4 hl; rfl)) (fun f cdv A outer s H E C ds hn => ?_)
  obtain ⟨a0, a1, a2, a3, rfl⟩ := len4 hn
  refine ⟨D, Out.ret, f_shows_witness a0 a1 a2 a3, ?_, out_ret _⟩
  unfold f_shows_witness
  change SV _ _ _ [.val a0, .val a1, .val a2, .val a3, .junk] _ _ _
  refine sv_expr (call C K_need_all ar3 (el_cons (vv 0) (el_cons (vv 1) (el_cons (vv 2) el_nil)))) ?_
  change SV _ _ _ [.val a0, .val a1, .val a2, .val a3, .junk] _ _ _
  refine sv_ifR (eb_bool (ew_or (eb_not (eb_val (call C K_is_explained ar2 (el_cons (vv 0) (el_cons (vv 1) el_nil))))) (ew_or (eb_not (eb_val (ev_isi (T := "tuple") (by decide) (vv 3) (by rfl) B.isinstance (by rfl) B.tuple (by decide +kernel)))) (ew_or (eb_cmp (od_eq C.room) (vv 3) (ev_tup el_nil) (nomark _)) (ew_or1 (eb_not (eb_val (ev_isi (T := "str") (by decide) (ev_ix (vv 3) ev_int (fun _ _ => rfl)) (by rfl) B.isinstance (by rfl) B.str (by decide +kernel))))))))) ?_ (by repeat first | exact nf_bad | exact nf_raise | exact nf_raiseF | exact nf_ret (fun _ => rfl) | refine nf_bind (fun _ => ?_) | refine nf_unp2 (fun _ _ => ?_) | refine nf_ite ?_ ?_) ?_
  · exact sv_ret (inj := id) (fun _ => rfl) ev_bl
  · refine sv_match C (el_cons (ev_ix (vv 3) ev_int (fun _ _ => rfl)) (el_cons (ev_callB cd_len (by rfl) B.len PySem.boot_len (el_cons (vv 3) el_nil)) el_nil)) (.cons ?_ (by repeat first | exact nf_bad | exact nf_raise | exact nf_raiseF | exact nf_ret (fun _ => rfl) | refine nf_bind (fun _ => ?_) | refine nf_unp2 (fun _ _ => ?_) | refine nf_ite ?_ ?_) (.cons ?_ (by repeat first | exact nf_bad | exact nf_raise | exact nf_raiseF | exact nf_ret (fun _ => rfl) | refine nf_bind (fun _ => ?_) | refine nf_unp2 (fun _ _ => ?_) | refine nf_ite ?_ ?_) (.cons ?_ (by repeat first | exact nf_bad | exact nf_raise | exact nf_raiseF | exact nf_ret (fun _ => rfl) | refine nf_bind (fun _ => ?_) | refine nf_unp2 (fun _ _ => ?_) | refine nf_ite ?_ ?_) .nil))) ?_
    · refine sv_setTn 4 C Kt_with_word tar2 (el_cons (vv 1) (el_cons (ev_glob (v := .str "alarm") (by rfl) c_ALARM ⟨_, rfl⟩ fun _ => .str _) el_nil)) (fun o41 l40 => ?_)
      change SV _ _ _ [.val a0, .val a1, .val a2, .val a3, roTn o41 l40] _ _ _
      refine sv_ifR (eb_bool (ew_or (eb_not (eb_val (call C K_is_between ar3 (el_cons (ev_ix (vv 3) ev_int (fun _ _ => rfl)) (el_cons ev_int (el_cons (ev_op od_sub (ev_callB cd_len (by rfl) B.len PySem.boot_len (el_cons (vv 0) el_nil)) ev_int) el_nil)))))) (ew_or1 (eb_cmp (od_notIn C.room) (ev_ix (vv 3) ev_int (fun _ _ => rfl)) (ev_varTn 4 rfl) (by rfl))))) ?_ (by repeat first | exact nf_bad | exact nf_raise | exact nf_raiseF | exact nf_ret (fun _ => rfl) | refine nf_bind (fun _ => ?_) | refine nf_unp2 (fun _ _ => ?_) | refine nf_ite ?_ ?_) ?_
      · exact sv_ret (inj := id) (fun _ => rfl) ev_bl
      · exact sv_ret (inj := id) (fun _ => rfl) (ev_cmp (od_eq C.room) (ev_ix (call C K_needed_of ar2 (el_cons (vv 0) (el_cons (vv 1) el_nil))) (ev_idxTn 4 C rfl (ev_ix (vv 3) ev_int (fun _ _ => rfl))) (fun _ _ => rfl)) (ev_tup (el_cons (vv 2) el_nil)) (nomark _))
    · exact sv_ret (inj := id) (fun _ => rfl) (ev_and (call C K_is_between ar3 (el_cons (ev_ix (vv 3) ev_int (fun _ _ => rfl)) (el_cons ev_int (el_cons (ev_op od_sub (ev_callB cd_len (by rfl) B.len PySem.boot_len (el_cons (vv 0) el_nil)) ev_int) el_nil)))) (ev_one (ev_cmp (od_in C.room) (ev_ix (vv 3) ev_int (fun _ _ => rfl)) (call C K_rulers_of ar3 (el_cons (vv 0) (el_cons (vv 1) (el_cons (vv 2) el_nil)))) (by rfl))))
    · exact sv_ret (inj := id) (fun _ => rfl) (call C K_are_two ar5 (el_cons (vv 0) (el_cons (vv 1) (el_cons (vv 2) (el_cons (ev_ix (vv 3) ev_int (fun _ _ => rfl)) (el_cons (ev_ix (vv 3) ev_int (fun _ _ => rfl)) el_nil))))))
    · exact sv_ret (inj := id) (fun _ => rfl) ev_bl
theorem ok_witness (B : Bn mg) (c_ALARM : ∃ t, mg "ALARM" = some (.str "alarm" t)) (c_BROKEN : ∃ t, mg "BROKEN" = some (.str "broken" t)) (c_WHOLE : ∃ t, mg "WHOLE" = some (.str "whole" t)) (c_OPEN : ∃ t, mg "OPEN" = some (.str "open" t)) (K_candidates_of : Cal P w K mg base 3 "candidates_of" ["net", "report"] (spF K mg false 2 (fn2 f_candidates_of))) (K_is_explained : Cal P w K mg base 5 "is_explained" ["net", "report"] (spF K mg false 2 (fn2 f_is_explained))) (K_need_all : Cal P w K mg base 6 "need_all" ["net", "report", "component"] (spF K mg false 3 (fn3 f_need_all))) (K_needed_of : Cal P w K mg base 4 "needed_of" ["net", "report"] (spF K mg false 2 (fn2 f_needed_of))) (K_rulers_of : Cal P w K mg base 2 "rulers_of" ["net", "report", "component"] (spF K mg false 3 (fn3 f_rulers_of))) (K_with_word : Cal P w K mg base 1 "with_word" ["report", "word"] (spF K mg false 2 (fn2 f_with_word))) (FA : FunAt K mg "witness" s_witness) : Cal P w K mg base 7 "witness" ["net", "report", "component"] (spF K mg false 3 (fn3 f_witness)) := by
  obtain ⟨_, c_ALARM⟩ := c_ALARM
  obtain ⟨_, c_BROKEN⟩ := c_BROKEN
  obtain ⟨_, c_WHOLE⟩ := c_WHOLE
  obtain ⟨_, c_OPEN⟩ := c_OPEN
  refine mk_pure (N := ["net", "report", "component", "some", "needed", "one"]) (k := 6) FA sc_witness rfl (fun _ _ _ _ _ _ us hl => (by obtain ⟨_, _, _, rfl⟩ := EV.lv3 hl; rfl)) (fun f cdv A outer s H E C ds hn => ?_)
  obtain ⟨a0, a1, a2, rfl⟩ := len3 hn
  refine ⟨D, Out.ret, f_witness a0 a1 a2, ?_, out_ret _⟩
  unfold f_witness
  change SV _ _ _ [.val a0, .val a1, .val a2, .junk, .junk, .junk] _ _ _
  refine sv_expr (call C K_need_all ar3 (el_cons (vv 0) (el_cons (vv 1) (el_cons (vv 2) el_nil)))) ?_
  change SV _ _ _ [.val a0, .val a1, .val a2, .junk, .junk, .junk] _ _ _
  refine sv_ifR (eb_not (eb_val (call C K_is_explained ar2 (el_cons (vv 0) (el_cons (vv 1) el_nil))))) ?_ (by repeat first | exact nf_bad | exact nf_raise | exact nf_raiseF | exact nf_ret (fun _ => rfl) | refine nf_bind (fun _ => ?_) | refine nf_unp2 (fun _ _ => ?_) | refine nf_ite ?_ ?_) ?_
  · exact sv_ret (inj := id) (fun _ => rfl) ev_non
  · refine sv_par 3 4 C.calm C.nd (el_cons (call C K_candidates_of ar2 (el_cons (vv 0) (el_cons (vv 1) el_nil))) (el_cons (call C K_needed_of ar2 (el_cons (vv 0) (el_cons (vv 1) el_nil))) el_nil)) (by decide) (fun v16 v17 => ?_)
    change SV _ _ _ [.val a0, .val a1, .val a2, .val v16, .val v17, .junk] _ _ _
    refine sv_ifR (eb_cmp (od_notIn C.room) (vv 2) (vv 3) (by rfl)) ?_ (by repeat first | exact nf_bad | exact nf_raise | exact nf_raiseF | exact nf_ret (fun _ => rfl) | refine nf_bind (fun _ => ?_) | refine nf_unp2 (fun _ _ => ?_) | refine nf_ite ?_ ?_) ?_
    · exact sv_ret (inj := id) (fun _ => rfl) (ev_tup (el_cons (ev_glob (v := .str "whole") (by rfl) c_WHOLE ⟨_, rfl⟩ fun _ => .str _) (el_cons (ev_ix (call C K_rulers_of ar3 (el_cons (vv 0) (el_cons (vv 1) (el_cons (vv 2) el_nil)))) ev_int (fun _ _ => rfl)) el_nil)))
    · refine sv_ifR (eb_cmp (od_in C.room) (ev_tup (el_cons (vv 2) el_nil)) (vv 4) (by rfl)) ?_ (by repeat first | exact nf_bad | exact nf_raise | exact nf_raiseF | exact nf_ret (fun _ => rfl) | refine nf_bind (fun _ => ?_) | refine nf_unp2 (fun _ _ => ?_) | refine nf_ite ?_ ?_) ?_
      · exact sv_ret (inj := id) (fun _ => rfl) (ev_tup (el_cons (ev_glob (v := .str "broken") (by rfl) c_BROKEN ⟨_, rfl⟩ fun _ => .str _) (el_cons (ev_ix (call C K_with_word ar2 (el_cons (vv 1) (el_cons (ev_glob (v := .str "alarm") (by rfl) c_ALARM ⟨_, rfl⟩ fun _ => .str _) el_nil))) (ev_index C (vv 4) (ev_tup (el_cons (vv 2) el_nil))) (fun _ _ => rfl)) el_nil)))
      · exact sv_ret (inj := id) (fun _ => rfl) (ev_tup (el_cons (ev_glob (v := .str "open") (by rfl) c_OPEN ⟨_, rfl⟩ fun _ => .str _) (el_cons (vv 3) (el_cons (ev_callTy cd_tuple (by rfl) B.tuple (by decide +kernel) (el_cons (ev_lc (own := [(("one" : Str), 5)]) (dec := dec1) (g := gName 5) (Γz := fun z71 => [.val a0, .val a1, .val a2, .val v16, .val v17, .val z71]) C (ei_seq (vv 3)) (blkOk_by (by rfl)) (tg_name (by simp)) (fun _ _ _ _ _ => pgn 5 C.nd) (fun z71 _ _ _ _ _ => (ets_one (eb_cmp (od_ne C.blk.room) (vv 5) (vv 2) (nomark _)))) (fun z71 _ _ _ _ _ => (vv 5))) el_nil)) el_nil))))
theorem ok_law_words (B : Bn mg) (S_law_said : SaidC P w K mg base 31 "_law_said" "done") (K_certain : Cal P w K mg base 6 "certain" ["net", "report"] (spF K mg false 2 (fn2 f_certain))) (K_expected : Cal P w K mg base 7 "expected" ["net", "report"] (spF K mg false 2 (fn2 f_expected))) (K_shows_witness : Cal P w K mg base 7 "shows_witness" ["net", "report", "component", "thing"] (spF K mg false 4 (fn4 f_shows_witness))) (K_witness : Cal P w K mg base 7 "witness" ["net", "report", "component"] (spF K mg false 3 (fn3 f_witness))) (FA : FunL K mg base "_law_words" s_law_words) : Cal P w K mg base 34 "_law_words" ["_law_net", "_law_report_here", "_law_component"] (spF K mg false 3 (fn3 f_law_words)) := by
  refine mk_pureL (N := ["_law_net", "_law_report_here", "_law_component", "_law_words_here"]) (k := 33) FA sc_law_words rfl (fun _ _ _ _ _ _ us hl => (by obtain ⟨_, _, _, rfl⟩ := EV.lv3 hl; rfl)) (fun f cdv A outer s H E C LA ds hn => ?_)
  obtain ⟨a0, a1, a2, rfl⟩ := len3 hn
  refine ⟨D, Out.ret, f_law_words a0 a1 a2, ?_, out_ret _⟩
  unfold f_law_words
  change SV _ _ _ [.val a0, .val a1, .val a2, .junk] _ _ _
  refine sv_setO 3 (ps_o C.nd (eo_lst (el_cons (ev_saidC C S_law_said LA (fun _ _ _ _ _ _ _ Cl => (call Cl K_certain ar2 (el_cons (vv 0) (el_cons (vv 1) el_nil))))) el_nil))) (fun xs1 => ?_)
  change SV _ _ _ [.val a0, .val a1, .val a2, .own xs1] _ _ _
  refine sv_append 3 (xs := xs1) rfl (ev_saidC C S_law_said LA (fun _ _ _ _ _ _ _ Cl => (call Cl K_expected ar2 (el_cons (vv 0) (el_cons (vv 1) el_nil))))) (fun d14 => ?_)
  change SV _ _ _ [.val a0, .val a1, .val a2, .own (xs1 ++ [d14])] _ _ _
  refine sv_append 3 (xs := (xs1 ++ [d14])) rfl (ev_saidC C S_law_said LA (fun _ _ _ _ _ _ _ Cl => (call Cl K_witness ar3 (el_cons (vv 0) (el_cons (vv 1) (el_cons (vv 2) el_nil)))))) (fun d22 => ?_)
  change SV _ _ _ [.val a0, .val a1, .val a2, .own ((xs1 ++ [d14]) ++ [d22])] _ _ _
  refine sv_pub 3 (xs := ((xs1 ++ [d14]) ++ [d22])) rfl ?_
  change SV _ _ _ [.val a0, .val a1, .val a2, .val (D.lst ((xs1 ++ [d14]) ++ [d22]))] _ _ _
  exact sv_ret (inj := id) (fun _ => rfl) (ev_op od_add (vv 3) (ev_lst (el_cons (ev_saidC C S_law_said LA (fun _ _ _ _ _ _ _ Cl => (call Cl K_shows_witness ar4 (el_cons (vv 0) (el_cons (vv 1) (el_cons (vv 2) (el_cons ev_non el_nil))))))) el_nil)))
theorem ok_law_right (B : Bn mg) (K_Net_repr : CalM P w K mg base 1 cNet "__repr__" ["self"] (spF K mg false 1 (fn1 f_Net_repr))) (K_Watch_repr : CalM P w K mg base 4 cWatch "__repr__" ["self"] (spF K mg false 1 (fn1 f_Watch_repr))) (K_law_draw : Cal P w K mg base 1 "_law_draw" ["_law_supply", "_law_many"] (spF K mg true 1 (fn1 f_law_draw))) (K_law_no_reports : Cal P w K mg base 1 "_law_no_reports" ["_law_size"] (spF K mg false 1 (fn1 f_law_no_reports))) (K_law_objects : Cal P w K mg base 6 "_law_objects" [] (spF K mg false 0 (fn0 f_law_objects))) (K_law_words : Cal P w K mg base 34 "_law_words" ["_law_net", "_law_report_here", "_law_component"] (spF K mg false 3 (fn3 f_law_words))) (FA : FunAt K mg "_law_right" s_law_right) : Cal P w K mg base 35 "_law_right" ["_law_supply", "_law_net", "_law_report_here"] (spF K mg true 2 (fn2 f_law_right)) := by
  refine mk_pen (N := ["_law_supply", "_law_net", "_law_report_here", "_law_bad", "_law_kept", "_law_words_here", "_law_word"]) (k := 34) FA sc_law_right rfl (fun _ _ _ _ _ _ us hl => (by obtain ⟨_, _, _, rfl⟩ := EV.lv3 hl; rfl)) (fun f cdv A outer s H E C q ds hn => ?_)
  obtain ⟨a0, a1, rfl⟩ := len2 hn
  refine ⟨D, Out.ret, f_law_right a0 a1, ?_, out_ret _⟩
  unfold f_law_right
  change SV _ _ _ [.pen, .val a0, .val a1, .junk, .junk, .junk, .junk] _ _ _
  refine sv_forL (dec := dec1) (g := gName 3) (vs := [3]) (mk := (fun (c8 : Unit) => [.pen, .val a0, .val a1, .junk, .junk, .junk, .junk])) (c0 := ()) (inj := id) C (ei_seq (ev_op od_add (call C K_law_no_reports ar1 (el_cons (ev_callB cd_len (by rfl) B.len PySem.boot_len (el_cons (vv 1) el_nil)) el_nil)) (callN C K_law_objects ar0))) (pgn 3 C.nd) (fun _ => tg_name (by simp)) (wk (wk (wk (wj (wj (wj (wj wn))))))) (fun _ => rfl) (fun c8 z9 => ?_) (fun c8 => ?_)
  · change SV _ _ _ [.pen, .val a0, .val a1, .val z9, .junk, .junk, .junk] _ _ _
    refine sv_par 4 5 C.calm C.nd (el_cons (ev_reprV (j := 4) (T := tR) C (TOk.put (calM_mono K_Watch_repr (by decide)) (TOk.put (calM_mono K_Net_repr (by decide)) TOk.none)) (vv 3) (by rfl) B.repr) (el_cons (ev_op od_add (call C K_law_words ar3 (el_cons (vv 1) (el_cons (vv 3) (el_cons ev_non el_nil)))) (call C K_law_words ar3 (el_cons (vv 1) (el_cons (vv 3) (el_cons ev_int el_nil))))) el_nil)) (by decide) (fun v11 v12 => ?_)
    change SV _ _ _ [.pen, .val a0, .val a1, .val z9, .val v11, .val v12, .junk] _ _ _
    refine sv_ifR (eb_bool (ew_or (eb_cmp (od_ne C.room) (vv 5) (ev_op od_mulL (ev_lst (el_cons ev_str el_nil)) ev_int) (nomark _)) (ew_or1 (eb_cmp (od_ne C.room) (ev_reprV (j := 4) (T := tR) C (TOk.put (calM_mono K_Watch_repr (by decide)) (TOk.put (calM_mono K_Net_repr (by decide)) TOk.none)) (vv 3) (by rfl) B.repr) (vv 4) (nomark _))))) ?_ (by repeat first | exact nf_bad | exact nf_raise | exact nf_raiseF | exact nf_ret (fun _ => rfl) | refine nf_bind (fun _ => ?_) | refine nf_unp2 (fun _ _ => ?_) | refine nf_ite ?_ ?_) ?_
    · exact sv_ret (inj := Lp.ret) (fun _ => rfl) ev_bl
    · exact sv_nil rfl (wk (wk (wk (wj (wj (wj (wj wn)))))))
  · change SV _ _ _ [.pen, .val a0, .val a1, .junk, .junk, .junk, .junk] _ _ _
    refine sv_forL (dec := dec1) (g := gName 3) (vs := [3]) (mk := (fun (c78 : Unit) => [.pen, .val a0, .val a1, .junk, .junk, .junk, .junk])) (c0 := ()) (inj := id) C (ei_seq (ev_op od_add (ev_lst (el_cons ev_non (el_cons ev_bl (el_cons ev_bl (el_cons (ev_neg ev_int) (el_cons (ev_callB cd_len (by rfl) B.len PySem.boot_len (el_cons (vv 1) el_nil)) (el_cons ev_int (el_cons (ev_op od_pow ev_int ev_int) (el_cons ev_str (el_cons (ev_tup (el_cons ev_int el_nil)) (el_cons (ev_lst (el_cons ev_int el_nil)) (el_cons ev_dict0 el_nil)))))))))))) (callN C K_law_objects ar0))) (pgn 3 C.nd) (fun _ => tg_name (by simp)) (wk (wk (wk (wj (wj (wj (wj wn))))))) (fun _ => rfl) (fun c78 z79 => ?_) (fun c78 => ?_)
    · change SV _ _ _ [.pen, .val a0, .val a1, .val z79, .junk, .junk, .junk] _ _ _
      refine sv_ifR (eb_cmp (od_ne C.room) (ev_slice (call C K_law_words ar3 (el_cons (vv 1) (el_cons (vv 2) (el_cons (vv 3) el_nil)))) (eo_some ev_int) eo_none) (ev_op od_mulL (ev_lst (el_cons ev_str el_nil)) ev_int) (nomark _)) ?_ (by repeat first | exact nf_bad | exact nf_raise | exact nf_raiseF | exact nf_ret (fun _ => rfl) | refine nf_bind (fun _ => ?_) | refine nf_unp2 (fun _ _ => ?_) | refine nf_ite ?_ ?_) ?_
      · exact sv_ret (inj := Lp.ret) (fun _ => rfl) ev_bl
      · exact sv_nil rfl (wk (wk (wk (wj (wj (wj (wj wn)))))))
    · change SV _ _ _ [.pen, .val a0, .val a1, .junk, .junk, .junk, .junk] _ _ _
      refine sv_set 5 C.nd (call C K_law_words ar3 (el_cons (vv 1) (el_cons (vv 2) (el_cons (callP 0 C K_law_draw ar1 (el_cons (ev_callB cd_len (by rfl) B.len PySem.boot_len (el_cons (vv 1) el_nil)) el_nil)) el_nil)))) (fun v99 => ?_)
      change SV _ _ _ [.pen, .val a0, .val a1, .junk, .junk, .val v99, .junk] _ _ _
      exact sv_ret (inj := id) (fun _ => rfl) (ev_cmp (od_eq C.room) (ev_lc (own := [(("_law_word" : Str), 6)]) (dec := dec1) (g := gName 6) (Γz := fun z111 => [.pen, .val a0, .val a1, .junk, .junk, .val v99, .val z111]) C (ei_seq (vv 5)) (blkOk_by (by rfl)) (tg_name (by simp)) (fun _ _ _ _ _ => pgn 6 C.nd) (fun z111 _ _ _ _ _ => (ets_one (eb_cmp (od_eq C.blk.room) (ev_slice (vv 6) eo_none (eo_some ev_int)) ev_str (nomark _)))) (fun z111 _ _ _ _ _ => (vv 6))) (ev_lst el_nil) (nomark _))
theorem ok_law_source (B : Bn mg) (FA : FunAt K mg "_law_source" s_law_source) : Cal P w K mg base 1 "_law_source" ["_law_cell_here"] (spM K mg 1 (mfn1 f_law_source)) := by
  refine mk_mk (N := ["_law_cell_here"]) (k := 0) FA sc_law_source rfl (fun _ _ _ _ _ _ us hl => (by obtain ⟨_, rfl⟩ := EV.lv1 hl; rfl)) rfl (fun f cdv A outer s H E C ds hn => ?_)
  obtain ⟨a0, rfl⟩ := len1 hn
  exact ⟨_, (el_cons (ev_callB (cd_max C.calm) (by rfl) B.max (by decide +kernel) (el_cons ev_int (el_cons (ev_op od_sub (vv 0) (ev_op od_pow ev_int ev_int)) el_nil))) (el_cons (ev_op od_add (ev_op od_mod (vv 0) ev_int) ev_int) (el_cons ev_int el_nil))), rfl⟩
theorem ok_law {f : Addr} {fd : FuncData} (B : Bn mg) (K_Net_repr : CalM P w K mg base 1 cNet "__repr__" ["self"] (spF K mg false 1 (fn1 f_Net_repr))) (K_Watch_repr : CalM P w K mg base 4 cWatch "__repr__" ["self"] (spF K mg false 1 (fn1 f_Watch_repr))) (K_law_case : Cal P w K mg base 4 "_law_case" ["_law_supply", "_law_size"] (spF K mg true 1 (fn1 f_law_case))) (K_law_cell : Cal P w K mg base 1 "_law_cell" ["_law_script", "_law_index"] (spS K mg 1 (fun ns => fn1 (f_law_cell ns)))) (K_law_draw : Cal P w K mg base 1 "_law_draw" ["_law_supply", "_law_many"] (spF K mg true 1 (fn1 f_law_draw))) (K_law_no_nets : Cal P w K mg base 1 "_law_no_nets" [] (spF K mg false 0 (fn0 f_law_no_nets))) (K_law_objects : Cal P w K mg base 6 "_law_objects" [] (spF K mg false 0 (fn0 f_law_objects))) (K_law_right : Cal P w K mg base 35 "_law_right" ["_law_supply", "_law_net", "_law_report_here"] (spF K mg true 2 (fn2 f_law_right))) (K_law_source : Cal P w K mg base 1 "_law_source" ["_law_cell_here"] (spM K mg 1 (mfn1 f_law_source))) (K_law_words : Cal P w K mg base 34 "_law_words" ["_law_net", "_law_report_here", "_law_component"] (spF K mg false 3 (fn3 f_law_words))) (FU : Fun K "law" "law" s_law f fd) : FnG P w K mg base 36 f fd ["_law_script"] (spS K mg 0 (fun ns => fn0 (f_law ns))) := by
  refine fn_scr (N := ["_law_script", "_law_bad", "_law_kept", "_law_words_here", "_law_k", "_law_supply", "_law_lap", "_law_net", "_law_table_here", "_law_report_here"]) (n := 0) FU sc_law rfl (fun cdv A outer s H E C ns ds hn => ?_)
  obtain rfl := len0 hn
  refine ⟨D, Out.ret, f_law ns, ?_, out_ret _⟩
  unfold f_law
  change SV _ _ _ [.scr ns, .junk, .junk, .junk, .junk, .junk, .junk, .junk, .junk, .junk] _ _ _
  refine sv_forL (dec := dec1) (g := gName 1) (vs := [1]) (mk := (fun (c3 : Unit) => [.scr ns, .junk, .junk, .junk, .junk, .junk, .junk, .junk, .junk, .junk])) (c0 := ()) (inj := id) C (ei_seq (ev_op od_add (callN C K_law_no_nets ar0) (callN C K_law_objects ar0))) (pgn 1 C.nd) (fun _ => tg_name (by simp)) (wk (wj (wj (wj (wj (wj (wj (wj (wj (wj wn)))))))))) (fun _ => rfl) (fun c3 z4 => ?_) (fun c3 => ?_)
  · change SV _ _ _ [.scr ns, .val z4, .junk, .junk, .junk, .junk, .junk, .junk, .junk, .junk] _ _ _
    refine sv_par 2 3 C.calm C.nd (el_cons (ev_reprV (j := 4) (T := tR) C (TOk.put (calM_mono K_Watch_repr (by decide)) (TOk.put (calM_mono K_Net_repr (by decide)) TOk.none)) (vv 1) (by rfl) B.repr) (el_cons (ev_op od_add (call C K_law_words ar3 (el_cons (vv 1) (el_cons ev_non (el_cons ev_non el_nil)))) (call C K_law_words ar3 (el_cons (vv 1) (el_cons (ev_tup (el_cons ev_str el_nil)) (el_cons ev_int el_nil))))) el_nil)) (by decide) (fun v6 v7 => ?_)
    change SV _ _ _ [.scr ns, .val z4, .val v6, .val v7, .junk, .junk, .junk, .junk, .junk, .junk] _ _ _
    refine sv_ifR (eb_bool (ew_or (eb_cmp (od_ne C.room) (vv 3) (ev_op od_mulL (ev_lst (el_cons ev_str el_nil)) ev_int) (nomark _)) (ew_or1 (eb_cmp (od_ne C.room) (ev_reprV (j := 4) (T := tR) C (TOk.put (calM_mono K_Watch_repr (by decide)) (TOk.put (calM_mono K_Net_repr (by decide)) TOk.none)) (vv 1) (by rfl) B.repr) (vv 2) (nomark _))))) ?_ (by repeat first | exact nf_bad | exact nf_raise | exact nf_raiseF | exact nf_ret (fun _ => rfl) | refine nf_bind (fun _ => ?_) | refine nf_unp2 (fun _ _ => ?_) | refine nf_ite ?_ ?_) ?_
    · exact sv_ret (inj := Lp.ret) (fun _ => rfl) ev_bl
    · exact sv_nil rfl (wk (wj (wj (wj (wj (wj (wj (wj (wj (wj wn))))))))))
  · change SV _ _ _ [.scr ns, .junk, .junk, .junk, .junk, .junk, .junk, .junk, .junk, .junk] _ _ _
    refine sv_forL (dec := dec1) (g := gName 4) (vs := [4]) (mk := (fun (c53 : Unit) => [.scr ns, .junk, .junk, .junk, .junk, .junk, .junk, .junk, .junk, .junk])) (c0 := ()) (inj := id) C (ei_range1 (by rfl) B.range (el_cons (ev_callB (cd_max C.calm) (by rfl) B.max (by decide +kernel) (el_cons ev_int (el_cons (ev_callB (cd_min C.calm) (by rfl) B.min (by decide +kernel) (el_cons (slen 0 B.len) (el_cons ev_int el_nil))) el_nil))) el_nil)) (pgn 4 C.nd) (fun _ => tg_name (by simp)) (wk (wj (wj (wj (wj (wj (wj (wj (wj (wj wn)))))))))) (fun _ => rfl) (fun c53 z54 => ?_) (fun c53 => ?_)
    · change SV _ _ _ [.scr ns, .junk, .junk, .junk, .val z54, .junk, .junk, .junk, .junk, .junk] _ _ _
      refine sv_new 5 C K_law_source mar1 (el_cons (callS 0 C K_law_cell (fun _ => ar1) (el_cons (vv 4) el_nil)) el_nil) (fun a => by cases a <;> first | rfl | trivial) (fun q63 => ?_)
      change SV _ _ _ [.scr ns, .junk, .junk, .junk, .val z54, .pen, .junk, .junk, .junk, .junk] _ _ _
      refine sv_forL (dec := dec1) (g := gName 6) (vs := [6]) (mk := (fun (c66 : Unit) => [.scr ns, .junk, .junk, .junk, .val z54, .pen, .junk, .junk, .junk, .junk])) (c0 := ()) (inj := Lp.ret) C (ei_range1 (by rfl) B.range (el_cons ev_int el_nil)) (pgn 6 C.nd) (fun _ => tg_name (by simp)) (wk (wj (wj (wj (wk (wk (wj (wj (wj (wj wn)))))))))) (fun _ => rfl) (fun c66 z67 => ?_) (fun c66 => ?_)
      · change SV _ _ _ [.scr ns, .junk, .junk, .junk, .val z54, .pen, .val z67, .junk, .junk, .junk] _ _ _
        refine sv_unp3 7 8 9 C (callP 5 C K_law_case ar1 (el_cons (ev_op od_add ev_int (callP 5 C K_law_draw ar1 (el_cons ev_int el_nil))) el_nil)) (fun v69 v70 v71 => ?_) (pg_tup rfl (pgs_cons (pgn 7 C.nd) (pgs_cons (pgn 8 C.nd) (pgs_cons (pgn 9 C.nd) pgs_nil))))
        change SV _ _ _ [.scr ns, .junk, .junk, .junk, .val z54, .pen, .val z67, .val v69, .val v70, .val v71] _ _ _
        refine sv_ifR (eb_not (eb_val (callP 5 C K_law_right ar2 (el_cons (vv 7) (el_cons (vv 9) el_nil))))) ?_ (by repeat first | exact nf_bad | exact nf_raise | exact nf_raiseF | exact nf_ret (fun _ => rfl) | refine nf_bind (fun _ => ?_) | refine nf_unp2 (fun _ _ => ?_) | refine nf_ite ?_ ?_) ?_
        · exact sv_ret (inj := Lp.ret) (fun _ => rfl) ev_bl
        · exact sv_nil rfl (wk (wj (wj (wj (wk (wk (wj (wj (wj (wj wn))))))))))
      · change SV _ _ _ [.scr ns, .junk, .junk, .junk, .val z54, .pen, .junk, .junk, .junk, .junk] _ _ _
        exact sv_nil rfl (wk (wj (wj (wj (wj (wj (wj (wj (wj (wj wn))))))))))
    · change SV _ _ _ [.scr ns, .junk, .junk, .junk, .junk, .junk, .junk, .junk, .junk, .junk] _ _ _
      exact sv_ret (inj := id) (fun _ => rfl) ev_bl
end
section
variable {P : Program} {w : World} {K : PySem.W.Frag} {mg : Str → Option Value} {base : Heap}
theorem end_law {f : Addr} {fd : FuncData} (B : Bn mg) (c_ALARM : ∃ t, mg "ALARM" = some (.str "alarm" t)) (c_BROKEN : ∃ t, mg "BROKEN" = some (.str "broken" t)) (c_MOST_COMPONENTS : ∃ t, mg "MOST_COMPONENTS" = some (.int 8 t)) (c_OPEN : ∃ t, mg "OPEN" = some (.str "open" t)) (c_QUIET : ∃ t, mg "QUIET" = some (.str "quiet" t)) (c_UNSEEN : ∃ t, mg "UNSEEN" = some (.str "unseen" t)) (c_WHOLE : ∃ t, mg "WHOLE" = some (.str "whole" t)) (c_WORDS : CT K mg "WORDS" d_WORDS) (A_Net_repr : MethF K cNet "__repr__" "Net.__repr__" s_Net_repr) (A_reach_of : FunAt K mg "reach_of" s_reach_of) (A_all_reaches : FunAt K mg "all_reaches" s_all_reaches) (A_with_word : FunAt K mg "with_word" s_with_word) (A_candidates_of : FunAt K mg "candidates_of" s_candidates_of) (A_watched_of : FunAt K mg "watched_of" s_watched_of) (A_Watch_repr : MethF K cWatch "__repr__" "Watch.__repr__" s_Watch_repr) (A_law_draw : FunAt K mg "_law_draw" s_law_draw) (A_law_net_of : FunAt K mg "_law_net_of" s_law_net_of) (A_law_choose : FunAt K mg "_law_choose" s_law_choose) (A_law_report : FunAt K mg "_law_report" s_law_report) (A_law_meets : FunAt K mg "_law_meets" s_law_meets) (A_law_reaches : FunAt K mg "_law_reaches" s_law_reaches) (A_law_sets : FunAt K mg "_law_sets" s_law_sets) (A_law_table : FunAt K mg "_law_table" s_law_table) (A_law_case : FunAt K mg "_law_case" s_law_case) (A_law_cell : FunAt K mg "_law_cell" s_law_cell) (A_law_no_nets : FunAt K mg "_law_no_nets" s_law_no_nets) (A_is_between : FunAt K mg "is_between" s_is_between) (A_is_rising : FunAt K mg "is_rising" s_is_rising) (A_is_net : FunAt K mg "is_net" s_is_net) (A_is_word : FunAt K mg "is_word" s_is_word) (A_is_report : FunAt K mg "is_report" s_is_report) (A_need_start : FunAt K mg "need_start" s_need_start) (A_law_objects : FunAt K mg "_law_objects" s_law_objects) (A_law_no_reports : FunAt K mg "_law_no_reports" s_law_no_reports) (A_needed_of : FunAt K mg "needed_of" s_needed_of) (A_is_explained : FunAt K mg "is_explained" s_is_explained) (A_need_net : FunAt K mg "need_net" s_need_net) (A_need_report : FunAt K mg "need_report" s_need_report) (A_word_of : FunAt K mg "word_of" s_word_of) (A_certain : FunAt K mg "certain" s_certain) (A_do_meet : FunAt K mg "do_meet" s_do_meet) (A_expected_word : FunAt K mg "expected_word" s_expected_word) (A_expected_of : FunAt K mg "expected_of" s_expected_of) (A_expected : FunAt K mg "expected" s_expected) (A_alarms_of : FunAt K mg "alarms_of" s_alarms_of) (A_does_explain : FunAt K mg "does_explain" s_does_explain) (A_are_two : FunAt K mg "are_two" s_are_two) (A_need_component : FunAt K mg "need_component" s_need_component) (A_need_all : FunAt K mg "need_all" s_need_all) (A_rulers_of : FunAt K mg "rulers_of" s_rulers_of) (A_shows_witness : FunAt K mg "shows_witness" s_shows_witness) (A_witness : FunAt K mg "witness" s_witness) (A_law_words : FunL K mg base "_law_words" s_law_words) (A_law_right : FunAt K mg "_law_right" s_law_right) (A_law_source : FunAt K mg "_law_source" s_law_source) (E_ComponentError : ErrC K mg "ComponentError") (E_NetError : ErrC K mg "NetError") (E_ReportError : ErrC K mg "ReportError") (NA_Net_own_needs : NoAttr K cNet "own_needs") (NA_Watch_kept : NoAttr K cWatch "kept") (NA_Watch_own_net : NoAttr K cWatch "own_net") (NA_Watch_past : NoAttr K cWatch "past") (I_Net : IsCl K mg "Net" tab_Net) (OC_Net : ObjC K cNet) (CA_Net : ClsAt K mg "Net" cNet "Net.__init__" s_Net_init []) (OC_Watch : ObjC K cWatch) (CA_Watch : ClsAt K mg "Watch" cWatch "Watch.__init__" s_Watch_init [.non]) (CN_Watch_NAME : ConC K cWatch "NAME" "Watch") (MA : MethAt K cWatch "need_fit" "Watch.need_fit" s_fit) {CA : Addr} (hV : mg "ValueError" = none) (hA : mg "AlarmError" = some (.ref CA)) (hEr : ∀ j y, errsL[j]? = some y → ∃ D, mg y = some (.ref D) ∧ ErrJ K mg CA D j) (A_law_said : FunAt K mg "_law_said" s_law_said) (A_law_kind : FunAt K mg "_law_kind" s_law_kind) (FU : Fun K "law" "law" s_law f fd) : FnG P w K mg base 36 f fd ["_law_script"] (spS K mg 0 (fun ns => fn0 (f_law ns))) := by
  have S_law_said := c_said (P := P) (w := w) (base := base) B hV hA hEr A_law_said A_law_kind
  have FIT : FitC P w K mg base 1 cWatch "need_fit" := EV.fit_of (k := 0) MA sc_fit (fun fd f F => F.binds (fun _ _ _ _ _ _ us hl => (by (refine EV.el2_1 (EV.lv2 hl) fun _ _ q404_ => ?_; obtain rfl := q404_); rfl))) rfl
  have K_Net_repr := ok_Net_repr (P := P) (w := w) (base := base) B NA_Net_own_needs A_Net_repr
  have K_reach_of := ok_reach_of (P := P) (w := w) (base := base) B A_reach_of
  have K_all_reaches := ok_all_reaches (P := P) (w := w) (base := base) B K_reach_of A_all_reaches
  have K_with_word := ok_with_word (P := P) (w := w) (base := base) B A_with_word
  have Kt_with_word := ok_with_word_t (P := P) (w := w) (base := base) B A_with_word
  have K_candidates_of := ok_candidates_of (P := P) (w := w) (base := base) B c_QUIET K_all_reaches K_with_word A_candidates_of
  have K_watched_of := ok_watched_of (P := P) (w := w) (base := base) B c_UNSEEN A_watched_of
  have K_Watch_repr := ok_Watch_repr (P := P) (w := w) (base := base) B NA_Net_own_needs NA_Watch_kept NA_Watch_own_net CN_Watch_NAME K_candidates_of K_watched_of A_Watch_repr
  have K_law_draw := ok_law_draw (P := P) (w := w) (base := base) B A_law_draw
  have K_law_net_of := ok_law_net_of (P := P) (w := w) (base := base) B K_law_draw A_law_net_of
  have K_law_choose := ok_law_choose (P := P) (w := w) (base := base) B K_law_draw A_law_choose
  have K_law_report := ok_law_report (P := P) (w := w) (base := base) B K_law_choose K_law_draw A_law_report
  have K_law_meets := ok_law_meets (P := P) (w := w) (base := base) B A_law_meets
  have K_law_reaches := ok_law_reaches (P := P) (w := w) (base := base) B A_law_reaches
  have K_law_sets := ok_law_sets (P := P) (w := w) (base := base) B A_law_sets
  have K_law_table := ok_law_table (P := P) (w := w) (base := base) B K_law_meets K_law_reaches K_law_sets A_law_table
  have K_law_case := ok_law_case (P := P) (w := w) (base := base) B K_law_net_of K_law_report K_law_table A_law_case
  have K_law_cell := ok_law_cell (P := P) (w := w) (base := base) B A_law_cell
  have K_law_no_nets := ok_law_no_nets (P := P) (w := w) (base := base) B A_law_no_nets
  have K_is_between := ok_is_between (P := P) (w := w) (base := base) B A_is_between
  have K_is_rising := ok_is_rising (P := P) (w := w) (base := base) B K_is_between A_is_rising
  have K_is_net := ok_is_net (P := P) (w := w) (base := base) B c_MOST_COMPONENTS K_is_rising A_is_net
  have K_Net_init := ok_Net_init (P := P) (w := w) (base := base) B E_NetError NA_Net_own_needs OC_Net K_is_net CA_Net
  have K_is_word := ok_is_word (P := P) (w := w) (base := base) B c_WORDS A_is_word
  have K_is_report := ok_is_report (P := P) (w := w) (base := base) B K_is_word A_is_report
  have K_need_start := ok_need_start (P := P) (w := w) (base := base) B E_NetError E_ReportError NA_Net_own_needs I_Net K_is_report A_need_start
  have K_Watch_init := ok_Watch_init (P := P) (w := w) (base := base) B c_UNSEEN NA_Net_own_needs NA_Watch_kept NA_Watch_own_net NA_Watch_past OC_Watch FIT K_need_start CA_Watch
  have K_law_objects := ok_law_objects (P := P) (w := w) (base := base) B K_Net_init K_Watch_init A_law_objects
  have K_law_no_reports := ok_law_no_reports (P := P) (w := w) (base := base) B A_law_no_reports
  have K_needed_of := ok_needed_of (P := P) (w := w) (base := base) B c_ALARM K_candidates_of K_reach_of K_with_word A_needed_of
  have K_is_explained := ok_is_explained (P := P) (w := w) (base := base) B K_needed_of A_is_explained
  have K_need_net := ok_need_net (P := P) (w := w) (base := base) B E_NetError K_is_net A_need_net
  have K_need_report := ok_need_report (P := P) (w := w) (base := base) B E_ReportError K_is_report K_need_net A_need_report
  have K_word_of := ok_word_of (P := P) (w := w) (base := base) B c_BROKEN c_WHOLE c_OPEN K_candidates_of K_needed_of A_word_of
  have K_certain := ok_certain (P := P) (w := w) (base := base) B K_is_explained K_need_report K_word_of A_certain
  have K_do_meet := ok_do_meet (P := P) (w := w) (base := base) B A_do_meet
  have K_expected_word := ok_expected_word (P := P) (w := w) (base := base) B c_ALARM c_QUIET c_OPEN K_candidates_of K_do_meet K_needed_of K_reach_of A_expected_word
  have K_expected_of := ok_expected_of (P := P) (w := w) (base := base) B K_expected_word K_is_explained A_expected_of
  have K_expected := ok_expected (P := P) (w := w) (base := base) B K_expected_of K_need_report A_expected
  have K_alarms_of := ok_alarms_of (P := P) (w := w) (base := base) B K_all_reaches K_do_meet A_alarms_of
  have K_does_explain := ok_does_explain (P := P) (w := w) (base := base) B c_ALARM c_UNSEEN K_alarms_of A_does_explain
  have K_are_two := ok_are_two (P := P) (w := w) (base := base) B K_does_explain K_is_rising A_are_two
  have K_need_component := ok_need_component (P := P) (w := w) (base := base) B E_ComponentError K_is_between A_need_component
  have K_need_all := ok_need_all (P := P) (w := w) (base := base) B K_need_component K_need_report A_need_all
  have K_rulers_of := ok_rulers_of (P := P) (w := w) (base := base) B c_QUIET K_reach_of K_with_word A_rulers_of
  have K_shows_witness := ok_shows_witness (P := P) (w := w) (base := base) B c_ALARM K_are_two K_is_between K_is_explained K_need_all K_needed_of K_rulers_of K_with_word Kt_with_word A_shows_witness
  have K_witness := ok_witness (P := P) (w := w) (base := base) B c_ALARM c_BROKEN c_WHOLE c_OPEN K_candidates_of K_is_explained K_need_all K_needed_of K_rulers_of K_with_word A_witness
  have K_law_words := ok_law_words (P := P) (w := w) (base := base) B S_law_said K_certain K_expected K_shows_witness K_witness A_law_words
  have K_law_right := ok_law_right (P := P) (w := w) (base := base) B K_Net_repr K_Watch_repr K_law_draw K_law_no_reports K_law_objects K_law_words A_law_right
  have K_law_source := ok_law_source (P := P) (w := w) (base := base) B A_law_source
  exact ok_law B K_Net_repr K_Watch_repr K_law_case K_law_cell K_law_draw K_law_no_nets K_law_objects K_law_right K_law_source K_law_words FU
end
end Lw
end
open PySem PySem.W PyProof.Rows
theorem EV.x_na {K : Frag} {h : Heap} {C : Addr} {x : Str} (_ : K.In h) (r : findIn K (.ref C) x = some none) : L2.NoAttr K C x := r
theorem EV.x_oc {K : Frag} {h : Heap} {C : Addr} (_ : K.In h) (h1 : plainGet K C Str.empty = true) (h2 : hasDictIn K C = true) (h3 : plainOver K C = true) (h4 : findIn K (.ref C) "__setattr__" = some (some (.builtin "object.__setattr__"))) (h5 : findIn K (.ref C) "__class__" = some (some (.builtin "object.__class__"))) (h6 : specialIn K (.builtin "object.__class__") "__get__" = some (some (.builtin "getset_descriptor.__get__"))) (h7 : takesIn K (.builtin "object.__class__") = some true) (h8 : mroIn K C (.type "object") = some true) (h9 : EV.btB K C = true) : EV.ObjC K C := EV.objC_mk h1 h2 h3 h4 h5 h6 h7 h8 h9
def EV.kOf {K : Frag} {h : Heap} (_ : K.In h) : Frag := K
set_option maxHeartbeats 0 in
theorem PySem.Challenge.cw_rootalarms_k29_certain_refused_holds : PySem.Challenge.rw_rootalarms_k29_certain_refused.Holds := by
  w_on; o_law; k_head; (case hw => w_witness2)
  k_fill
  refine EV.law_end (l := PySem.Challenge.rw_rootalarms_k29_certain_refused) (n := 63) (k := 36) (x := "_law_script") (F := fun ns => EV.fn0 (Lw.f_law ns)) [(783, 779)] rfl (by decide) rfl ⟨rfl, by decide, by decide⟩ (fun w h Y => PySem.W.km_in_of Y) (fun w h Y p hp => by
    refine PySem.W.km_tabs_of Y p.2 ?_
    simp only [List.mem_cons, List.not_mem_nil, or_false] at hp
    rcases hp with rfl <;> simp) (fun w h X => (List.forall_mem_cons.mpr ⟨PySem.W.codeHd_of_K (c := 783) (P := 779) X (by kernel_rfl), (fun _ h => nomatch h)⟩)) (fun w => (List.forall_mem_cons.mpr ⟨(by kernel_rfl), (fun _ h => nomatch h)⟩)) (fun w P n => EV.need_of (by kernel_rfl) P n) ?F Lw.law_true
  intro w mg fa h KX G hmg
  have B : EV.Bn mg := ⟨PySem.W.mg_none_of KX G (by k_is), PySem.W.mg_none_of KX G (by k_is), PySem.W.mg_none_of KX G (by k_is), PySem.W.mg_none_of KX G (by k_is), PySem.W.mg_none_of KX G (by k_is), PySem.W.mg_none_of KX G (by k_is), PySem.W.mg_none_of KX G (by k_is), PySem.W.mg_none_of KX G (by k_is), PySem.W.mg_none_of KX G (by k_is), PySem.W.mg_none_of KX G (by k_is), PySem.W.mg_none_of KX G (by k_is), PySem.W.mg_none_of KX G (by k_is), PySem.W.mg_none_of KX G (by k_is), PySem.W.mg_none_of KX G (by k_is), PySem.W.mg_none_of KX G (by k_is), PySem.W.mg_none_of KX G (by k_is), PySem.W.mg_none_of KX G (by k_is), PySem.W.mg_none_of KX G (by k_is)⟩
  have c_ALARM : ∃ t, mg "ALARM" = some (.str "alarm" t) := by
    refine' EV.cstS KX G ?a
    case a => k_is
  have c_BROKEN : ∃ t, mg "BROKEN" = some (.str "broken" t) := by
    refine' EV.cstS KX G ?a
    case a => k_is
  have c_MOST_COMPONENTS : ∃ t, mg "MOST_COMPONENTS" = some (.int 8 t) := by
    refine' EV.cstI KX G ?a
    case a => k_is
  have c_OPEN : ∃ t, mg "OPEN" = some (.str "open" t) := by
    refine' EV.cstS KX G ?a
    case a => k_is
  have c_QUIET : ∃ t, mg "QUIET" = some (.str "quiet" t) := by
    refine' EV.cstS KX G ?a
    case a => k_is
  have c_UNSEEN : ∃ t, mg "UNSEEN" = some (.str "unseen" t) := by
    refine' EV.cstS KX G ?a
    case a => k_is
  have c_WHOLE : ∃ t, mg "WHOLE" = some (.str "whole" t) := by
    refine' EV.cstS KX G ?a
    case a => k_is
  have c_WORDS : EV.CT _ mg "WORDS" Lw.d_WORDS := EV.DefC.at KX G (by refine' EV.defC ?e ?l ?v; (case e => k_is); (case l => k_is); (case v => decide +kernel))
  have A_Net_repr : EV.MethF (EV.kOf KX) EV.cNet "__repr__" "Net.__repr__" Lw.s_Net_repr := by
    delta EV.kOf
    refine' EV.methF KX ?a ?m3 ?l ?c ?k ?fi; (case a => k_is); (case m3 => k_is); (case l => k_is); (case c => k_is); (case k => k_is); (case fi => k_is)
  have A_reach_of : EV.FunAt _ mg "reach_of" Lw.s_reach_of := EV.DefF.at KX G (by refine' EV.defF ?a ?l ?c ?k; (case a => k_is); (case l => k_is); (case c => k_is); (case k => k_is))
  have A_all_reaches : EV.FunAt _ mg "all_reaches" Lw.s_all_reaches := EV.DefF.at KX G (by refine' EV.defF ?a ?l ?c ?k; (case a => k_is); (case l => k_is); (case c => k_is); (case k => k_is))
  have A_with_word : EV.FunAt _ mg "with_word" Lw.s_with_word := EV.DefF.at KX G (by refine' EV.defF ?a ?l ?c ?k; (case a => k_is); (case l => k_is); (case c => k_is); (case k => k_is))
  have A_candidates_of : EV.FunAt _ mg "candidates_of" Lw.s_candidates_of := EV.DefF.at KX G (by refine' EV.defF ?a ?l ?c ?k; (case a => k_is); (case l => k_is); (case c => k_is); (case k => k_is))
  have A_watched_of : EV.FunAt _ mg "watched_of" Lw.s_watched_of := EV.DefF.at KX G (by refine' EV.defF ?a ?l ?c ?k; (case a => k_is); (case l => k_is); (case c => k_is); (case k => k_is))
  have A_Watch_repr : EV.MethF (EV.kOf KX) EV.cWatch "__repr__" "Watch.__repr__" Lw.s_Watch_repr := by
    delta EV.kOf
    refine' EV.methF KX ?a ?m3 ?l ?c ?k ?fi; (case a => k_is); (case m3 => k_is); (case l => k_is); (case c => k_is); (case k => k_is); (case fi => k_is)
  have A_law_draw : EV.FunAt _ mg "_law_draw" Lw.s_law_draw := EV.DefF.at KX G (by refine' EV.defF ?a ?l ?c ?k; (case a => k_is); (case l => k_is); (case c => k_is); (case k => k_is))
  have A_law_net_of : EV.FunAt _ mg "_law_net_of" Lw.s_law_net_of := EV.DefF.at KX G (by refine' EV.defF ?a ?l ?c ?k; (case a => k_is); (case l => k_is); (case c => k_is); (case k => k_is))
  have A_law_choose : EV.FunAt _ mg "_law_choose" Lw.s_law_choose := EV.DefF.at KX G (by refine' EV.defF ?a ?l ?c ?k; (case a => k_is); (case l => k_is); (case c => k_is); (case k => k_is))
  have A_law_report : EV.FunAt _ mg "_law_report" Lw.s_law_report := EV.DefF.at KX G (by refine' EV.defF ?a ?l ?c ?k; (case a => k_is); (case l => k_is); (case c => k_is); (case k => k_is))
  have A_law_meets : EV.FunAt _ mg "_law_meets" Lw.s_law_meets := EV.DefF.at KX G (by refine' EV.defF ?a ?l ?c ?k; (case a => k_is); (case l => k_is); (case c => k_is); (case k => k_is))
  have A_law_reaches : EV.FunAt _ mg "_law_reaches" Lw.s_law_reaches := EV.DefF.at KX G (by refine' EV.defF ?a ?l ?c ?k; (case a => k_is); (case l => k_is); (case c => k_is); (case k => k_is))
  have A_law_sets : EV.FunAt _ mg "_law_sets" Lw.s_law_sets := EV.DefF.at KX G (by refine' EV.defF ?a ?l ?c ?k; (case a => k_is); (case l => k_is); (case c => k_is); (case k => k_is))
  have A_law_table : EV.FunAt _ mg "_law_table" Lw.s_law_table := EV.DefF.at KX G (by refine' EV.defF ?a ?l ?c ?k; (case a => k_is); (case l => k_is); (case c => k_is); (case k => k_is))
  have A_law_case : EV.FunAt _ mg "_law_case" Lw.s_law_case := EV.DefF.at KX G (by refine' EV.defF ?a ?l ?c ?k; (case a => k_is); (case l => k_is); (case c => k_is); (case k => k_is))
  have A_law_cell : EV.FunAt _ mg "_law_cell" Lw.s_law_cell := EV.DefF.at KX G (by refine' EV.defF ?a ?l ?c ?k; (case a => k_is); (case l => k_is); (case c => k_is); (case k => k_is))
  have A_law_no_nets : EV.FunAt _ mg "_law_no_nets" Lw.s_law_no_nets := EV.DefF.at KX G (by refine' EV.defF ?a ?l ?c ?k; (case a => k_is); (case l => k_is); (case c => k_is); (case k => k_is))
  have A_is_between : EV.FunAt _ mg "is_between" Lw.s_is_between := EV.DefF.at KX G (by refine' EV.defF ?a ?l ?c ?k; (case a => k_is); (case l => k_is); (case c => k_is); (case k => k_is))
  have A_is_rising : EV.FunAt _ mg "is_rising" Lw.s_is_rising := EV.DefF.at KX G (by refine' EV.defF ?a ?l ?c ?k; (case a => k_is); (case l => k_is); (case c => k_is); (case k => k_is))
  have A_is_net : EV.FunAt _ mg "is_net" Lw.s_is_net := EV.DefF.at KX G (by refine' EV.defF ?a ?l ?c ?k; (case a => k_is); (case l => k_is); (case c => k_is); (case k => k_is))
  have A_is_word : EV.FunAt _ mg "is_word" Lw.s_is_word := EV.DefF.at KX G (by refine' EV.defF ?a ?l ?c ?k; (case a => k_is); (case l => k_is); (case c => k_is); (case k => k_is))
  have A_is_report : EV.FunAt _ mg "is_report" Lw.s_is_report := EV.DefF.at KX G (by refine' EV.defF ?a ?l ?c ?k; (case a => k_is); (case l => k_is); (case c => k_is); (case k => k_is))
  have A_need_start : EV.FunAt _ mg "need_start" Lw.s_need_start := EV.DefF.at KX G (by refine' EV.defF ?a ?l ?c ?k; (case a => k_is); (case l => k_is); (case c => k_is); (case k => k_is))
  have A_law_objects : EV.FunAt _ mg "_law_objects" Lw.s_law_objects := EV.DefF.at KX G (by refine' EV.defF ?a ?l ?c ?k; (case a => k_is); (case l => k_is); (case c => k_is); (case k => k_is))
  have A_law_no_reports : EV.FunAt _ mg "_law_no_reports" Lw.s_law_no_reports := EV.DefF.at KX G (by refine' EV.defF ?a ?l ?c ?k; (case a => k_is); (case l => k_is); (case c => k_is); (case k => k_is))
  have A_needed_of : EV.FunAt _ mg "needed_of" Lw.s_needed_of := EV.DefF.at KX G (by refine' EV.defF ?a ?l ?c ?k; (case a => k_is); (case l => k_is); (case c => k_is); (case k => k_is))
  have A_is_explained : EV.FunAt _ mg "is_explained" Lw.s_is_explained := EV.DefF.at KX G (by refine' EV.defF ?a ?l ?c ?k; (case a => k_is); (case l => k_is); (case c => k_is); (case k => k_is))
  have A_need_net : EV.FunAt _ mg "need_net" Lw.s_need_net := EV.DefF.at KX G (by refine' EV.defF ?a ?l ?c ?k; (case a => k_is); (case l => k_is); (case c => k_is); (case k => k_is))
  have A_need_report : EV.FunAt _ mg "need_report" Lw.s_need_report := EV.DefF.at KX G (by refine' EV.defF ?a ?l ?c ?k; (case a => k_is); (case l => k_is); (case c => k_is); (case k => k_is))
  have A_word_of : EV.FunAt _ mg "word_of" Lw.s_word_of := EV.DefF.at KX G (by refine' EV.defF ?a ?l ?c ?k; (case a => k_is); (case l => k_is); (case c => k_is); (case k => k_is))
  have A_certain : EV.FunAt _ mg "certain" Lw.s_certain := EV.DefF.at KX G (by refine' EV.defF ?a ?l ?c ?k; (case a => k_is); (case l => k_is); (case c => k_is); (case k => k_is))
  have A_do_meet : EV.FunAt _ mg "do_meet" Lw.s_do_meet := EV.DefF.at KX G (by refine' EV.defF ?a ?l ?c ?k; (case a => k_is); (case l => k_is); (case c => k_is); (case k => k_is))
  have A_expected_word : EV.FunAt _ mg "expected_word" Lw.s_expected_word := EV.DefF.at KX G (by refine' EV.defF ?a ?l ?c ?k; (case a => k_is); (case l => k_is); (case c => k_is); (case k => k_is))
  have A_expected_of : EV.FunAt _ mg "expected_of" Lw.s_expected_of := EV.DefF.at KX G (by refine' EV.defF ?a ?l ?c ?k; (case a => k_is); (case l => k_is); (case c => k_is); (case k => k_is))
  have A_expected : EV.FunAt _ mg "expected" Lw.s_expected := EV.DefF.at KX G (by refine' EV.defF ?a ?l ?c ?k; (case a => k_is); (case l => k_is); (case c => k_is); (case k => k_is))
  have A_alarms_of : EV.FunAt _ mg "alarms_of" Lw.s_alarms_of := EV.DefF.at KX G (by refine' EV.defF ?a ?l ?c ?k; (case a => k_is); (case l => k_is); (case c => k_is); (case k => k_is))
  have A_does_explain : EV.FunAt _ mg "does_explain" Lw.s_does_explain := EV.DefF.at KX G (by refine' EV.defF ?a ?l ?c ?k; (case a => k_is); (case l => k_is); (case c => k_is); (case k => k_is))
  have A_are_two : EV.FunAt _ mg "are_two" Lw.s_are_two := EV.DefF.at KX G (by refine' EV.defF ?a ?l ?c ?k; (case a => k_is); (case l => k_is); (case c => k_is); (case k => k_is))
  have A_need_component : EV.FunAt _ mg "need_component" Lw.s_need_component := EV.DefF.at KX G (by refine' EV.defF ?a ?l ?c ?k; (case a => k_is); (case l => k_is); (case c => k_is); (case k => k_is))
  have A_need_all : EV.FunAt _ mg "need_all" Lw.s_need_all := EV.DefF.at KX G (by refine' EV.defF ?a ?l ?c ?k; (case a => k_is); (case l => k_is); (case c => k_is); (case k => k_is))
  have A_rulers_of : EV.FunAt _ mg "rulers_of" Lw.s_rulers_of := EV.DefF.at KX G (by refine' EV.defF ?a ?l ?c ?k; (case a => k_is); (case l => k_is); (case c => k_is); (case k => k_is))
  have A_shows_witness : EV.FunAt _ mg "shows_witness" Lw.s_shows_witness := EV.DefF.at KX G (by refine' EV.defF ?a ?l ?c ?k; (case a => k_is); (case l => k_is); (case c => k_is); (case k => k_is))
  have A_witness : EV.FunAt _ mg "witness" Lw.s_witness := EV.DefF.at KX G (by refine' EV.defF ?a ?l ?c ?k; (case a => k_is); (case l => k_is); (case c => k_is); (case k => k_is))
  have A_law_right : EV.FunAt _ mg "_law_right" Lw.s_law_right := EV.DefF.at KX G (by refine' EV.defF ?a ?l ?c ?k; (case a => k_is); (case l => k_is); (case c => k_is); (case k => k_is))
  have A_law_source : EV.FunAt _ mg "_law_source" Lw.s_law_source := EV.DefF.at KX G (by refine' EV.defF ?a ?l ?c ?k; (case a => k_is); (case l => k_is); (case c => k_is); (case k => k_is))
  have A_law : EV.FunAt _ mg "law" Lw.s_law := EV.DefF.at KX G (by refine' EV.defF ?a ?l ?c ?k; (case a => k_is); (case l => k_is); (case c => k_is); (case k => k_is))
  have A_law_said : EV.FunAt _ mg "_law_said" Lw.s_law_said := EV.DefF.at KX G (by refine' EV.defF ?a ?l ?c ?k; (case a => k_is); (case l => k_is); (case c => k_is); (case k => k_is))
  have A_law_kind : EV.FunAt _ mg "_law_kind" Lw.s_law_kind := EV.DefF.at KX G (by refine' EV.defF ?a ?l ?c ?k; (case a => k_is); (case l => k_is); (case c => k_is); (case k => k_is))
  have hV : mg "ValueError" = none := PySem.W.mg_none_of KX G (by k_is)
  have hA : mg "AlarmError" = some (.ref 31) := PySem.W.mg_of KX G (by k_is)
  have hEr : ∀ j y, EV.errsL[j]? = some y → ∃ D, mg y = some (.ref D) ∧ EV.ErrJ _ mg 31 D j := EV.errs_of (Ds := [44, 56, 68, 80, 92, 104, 116, 128, 149, 170]) KX G rfl (by kernel_rfl) (by kernel_rfl) (by kernel_rfl)
  have E_ComponentError : EV.ErrC _ mg "ComponentError" := EV.errC_of (C := 56) KX G (by k_is) (by kernel_rfl)
  have E_NetError : EV.ErrC _ mg "NetError" := EV.errC_of (C := 44) KX G (by k_is) (by kernel_rfl)
  have E_ReportError : EV.ErrC _ mg "ReportError" := EV.errC_of (C := 80) KX G (by k_is) (by kernel_rfl)
  have NA_Net_own_needs := EV.x_na (C := EV.cNet) (x := "own_needs") KX (by kernel_rfl)
  have NA_Watch_kept := EV.x_na (C := EV.cWatch) (x := "kept") KX (by kernel_rfl)
  have NA_Watch_own_net := EV.x_na (C := EV.cWatch) (x := "own_net") KX (by kernel_rfl)
  have NA_Watch_past := EV.x_na (C := EV.cWatch) (x := "past") KX (by kernel_rfl)
  have I_Net : EV.IsCl _ mg "Net" EV.tab_Net := EV.isCl_mk (C := 477) KX G (by k_is) (.own _) (by kernel_rfl) (by kernel_rfl)
  have OC_Net := EV.x_oc (C := EV.cNet) KX (by kernel_rfl) (by kernel_rfl) (by kernel_rfl) (by kernel_rfl) (by kernel_rfl) (by kernel_rfl) (by kernel_rfl) (by kernel_rfl) (by kernel_rfl)
  have CA_Net : EV.ClsAt (EV.kOf KX) mg "Net" EV.cNet "Net.__init__" Lw.s_Net_init [] := by
    delta EV.kOf
    refine' EV.clsAt0 (Cl := 477) KX G ?a OC_Net ?m1 ?m2 ?m3 ?m4 ?l ?c ?k; (case a => k_is); (case m1 => k_is); (case m2 => k_is); (case m3 => k_is); (case m4 => k_is); (case l => k_is); (case c => k_is); (case k => k_is)
  have OC_Watch := EV.x_oc (C := EV.cWatch) KX (by kernel_rfl) (by kernel_rfl) (by kernel_rfl) (by kernel_rfl) (by kernel_rfl) (by kernel_rfl) (by kernel_rfl) (by kernel_rfl) (by kernel_rfl)
  have CA_Watch : EV.ClsAt (EV.kOf KX) mg "Watch" EV.cWatch "Watch.__init__" Lw.s_Watch_init [.non] := by
    delta EV.kOf
    refine' EV.clsAt1 (Cl := 673) KX G ?a OC_Watch ?m1 ?m2 ?m3 ?m4 ?l ?c ?k ?lT; (case a => k_is); (case m1 => k_is); (case m2 => k_is); (case m3 => k_is); (case m4 => k_is); (case l => k_is); (case c => k_is); (case k => k_is); (case lT => k_is)
  have CN_Watch_NAME : EV.ConC (EV.kOf KX) EV.cWatch "NAME" "Watch" := by
    delta EV.kOf
    refine' EV.con_mk KX ?a ?g ?c; (case a => k_is); (case g => k_is); (case c => decide +kernel)
  have MA : EV.MethAt (EV.kOf KX) EV.cWatch "need_fit" "Watch.need_fit" Lw.s_fit := by
    delta EV.kOf
    refine' EV.methAt ?a ?m3 ?l ?c ?k; (case a => k_is); (case m3 => k_is); (case l => k_is); (case c => k_is); (case k => k_is)
  obtain ⟨f, fd, FU, hm⟩ := A_law.ex
  have ef := hmg.symm.trans hm
  cases ef
  have bb := FU.binds (ps := ["_law_script"]) (fun _ _ _ _ _ _ us hl => (by obtain ⟨_, rfl⟩ := EV.lv1 hl; rfl))
  refine ⟨fd, fun s u => ?_, fun base hK hns hTB => ?_⟩
  · obtain ⟨_, _, _, _, _, _, _, _, _, rfl, _, _⟩ := FU.ex
    exact .of_eq rfl
  · have A_law_words : EV.FunL (EV.kOf KX) mg base "_law_words" Lw.s_law_words := by
      delta EV.kOf
      refine' EV.funL (T := 779) KX G (hTB (783, 779) (by decide)) ?a ?l ?c ?k ?lb ?u ?m; (case a => k_is); (case l => k_is); (case c => k_is); (case k => k_is); (case lb => kernel_rfl); (case u => kernel_rfl); (case m => decide +kernel)
    exact Lw.end_law B c_ALARM c_BROKEN c_MOST_COMPONENTS c_OPEN c_QUIET c_UNSEEN c_WHOLE c_WORDS A_Net_repr A_reach_of A_all_reaches A_with_word A_candidates_of A_watched_of A_Watch_repr A_law_draw A_law_net_of A_law_choose A_law_report A_law_meets A_law_reaches A_law_sets A_law_table A_law_case A_law_cell A_law_no_nets A_is_between A_is_rising A_is_net A_is_word A_is_report A_need_start A_law_objects A_law_no_reports A_needed_of A_is_explained A_need_net A_need_report A_word_of A_certain A_do_meet A_expected_word A_expected_of A_expected A_alarms_of A_does_explain A_are_two A_need_component A_need_all A_rulers_of A_shows_witness A_witness A_law_words A_law_right A_law_source E_ComponentError E_NetError E_ReportError NA_Net_own_needs NA_Watch_kept NA_Watch_own_net NA_Watch_past I_Net OC_Net CA_Net OC_Watch CA_Watch CN_Watch_NAME MA hV hA hEr A_law_said A_law_kind FU
