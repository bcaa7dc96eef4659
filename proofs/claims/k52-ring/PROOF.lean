import PyProof.Rows.All
import Wide.All
import OpenK.AllK
import Wide.FinOn
import HandS.ForMost
import HandS.ForExc
import HandS.CallSlots
import HandS.IsInst
import HandS.Lambda
import HandS.Deep
import HandS.TupAny
import HandS.SortInts
import HandS.Zip
import KE.DatumIndex
import KE.GoesEnum
import HandS.Style
import HandS.Set
import HandS.SetFor
import HandS.Strs
import HandS.Conv
import KE.SortData
import HandS.Star
import KE.DataFind
import KE.DataMinMax
import HandS.TupSets
import HandS.GenList
import PyProof.Rows.RowBridgeK
import PyProof.Rows.MatchSeqLen
import PyProof.RulesMatchSeq
import HandS.TupMul
import HandS.TupLe
import HandS.SetBool
import HandS.Dict
import HandS.Walk
import HandS.Sort
import HandS.DictTup
import KE.KDictCopyH
import KE.KDictZip
import KE.GoesZip
import HandS.ExcOwn
import PyProof.ExcBaseAll.ValueError
import HandS.HotCalls
import HandS.ExcIs
import HandS.Defaults
import KE.KOpsOwn
import HandS.Property
import HandS.TryMany
import HandS.ClsMeth
import HandS.FStr
import HandS.Text
import HandS.RaiseMore
import PyProof.ReprBulk
import PySem.Challenge.RW_rootalarms_k52_nets_in_a_ring
set_option Elab.async false
set_option linter.all false
set_option maxRecDepth 100000
namespace EV
/-- the defs of this law that make lambdas -/
def lamNames : List PySem.Str := ["law"]
end EV

/-! EV: a layer over HandS: expressions and statements read as small functions over data trees. -/
namespace EV
open PySem PySem.Spec PyProof.Rows L2

/-- data trees -/
inductive D where
  | non | bl (b : Bool) | int (i : Int) | str (x : Str)
  | tup (xs : List D) | lst (xs : List D)
  | dct (kvs : List (D × D)) | obj (C : Addr) (fs : List (Str × D))

structure Ex where
  name : Str
  fs : List (Str × D)

/-- results, with the state of the pen -/
inductive R (α : Type) where
  | ok (a : α) (s : List Int) | exc (e : Ex) | bad

def PM (α : Type) : Type := List Int → R α
def PM.pure {α : Type} (a : α) : PM α := fun s => .ok a s
def PM.bind {α β : Type} (m : PM α) (f : α → PM β) : PM β := fun s => match m s with
  | .ok a s1 => f a s1
  | .exc e => .exc e
  | .bad => .bad
instance : Monad PM where
  pure := PM.pure
  bind := PM.bind
theorem PM.pure_def {α : Type} (a : α) : (Pure.pure a : PM α) = fun s => .ok a s := rfl
theorem PM.bind_def {α β : Type} (m : PM α) (f : α → PM β) (s : List Int) : (m >>= f) s = match m s with
  | .ok a s1 => f a s1
  | .exc e => .exc e
  | .bad => .bad := rfl
instance : LawfulMonad PM := LawfulMonad.mk'
  (id_map := fun x => by
    funext s
    show PM.bind x (fun a => PM.pure a) s = x s
    unfold PM.bind PM.pure
    cases x s <;> rfl)
  (pure_bind := fun _ _ => rfl)
  (bind_assoc := fun x f g => by
    funext s
    show PM.bind (PM.bind x f) g s = PM.bind x (fun a => PM.bind (f a) g) s
    unfold PM.bind
    cases x s <;> rfl)
  (bind_pure_comp := fun _ _ => rfl)
def bad {α : Type} : PM α := fun _ => .bad
def raiseP {α : Type} (e : Ex) : PM α := fun _ => .exc e
theorem bad_bind {α β : Type} (f : α → PM β) : (bad >>= f) = bad := rfl
/-- a def without the pen -/
def run0 {α : Type} (m : PM α) : PM α := fun s => match m [] with
  | .ok a _ => .ok a s
  | .exc e => .exc e
  | .bad => .bad
theorem run0_pure {α : Type} (a : α) : run0 (Pure.pure a) = Pure.pure a := rfl

/-- the object of a tuple without a dict -/
structure TupO where
  ob : Obj
  cls : ob.cls = .type "tuple"
  dict : ob.dict = none
inductive DSh where
  | t (ks : List (List Int)) | k (ks : List Int) | tu (n : Nat) | tn (o : Unit → TupO) (n : Nat) | ins (x C dx : Addr) (ks : List Str)
/-- a dict with keys of this shape: tuples of ints; ints; or a tuple that was made here -/
def DSh.ho : DSh → List V → HO
  | .t ks, vs => .dT ((ks.map fun r => r.map Sum.inl).zip vs)
  | .k ks, vs => .dK ((ks.map Sum.inl).zip vs)
  | .tu _, vs => .tup vs
  | .tn o _, vs => .frz (o ()).ob (.tup vs)
  | .ins _ C dx ks, vs => .ins C dx (ks.zip vs)
/-- an instance that is being made: where it is -/
def DSh.at : DSh → Addr → Prop
  | .ins x _ _ _, p => p = x
  | _, _ => True
def DSh.len : DSh → Nat
  | .t ks => ks.length
  | .k ks => ks.length
  | .tu n => n
  | .tn _ n => n
  | .ins _ _ _ ks => ks.length
theorem DSh.notLst {sh : DSh} {vs xs : List V} (h : sh.ho vs = .lst xs) : False := by
  cases sh <;> cases h
/-- the keys, as trees (of dicts alone) -/
def DSh.keysD : DSh → Option (List D)
  | .t ks => some (ks.map fun r => .tup (r.map .int))
  | .k ks => some (ks.map .int)
  | .tu _ => none
  | .tn _ _ => none
  | .ins _ _ _ _ => none
theorem DSh.notTbl {sh : DSh} {vs : List V} {ps : Array Value} (h : sh.ho vs = .tbl ps) : False := by
  cases sh <;> cases h
theorem DSh.notExt {sh : DSh} {vs : List V} {φ : Heap → Prop} (h : sh.ho vs = .ext φ) : False := by
  cases sh <;> cases h
/-! ### tables of code objects -/
/-- the code object at c is known, its name is n, its table is at P; q is the name of its lambdas -/
def TabOf (K : PySem.W.Frag) (P : Addr) (q : Str) : Prop := ∃ (c : Addr) (o : Obj) (vs : Array Value) (n : Str) (t : Tok), K.lookup c = some o ∧ o.data = .fields vs ∧ vs[1]? = some (.str n t) ∧ vs[11]? = some (.ref P) ∧ q = (n ++ ".<locals>.") ++ "<lambda>"
/-- the name of the lambdas of the table at P -/
noncomputable def tauK (K : PySem.W.Frag) (P : Addr) : Str := @dite _ (∃ q, TabOf K P q) (Classical.propDecidable _) (fun h => Classical.choose h) fun _ => ""
theorem tauK_of {K : PySem.W.Frag} {P : Addr} {q : Str} (h : TabOf K P q) (u : ∀ q', TabOf K P q' → q' = q) : tauK K P = q := by
  unfold tauK
  rw [dif_pos ⟨q, h⟩]
  exact u _ (Classical.choose_spec (⟨q, h⟩ : ∃ q, TabOf K P q))
/-- the table at P is that of a def which makes lambdas -/
def NeedT (K : PySem.W.Frag) (P : Addr) : Prop := ∃ (c : Addr) (o : Obj) (vs : Array Value) (n : Str) (t : Tok), K.lookup c = some o ∧ o.data = .fields vs ∧ vs[1]? = some (.str n t) ∧ vs[11]? = some (.ref P) ∧ n ∈ lamNames
/-- the tracked tables are right; those of makers of lambdas are tracked -/
structure TabK (K : PySem.W.Frag) (H : Hp) : Prop where
  ok : ∀ P ps, H P = some (.tbl ps) → LamX.TabS H P (tauK K P)
  on : ∀ P, NeedT K P → ∃ ps, H P = some (.tbl ps)
theorem TabK.keep {K : PySem.W.Frag} {H H' : Hp} (h : TabK K H) (ht : ∀ P ps, H' P = some (.tbl ps) → H P = some (.tbl ps)) (he : ∀ c φ, H c = some (.ext φ) → H' c = some (.ext φ)) (hq : ∀ P ps, H P = some (.tbl ps) → H' P = some (.tbl ps)) : TabK K H' := ⟨fun P ps e => by
  obtain ⟨ps', h1, h2, h3⟩ := h.ok P ps (ht P ps e)
  rw [ht P ps e] at h1
  cases h1
  refine ⟨ps, e, h2, fun pos cv hc => ?_⟩
  obtain ⟨c, e1, e2⟩ := h3 pos cv hc
  exact ⟨c, e1, he c _ e2⟩, fun P n => by
  obtain ⟨ps, e⟩ := h.on P n
  exact ⟨ps, hq P ps e⟩⟩
theorem TabK.upd {K : PySem.W.Frag} {H : Hp} (h : TabK K H) {p : Addr} {o : HO} (ho : ∀ ps, o ≠ .tbl ps) (hp : ∀ φ, H p ≠ some (.ext φ)) (hq : ∀ ps, H p ≠ some (.tbl ps)) : TabK K (L2.upd H p o) := h.keep (fun P ps e => by
  by_cases z : P = p
  · subst z
    rw [upd_same] at e
    exact absurd (Option.some.inj e) (ho ps)
  · rw [upd_ne z] at e
    exact e) (fun c φ e => by
  rw [upd_ne (fun z : c = p => hp φ (by rw [← z]; exact e))]
  exact e) fun c ps e => by
  rw [upd_ne (fun z : c = p => hq ps (by rw [← z]; exact e))]
  exact e
theorem TabK.updL {K : PySem.W.Frag} {H : Hp} (h : TabK K H) {p : Addr} {ws vs : List V} (hp : H p = some (.lst ws)) : TabK K (L2.upd H p (.lst vs)) := h.upd (fun _ z => by cases z) (fun φ z => by
  rw [hp] at z
  cases z) fun ps z => by
  rw [hp] at z
  cases z
/-- no table is public -/
def NoT (G : Hp) : Prop := ∀ P ps, G P ≠ some (.tbl ps)
theorem NoT.upd {G : Hp} (h : NoT G) {p : Addr} {o : HO} (ho : ∀ ps, o ≠ .tbl ps) : NoT (L2.upd G p o) := fun P ps e => by
  by_cases z : P = p
  · subst z
    rw [upd_same] at e
    exact ho ps (Option.some.inj e)
  · rw [upd_ne z] at e
    exact h P ps e
theorem nt_lst (xs : List V) : ∀ ps, HO.lst xs ≠ .tbl ps := fun _ z => by cases z
/-- what is asked of an own class -/
structure ObjC (K : PySem.W.Frag) (C : Addr) : Prop where
  cl : Cls K C
  ha : PySem.W.findIn K (.ref C) "__class__" = some (some (.builtin "object.__class__"))
  hn : PySem.W.specialIn K (.builtin "object.__class__") "__get__" = some (some (.builtin "getset_descriptor.__get__"))
  htk : PySem.W.takesIn K (.builtin "object.__class__") = some true
  hm : PySem.W.mroIn K C (.type "object") = some true
  bt : ∀ T ∈ ["int", "bool", "tuple", "str", "list"], PySem.W.kitOne K (.ref C) (.type T) = some false
/-! ### a value reads as a tree -/
inductive Rp (K : PySem.W.Frag) (G : Hp) : V → D → Prop
  | non : Rp K G .non .non
  | bl (b : Bool) : Rp K G (.bl b) (.bl b)
  | int (i : Int) : Rp K G (.int i) (.int i)
  | str (x : Str) : Rp K G (.str x) (.str x)
  | lst {a : Addr} {xs : List V} {ds : List D} (h : G a = some (.lst xs)) (n : xs.length = ds.length) (r : ∀ (i : Nat) v d, xs[i]? = some v → ds[i]? = some d → Rp K G v d) : Rp K G (.ref a) (.lst ds)
  | tup {a : Addr} {xs : List V} {ds : List D} (h : SqT K G a xs) (n : xs.length = ds.length) (r : ∀ (i : Nat) v d, xs[i]? = some v → ds[i]? = some d → Rp K G v d) : Rp K G (.ref a) (.tup ds)
  | dct {a : Addr} {sh : DSh} {vs : List V} {kvs : List (D × D)} (h : G a = some (sh.ho vs)) (hk : sh.keysD = some (kvs.map (·.1))) (n : vs.length = kvs.length) (r : ∀ (i : Nat) v d, vs[i]? = some v → kvs[i]? = some d → Rp K G v d.2) : Rp K G (.ref a) (.dct kvs)
  | obj {a C dx : Addr} {fvs : List (Str × V)} {fs : List (Str × D)} (h : G a = some (.ins C dx fvs)) (hc : ObjC K C) (hk : fvs.map (·.1) = fs.map (·.1)) (r : ∀ (i : Nat) (v : Str × V) (d : Str × D), fvs[i]? = some v → fs[i]? = some d → Rp K G v.2 d.2) : Rp K G (.ref a) (.obj C fs)
/-- lists of them -/
def RpL (K : PySem.W.Frag) (G : Hp) (vs : List V) (ds : List D) : Prop := vs.length = ds.length ∧ ∀ (i : Nat) v d, vs[i]? = some v → ds[i]? = some d → Rp K G v d

section
variable {K : PySem.W.Frag} {G G' : Hp}
theorem sameT {a : Addr} {xs : List V} (e : Same G G') (h : SqT K G a xs) : SqT K G' a xs := by
  rcases h with (h | ⟨o, h⟩) | h
  · exact .inl (.inl (e _ _ h))
  · exact .inl (.inr ⟨o, e _ _ h⟩)
  · exact .inr h
theorem Rp.mono (e : Same G G') {v : V} {d : D} (h : Rp K G v d) : Rp K G' v d := by
  induction h with
  | non => exact .non
  | bl b => exact .bl b
  | int i => exact .int i
  | str x => exact .str x
  | lst h n _ ih => exact .lst (e _ _ h) n ih
  | tup h n _ ih => exact .tup (sameT e h) n ih
  | dct h hk n _ ih => exact .dct (e _ _ h) hk n ih
  | obj h hc hk _ ih => exact .obj (e _ _ h) hc hk ih
theorem RpL.mono (e : Same G G') {vs : List V} {ds : List D} (h : RpL K G vs ds) : RpL K G' vs ds := ⟨h.1, fun i v d h1 h2 => (h.2 i v d h1 h2).mono e⟩
theorem RpL.nil : RpL K G [] [] := ⟨rfl, fun i v d h _ => by simp at h⟩
theorem RpL.cons {v : V} {vs : List V} {d : D} {ds : List D} (h : Rp K G v d) (t : RpL K G vs ds) : RpL K G (v :: vs) (d :: ds) := by
  refine ⟨by simp [t.1], fun i w e h1 h2 => ?_⟩
  cases i with
  | zero => simp at h1 h2; subst h1; subst h2; exact h
  | succ i => exact t.2 i w e (by simpa using h1) (by simpa using h2)
theorem RpL.tail {v : V} {vs : List V} {d : D} {ds : List D} (h : RpL K G (v :: vs) (d :: ds)) : Rp K G v d ∧ RpL K G vs ds :=
  ⟨h.2 0 v d rfl rfl, by simpa using h.1, fun i w e h1 h2 => h.2 (i + 1) w e (by simpa using h1) (by simpa using h2)⟩
theorem RpL.app {vs ws : List V} {ds es : List D} (h : RpL K G vs ds) (t : RpL K G ws es) : RpL K G (vs ++ ws) (ds ++ es) := by
  refine ⟨by simp [h.1, t.1], fun i w e h1 h2 => ?_⟩
  by_cases hi : i < vs.length
  · rw [List.getElem?_append_left hi] at h1
    rw [List.getElem?_append_left (by rw [← h.1]; exact hi)] at h2
    exact h.2 i w e h1 h2
  · rw [List.getElem?_append_right (by omega)] at h1
    rw [List.getElem?_append_right (by rw [← h.1]; omega)] at h2
    exact t.2 (i - vs.length) w e h1 (by rw [h.1]; exact h2)
theorem RpL.get {vs : List V} {ds : List D} (h : RpL K G vs ds) {i : Nat} {d : D} (e : ds[i]? = some d) : ∃ v, vs[i]? = some v ∧ Rp K G v d := by
  have hi : i < vs.length := by
    rw [h.1]
    exact (List.getElem?_eq_some_iff.mp e).1
  exact ⟨vs[i], List.getElem?_eq_getElem hi, h.2 i _ d (List.getElem?_eq_getElem hi) e⟩
theorem RpL.getV {vs : List V} {ds : List D} (h : RpL K G vs ds) {i : Nat} {v : V} (e : vs[i]? = some v) : ∃ d, ds[i]? = some d ∧ Rp K G v d := by
  have hi : i < ds.length := by
    rw [← h.1]
    exact (List.getElem?_eq_some_iff.mp e).1
  exact ⟨ds[i], List.getElem?_eq_getElem hi, h.2 i v _ e (List.getElem?_eq_getElem hi)⟩
theorem RpL.take {vs : List V} {ds : List D} (h : RpL K G vs ds) (n : Nat) : RpL K G (vs.take n) (ds.take n) := by
  refine ⟨by simp [h.1], fun i v d h1 h2 => ?_⟩
  by_cases hi : i < n
  · rw [List.getElem?_take_of_lt hi] at h1 h2
    exact h.2 i v d h1 h2
  · rw [List.getElem?_take, if_neg hi] at h1
    cases h1
theorem RpL.drop {vs : List V} {ds : List D} (h : RpL K G vs ds) (n : Nat) : RpL K G (vs.drop n) (ds.drop n) := by
  refine ⟨by simp [h.1], fun i v d h1 h2 => ?_⟩
  rw [List.getElem?_drop] at h1 h2
  exact h.2 _ v d h1 h2
theorem RpL.map_of {α : Type} {f : α → V} {g : α → D} : ∀ (xs : List α), (∀ x ∈ xs, Rp K G (f x) (g x)) → RpL K G (xs.map f) (xs.map g)
  | [], _ => .nil
  | x :: xs, h => .cons (h x List.mem_cons_self) (RpL.map_of xs fun y hy => h y (List.mem_cons_of_mem _ hy))
theorem Rp.lstE {v : V} {ds : List D} (h : Rp K G v (.lst ds)) : ∃ a xs, v = .ref a ∧ G a = some (.lst xs) ∧ RpL K G xs ds := by
  cases h with
  | lst h n r => exact ⟨_, _, rfl, h, n, r⟩
theorem Rp.tupE {v : V} {ds : List D} (h : Rp K G v (.tup ds)) : ∃ a xs, v = .ref a ∧ SqT K G a xs ∧ RpL K G xs ds := by
  cases h with
  | tup h n r => exact ⟨_, _, rfl, h, n, r⟩
theorem Rp.mkL {a : Addr} {xs : List V} {ds : List D} (h : G a = some (.lst xs)) (r : RpL K G xs ds) : Rp K G (.ref a) (.lst ds) := .lst h r.1 r.2
theorem Rp.mkT {a : Addr} {xs : List V} {ds : List D} (h : SqT K G a xs) (r : RpL K G xs ds) : Rp K G (.ref a) (.tup ds) := .tup h r.1 r.2
end

/-! ### heaps -/
structure Ext (K : PySem.W.Frag) (pa : Option Addr) (G H G' H' : Hp) : Prop where
  g : Same G G'
  hh : ∀ a o, H a = some o → pa ≠ some a → (∀ ps, o ≠ .tbl ps) → H' a = some o
  t : ∀ a o, H a = some o → ∃ o', H' a = some o'
  n : ∀ a o, H a = some o → G a = none → G' a = none
  sub : Same G' H'
  tk : TabK K H → TabK K H'
  gt : NoT G → NoT G'
theorem Ext.h {K : PySem.W.Frag} {pa : Option Addr} {G H G' H' : Hp} (x : Ext K pa G H G' H') (a : Addr) (o : HO) (e : H a = some o) (n : pa ≠ some a) (t : ∀ ps, o ≠ .tbl ps := by intro _ z; cases z) : H' a = some o := x.hh a o e n t
section
variable {K : PySem.W.Frag} {pa : Option Addr} {G H G1 H1 G2 H2 : Hp}
theorem Ext.refl (h : Same G H) : Ext K pa G H G H := ⟨Same.refl G, fun _ _ e _ _ => e, fun _ o e => ⟨o, e⟩, fun _ _ _ e => e, h, fun h => h, fun h => h⟩
theorem Ext.trans (a : Ext K pa G H G1 H1) (b : Ext K pa G1 H1 G2 H2) : Ext K pa G H G2 H2 :=
  ⟨a.g.trans b.g, fun c o e n t => b.h c o (a.h c o e n t) n t, fun c o e => by
    obtain ⟨o', e'⟩ := a.t c o e
    exact b.t c o' e', fun c o e n => by
    obtain ⟨o', e'⟩ := a.t c o e
    exact b.n c o' e' (a.n c o e n), b.sub, fun h => b.tk (a.tk h), fun h => b.gt (a.gt h)⟩
/-- a new object is laid, and public -/
theorem Ext.new (hs : Same G H) {p : Addr} (hp : H p = none) (o : HO) (ot : ∀ ps, o ≠ .tbl ps := by intro _ z; cases z) : Ext K pa G H (upd G p o) (upd H p o) := by
  have hg : G p = none := hs.free hp
  refine ⟨fun b x e => ?_, fun a x e _ _ => ?_, fun a x e => ⟨x, ?_⟩, fun a x e n => ?_, fun b x e => ?_, fun h => h.upd ot (fun φ z => by rw [hp] at z; cases z) (fun φ z => by rw [hp] at z; cases z), fun h => h.upd ot⟩
  · rw [upd_ne (ne_of_none e hg)]; exact e
  · rw [upd_ne (ne_of_none e hp)]; exact e
  · rw [upd_ne (ne_of_none e hp)]; exact e
  · rw [upd_ne (ne_of_none e hp)]; exact n
  · by_cases hb : b = p
    · subst hb
      rw [upd_same] at e ⊢
      exact e
    · rw [upd_ne hb] at e ⊢
      exact hs _ _ e
/-- a new object is laid, not public -/
theorem Ext.newH (hs : Same G H) {p : Addr} (hp : H p = none) (o : HO) (ot : ∀ ps, o ≠ .tbl ps := by intro _ z; cases z) : Ext K pa G H G (upd H p o) := by
  refine ⟨Same.refl G, fun a x e _ _ => ?_, fun a x e => ⟨x, ?_⟩, fun _ _ _ n => n, fun b x e => ?_, fun h => h.upd ot (fun φ z => by rw [hp] at z; cases z) (fun φ z => by rw [hp] at z; cases z), fun h => h⟩
  · rw [upd_ne (ne_of_none e hp)]; exact e
  · rw [upd_ne (ne_of_none e hp)]; exact e
  · have e' := hs _ _ e
    rw [upd_ne (ne_of_none e' hp)]; exact e'
end

def PenOk (pa : Option Addr) (G H : Hp) (s : List Int) : Prop := ∀ p, pa = some p → G p = none ∧ H p = some (.lst (s.map V.int))
theorem PenOk.none {G H : Hp} {s : List Int} : PenOk none G H s := fun p e => by cases e
theorem PenOk.upd {pa : Option Addr} {G H : Hp} {s : List Int} (h : PenOk pa G H s) {p : Addr} (hp : H p = Option.none) (o : HO) : PenOk pa (upd G p o) (upd H p o) s := fun q e => by
  obtain ⟨h1, h2⟩ := h q e
  have ne : q ≠ p := ne_of_none h2 hp
  rw [upd_ne ne, upd_ne ne]
  exact ⟨h1, h2⟩
theorem PenOk.updH {pa : Option Addr} {G H : Hp} {s : List Int} (h : PenOk pa G H s) {p : Addr} (hp : H p = Option.none) (o : HO) : PenOk pa G (L2.upd H p o) s := fun q e => by
  obtain ⟨h1, h2⟩ := h q e
  rw [upd_ne (ne_of_none h2 hp)]
  exact ⟨h1, h2⟩

/-- what is known of a slot -/
inductive Sl where
  | junk | val (d : D) | own (xs : List D) | pen | scr (ns : List Int) | dic (sh : DSh) (xs : List D) | ro (sh : DSh) (xs : List D)
def plainS : Sl → Bool
  | .dic _ _ => false
  | .ro _ _ => false
  | _ => true
theorem plain_dic {z : Sl} {sh : DSh} {xs : List D} (h : plainS z = true) (e : z = .dic sh xs) : False := by
  rw [e] at h
  cases h
theorem plain_ro {z : Sl} {sh : DSh} {xs : List D} (h : plainS z = true) (e : z = .ro sh xs) : False := by
  rw [e] at h
  cases h
/-- slots that hold dicts: one's own (dic), one that stays as it is (ro) -/
structure NvX (K : PySem.W.Frag) (H0 G H : Hp) (σ : L2.St) (Γ : List Sl) : Prop where
  dic : ∀ (i : Nat) sh xs, Γ[i]? = some (.dic sh xs) → ∃ p vs, σ[i]? = some (some (.ref p)) ∧ H p = some (sh.ho vs) ∧ G p = none ∧ RpL K G vs xs ∧ sh.len = xs.length ∧ H0 p = none ∧ sh.at p
  inj : ∀ (i j : Nat) p sh xs sh' ys, Γ[i]? = some (.dic sh xs) → Γ[j]? = some (.dic sh' ys) → σ[i]? = some (some (.ref p)) → σ[j]? = some (some (.ref p)) → i = j
  ro : ∀ (i : Nat) sh xs, Γ[i]? = some (.ro sh xs) → ∃ p vs, σ[i]? = some (some (.ref p)) ∧ G p = some (sh.ho vs) ∧ RpL K G vs xs ∧ sh.len = xs.length
  t0 : TabK K H0
  nt : NoT G
section
variable {K : PySem.W.Frag} {pa : Option Addr} {H0 G H G' H' : Hp} {σ : L2.St} {Γ : List Sl} {s : List Int}
theorem NvX.none (h : ∀ z ∈ Γ, plainS z = true) (t0 : TabK K H0) (nt : NoT G) : NvX K H0 G H σ Γ := ⟨fun i sh xs e => (plain_dic (h _ (List.mem_of_getElem? e)) rfl).elim, fun i j p sh xs sh' ys e => (plain_dic (h _ (List.mem_of_getElem? e)) rfl).elim, fun i sh xs e => (plain_ro (h _ (List.mem_of_getElem? e)) rfl).elim, t0, nt⟩
theorem NvX.step (E : NvX K H0 G H σ Γ) (x : Ext K pa G H G' H') (ps : PenOk pa G H s) : NvX K H0 G' H' σ Γ := ⟨fun i sh xs e => by
    obtain ⟨p, vs, h1, h2, h3, h4, h5, h6⟩ := E.dic i sh xs e
    refine ⟨p, vs, h1, x.h _ _ h2 (fun z => ?_) (fun _ z => DSh.notTbl z), x.n _ _ h2 h3, h4.mono x.g, h5, h6⟩
    have q := (ps p z).2
    rw [h2] at q
    exact DSh.notLst (Option.some.inj q), E.inj, fun i sh xs e => by
    obtain ⟨p, vs, h1, h2, h3, h4⟩ := E.ro i sh xs e
    exact ⟨p, vs, h1, x.g _ _ h2, h3.mono x.g, h4⟩, E.t0, x.gt E.nt⟩
theorem set_plain {z w : Sl} {i j : Nat} (hz : plainS z = true) (hw : plainS w = false) (e : (Γ.set i z)[j]? = some w) : i ≠ j ∧ Γ[j]? = some w := by
  by_cases hj : i = j
  · subst hj
    have hi := (List.getElem?_eq_some_iff.mp e).1
    rw [List.getElem?_set_self (by simpa using hi)] at e
    rw [Option.some.inj e] at hz
    rw [hz] at hw
    cases hw
  · rw [List.getElem?_set_ne hj] at e
    exact ⟨hj, e⟩
theorem NvX.put (E : NvX K H0 G H σ Γ) (i : Nat) {o : Option V} {z : Sl} (hz : plainS z = true) : NvX K H0 G H (σ.set i o) (Γ.set i z) := ⟨fun j sh xs e => by
    obtain ⟨ne, e⟩ := set_plain hz rfl e
    rw [List.getElem?_set_ne ne]
    exact E.dic j sh xs e, fun j l p sh xs sh' ys e1 e2 => by
    obtain ⟨n1, e1⟩ := set_plain hz rfl e1
    obtain ⟨n2, e2⟩ := set_plain hz rfl e2
    rw [List.getElem?_set_ne n1, List.getElem?_set_ne n2]
    exact E.inj j l p sh xs sh' ys e1 e2, fun j sh xs e => by
    obtain ⟨ne, e⟩ := set_plain hz rfl e
    rw [List.getElem?_set_ne ne]
    exact E.ro j sh xs e, E.t0, E.nt⟩
theorem NvX.putG (E : NvX K H0 G H σ Γ) (i : Nat) {z : Sl} (hz : plainS z = true) : NvX K H0 G H σ (Γ.set i z) := ⟨fun j sh xs e => by
    obtain ⟨ne, e⟩ := set_plain hz rfl e
    exact E.dic j sh xs e, fun j l p sh xs sh' ys e1 e2 => by
    obtain ⟨n1, e1⟩ := set_plain hz rfl e1
    obtain ⟨n2, e2⟩ := set_plain hz rfl e2
    exact E.inj j l p sh xs sh' ys e1 e2, fun j sh xs e => by
    obtain ⟨ne, e⟩ := set_plain hz rfl e
    exact E.ro j sh xs e, E.t0, E.nt⟩
theorem NvX.updL (E : NvX K H0 G H σ Γ) {p : Addr} {ws : List V} {o : HO} (hp : H p = some (.lst ws)) : NvX K H0 G (upd H p o) σ Γ := ⟨fun i sh xs e => by
    obtain ⟨q, vs, h1, h2, h3⟩ := E.dic i sh xs e
    have ne : q ≠ p := fun z => by
      rw [z, hp] at h2
      exact DSh.notLst (Option.some.inj h2).symm
    exact ⟨q, vs, h1, by rw [upd_ne ne]; exact h2, h3⟩, E.inj, E.ro, E.t0, E.nt⟩
theorem NvX.pubL (E : NvX K H0 G H σ Γ) {p : Addr} {ws : List V} (hp : H p = some (.lst ws)) (hg : G p = Option.none) : NvX K H0 (upd G p (.lst ws)) H σ Γ := by
  have sg : Same G (upd G p (.lst ws)) := fun a o e => by
    rw [upd_ne (ne_of_none e hg)]
    exact e
  refine ⟨fun i sh xs e => ?_, E.inj, fun i sh xs e => ?_, E.t0, E.nt.upd (nt_lst _)⟩
  · obtain ⟨q, vs, h1, h2, h3, h4, h5⟩ := E.dic i sh xs e
    have ne : q ≠ p := fun z => by
      rw [z, hp] at h2
      exact DSh.notLst (Option.some.inj h2).symm
    exact ⟨q, vs, h1, h2, by rw [upd_ne ne]; exact h3, h4.mono sg, h5⟩
  · obtain ⟨q, vs, h1, h2, h3, h4⟩ := E.ro i sh xs e
    exact ⟨q, vs, h1, sg _ _ h2, h3.mono sg, h4⟩
end

structure Nv (K : PySem.W.Frag) (pa : Option Addr) (G0 H0 G H : Hp) (σ : L2.St) (Γ : List Sl) (s : List Int) : Prop where
  len : Γ.length = σ.length
  val : ∀ (i : Nat) d, Γ[i]? = some (.val d) → ∃ v, σ[i]? = some (some v) ∧ Rp K G v d
  own : ∀ (i : Nat) xs, Γ[i]? = some (.own xs) → ∃ p vs, σ[i]? = some (some (.ref p)) ∧ H p = some (.lst vs) ∧ G p = none ∧ RpL K G vs xs ∧ H0 p = none ∧ pa ≠ some p
  inj : ∀ (i j : Nat) p xs ys, Γ[i]? = some (.own xs) → Γ[j]? = some (.own ys) → σ[i]? = some (some (.ref p)) → σ[j]? = some (some (.ref p)) → i = j
  pen : ∀ (i : Nat), Γ[i]? = some .pen → ∃ p, pa = some p ∧ σ[i]? = some (some (.ref p))
  scr : ∀ (i : Nat) ns, Γ[i]? = some (.scr ns) → ∃ a, σ[i]? = some (some (.ref a)) ∧ SqL K G a (ns.map V.int)
  ps : PenOk pa G H s
  ext : Ext K pa G0 H0 G H
  x : NvX K H0 G H σ Γ

section
variable {K : PySem.W.Frag} {pa : Option Addr} {G0 H0 G H G' H' : Hp} {σ : L2.St} {Γ : List Sl} {s s' : List Int}
theorem Nv.step (E : Nv K pa G0 H0 G H σ Γ s) (x : Ext K pa G H G' H') (p : PenOk pa G' H' s') : Nv K pa G0 H0 G' H' σ Γ s' where
  len := E.len
  val := fun i d e => by
    obtain ⟨v, h1, h2⟩ := E.val i d e
    exact ⟨v, h1, h2.mono x.g⟩
  own := fun i xs e => by
    obtain ⟨p, vs, h1, h2, h3, h4, h5, h6⟩ := E.own i xs e
    exact ⟨p, vs, h1, x.h _ _ h2 h6, x.n _ _ h2 h3, h4.mono x.g, h5, h6⟩
  inj := E.inj
  pen := E.pen
  scr := fun i ns e => by
    obtain ⟨a, h1, h2⟩ := E.scr i ns e
    exact ⟨a, h1, x.g.seq h2⟩
  ps := p
  ext := E.ext.trans x
  x := E.x.step x E.ps
theorem Nv.sub (E : Nv K pa G0 H0 G H σ Γ s) : Same G H := E.ext.sub
/-- a slot holds a value -/
theorem Nv.set (E : Nv K pa G0 H0 G H σ Γ s) {v : V} {d : D} (i : Nat) (r : Rp K G v d) : Nv K pa G0 H0 G H (σ.set i (some v)) (Γ.set i (.val d)) s where
  len := by simp [E.len]
  val := fun j d' e => by
    by_cases hj : i = j
    · subst hj
      have hi : i < Γ.length := by
        have := (List.getElem?_eq_some_iff.mp e).1
        simpa using this
      rw [List.getElem?_set_self hi] at e
      cases e
      exact ⟨v, List.getElem?_set_self (by rw [← E.len]; exact hi), r⟩
    · rw [List.getElem?_set_ne hj] at e
      rw [List.getElem?_set_ne hj]
      exact E.val j d' e
  own := fun j xs e => by
    by_cases hj : i = j
    · subst hj
      have hi : i < Γ.length := by
        have := (List.getElem?_eq_some_iff.mp e).1
        simpa using this
      rw [List.getElem?_set_self hi] at e
      cases e
    · rw [List.getElem?_set_ne hj] at e
      rw [List.getElem?_set_ne hj]
      exact E.own j xs e
  inj := fun j k p xs ys e1 e2 => by
    by_cases hj : i = j
    · subst hj
      have hi : i < Γ.length := by
        have := (List.getElem?_eq_some_iff.mp e1).1
        simpa using this
      rw [List.getElem?_set_self hi] at e1
      cases e1
    · by_cases hk : i = k
      · subst hk
        have hi : i < Γ.length := by
          have := (List.getElem?_eq_some_iff.mp e2).1
          simpa using this
        rw [List.getElem?_set_self hi] at e2
        cases e2
      · rw [List.getElem?_set_ne hj] at e1
        rw [List.getElem?_set_ne hk] at e2
        rw [List.getElem?_set_ne hj, List.getElem?_set_ne hk]
        exact E.inj j k p xs ys e1 e2
  pen := fun j e => by
    by_cases hj : i = j
    · subst hj
      have hi : i < Γ.length := by
        have := (List.getElem?_eq_some_iff.mp e).1
        simpa using this
      rw [List.getElem?_set_self hi] at e
      cases e
    · rw [List.getElem?_set_ne hj] at e
      rw [List.getElem?_set_ne hj]
      exact E.pen j e
  scr := fun j ns e => by
    by_cases hj : i = j
    · subst hj
      have hi : i < Γ.length := by
        have := (List.getElem?_eq_some_iff.mp e).1
        simpa using this
      rw [List.getElem?_set_self hi] at e
      cases e
    · rw [List.getElem?_set_ne hj] at e
      rw [List.getElem?_set_ne hj]
      exact E.scr j ns e
  ps := E.ps
  ext := E.ext
  x := E.x.put i rfl
/-- a slot holds a list of its own -/
theorem Nv.setOwn (E : Nv K pa G0 H0 G H σ Γ s) {p : Addr} {vs : List V} {xs : List D} (i : Nat) (hp : H p = some (.lst vs)) (hg : G p = none) (r : RpL K G vs xs) (h0 : H0 p = none) (hpa : pa ≠ some p)
    (hn : ∀ (j : Nat) ys, j ≠ i → Γ[j]? = some (.own ys) → σ[j]? ≠ some (some (.ref p))) : Nv K pa G0 H0 G H (σ.set i (some (.ref p))) (Γ.set i (.own xs)) s where
  len := by simp [E.len]
  val := fun j d' e => by
    by_cases hj : i = j
    · subst hj
      have hi : i < Γ.length := by
        have := (List.getElem?_eq_some_iff.mp e).1
        simpa using this
      rw [List.getElem?_set_self hi] at e
      cases e
    · rw [List.getElem?_set_ne hj] at e
      rw [List.getElem?_set_ne hj]
      exact E.val j d' e
  own := fun j xs' e => by
    by_cases hj : i = j
    · subst hj
      have hi : i < Γ.length := by
        have := (List.getElem?_eq_some_iff.mp e).1
        simpa using this
      rw [List.getElem?_set_self hi] at e
      cases e
      exact ⟨p, vs, List.getElem?_set_self (by rw [← E.len]; exact hi), hp, hg, r, h0, hpa⟩
    · rw [List.getElem?_set_ne hj] at e
      rw [List.getElem?_set_ne hj]
      exact E.own j xs' e
  inj := fun j k q ys zs e1 e2 e3 e4 => by
    by_cases hj : i = j
    · by_cases hk : i = k
      · exact hj.symm.trans hk
      · subst hj
        have hi : i < σ.length := by
          have := (List.getElem?_eq_some_iff.mp e3).1
          simpa using this
        rw [List.getElem?_set_self hi] at e3
        cases e3
        rw [List.getElem?_set_ne hk] at e2 e4
        exact absurd e4 (hn k zs (fun z => hk z.symm) e2)
    · by_cases hk : i = k
      · subst hk
        have hi : i < σ.length := by
          have := (List.getElem?_eq_some_iff.mp e4).1
          simpa using this
        rw [List.getElem?_set_self hi] at e4
        cases e4
        rw [List.getElem?_set_ne hj] at e1 e3
        exact absurd e3 (hn j ys (fun z => hj z.symm) e1)
      · rw [List.getElem?_set_ne hj] at e1 e3
        rw [List.getElem?_set_ne hk] at e2 e4
        exact E.inj j k q ys zs e1 e2 e3 e4
  pen := fun j e => by
    by_cases hj : i = j
    · subst hj
      have hi : i < Γ.length := by
        have := (List.getElem?_eq_some_iff.mp e).1
        simpa using this
      rw [List.getElem?_set_self hi] at e
      cases e
    · rw [List.getElem?_set_ne hj] at e
      rw [List.getElem?_set_ne hj]
      exact E.pen j e
  scr := fun j ns e => by
    by_cases hj : i = j
    · subst hj
      have hi : i < Γ.length := by
        have := (List.getElem?_eq_some_iff.mp e).1
        simpa using this
      rw [List.getElem?_set_self hi] at e
      cases e
    · rw [List.getElem?_set_ne hj] at e
      rw [List.getElem?_set_ne hj]
      exact E.scr j ns e
  ps := E.ps
  ext := E.ext
  x := E.x.put i rfl
/-- less is known -/
def Weak : List Sl → List Sl → Prop
  | [], [] => True
  | x :: xs, y :: ys => (y = .junk ∨ x = y) ∧ Weak xs ys
  | _, _ => False
theorem Weak.refl : ∀ (l : List Sl), Weak l l
  | [] => trivial
  | _ :: xs => ⟨.inr rfl, Weak.refl xs⟩
theorem Weak.len : ∀ {a b : List Sl}, Weak a b → a.length = b.length
  | [], [], _ => rfl
  | _ :: xs, _ :: ys, h => by simp [Weak.len h.2]
theorem Weak.get : ∀ {a b : List Sl}, Weak a b → ∀ {i : Nat} {x : Sl}, b[i]? = some x → x ≠ .junk → a[i]? = some x
  | [], [], _, _, _, h, _ => by simp at h
  | _ :: xs, y :: ys, h, 0, x, e, n => by
    simp at e
    subst e
    rcases h.1 with z | z
    · exact absurd z n
    · subst z; rfl
  | _ :: xs, _ :: ys, h, i + 1, x, e, n => by
    simp at e ⊢
    exact Weak.get h.2 e n
theorem Nv.weak (E : Nv K pa G0 H0 G H σ Γ s) {Γ' : List Sl} (h : Weak Γ Γ') : Nv K pa G0 H0 G H σ Γ' s where
  len := h.len.symm.trans E.len
  val := fun i d e => E.val i d (h.get e (fun z => by cases z))
  own := fun i xs e => E.own i xs (h.get e (fun z => by cases z))
  inj := fun i j p xs ys e1 e2 => E.inj i j p xs ys (h.get e1 (fun z => by cases z)) (h.get e2 (fun z => by cases z))
  pen := fun i e => E.pen i (h.get e (fun z => by cases z))
  scr := fun i ns e => E.scr i ns (h.get e (fun z => by cases z))
  ps := E.ps
  ext := E.ext
  x := ⟨fun i sh xs e => E.x.dic i sh xs (h.get e (fun z => by cases z)), fun i j p sh xs sh' ys e1 e2 => E.x.inj i j p sh xs sh' ys (h.get e1 (fun z => by cases z)) (h.get e2 (fun z => by cases z)), fun i sh xs e => E.x.ro i sh xs (h.get e (fun z => by cases z)), E.x.t0, E.x.nt⟩
theorem Nv.tk (E : Nv K pa G0 H0 G H σ Γ s) : TabK K H := E.ext.tk E.x.t0
end

/-! ### what is to hold behind a result -/
/-- an exception of the program -/
def ExcIs (K : PySem.W.Frag) (mg : Str → Option Value) (G H : Hp) (e : Ex) (cls : Value) (dx : Option Addr) : Prop :=
  mg e.name = some cls ∧ (e.fs = [] → dx = none) ∧ (e.fs ≠ [] → ∃ d fs, dx = some d ∧ H d = some (.xd fs) ∧ fs.map (·.1) = e.fs.map (·.1) ∧ RpL K G (fs.map (·.2)) (e.fs.map (·.2)))
def Pst (K : PySem.W.Frag) (W : WX) (mg : Str → Option Value) (pa : Option Addr) (σ : L2.St) {α : Type} (F : Hp → Hp → α → List Int → Prop) (G H : Hp) : R α → Prop
  | .ok a s => ∀ G' H', Ext K pa G H G' H' → PenOk pa G' H' s → F G' H' a s
  | .exc e => ∀ cls dx G' H', Ext K pa G H G' H' → ExcIs K mg G' H' e cls dx → W cls dx σ H'
  | .bad => False
section
variable {K : PySem.W.Frag} {W : WX} {mg : Str → Option Value} {pa : Option Addr} {σ : L2.St} {α β : Type} {F F' : Hp → Hp → α → List Int → Prop} {G H G' H' : Hp}
theorem Pst.mono {r : R α} (x : Ext K pa G H G' H') (h : Pst K W mg pa σ F G H r) : Pst K W mg pa σ F G' H' r := by
  cases r with
  | ok a s => exact fun G2 H2 y p => h G2 H2 (x.trans y) p
  | exc e => exact fun cls dx G2 H2 y z => h cls dx G2 H2 (x.trans y) z
  | bad => exact h
theorem Pst.imp {r : R α} (h : Pst K W mg pa σ F G H r) (f : ∀ G' H' a s, Ext K pa G H G' H' → PenOk pa G' H' s → F G' H' a s → F' G' H' a s) : Pst K W mg pa σ F' G H r := by
  cases r with
  | ok a s => exact fun G2 H2 y p => f _ _ _ _ y p (h G2 H2 y p)
  | exc e => exact h
  | bad => exact h
theorem Pst.bind {F : Hp → Hp → β → List Int → Prop} {m : PM α} {f : α → PM β} {s : List Int} (h : Pst K W mg pa σ F G H ((m >>= f) s)) : Pst K W mg pa σ (fun G' H' a s' => Pst K W mg pa σ F G' H' (f a s')) G H (m s) := by
  rw [PM.bind_def] at h
  cases e : m s with
  | ok a s1 =>
    rw [e] at h
    exact fun G' H' x p => h.mono x
  | exc x => rw [e] at h; exact h
  | bad => rw [e] at h; exact h
/-- a result at once -/
theorem Pst.now {a : α} {s : List Int} (h : Pst K W mg pa σ F G H ((Pure.pure a : PM α) s)) (hs : Same G H) (p : PenOk pa G H s) : F G H a s := h G H (Ext.refl hs) p
end

/-! ### judgements -/
def FD (K : PySem.W.Frag) (Q : VK) : Hp → Hp → D → List Int → Prop := fun G' H' d _ => ∀ v, Rp K G' v d → Q v H'
def FB (Q : Bool → Hp → Prop) : Hp → Hp → Bool → List Int → Prop := fun _ H' b _ => Q b H'
def FL (K : PySem.W.Frag) (Q : List V → Hp → Prop) : Hp → Hp → List D → List Int → Prop := fun G' H' ds _ => ∀ vs, RpL K G' vs ds → Q vs H'
def evT (X : Cx) (W : WX) (pa : Option Addr) (Γ : List Sl) (m : PM D) : TE := fun σ H Q => ∃ G0 H0 G s, Nv X.K pa G0 H0 G H σ Γ s ∧ Pst X.K W X.mg pa σ (FD X.K Q) G H (m s)
def evB (X : Cx) (W : WX) (pa : Option Addr) (Γ : List Sl) (m : PM Bool) : TT := fun σ H Q => ∃ G0 H0 G s, Nv X.K pa G0 H0 G H σ Γ s ∧ Pst X.K W X.mg pa σ (FB Q) G H (m s)
def evL (X : Cx) (W : WX) (pa : Option Addr) (Γ : List Sl) (m : PM (List D)) : TA := fun σ H Q => ∃ G0 H0 G s, Nv X.K pa G0 H0 G H σ Γ s ∧ Pst X.K W X.mg pa σ (FL X.K Q) G H (m s)
abbrev EV (X : Cx) (W : WX) (pa : Option Addr) (Γ : List Sl) (e : Expr) (m : PM D) : Prop := PE X e (evT X W pa Γ m)
abbrev EB (X : Cx) (W : WX) (pa : Option Addr) (Γ : List Sl) (e : Expr) (m : PM Bool) : Prop := PT X e (evB X W pa Γ m)
abbrev EL (X : Cx) (W : WX) (pa : Option Addr) (Γ : List Sl) (es : List Expr) (m : PM (List D)) : Prop := PA X es (evL X W pa Γ m)
theorem pe_imp {X : Cx} {e : Expr} {t t' : TE} (h : PE X e t) (i : ∀ σ H Q, t' σ H Q → t σ H Q) : PE X e t' := ⟨fun pins s σ H Q I q => h.run pins s σ H Q I (i σ H Q q)⟩
theorem pt_imp {X : Cx} {e : Expr} {t t' : TT} (h : PT X e t) (i : ∀ σ H Q, t' σ H Q → t σ H Q) : PT X e t' := ⟨fun pins s σ H Q I q => h.run pins s σ H Q I (i σ H Q q)⟩
end EV

/-! EV 2: expressions. -/
namespace EV
open PySem PySem.Spec PyProof.Rows L2

/-! ### trees as the library's data -/
mutual
def toPy : D → PyData
  | .non => .none
  | .bl b => .bool b
  | .int i => .int i
  | .str x => .str x
  | .tup xs => .tuple (toPyL xs)
  | .lst xs => .list (toPyL xs)
  | .dct _ => .dict []
  | .obj _ _ => .dict []
def toPyL : List D → List PyData
  | [] => []
  | x :: xs => toPy x :: toPyL xs
end
theorem toPyL_map : ∀ xs : List D, toPyL xs = xs.map toPy
  | [] => rfl
  | x :: xs => by simp only [toPyL, List.map_cons, toPyL_map xs]
def shp (d : D) : Bool := SeqAt.shaped (toPy d)
def eqvD (a b : D) : Bool := PyData.eqv (toPy a) (toPy b)
def shown (d : D) : Str := PyData.shown (toPy d)
section
variable {K : PySem.W.Frag} {G H : Hp}
theorem dpAll_of : ∀ {xs : List V} {ds : List D}, xs.length = ds.length → (∀ (i : Nat) v d, xs[i]? = some v → ds[i]? = some d → Dp K G v (toPy d)) → DpAll K G xs (ds.map toPy)
  | [], [], _, _ => .nil
  | [], _ :: _, n, _ => by simp at n
  | _ :: _, [], n, _ => by simp at n
  | x :: xs, d :: ds, n, h => .cons (h 0 x d rfl rfl) (dpAll_of (by simpa using n) fun i v e h1 h2 => h (i + 1) v e (by simpa using h1) (by simpa using h2))
theorem noDict_at : ∀ {ds : List D}, PyData.hasDictAll (ds.map toPy) = false → ∀ (i : Nat) d, ds[i]? = some d → (toPy d).hasDict = false
  | [], _, i, d, e => by simp at e
  | x :: ds, h, 0, d, e => by
    simp only [List.map_cons, PyData.hasDictAll, Bool.or_eq_false_iff] at h
    have e : x = d := by simpa using e
    rw [← e]
    exact h.1
  | x :: ds, h, i + 1, d, e => by
    simp only [List.map_cons, PyData.hasDictAll, Bool.or_eq_false_iff] at h
    exact noDict_at h.2 i d (by simpa using e)
theorem Rp.dp {v : V} {d : D} (h : Rp K G v d) (hn : (toPy d).hasDict = false) : Dp K G v (toPy d) := by
  induction h with
  | non => exact .non
  | bl b => exact .bl b
  | int i => exact .int i
  | str x => exact .str x
  | lst h n _ ih =>
    simp only [toPy, toPyL_map] at hn ⊢
    exact .lst (SqL.of h) (dpAll_of n fun i v d h1 h2 => ih i v d h1 h2 (noDict_at (by simpa only [PyData.hasDict] using hn) i d h2))
  | tup h n _ ih =>
    simp only [toPy, toPyL_map] at hn ⊢
    exact .tup h (dpAll_of n fun i v d h1 h2 => ih i v d h1 h2 (noDict_at (by simpa only [PyData.hasDict] using hn) i d h2))
  | dct h hk n _ ih =>
    simp [toPy, PyData.hasDict] at hn
  | obj h hc hk _ ih =>
    simp [toPy, PyData.hasDict] at hn
mutual
theorem lay_nd : ∀ d : PyData, d.canLay0 = true → d.hasDict = false
  | .none, _ => rfl
  | .bool _, _ => rfl
  | .int _, _ => rfl
  | .str _, _ => rfl
  | .list xs, h => by
    simp only [PyData.canLay0] at h
    simp only [PyData.hasDict]
    exact layAll_nd xs h
  | .tuple xs, h => by
    simp only [PyData.canLay0] at h
    simp only [PyData.hasDict]
    exact layAll_nd xs h
  | .dict _, h => by simp [PyData.canLay0] at h
theorem layAll_nd : ∀ xs : List PyData, PyData.canLayAll0 xs = true → PyData.hasDictAll xs = false
  | [], _ => rfl
  | x :: xs, h => by
    simp only [PyData.canLayAll0, Bool.and_eq_true] at h
    simp only [PyData.hasDictAll, lay_nd x h.1, layAll_nd xs h.2, Bool.or_self]
end
theorem shp_nd {d : D} (h : shp d = true) : (toPy d).hasDict = false := by
  unfold shp SeqAt.shaped at h
  rw [Bool.and_eq_true] at h
  exact lay_nd _ h.1
theorem nd_ints : ∀ ns : List Int, PyData.hasDictAll ((ns.map D.int).map toPy) = false
  | [] => rfl
  | n :: ns => by
    simp only [List.map_cons, PyData.hasDictAll, toPy, PyData.hasDict, Bool.false_or]
    exact nd_ints ns
theorem Rp.dpS {v : V} {d : D} (h : Rp K G v d) (s : shp d = true) : Dp K G v (toPy d) := h.dp (shp_nd s)
end

/-! ### contexts -/
structure Cok (X : Cx) (W : WX) (k : Nat) : Prop where
  calm : X.calm = true
  nd : X.N.Nodup
  takes : Takes X W
  room : Room k X.A
  guards : 32 ≤ k → X.A.guards = some []
  passes : PassesOwn (model X.prog X.w) X.A X.env X.xe

section
variable {X : Cx} {W : WX} {pa : Option Addr} {Γ : List Sl} {k : Nat} {pos : Pos}

/-! ### names, constants -/
theorem ev_var {i : Nat} {x : Str} {d : D} (hΓ : Γ[i]? = some (.val d)) (hN : X.N[i]? = some x) (hv : Vis X.env.scope x) (hd : (x == ("__debug__" : Str)) = false := by decide) (hcd : (x == ("__classdict__" : Str)) = false := by decide) :
    EV X W pa Γ (.Name x pos) (pure d) := pe_imp (pe_var hN hv hd hcd) fun σ H Q ⟨G0, H0, G, s, E, P⟩ => by
  obtain ⟨v, h1, h2⟩ := E.val i d hΓ
  exact ⟨v, h1, P.now E.sub E.ps v h2⟩
theorem ev_const {e : Expr} {v : V} {d : D} (h : PE X e (tC v)) (r : ∀ K G, Rp K G v d) : EV X W pa Γ e (pure d) := pe_imp h fun σ H Q ⟨G0, H0, G, s, E, P⟩ => P.now E.sub E.ps v (r _ _)
theorem ev_int {i j} : EV X W pa Γ (.Constant (.int i) j pos) (pure (.int i)) := ev_const pe_int fun _ _ => .int i
theorem ev_bl {b j} : EV X W pa Γ (.Constant (.bool b) j pos) (pure (.bl b)) := ev_const pe_bl fun _ _ => .bl b
theorem ev_non {j} : EV X W pa Γ (.Constant .none j pos) (pure .non) := ev_const pe_non fun _ _ => .non
theorem ev_str {x j} : EV X W pa Γ (.Constant (.str x) j pos) (pure (.str x)) := ev_const pe_str fun _ _ => .str x
/-- a name of the module that holds a number or a text -/
theorem ev_glob {x : Str} {v : V} {u : Value} {d : D} (hg : Gl X x) (hm : X.mg x = some u) (r : RelV v u) (rp : ∀ G, Rp X.K G v d) (hd : (x == ("__debug__" : Str)) = false := by decide) : EV X W pa Γ (.Name x pos) (pure d) :=
  pe_imp (pe_glob hg hm r hd) fun σ H Q ⟨G0, H0, G, s, E, P⟩ => P.now E.sub E.ps v (rp _)

/-! ### argument lists -/
theorem pa_imp {es : List Expr} {t t' : TA} (h : PA X es t) (i : ∀ σ H Q, t' σ H Q → t σ H Q) : PA X es t' := ⟨fun p pins s σ H Q I q => h.run p pins s σ H Q I (i σ H Q q)⟩
theorem el_nil : EL X W pa Γ [] (pure []) := pa_imp pa_nil fun σ H Q ⟨G0, H0, G, s, E, P⟩ => P.now E.sub E.ps [] .nil
theorem el_cons {e : Expr} {es : List Expr} {m : PM D} {ml : PM (List D)} (h : EV X W pa Γ e m) (t : EL X W pa Γ es ml) (hs : starEach (e :: es) X.env = (false, eval e X.env) :: starEach es X.env := by rfl) :
    EL X W pa Γ (e :: es) (m >>= fun d => ml >>= fun ds => pure (d :: ds)) := pa_imp (pa_cons h t hs) fun σ H Q ⟨G0, H0, G, s, E, P⟩ =>
  ⟨G0, H0, G, s, E, P.bind.imp fun G1 H1 a s1 x1 p1 P1 v r => ⟨G0, H0, G1, s1, E.step x1 p1, P1.bind.imp fun G2 H2 as s2 x2 p2 P2 vs rs => P2.now x2.sub p2 (v :: vs) (.cons (r.mono x2.g) rs)⟩⟩

/-! ### operators by values -/
def OpD (X : Cx) (f : Value → Value → Sem Value) (g : D → D → PM D) : Prop := ∃ r : R2, OpR X f r ∧
  ∀ (W : WX) (pa : Option Addr) (σ : L2.St) (G H : Hp) (s : List Int) (x y : V) (a b : D) (Q : VK), Same G H → PenOk pa G H s → Rp X.K G x a → Rp X.K G y b → Pst X.K W X.mg pa σ (FD X.K Q) G H (g a b s) → r x y H Q
theorem OpD.or {f : Value → Value → Sem Value} {g g' : D → D → PM D} {c : D → D → Bool} (h : OpD X f g) (h' : OpD X f g') : OpD X f (fun a b => if c a b = true then g a b else g' a b) := by
  obtain ⟨r, h1, h2⟩ := h
  obtain ⟨r', h1', h2'⟩ := h'
  refine ⟨_, h1.or h1', fun W pa σ G H s x y a b Q hs hp ra rb P => ?_⟩
  by_cases hc : c a b = true
  · dsimp only at P
    rw [if_pos hc] at P
    exact .inl (h2 W pa σ G H s x y a b Q hs hp ra rb P)
  · dsimp only at P
    rw [if_neg hc] at P
    exact .inr (h2' W pa σ G H s x y a b Q hs hp ra rb P)
theorem OpD.to {f : Value → Value → Sem Value} {g g' : D → D → PM D} (h : OpD X f g) (e : ∀ a b s, g' a b s = g a b s ∨ g' a b s = .bad) : OpD X f g' := by
  obtain ⟨r, h1, h2⟩ := h
  refine ⟨r, h1, fun W pa σ G H s x y a b Q hs hp ra rb P => ?_⟩
  rcases e a b s with q | q
  · rw [q] at P
    exact h2 W pa σ G H s x y a b Q hs hp ra rb P
  · rw [q] at P
    exact P.elim
theorem ev_op {op : Operator} {g : D → D → PM D} {a b : Expr} {ma mb : PM D} (ho : OpD X (binaryOp op) g) (ha : EV X W pa Γ a ma) (hb : EV X W pa Γ b mb) : EV X W pa Γ (.BinOp a op b pos) (ma >>= fun x => mb >>= fun y => g x y) := by
  obtain ⟨r, h1, h2⟩ := ho
  exact pe_imp (pe_op h1 ha hb) fun σ H Q ⟨G0, H0, G, s, E, P⟩ =>
    ⟨G0, H0, G, s, E, P.bind.imp fun G1 H1 a s1 x1 p1 P1 v r => ⟨G0, H0, G1, s1, E.step x1 p1, P1.bind.imp fun G2 H2 b s2 x2 p2 P2 w rw => h2 W pa σ G2 H2 s2 v w a b Q x2.sub p2 (r.mono x2.g) rw P2⟩⟩
theorem ev_cmp {op : CmpOp} {g : D → D → PM D} {a b : Expr} {ma mb : PM D} (ho : OpD X (compareOp op) g) (ha : EV X W pa Γ a ma) (hb : EV X W pa Γ b mb) (hm : behindInMarks op b = false) : EV X W pa Γ (.Compare a [op] [b] pos) (ma >>= fun x => mb >>= fun y => g x y) := by
  obtain ⟨r, h1, h2⟩ := ho
  exact pe_imp (pe_cmpR h1 ha hb hm) fun σ H Q ⟨G0, H0, G, s, E, P⟩ =>
    ⟨G0, H0, G, s, E, P.bind.imp fun G1 H1 a s1 x1 p1 P1 v r => ⟨G0, H0, G1, s1, E.step x1 p1, P1.bind.imp fun G2 H2 b s2 x2 p2 P2 w rw => h2 W pa σ G2 H2 s2 v w a b Q x2.sub p2 (r.mono x2.g) rw P2⟩⟩
def asB : D → PM Bool
  | .bl b => pure b
  | _ => bad
theorem eb_cmp {op : CmpOp} {g : D → D → PM D} {a b : Expr} {ma mb : PM D} (ho : OpD X (compareOp op) g) (ha : EV X W pa Γ a ma) (hb : EV X W pa Γ b mb) (hm : behindInMarks op b = false) : EB X W pa Γ (.Compare a [op] [b] pos) (ma >>= fun x => mb >>= fun y => g x y >>= asB) := by
  obtain ⟨r, h1, h2⟩ := ho
  exact pt_imp (pt_cmpR h1 ha hb hm) fun σ H Q ⟨G0, H0, G, s, E, P⟩ =>
    ⟨G0, H0, G, s, E, P.bind.imp fun G1 H1 a s1 x1 p1 P1 v r => ⟨G0, H0, G1, s1, E.step x1 p1, P1.bind.imp fun G2 H2 b s2 x2 p2 P2 w rw => h2 W pa σ G2 H2 s2 v w a b _ x2.sub p2 (r.mono x2.g) rw
      (P2.bind.imp fun G3 H3 d s3 x3 p3 P3 u ru => by
        cases ru with
        | bl c => exact ⟨c, rfl, P3.now x3.sub p3⟩
        | _ => exact P3.elim)⟩⟩

/-! ### tests, and, or, not, if -/
/-- an expression whose value is a bool -/
theorem eb_val {e : Expr} {m : PM D} (h : EV X W pa Γ e m) (he : ∀ whole, isTrue e X.env whole = (do let v ← whole; standAt e.pos; holding [v] (truthy v)) := by intro _; rfl) : EB X W pa Γ e (m >>= asB) :=
  pt_imp (pt_val h he) fun σ H Q ⟨G0, H0, G, s, E, P⟩ => ⟨G0, H0, G, s, E, P.bind.imp fun G1 H1 d s1 x1 p1 P1 v r => by
    cases r with
    | bl c => exact ⟨c, rfl, P1.now x1.sub p1⟩
    | _ => exact P1.elim⟩
theorem eb_not {a : Expr} {m : PM Bool} (h : EB X W pa Γ a m) : EB X W pa Γ (.UnaryOp .Not a pos) (m >>= fun b => pure (!b)) :=
  pt_imp (pt_not h) fun σ H Q ⟨G0, H0, G, s, E, P⟩ => ⟨G0, H0, G, s, E, P.bind.imp fun G1 H1 d s1 x1 p1 P1 => P1.now x1.sub p1⟩
abbrev EW (X : Cx) (W : WX) (pa : Option Addr) (Γ : List Sl) (e : Expr) (m : PM Bool) : Prop := PW X e (evB X W pa Γ m)
theorem pw_imp {e : Expr} {t t' : TT} (h : PW X e t) (i : ∀ σ H Q, t' σ H Q → t σ H Q) : PW X e t' := ⟨fun wh pins s σ H Q I q => h.run wh pins s σ H Q I (i σ H Q q)⟩
theorem ew_and1 {a : Expr} {m : PM Bool} (h : EB X W pa Γ a m) : EW X W pa Γ (.BoolOp .And [a] pos) m := pw_and1 h
theorem ew_or1 {a : Expr} {m : PM Bool} (h : EB X W pa Γ a m) : EW X W pa Γ (.BoolOp .Or [a] pos) m := pw_or1 h
theorem ew_and {a b : Expr} {rest : List Expr} {m ml : PM Bool} (h : EB X W pa Γ a m) (t : EW X W pa Γ (.BoolOp .And (b :: rest) pos) ml) : EW X W pa Γ (.BoolOp .And (a :: b :: rest) pos) (m >>= fun c => if c = true then ml else pure false) :=
  pw_imp (pw_and h t) fun σ H Q ⟨G0, H0, G, s, E, P⟩ => ⟨G0, H0, G, s, E, P.bind.imp fun G1 H1 c s1 x1 p1 P1 => by
    cases c with
    | true => exact (show evB X W pa Γ ml σ H1 Q from ⟨G0, H0, G1, s1, E.step x1 p1, P1⟩)
    | false => exact (show Q false H1 from P1.now x1.sub p1)⟩
theorem ew_or {a b : Expr} {rest : List Expr} {m ml : PM Bool} (h : EB X W pa Γ a m) (t : EW X W pa Γ (.BoolOp .Or (b :: rest) pos) ml) : EW X W pa Γ (.BoolOp .Or (a :: b :: rest) pos) (m >>= fun c => if c = true then pure true else ml) :=
  pw_imp (pw_or h t) fun σ H Q ⟨G0, H0, G, s, E, P⟩ => ⟨G0, H0, G, s, E, P.bind.imp fun G1 H1 c s1 x1 p1 P1 => by
    cases c with
    | true => exact (show Q true H1 from P1.now x1.sub p1)
    | false => exact (show evB X W pa Γ ml σ H1 Q from ⟨G0, H0, G1, s1, E.step x1 p1, P1⟩)⟩
theorem eb_bool {e : Expr} {m : PM Bool} (h : EW X W pa Γ e m) : EB X W pa Γ e m := h.pt
/-- a test's value, as a value (an and, an or, a not of bools) -/
theorem ev_one {op} {a : Expr} {m : PM D} (h : EV X W pa Γ a m) : EV X W pa Γ (.BoolOp op [a] pos) m := pe_one h
theorem ev_and {a b : Expr} {rest : List Expr} {m ml : PM D} (h : EV X W pa Γ a m) (t : EV X W pa Γ (.BoolOp .And (b :: rest) pos) ml) : EV X W pa Γ (.BoolOp .And (a :: b :: rest) pos) (m >>= fun d => asB d >>= fun c => if c = true then ml else pure (.bl false)) :=
  pe_imp (pe_and h t) fun σ H Q ⟨G0, H0, G, s, E, P⟩ => ⟨G0, H0, G, s, E, P.bind.imp fun G1 H1 d s1 x1 p1 P1 v r => by
    cases r with
    | bl c =>
      refine ⟨c, rfl, ?_⟩
      have P2 := (P1.bind).now x1.sub p1
      cases c with
      | true => exact (show evT X W pa Γ ml σ H1 Q from ⟨G0, H0, G1, s1, E.step x1 p1, P2⟩)
      | false => exact (show Q (.bl false) H1 from P2.now x1.sub p1 _ (.bl false))
    | _ => exact P1.elim⟩
theorem ev_or {a b : Expr} {rest : List Expr} {m ml : PM D} (h : EV X W pa Γ a m) (t : EV X W pa Γ (.BoolOp .Or (b :: rest) pos) ml) : EV X W pa Γ (.BoolOp .Or (a :: b :: rest) pos) (m >>= fun d => asB d >>= fun c => if c = true then pure (.bl true) else ml) :=
  pe_imp (pe_or h t) fun σ H Q ⟨G0, H0, G, s, E, P⟩ => ⟨G0, H0, G, s, E, P.bind.imp fun G1 H1 d s1 x1 p1 P1 v r => by
    cases r with
    | bl c =>
      refine ⟨c, rfl, ?_⟩
      have P2 := (P1.bind).now x1.sub p1
      cases c with
      | true => exact (show Q (.bl true) H1 from P2.now x1.sub p1 _ (.bl true))
      | false => exact (show evT X W pa Γ ml σ H1 Q from ⟨G0, H0, G1, s1, E.step x1 p1, P2⟩)
    | _ => exact P1.elim⟩
theorem ev_not {a : Expr} {m : PM D} (h : EV X W pa Γ a m) : EV X W pa Γ (.UnaryOp .Not a pos) (m >>= fun d => asB d >>= fun c => pure (.bl (!c))) :=
  pe_imp (pe_not h) fun σ H Q ⟨G0, H0, G, s, E, P⟩ => ⟨G0, H0, G, s, E, P.bind.imp fun G1 H1 d s1 x1 p1 P1 v r => by
    cases r with
    | bl c => exact ⟨c, rfl, ((P1.bind).now x1.sub p1).now x1.sub p1 _ (.bl _)⟩
    | _ => exact P1.elim⟩
theorem ev_ifExp {c a b : Expr} {mc : PM Bool} {ma mb : PM D} (hc : EB X W pa Γ c mc) (ha : EV X W pa Γ a ma) (hb : EV X W pa Γ b mb) : EV X W pa Γ (.IfExp c a b pos) (mc >>= fun t => if t = true then ma else mb) :=
  pe_imp (pe_ifExp hc ha hb) fun σ H Q ⟨G0, H0, G, s, E, P⟩ => ⟨G0, H0, G, s, E, P.bind.imp fun G1 H1 t s1 x1 p1 P1 => by
    cases t with
    | true => exact (show evT X W pa Γ ma σ H1 Q from ⟨G0, H0, G1, s1, E.step x1 p1, P1⟩)
    | false => exact (show evT X W pa Γ mb σ H1 Q from ⟨G0, H0, G1, s1, E.step x1 p1, P1⟩)⟩
/-- the truth of a value -/
def truD : D → PM Bool
  | .non => pure false
  | .bl b => pure b
  | .int i => pure (i != 0)
  | .lst xs => pure (!xs.isEmpty)
  | .tup xs => pure (!xs.isEmpty)
  | _ => bad
theorem isEmpty_rp {K : PySem.W.Frag} {G : Hp} {vs : List V} {ds : List D} (h : RpL K G vs ds) : vs.isEmpty = ds.isEmpty := by
  have := h.1
  cases vs <;> cases ds <;> simp_all

/-! ### displays, calls of built-ins -/
abbrev lim : Nat := 1000000
theorem lim_le {n : Nat} (h : n ≤ lim) : n ≤ sizeLine := Nat.le_trans h (by decide)
theorem lim_lt {n : Nat} (h : n ≤ lim) : n < sizeLine := Nat.lt_of_le_of_lt h (by decide)
def mkT (xs : List D) : PM D := if xs.length ≤ lim then pure (.tup xs) else bad
def mkL (xs : List D) : PM D := if xs.length ≤ lim then pure (.lst xs) else bad
theorem mkT_ok {xs : List D} (h : xs.length ≤ lim) : mkT xs = pure (.tup xs) := if_pos h
theorem mkL_ok {xs : List D} (h : xs.length ≤ lim) : mkL xs = pure (.lst xs) := if_pos h
section
variable {mg : Str → Option Value} {K : PySem.W.Frag} {pa : Option Addr} {σ : L2.St} {G H : Hp} {s : List Int} {Q : VK}
theorem mkT_len {vs : List V} {ds : List D} (P : Pst K W mg pa σ (FD K Q) G H (mkT ds s)) (r : RpL K G vs ds) : vs.length ≤ sizeLine := by
  unfold mkT at P
  split at P
  · rename_i h
    rw [r.1]
    exact lim_le h
  · exact P.elim
theorem mkT_use {vs : List V} {ds : List D} (P : Pst K W mg pa σ (FD K Q) G H (mkT ds s)) (r : RpL K G vs ds) (hs : Same G H) (hp : PenOk pa G H s) {p : Addr} (np : H p = none) : Q (.ref p) (upd H p (.tup vs)) := by
  unfold mkT at P
  split at P
  · have x := Ext.new (K := K) (pa := pa) hs np (.tup vs)
    exact P _ _ x (hp.upd np _) _ (.mkT (SqT.of upd_same) (r.mono x.g))
  · exact P.elim
theorem mkL_len {vs : List V} {ds : List D} (P : Pst K W mg pa σ (FD K Q) G H (mkL ds s)) (r : RpL K G vs ds) : vs.length ≤ sizeLine := by
  unfold mkL at P
  split at P
  · rename_i h
    rw [r.1]
    exact lim_le h
  · exact P.elim
theorem mkL_use {vs : List V} {ds : List D} (P : Pst K W mg pa σ (FD K Q) G H (mkL ds s)) (r : RpL K G vs ds) (hs : Same G H) (hp : PenOk pa G H s) {p : Addr} (np : H p = none) : Q (.ref p) (upd H p (.lst vs)) := by
  unfold mkL at P
  split at P
  · have x := Ext.new (K := K) (pa := pa) hs np (.lst vs)
    exact P _ _ x (hp.upd np _) _ (.mkL upd_same (r.mono x.g))
  · exact P.elim
end
theorem ev_tup {es : List Expr} {x1} {ml : PM (List D)} (h : EL X W pa Γ es ml) : EV X W pa Γ (.Tuple es x1 pos) (ml >>= mkT) :=
  pe_imp (L2.pe_tup h) fun σ H Q ⟨G0, H0, G, s, E, P⟩ => ⟨G0, H0, G, s, E, P.bind.imp fun G1 H1 ds s1 x1 p1 P1 vs r =>
    ⟨mkT_len P1 r, fun p np => mkT_use P1 r x1.sub p1 np⟩⟩
theorem ev_lst {es : List Expr} {ml : PM (List D)} (h : EL X W pa Γ es ml) : EV X W pa Γ (.List es pos) (ml >>= mkL) :=
  pe_imp (L2.pe_lst h) fun σ H Q ⟨G0, H0, G, s, E, P⟩ => ⟨G0, H0, G, s, E, P.bind.imp fun G1 H1 ds s1 x1 p1 P1 vs r =>
    ⟨mkL_len P1 r, fun p np => mkL_use P1 r x1.sub p1 np⟩⟩

/-- a call by values -/
def CallD (X : Cx) (f : Value) (g : List D → PM D) : Prop := ∃ r : List V → Hp → VK → Prop, CallR X f r ∧
  ∀ (W : WX) (pa : Option Addr) (σ : L2.St) (G H : Hp) (s : List Int) (xs : List V) (ds : List D) (Q : VK), Same G H → PenOk pa G H s → RpL X.K G xs ds → Pst X.K W X.mg pa σ (FD X.K Q) G H (g ds s) → r xs H Q
theorem CallD.or {f : Value} {g g' : List D → PM D} {c : List D → Bool} (h : CallD X f g) (h' : CallD X f g') : CallD X f (fun a => if c a = true then g a else g' a) := by
  obtain ⟨r, h1, h2⟩ := h
  obtain ⟨r', h1', h2'⟩ := h'
  refine ⟨_, h1.or h1', fun W pa σ G H s x a Q hs hp ra P => ?_⟩
  by_cases hc : c a = true
  · dsimp only at P
    rw [if_pos hc] at P
    exact .inl (h2 W pa σ G H s x a Q hs hp ra P)
  · dsimp only at P
    rw [if_neg hc] at P
    exact .inr (h2' W pa σ G H s x a Q hs hp ra P)
theorem CallD.to {f : Value} {g g' : List D → PM D} (h : CallD X f g) (e : ∀ a s, g' a s = g a s ∨ g' a s = .bad) : CallD X f g' := by
  obtain ⟨r, h1, h2⟩ := h
  refine ⟨r, h1, fun W pa σ G H s x a Q hs hp ra P => ?_⟩
  rcases e a s with q | q
  · rw [q] at P
    exact h2 W pa σ G H s x a Q hs hp ra P
  · rw [q] at P
    exact P.elim
theorem ev_callB {x : Str} {id : String} {g : List D → PM D} {e : Expr} {es : List Expr} {p : Pos} {ml : PM (List D)} (hc : CallD X (.builtin id) g) (hg : Gl X x) (hm : X.mg x = none) (hv : bootBuiltins x = some (.builtin id)) (ha : EL X W pa Γ (e :: es) ml)
    (hn : x ≠ "__name__" := by decide) (hdb : (x == ("__debug__" : Str)) = false := by decide) (hs : starEach (e :: es) X.env = (false, eval e X.env) :: starEach es X.env := by rfl)
    (hpl : (backTo pos (starEach es X.env)).any (·.1) = false := by rfl) : EV X W pa Γ (.Call (.Name x p) (e :: es) [] pos) (ml >>= g) := by
  obtain ⟨r, h1, h2⟩ := hc
  exact pe_imp (pe_callB h1 hg hm hv ha hn hdb hs hpl) fun σ H Q ⟨G0, H0, G, s, E, P⟩ => ⟨G0, H0, G, s, E, P.bind.imp fun G1 H1 ds s1 x1 p1 P1 vs rs => h2 W pa σ G1 H1 s1 vs ds Q x1.sub p1 rs P1⟩
theorem ev_callTy {x : Str} {T : String} {g : List D → PM D} {e : Expr} {es : List Expr} {p : Pos} {ml : PM (List D)} (hc : CallD X (.type T) g) (hg : Gl X x) (hm : X.mg x = none) (hv : bootBuiltins x = some (.type T)) (ha : EL X W pa Γ (e :: es) ml)
    (hn : x ≠ "__name__" := by decide) (hdb : (x == ("__debug__" : Str)) = false := by decide) (hs : starEach (e :: es) X.env = (false, eval e X.env) :: starEach es X.env := by rfl)
    (hpl : (backTo pos (starEach es X.env)).any (·.1) = false := by rfl) : EV X W pa Γ (.Call (.Name x p) (e :: es) [] pos) (ml >>= g) := by
  obtain ⟨r, h1, h2⟩ := hc
  exact pe_imp (pe_callTy h1 hg hm hv ha hn hdb hs hpl) fun σ H Q ⟨G0, H0, G, s, E, P⟩ => ⟨G0, H0, G, s, E, P.bind.imp fun G1 H1 ds s1 x1 p1 P1 vs rs => h2 W pa σ G1 H1 s1 vs ds Q x1.sub p1 rs P1⟩
end
end EV

/-! EV 3: operators, built-ins. -/
namespace EV
open PySem PySem.Spec PyProof.Rows L2
section
variable {X : Cx} {k : Nat}

theorem od_i0 {f : Value → Value → Sem Value} {v : Int → Int → V} {d : Int → Int → D} (h : OpR X f (rI0 v)) (r : ∀ K G i j, Rp K G (v i j) (d i j)) {g : D → D → PM D}
    (e : ∀ a b s, (∃ i j, a = .int i ∧ b = .int j ∧ g a b s = .ok (d i j) s) ∨ g a b s = .bad) : OpD X f g := by
  refine ⟨_, h, fun W pa σ G H s x y a b Q hs hp ra rb P => ?_⟩
  rcases e a b s with ⟨i, j, rfl, rfl, q⟩ | q
  · rw [q] at P
    cases ra
    cases rb
    exact ⟨i, j, rfl, rfl, P G H (Ext.refl hs) hp _ (r _ _ _ _)⟩
  · rw [q] at P
    exact P.elim
theorem od_i {f : Value → Value → Sem Value} {C : Int → Int → Prop} {v : Int → Int → V} {d : Int → Int → D} (h : OpR X f (rI C v)) (r : ∀ K G i j, Rp K G (v i j) (d i j)) {g : D → D → PM D}
    (e : ∀ a b s, (∃ i j, a = .int i ∧ b = .int j ∧ C i j ∧ g a b s = .ok (d i j) s) ∨ g a b s = .bad) : OpD X f g := by
  refine ⟨_, h, fun W pa σ G H s x y a b Q hs hp ra rb P => ?_⟩
  rcases e a b s with ⟨i, j, rfl, rfl, c, q⟩ | q
  · rw [q] at P
    cases ra
    cases rb
    exact ⟨i, j, rfl, rfl, c, P G H (Ext.refl hs) hp _ (r _ _ _ _)⟩
  · rw [q] at P
    exact P.elim

/-! ### + - * // % ** -/
def strLim (x : Str) : Prop := x.length ≤ lim
instance (x : Str) : Decidable (strLim x) := inferInstanceAs (Decidable (x.length ≤ lim))
def addD : D → D → PM D
  | .int i, .int j => pure (.int (i + j))
  | .lst a, .lst b => mkL (a ++ b)
  | .tup a, .tup b => mkT (a ++ b)
  | .str a, .str b => if a.length + b.length ≤ lim then pure (.str (a ++ b)) else bad
  | _, _ => bad
theorem mkT_same {mg : Str → Option Value} {K : PySem.W.Frag} {W : WX} {pa : Option Addr} {σ : L2.St} {G H : Hp} {s : List Int} {Q : VK} {a : Addr} {vs : List V} {ds : List D} (P : Pst K W mg pa σ (FD K Q) G H (mkT ds s)) (h : SqT K G a vs) (r : RpL K G vs ds) (hs : Same G H) (hp : PenOk pa G H s) : Q (.ref a) H := by
  unfold mkT at P
  split at P
  · exact P G H (Ext.refl hs) hp _ (.mkT h r)
  · exact P.elim
theorem nil_of {vs : List V} {ds : List D} {K : PySem.W.Frag} {G : Hp} (h : RpL K G vs ds) (e : vs = []) : ds = [] := by
  have := h.1
  subst e
  cases ds with
  | nil => rfl
  | cons _ _ => simp at this
theorem od_add : OpD X (binaryOp .Add) addD := by
  refine ⟨_, op_add.or (op_cat.or (op_catA.or op_add_str)), fun W pa σ G H s x y a b Q hs hp ra rb P => ?_⟩
  cases ra with
  | int i =>
    cases rb with
    | int j => exact .inl ⟨i, j, rfl, rfl, P G H (Ext.refl hs) hp _ (.int _)⟩
    | _ => exact P.elim
  | str i =>
    cases rb with
    | str j =>
      have P : Pst X.K W X.mg pa σ (FD X.K Q) G H ((if i.length + j.length ≤ lim then pure (.str (i ++ j)) else bad : PM D) s) := P
      split at P
      · rename_i hl
        exact .inr (.inr (.inr ⟨i, j, rfl, rfl, lim_le hl, P G H (Ext.refl hs) hp _ (.str _)⟩))
      · exact P.elim
    | _ => exact P.elim
  | lst h n r =>
    cases rb with
    | lst h' n' r' =>
      have q : RpL X.K G _ _ := RpL.app ⟨n, r⟩ ⟨n', r'⟩
      have z := mkL_len P q
      rw [List.length_append] at z
      exact .inr (.inl ⟨_, _, _, _, rfl, rfl, hs _ _ h, hs _ _ h', z, fun p np => mkL_use P q hs hp np⟩)
    | _ => exact P.elim
  | tup h n r =>
    cases rb with
    | tup h' n' r' =>
      have q : RpL X.K G _ _ := RpL.app ⟨n, r⟩ ⟨n', r'⟩
      have z := mkT_len P q
      rw [List.length_append] at z
      refine .inr (.inr (.inl ⟨_, _, _, _, rfl, rfl, sameT hs h, sameT hs h', z, fun e => ?_, fun e1 e2 => ?_, fun e1 e2 p np => mkT_use P q hs hp np⟩))
      · have e' := nil_of ⟨n, r⟩ e
        subst e'
        exact mkT_same (P : Pst X.K W X.mg pa σ (FD X.K Q) G H (mkT ([] ++ _) s)) h' (by rw [List.nil_append]; exact ⟨n', r'⟩) hs hp
      · have e' := nil_of ⟨n', r'⟩ e2
        subst e'
        exact mkT_same (P : Pst X.K W X.mg pa σ (FD X.K Q) G H (mkT (_ ++ []) s)) h (by rw [List.append_nil]; exact ⟨n, r⟩) hs hp
    | _ => exact P.elim
  | _ => exact P.elim
def subD : D → D → PM D
  | .int i, .int j => pure (.int (i - j))
  | _, _ => bad
theorem od_sub : OpD X (binaryOp .Sub) subD := od_i0 op_sub (fun _ _ _ _ => .int _) fun a b s => by
  cases a <;> cases b <;> first | exact .inl ⟨_, _, rfl, rfl, rfl⟩ | exact .inr rfl
instance (i j : Int) : Decidable (CMul i j) := inferInstanceAs (Decidable ((-(2 ^ 64) < i ∧ i < 2 ^ 64) ∨ (-(2 ^ 64) < j ∧ j < 2 ^ 64)))
instance (i j : Int) : Decidable (CDivN i j) := inferInstanceAs (Decidable (j ≠ 0 ∧ j.natAbs < 1073741824))
instance (i j : Int) : Decidable (CPow i j) := inferInstanceAs (Decidable (0 ≤ j ∧ j ≤ 1000000 ∧ i.natAbs < 2 ^ 64))
def mulD : D → D → PM D
  | .int i, .int j => if CMul i j then pure (.int (i * j)) else bad
  | _, _ => bad
theorem od_mul : OpD X (binaryOp .Mult) mulD := od_i op_mul (fun _ _ _ _ => .int _) fun a b s => by
  cases a with
  | int i =>
    cases b with
    | int j =>
      by_cases h : CMul i j
      · exact .inl ⟨i, j, rfl, rfl, h, by show (if CMul i j then pure (.int (i * j)) else bad : PM D) s = _; rw [if_pos h]; rfl⟩
      · exact .inr (by show (if CMul i j then pure (.int (i * j)) else bad : PM D) s = _; rw [if_neg h]; rfl)
    | _ => exact .inr rfl
  | _ => exact .inr rfl
def fdivD : D → D → PM D
  | .int i, .int j => if CDivN i j then pure (.int (i.fdiv j)) else bad
  | _, _ => bad
theorem od_fdiv : OpD X (binaryOp .FloorDiv) fdivD := od_i op_fdivN (fun _ _ _ _ => .int _) fun a b s => by
  cases a with
  | int i =>
    cases b with
    | int j =>
      by_cases h : CDivN i j
      · exact .inl ⟨i, j, rfl, rfl, h, by show (if CDivN i j then pure (.int (i.fdiv j)) else bad : PM D) s = _; rw [if_pos h]; rfl⟩
      · exact .inr (by show (if CDivN i j then pure (.int (i.fdiv j)) else bad : PM D) s = _; rw [if_neg h]; rfl)
    | _ => exact .inr rfl
  | _ => exact .inr rfl
def modD : D → D → PM D
  | .int i, .int j => if j ≠ 0 then pure (.int (i.fmod j)) else bad
  | _, _ => bad
theorem od_mod : OpD X (binaryOp .Mod) modD := od_i op_modN (fun _ _ _ _ => .int _) fun a b s => by
  cases a with
  | int i =>
    cases b with
    | int j =>
      by_cases h : j ≠ 0
      · exact .inl ⟨i, j, rfl, rfl, h, by show (if j ≠ 0 then pure (.int (i.fmod j)) else bad : PM D) s = _; rw [if_pos h]; rfl⟩
      · exact .inr (by show (if j ≠ 0 then pure (.int (i.fmod j)) else bad : PM D) s = _; rw [if_neg h]; rfl)
    | _ => exact .inr rfl
  | _ => exact .inr rfl
def powD : D → D → PM D
  | .int i, .int j => if CPow i j then pure (.int (i ^ j.toNat)) else bad
  | _, _ => bad
theorem od_pow : OpD X (binaryOp .Pow) powD := od_i op_pow (fun _ _ _ _ => .int _) fun a b s => by
  cases a with
  | int i =>
    cases b with
    | int j =>
      by_cases h : CPow i j
      · exact .inl ⟨i, j, rfl, rfl, h, by show (if CPow i j then pure (.int (i ^ j.toNat)) else bad : PM D) s = _; rw [if_pos h]; rfl⟩
      · exact .inr (by show (if CPow i j then pure (.int (i ^ j.toNat)) else bad : PM D) s = _; rw [if_neg h]; rfl)
    | _ => exact .inr rfl
  | _ => exact .inr rfl

/-! ### comparisons -/
def eqD0 (a b : D) : PM D := if shp a = true ∧ shp b = true then pure (.bl (eqvD a b)) else bad
def neD0 (a b : D) : PM D := if shp a = true ∧ shp b = true then pure (.bl (!eqvD a b)) else bad
def twoS : D → D → Bool
  | .str _, .str _ => true
  | _, _ => false
/-- two texts: no more is asked -/
def eqD : D → D → PM D
  | .str x, .str y => pure (.bl (x == y))
  | a, b => eqD0 a b
def neD : D → D → PM D
  | .str x, .str y => pure (.bl (!(x == y)))
  | a, b => neD0 a b
theorem eqD_0 {a b : D} (h : twoS a b = false) : eqD a b = eqD0 a b := by
  cases a <;> cases b <;> first | rfl | cases h
theorem neD_0 {a b : D} (h : twoS a b = false) : neD a b = neD0 a b := by
  cases a <;> cases b <;> first | rfl | cases h
theorem twoS_rp {K : PySem.W.Frag} {G : Hp} {x y : V} {a b : D} (h : twoS a b = true) (ra : Rp K G x a) (rb : Rp K G y b) : ∃ z t, a = .str z ∧ b = .str t ∧ x = .str z ∧ y = .str t := by
  cases ra with
  | str z =>
    cases rb with
    | str t => exact ⟨z, t, rfl, rfl, rfl, rfl⟩
    | _ => cases h
  | _ => cases h
theorem od_eq (hr : Room k X.A) : OpD X (compareOp .Eq) eqD := by
  refine ⟨_, op_eq.or (op_eqD hr.units), fun W pa σ G H s x y a b Q hs hp ra rb P => ?_⟩
  cases e : twoS a b with
  | true =>
    obtain ⟨z, t, rfl, rfl, rfl, rfl⟩ := twoS_rp e ra rb
    exact .inl ⟨rfl, by rw [dec_str]; exact P G H (Ext.refl hs) hp _ (.bl _)⟩
  | false =>
    rw [eqD_0 e] at P
    unfold eqD0 at P
    split at P
    · rename_i h
      exact .inr ⟨toPy a, toPy b, (ra.mono hs).dpS h.1, (rb.mono hs).dpS h.2, h.1, h.2, P G H (Ext.refl hs) hp _ (.bl _)⟩
    · exact P.elim
theorem od_ne (hr : Room k X.A) : OpD X (compareOp .NotEq) neD := by
  refine ⟨_, op_ne.or (op_neD hr.units), fun W pa σ G H s x y a b Q hs hp ra rb P => ?_⟩
  cases e : twoS a b with
  | true =>
    obtain ⟨z, t, rfl, rfl, rfl, rfl⟩ := twoS_rp e ra rb
    exact .inl ⟨rfl, by rw [dec_str]; exact P G H (Ext.refl hs) hp _ (.bl _)⟩
  | false =>
    rw [neD_0 e] at P
    unfold neD0 at P
    split at P
    · rename_i h
      exact .inr ⟨toPy a, toPy b, (ra.mono hs).dpS h.1, (rb.mono hs).dpS h.2, h.1, h.2, P G H (Ext.refl hs) hp _ (.bl _)⟩
    · exact P.elim
def ltD : D → D → PM D
  | .int i, .int j => pure (.bl (decide (i < j)))
  | _, _ => bad
def leD : D → D → PM D
  | .int i, .int j => pure (.bl (decide (i ≤ j)))
  | _, _ => bad
def gtD : D → D → PM D
  | .int i, .int j => pure (.bl (decide (j < i)))
  | _, _ => bad
def geD : D → D → PM D
  | .int i, .int j => pure (.bl (decide (j ≤ i)))
  | _, _ => bad
theorem od_lt : OpD X (compareOp .Lt) ltD := od_i0 op_lt (fun _ _ _ _ => .bl _) fun a b s => by
  cases a <;> cases b <;> first | exact .inl ⟨_, _, rfl, rfl, rfl⟩ | exact .inr rfl
theorem od_le : OpD X (compareOp .LtE) leD := od_i0 op_le (fun _ _ _ _ => .bl _) fun a b s => by
  cases a <;> cases b <;> first | exact .inl ⟨_, _, rfl, rfl, rfl⟩ | exact .inr rfl
theorem od_gt : OpD X (compareOp .Gt) gtD := od_i0 op_gt (fun _ _ _ _ => .bl _) fun a b s => by
  cases a <;> cases b <;> first | exact .inl ⟨_, _, rfl, rfl, rfl⟩ | exact .inr rfl
theorem od_ge : OpD X (compareOp .GtE) geD := od_i0 op_ge (fun _ _ _ _ => .bl _) fun a b s => by
  cases a <;> cases b <;> first | exact .inl ⟨_, _, rfl, rfl, rfl⟩ | exact .inr rfl
/-- x is None -/
def isND : D → D → PM D
  | .non, .non => pure (.bl true)
  | _, .non => pure (.bl false)
  | _, _ => bad
def notND : D → D → PM D
  | .non, .non => pure (.bl false)
  | _, .non => pure (.bl true)
  | _, _ => bad
theorem od_isN : OpD X (compareOp .Is) isND := by
  refine ⟨_, op_isN, fun W pa σ G H s x y a b Q hs hp ra rb P => ?_⟩
  cases rb with
  | non =>
    refine ⟨rfl, ?_⟩
    cases ra <;> exact P G H (Ext.refl hs) hp _ (.bl _)
  | _ => cases ra <;> exact P.elim
theorem od_notN : OpD X (compareOp .IsNot) notND := by
  refine ⟨_, op_notN, fun W pa σ G H s x y a b Q hs hp ra rb P => ?_⟩
  cases rb with
  | non =>
    refine ⟨rfl, ?_⟩
    cases ra <;> exact P G H (Ext.refl hs) hp _ (.bl _)
  | _ => cases ra <;> exact P.elim

/-! ### in -/
theorem room65 {A : Around} (hr : Room k A) : A.units + 65 < cLine := by have := hr.un; omega
def rInT (K : PySem.W.Frag) : R2 := fun x y H Q => ∃ d ds, Dp K H x d ∧ Dp K H y (.tuple ds) ∧ SeqAt.shaped d = true ∧ SeqAt.shaped (.tuple ds) = true ∧ Q (.bl (ds.any fun z => PyData.eqv z d)) H
def rNotInT (K : PySem.W.Frag) : R2 := fun x y H Q => ∃ d ds, Dp K H x d ∧ Dp K H y (.tuple ds) ∧ SeqAt.shaped d = true ∧ SeqAt.shaped (.tuple ds) = true ∧ Q (.bl (!ds.any fun z => PyData.eqv z d)) H
def inD : D → D → PM D
  | a, .lst xs => if shp a = true ∧ shp (.lst xs) = true then pure (.bl (xs.any fun z => eqvD z a)) else bad
  | a, .tup xs => if shp a = true ∧ shp (.tup xs) = true then pure (.bl (xs.any fun z => eqvD z a)) else bad
  | .str a, .str b => pure (.bl (!(Builtin.Str.occurrences b a 0 b.length 1).isEmpty))
  | _, _ => bad
def notInD : D → D → PM D
  | a, .lst xs => if shp a = true ∧ shp (.lst xs) = true then pure (.bl (!xs.any fun z => eqvD z a)) else bad
  | a, .tup xs => if shp a = true ∧ shp (.tup xs) = true then pure (.bl (!xs.any fun z => eqvD z a)) else bad
  | _, _ => bad
theorem shpT {xs : List D} (h : shp (.tup xs) = true) : PyData.canLayAll0 (xs.map toPy) = true := by
  have z := SeqAt.canLay_of_shaped h
  simp only [toPy, PyData.canLay0, toPyL_map] at z
  exact z
theorem op_inT (hu : X.A.units + 65 < cLine) : OpR X (compareOp .In) (rInT X.K) := by
  intro pins s σ H x y v u Q I rx ry ⟨d, ds, hd, he, sd, se, q⟩
  obtain ⟨as, r1⟩ := Dp.reads I d x v hd rx
  obtain ⟨bs, r2⟩ := Dp.reads I (.tuple ds) y u he ry
  have sc : PyData.canLayAll0 ds = true := by
    have z := SeqAt.canLay_of_shaped se
    simpa only [PyData.canLay0] using z
  exact SeqAt.in_tuple_reads r2 r1 sc (SeqAt.canLay_of_shaped sd) (room_in_shaped sd hu) ⟨.bl _, H, I, rfl, q⟩
theorem op_notInT (hu : X.A.units + 65 < cLine) : OpR X (compareOp .NotIn) (rNotInT X.K) := by
  intro pins s σ H x y v u Q I rx ry ⟨d, ds, hd, he, sd, se, q⟩
  obtain ⟨as, r1⟩ := Dp.reads I d x v hd rx
  obtain ⟨bs, r2⟩ := Dp.reads I (.tuple ds) y u he ry
  have sc : PyData.canLayAll0 ds = true := by
    have z := SeqAt.canLay_of_shaped se
    simpa only [PyData.canLay0] using z
  exact SeqAt.notIn_tuple_reads r2 r1 sc (SeqAt.canLay_of_shaped sd) (room_in_shaped sd hu) ⟨.bl _, H, I, rfl, q⟩
theorem any_py (xs : List D) (a : D) : ((xs.map toPy).any fun z => PyData.eqv z (toPy a)) = xs.any fun z => eqvD z a := by
  rw [List.any_map]
  rfl
theorem od_in (hr : Room k X.A) : OpD X (compareOp .In) inD := by
  refine ⟨_, (op_inD (room65 hr)).or ((op_inT (room65 hr)).or op_in_str), fun W pa σ G H s x y a b Q hs hp ra rb P => ?_⟩
  cases rb with
  | @lst p vs ds h n r =>
    have P : Pst X.K W X.mg pa σ (FD X.K Q) G H ((if shp a = true ∧ shp (.lst ds) = true then pure (.bl (ds.any fun z => eqvD z a)) else bad : PM D) s) := by cases ra <;> exact P
    split at P
    · rename_i hh
      have dy : Dp X.K H (.ref p) (.list (ds.map toPy)) := by
        have z := (((Rp.lst h n r : Rp X.K G (.ref p) (.lst ds)).mono hs).dpS hh.2)
        simpa only [toPy, toPyL_map] using z
      have sy : SeqAt.shaped (.list (ds.map toPy)) = true := by
        have z : SeqAt.shaped (toPy (.lst ds)) = true := hh.2
        simpa only [toPy, toPyL_map] using z
      refine .inl ⟨toPy a, ds.map toPy, (ra.mono hs).dpS hh.1, dy, hh.1, sy, ?_⟩
      rw [any_py]
      exact P G H (Ext.refl hs) hp _ (.bl _)
    · exact P.elim
  | @tup p vs ds h n r =>
    have P : Pst X.K W X.mg pa σ (FD X.K Q) G H ((if shp a = true ∧ shp (.tup ds) = true then pure (.bl (ds.any fun z => eqvD z a)) else bad : PM D) s) := by cases ra <;> exact P
    split at P
    · rename_i hh
      have dy : Dp X.K H (.ref p) (.tuple (ds.map toPy)) := by
        have z := (((Rp.tup h n r : Rp X.K G (.ref p) (.tup ds)).mono hs).dpS hh.2)
        simpa only [toPy, toPyL_map] using z
      have sy : SeqAt.shaped (.tuple (ds.map toPy)) = true := by
        have z : SeqAt.shaped (toPy (.tup ds)) = true := hh.2
        simpa only [toPy, toPyL_map] using z
      refine .inr (.inl ⟨toPy a, ds.map toPy, (ra.mono hs).dpS hh.1, dy, hh.1, sy, ?_⟩)
      rw [any_py]
      exact P G H (Ext.refl hs) hp _ (.bl _)
    · exact P.elim
  | str z =>
    cases ra with
    | str y => exact .inr (.inr ⟨y, z, rfl, rfl, P G H (Ext.refl hs) hp _ (.bl _)⟩)
    | _ => exact P.elim
  | _ => cases ra <;> exact P.elim
theorem od_notIn (hr : Room k X.A) : OpD X (compareOp .NotIn) notInD := by
  refine ⟨_, (op_notInD (room65 hr)).or (op_notInT (room65 hr)), fun W pa σ G H s x y a b Q hs hp ra rb P => ?_⟩
  cases rb with
  | @lst p vs ds h n r =>
    have P : Pst X.K W X.mg pa σ (FD X.K Q) G H ((if shp a = true ∧ shp (.lst ds) = true then pure (.bl (!ds.any fun z => eqvD z a)) else bad : PM D) s) := by cases ra <;> exact P
    split at P
    · rename_i hh
      have dy : Dp X.K H (.ref p) (.list (ds.map toPy)) := by
        have z := (((Rp.lst h n r : Rp X.K G (.ref p) (.lst ds)).mono hs).dpS hh.2)
        simpa only [toPy, toPyL_map] using z
      have sy : SeqAt.shaped (.list (ds.map toPy)) = true := by
        have z : SeqAt.shaped (toPy (.lst ds)) = true := hh.2
        simpa only [toPy, toPyL_map] using z
      refine .inl ⟨toPy a, ds.map toPy, (ra.mono hs).dpS hh.1, dy, hh.1, sy, ?_⟩
      rw [any_py]
      exact P G H (Ext.refl hs) hp _ (.bl _)
    · exact P.elim
  | @tup p vs ds h n r =>
    have P : Pst X.K W X.mg pa σ (FD X.K Q) G H ((if shp a = true ∧ shp (.tup ds) = true then pure (.bl (!ds.any fun z => eqvD z a)) else bad : PM D) s) := by cases ra <;> exact P
    split at P
    · rename_i hh
      have dy : Dp X.K H (.ref p) (.tuple (ds.map toPy)) := by
        have z := (((Rp.tup h n r : Rp X.K G (.ref p) (.tup ds)).mono hs).dpS hh.2)
        simpa only [toPy, toPyL_map] using z
      have sy : SeqAt.shaped (.tuple (ds.map toPy)) = true := by
        have z : SeqAt.shaped (toPy (.tup ds)) = true := hh.2
        simpa only [toPy, toPyL_map] using z
      refine .inr ⟨toPy a, ds.map toPy, (ra.mono hs).dpS hh.1, dy, hh.1, sy, ?_⟩
      rw [any_py]
      exact P G H (Ext.refl hs) hp _ (.bl _)
    · exact P.elim
  | _ => cases ra <;> exact P.elim

/-! ### a <= b <= c -/
theorem ev_chain {W : WX} {pa : Option Addr} {Γ : List Sl} {pos : Pos} {op op' : CmpOp} {g g' : D → D → PM D} {a b c : Expr} {ma mb mc : PM D} (ho : OpD X (compareOp op) g) (ho' : OpD X (compareOp op') g') (ha : EV X W pa Γ a ma) (hb : EV X W pa Γ b mb) (hc : EV X W pa Γ c mc)
    (hm : lastMarks [op, op'] [b, c] = false := by with_unfolding_all rfl) : EV X W pa Γ (.Compare a [op, op'] [b, c] pos) (ma >>= fun x => mb >>= fun y => g x y >>= fun r => asB r >>= fun t => if t = true then mc >>= fun z => g' y z else pure (.bl false)) := by
  obtain ⟨r, h1, h2⟩ := ho
  obtain ⟨r', h1', h2'⟩ := ho'
  refine pe_imp (pe_chain h1 h1' ha hb hc hm) fun σ H Q ⟨G0, H0, G, s, E, P⟩ =>
    ⟨G0, H0, G, s, E, P.bind.imp fun G1 H1 a s1 x1 p1 P1 v rv => ⟨G0, H0, G1, s1, E.step x1 p1, P1.bind.imp fun G2 H2 b s2 x2 p2 P2 w rw => ?_⟩⟩
  refine h2 W pa σ G2 H2 s2 v w a b _ x2.sub p2 (rv.mono x2.g) rw (P2.bind.imp fun G3 H3 d s3 x3 p3 P3 u ru => ?_)
  cases ru with
  | bl t =>
    refine ⟨t, rfl, ?_⟩
    have P4 := (P3.bind).now x3.sub p3
    cases t with
    | false => exact (show Q (.bl false) H3 from P4.now x3.sub p3 _ (.bl _))
    | true =>
      refine (show evT X W pa Γ mc σ H3 _ from ⟨G0, H0, G3, s3, ((E.step x1 p1).step x2 p2).step x3 p3, (P4.bind : Pst X.K W X.mg pa σ _ G3 H3 (mc s3)).imp fun G5 H5 z s5 x5 p5 P5 u' ru' => ?_⟩)
      exact h2' W pa σ G5 H5 s5 w u' b z Q x5.sub p5 (rw.mono (x3.g.trans x5.g)) ru' P5
  | _ => exact P3.elim

/-! ### subscripts -/
def getD : D → D → PM D
  | .lst xs, .int i => match atI xs i with | some d => pure d | none => bad
  | .tup xs, .int i => match atI xs i with | some d => pure d | none => bad
  | .str z, .int i => if z.length ≤ lim then (match atI z.cps.toList i with | some c => pure (.str ⟨#[c]⟩) | none => bad) else bad
  | _, _ => bad
theorem atI_rp {K : PySem.W.Frag} {G : Hp} {vs : List V} {ds : List D} (h : RpL K G vs ds) {i : Int} {d : D} (e : atI ds i = some d) : ∃ v, atI vs i = some v ∧ Rp K G v d := by
  unfold atI at e ⊢
  rw [h.1]
  cases q : ixN ds.length i with
  | none => rw [q] at e; cases e
  | some j =>
    rw [q] at e
    exact h.get e
theorem ev_ix {W : WX} {pa : Option Addr} {Γ : List Sl} {pos : Pos} {a b : Expr} {ma mb : PM D} (ha : EV X W pa Γ a ma) (hb : EV X W pa Γ b mb) (hs : PlainIx b) : EV X W pa Γ (.Subscript a b pos) (ma >>= fun x => mb >>= fun y => getD x y) :=
  pe_imp (pe_ix ix_seq ha hb hs) fun σ H Q ⟨G0, H0, G, s, E, P⟩ =>
    ⟨G0, H0, G, s, E, P.bind.imp fun G1 H1 a s1 x1 p1 P1 v rv => ⟨G0, H0, G1, s1, E.step x1 p1, P1.bind.imp fun G2 H2 b s2 x2 p2 P2 w rw => by
      have rv := rv.mono x2.g
      cases rv with
      | lst h n r =>
        cases rw with
        | int i =>
          rename_i ds
          have P2 : Pst X.K W X.mg pa σ (FD X.K Q) G2 H2 ((match atI ds i with | some d => pure d | none => bad : PM D) s2) := P2
          cases e : atI ds i with
          | none => rw [e] at P2; exact P2.elim
          | some d =>
            rw [e] at P2
            obtain ⟨u, e', ru⟩ := atI_rp ⟨n, r⟩ e
            exact .inl ⟨_, _, i, u, rfl, rfl, SqL.of (x2.sub _ _ h), e', P2 G2 H2 (Ext.refl x2.sub) p2 u ru⟩
        | _ => exact P2.elim
      | tup h n r =>
        cases rw with
        | int i =>
          rename_i ds
          have P2 : Pst X.K W X.mg pa σ (FD X.K Q) G2 H2 ((match atI ds i with | some d => pure d | none => bad : PM D) s2) := P2
          cases e : atI ds i with
          | none => rw [e] at P2; exact P2.elim
          | some d =>
            rw [e] at P2
            obtain ⟨u, e', ru⟩ := atI_rp ⟨n, r⟩ e
            exact .inr (.inl ⟨_, _, i, u, rfl, rfl, sameT x2.sub h, e', P2 G2 H2 (Ext.refl x2.sub) p2 u ru⟩)
        | _ => exact P2.elim
      | str z =>
        cases rw with
        | int i =>
          have P2 : Pst X.K W X.mg pa σ (FD X.K Q) G2 H2 ((if z.length ≤ lim then (match atI z.cps.toList i with | some c => pure (.str ⟨#[c]⟩) | none => bad) else bad : PM D) s2) := P2
          split at P2
          · rename_i hl
            cases e : atI z.cps.toList i with
            | none => rw [e] at P2; exact P2.elim
            | some c =>
              rw [e] at P2
              exact .inr (.inr ⟨z, i, c, rfl, rfl, lim_le hl, e, P2 G2 H2 (Ext.refl x2.sub) p2 _ (.str _)⟩)
          · exact P2.elim
        | _ => exact P2.elim
      | _ => exact P2.elim⟩⟩
/-- the bounds of a slice -/
abbrev EO (X : Cx) (W : WX) (pa : Option Addr) (Γ : List Sl) (e : Option Expr) (m : PM (Option Int)) : Prop := PO X e (fun σ H Q => ∃ G0 H0 G s, Nv X.K pa G0 H0 G H σ Γ s ∧ Pst X.K W X.mg pa σ (fun _ H' o _ => Q o H') G H (m s))
theorem po_imp {e : Option Expr} {t t' : TO} (h : PO X e t) (i : ∀ σ H Q, t' σ H Q → t σ H Q) : PO X e t' := ⟨fun pins s σ H Q I q => h.run pins s σ H Q I (i σ H Q q)⟩
def asI : D → PM (Option Int)
  | .int i => pure (some i)
  | _ => bad
theorem eo_none {W : WX} {pa : Option Addr} {Γ : List Sl} : EO X W pa Γ none (pure none) := po_imp po_none fun σ H Q ⟨G0, H0, G, s, E, P⟩ => P.now E.sub E.ps
theorem eo_some {W : WX} {pa : Option Addr} {Γ : List Sl} {e : Expr} {m : PM D} (h : EV X W pa Γ e m) : EO X W pa Γ (some e) (m >>= asI) := po_imp (po_some h) fun σ H Q ⟨G0, H0, G, s, E, P⟩ =>
  ⟨G0, H0, G, s, E, P.bind.imp fun G1 H1 a s1 x1 p1 P1 v rv => by
    cases rv with
    | int i => exact ⟨i, rfl, P1.now x1.sub p1⟩
    | _ => exact P1.elim⟩
def cutD (xs : List D) (lo hi : Option Int) : List D := (xs.drop (HT.sIx xs.length 0 lo)).take (HT.sIx xs.length xs.length hi - HT.sIx xs.length 0 lo)
def sliceD : D → Option Int → Option Int → PM D
  | .lst xs, lo, hi => mkL (cutD xs lo hi)
  | .tup xs, lo, hi => mkT (cutD xs lo hi)
  | .str z, lo, hi => if z.length ≤ lim then pure (.str (cutS z lo hi)) else bad
  | _, _, _ => bad
theorem cut_rp {K : PySem.W.Frag} {G : Hp} {vs : List V} {ds : List D} (h : RpL K G vs ds) (lo hi : Option Int) : RpL K G (cutV vs lo hi) (cutD ds lo hi) := by
  unfold cutV cutD
  rw [h.1]
  exact (h.drop _).take _
theorem ev_slice {W : WX} {pa : Option Addr} {Γ : List Sl} {pos p2 : Pos} {a : Expr} {lo hi : Option Expr} {ma : PM D} {ml mh : PM (Option Int)} (ha : EV X W pa Γ a ma) (hl : EO X W pa Γ lo ml) (hh : EO X W pa Γ hi mh) :
    EV X W pa Γ (.Subscript a (.Slice lo hi none p2) pos) (ma >>= fun x => ml >>= fun l => mh >>= fun u => sliceD x l u) :=
  pe_imp (pe_slice (SlR.or sl_list (SlR.or sl_tupA sl_str)) ha hl hh) fun σ H Q ⟨G0, H0, G, s, E, P⟩ =>
    ⟨G0, H0, G, s, E, P.bind.imp fun G1 H1 a s1 x1 p1 P1 v rv => ⟨G0, H0, G1, s1, E.step x1 p1, P1.bind.imp fun G2 H2 l s2 x2 p2 P2 => ⟨G0, H0, G2, s2, (E.step x1 p1).step x2 p2, P2.bind.imp fun G3 H3 u s3 x3 p3 P3 => by
      have rv := rv.mono (x2.g.trans x3.g)
      cases rv with
      | lst h n r =>
        rename_i ds
        exact .inl ⟨_, _, rfl, SqL.of (x3.sub _ _ h), fun p np => mkL_use (P3 : Pst X.K W X.mg pa σ (FD X.K Q) G3 H3 (mkL (cutD ds l u) s3)) (cut_rp ⟨n, r⟩ l u) x3.sub p3 np⟩
      | tup h n r =>
        rename_i ds
        have P3 : Pst X.K W X.mg pa σ (FD X.K Q) G3 H3 (mkT (cutD ds l u) s3) := P3
        refine .inr (.inl ⟨_, _, rfl, sameT x3.sub h, fun hw => ?_, fun hw p np => mkT_use P3 (cut_rp ⟨n, r⟩ l u) x3.sub p3 np⟩)
        have e : cutD ds l u = ds := by
          rw [n] at hw
          unfold cutD
          rw [hw.1, hw.2]
          simp
        rw [e] at P3
        exact mkT_same P3 h ⟨n, r⟩ x3.sub p3
      | str z =>
        have P3 : Pst X.K W X.mg pa σ (FD X.K Q) G3 H3 ((if z.length ≤ lim then pure (.str (cutS z l u)) else bad : PM D) s3) := P3
        split at P3
        · rename_i hz
          exact .inr (.inr ⟨z, rfl, lim_le hz, P3 G3 H3 (Ext.refl x3.sub) p3 _ (.str _)⟩)
        · exact P3.elim
      | _ => exact P3.elim⟩⟩⟩

/-! ### built-in functions -/
def lenF : List D → PM D
  | [.lst xs] => pure (.int xs.length)
  | [.tup xs] => pure (.int xs.length)
  | [.str z] => if z.length ≤ lim then pure (.int z.length) else bad
  | _ => bad
theorem rp1 {K : PySem.W.Frag} {G : Hp} {vs : List V} {d : D} (h : RpL K G vs [d]) : ∃ v, vs = [v] ∧ Rp K G v d := by
  have n := h.1
  cases vs with
  | nil => simp at n
  | cons v r =>
    cases r with
    | nil => exact ⟨v, rfl, h.tail.1⟩
    | cons _ _ => simp at n
theorem rp2 {K : PySem.W.Frag} {G : Hp} {vs : List V} {d e : D} (h : RpL K G vs [d, e]) : ∃ v w, vs = [v, w] ∧ Rp K G v d ∧ Rp K G w e := by
  have n := h.1
  cases vs with
  | nil => simp at n
  | cons v r =>
    obtain ⟨w, rfl, r2⟩ := rp1 h.tail.2
    exact ⟨v, w, rfl, h.tail.1, r2⟩
theorem cd_len : CallD X (.builtin "len") lenF := by
  refine ⟨_, call_len_seq.or call_len_str, fun W pa σ G H s xs ds Q hs hp rs P => ?_⟩
  match ds, rs, P with
  | [d], rs, P =>
    obtain ⟨v, rfl, r⟩ := rp1 rs
    cases r with
    | lst h n r => exact .inl ⟨_, _, rfl, .inl (SqL.of (hs _ _ h)), by rw [n]; exact P G H (Ext.refl hs) hp _ (.int _)⟩
    | tup h n r => exact .inl ⟨_, _, rfl, .inr (sameT hs h), by rw [n]; exact P G H (Ext.refl hs) hp _ (.int _)⟩
    | str z =>
      have P : Pst X.K W X.mg pa σ (FD X.K Q) G H ((if z.length ≤ lim then pure (.int z.length) else bad : PM D) s) := P
      split at P
      · rename_i hz
        exact .inr ⟨z, rfl, lim_le hz, P G H (Ext.refl hs) hp _ (.int _)⟩
      · exact P.elim
    | _ => exact P.elim
  | [], _, P => exact P.elim
  | a :: _ :: _, _, P => cases a <;> exact P.elim
def tupleF : List D → PM D
  | [.lst xs] => mkT xs
  | [.tup xs] => mkT xs
  | _ => bad
theorem cd_tuple : CallD X (.type "tuple") tupleF := by
  refine ⟨_, call_tuple_of, fun W pa σ G H s xs ds Q hs hp rs P => ?_⟩
  match ds, rs, P with
  | [d], rs, P =>
    obtain ⟨v, rfl, r⟩ := rp1 rs
    cases r with
    | lst h n r => exact ⟨_, _, rfl, .inl ⟨SqL.of (hs _ _ h), fun p np => mkT_use (P : Pst X.K W X.mg pa σ (FD X.K Q) G H (mkT _ s)) ⟨n, r⟩ hs hp np⟩⟩
    | tup h n r => exact ⟨_, _, rfl, .inr ⟨sameT hs h, mkT_same (P : Pst X.K W X.mg pa σ (FD X.K Q) G H (mkT _ s)) h ⟨n, r⟩ hs hp⟩⟩
    | _ => exact P.elim
  | [], _, P => exact P.elim
  | a :: _ :: _, _, P => cases a <;> exact P.elim
def listF : List D → PM D
  | [.lst xs] => mkL xs
  | [.tup xs] => mkL xs
  | _ => bad
theorem cd_list : CallD X (.type "list") listF := by
  refine ⟨_, call_list_of, fun W pa σ G H s xs ds Q hs hp rs P => ?_⟩
  match ds, rs, P with
  | [d], rs, P =>
    obtain ⟨v, rfl, r⟩ := rp1 rs
    cases r with
    | lst h n r => exact ⟨_, _, rfl, .inl (SqL.of (hs _ _ h)), fun p np => mkL_use (P : Pst X.K W X.mg pa σ (FD X.K Q) G H (mkL _ s)) ⟨n, r⟩ hs hp np⟩
    | tup h n r => exact ⟨_, _, rfl, .inr (sameT hs h), fun p np => mkL_use (P : Pst X.K W X.mg pa σ (FD X.K Q) G H (mkL _ s)) ⟨n, r⟩ hs hp np⟩
    | _ => exact P.elim
  | [], _, P => exact P.elim
  | a :: _ :: _, _, P => cases a <;> exact P.elim
def maxF : List D → PM D
  | [.int i, .int j] => pure (.int (if j > i then j else i))
  | _ => bad
def minF : List D → PM D
  | [.int i, .int j] => pure (.int (if j < i then j else i))
  | _ => bad
theorem cd_max (hc : X.calm = true) : CallD X (.builtin "max") maxF := by
  refine ⟨_, call_max2 hc, fun W pa σ G H s xs ds Q hs hp rs P => ?_⟩
  match ds, rs, P with
  | [.int i, .int j], rs, P =>
    obtain ⟨v, w, rfl, r1, r2⟩ := rp2 rs
    cases r1
    cases r2
    exact ⟨i, j, rfl, P G H (Ext.refl hs) hp _ (.int _)⟩
  | [], _, P => exact P.elim
  | [a], _, P => cases a <;> exact P.elim
  | a :: b :: c :: r, _, P => cases a <;> cases b <;> exact P.elim
  | [.non, b], _, P => exact P.elim
  | [.bl _, b], _, P => exact P.elim
  | [.str _, b], _, P => exact P.elim
  | [.tup _, b], _, P => exact P.elim
  | [.lst _, b], _, P => exact P.elim
  | [.dct _, b], _, P => exact P.elim
  | [.obj _ _, b], _, P => exact P.elim
  | [.int _, .non], _, P => exact P.elim
  | [.int _, .bl _], _, P => exact P.elim
  | [.int _, .str _], _, P => exact P.elim
  | [.int _, .tup _], _, P => exact P.elim
  | [.int _, .lst _], _, P => exact P.elim
  | [.int _, .dct _], _, P => exact P.elim
  | [.int _, .obj _ _], _, P => exact P.elim
theorem cd_min (hc : X.calm = true) : CallD X (.builtin "min") minF := by
  refine ⟨_, call_min2 hc, fun W pa σ G H s xs ds Q hs hp rs P => ?_⟩
  match ds, rs, P with
  | [.int i, .int j], rs, P =>
    obtain ⟨v, w, rfl, r1, r2⟩ := rp2 rs
    cases r1
    cases r2
    exact ⟨i, j, rfl, P G H (Ext.refl hs) hp _ (.int _)⟩
  | [], _, P => exact P.elim
  | [a], _, P => cases a <;> exact P.elim
  | a :: b :: c :: r, _, P => cases a <;> cases b <;> exact P.elim
  | [.non, b], _, P => exact P.elim
  | [.bl _, b], _, P => exact P.elim
  | [.str _, b], _, P => exact P.elim
  | [.tup _, b], _, P => exact P.elim
  | [.lst _, b], _, P => exact P.elim
  | [.dct _, b], _, P => exact P.elim
  | [.obj _ _, b], _, P => exact P.elim
  | [.int _, .non], _, P => exact P.elim
  | [.int _, .bl _], _, P => exact P.elim
  | [.int _, .str _], _, P => exact P.elim
  | [.int _, .tup _], _, P => exact P.elim
  | [.int _, .lst _], _, P => exact P.elim
  | [.int _, .dct _], _, P => exact P.elim
  | [.int _, .obj _ _], _, P => exact P.elim
/-- lists of bools, of ints -/
def blsOf : List D → Option (List Bool)
  | [] => some []
  | .bl b :: r => (blsOf r).map (b :: ·)
  | _ :: _ => none
def intsOf : List D → Option (List Int)
  | [] => some []
  | .int b :: r => (intsOf r).map (b :: ·)
  | _ :: _ => none
theorem blsOf_map : ∀ bs : List Bool, blsOf (bs.map D.bl) = some bs
  | [] => rfl
  | b :: r => by simp only [List.map_cons, blsOf, blsOf_map r, Option.map_some]
theorem intsOf_map : ∀ bs : List Int, intsOf (bs.map D.int) = some bs
  | [] => rfl
  | b :: r => by simp only [List.map_cons, intsOf, intsOf_map r, Option.map_some]
theorem blsOf_rp {K : PySem.W.Frag} {G : Hp} : ∀ {vs : List V} {ds : List D} {bs : List Bool}, RpL K G vs ds → blsOf ds = some bs → vs = bs.map V.bl
  | [], [], bs, _, e => by cases e; rfl
  | [], _ :: _, _, r, _ => absurd r.1 (by simp)
  | _ :: _, [], _, r, _ => absurd r.1 (by simp)
  | v :: vs, d :: ds, bs, r, e => by
    cases r.tail.1 with
    | bl b =>
      simp only [blsOf] at e
      cases q : blsOf ds with
      | none => rw [q] at e; cases e
      | some cs =>
        rw [q] at e
        cases e
        rw [blsOf_rp r.tail.2 q]
        rfl
    | _ => cases e
theorem intsOf_rp {K : PySem.W.Frag} {G : Hp} : ∀ {vs : List V} {ds : List D} {bs : List Int}, RpL K G vs ds → intsOf ds = some bs → vs = bs.map V.int
  | [], [], bs, _, e => by cases e; rfl
  | [], _ :: _, _, r, _ => absurd r.1 (by simp)
  | _ :: _, [], _, r, _ => absurd r.1 (by simp)
  | v :: vs, d :: ds, bs, r, e => by
    cases r.tail.1 with
    | int b =>
      simp only [intsOf] at e
      cases q : intsOf ds with
      | none => rw [q] at e; cases e
      | some cs =>
        rw [q] at e
        cases e
        rw [intsOf_rp r.tail.2 q]
        rfl
    | _ => cases e
def anyF : List D → PM D
  | [.lst xs] => match blsOf xs with | some bs => pure (.bl (bs.any id)) | none => bad
  | _ => bad
def allF : List D → PM D
  | [.lst xs] => match blsOf xs with | some bs => pure (.bl (bs.all id)) | none => bad
  | _ => bad
theorem cd_any (hc : X.calm = true) : CallD X (.builtin "any") anyF := by
  refine ⟨_, cr_any hc, fun W pa σ G H s xs ds Q hs hp rs P => ?_⟩
  match ds, rs, P with
  | [d], rs, P =>
    obtain ⟨v, rfl, r⟩ := rp1 rs
    cases r with
    | @lst a vs es h n r =>
      have P : Pst X.K W X.mg pa σ (FD X.K Q) G H ((match blsOf es with | some bs => pure (.bl (bs.any id)) | none => bad : PM D) s) := P
      cases e : blsOf es with
      | none => rw [e] at P; exact P.elim
      | some bs =>
        rw [e] at P
        exact ⟨_, bs, rfl, by rw [← blsOf_rp ⟨n, r⟩ e]; exact SqL.of (hs _ _ h), P G H (Ext.refl hs) hp _ (.bl _)⟩
    | _ => exact P.elim
  | [], _, P => exact P.elim
  | a :: _ :: _, _, P => cases a <;> exact P.elim
theorem cd_all (hc : X.calm = true) : CallD X (.builtin "all") allF := by
  refine ⟨_, cr_all hc, fun W pa σ G H s xs ds Q hs hp rs P => ?_⟩
  match ds, rs, P with
  | [d], rs, P =>
    obtain ⟨v, rfl, r⟩ := rp1 rs
    cases r with
    | @lst a vs es h n r =>
      have P : Pst X.K W X.mg pa σ (FD X.K Q) G H ((match blsOf es with | some bs => pure (.bl (bs.all id)) | none => bad : PM D) s) := P
      cases e : blsOf es with
      | none => rw [e] at P; exact P.elim
      | some bs =>
        rw [e] at P
        exact ⟨_, bs, rfl, by rw [← blsOf_rp ⟨n, r⟩ e]; exact SqL.of (hs _ _ h), P G H (Ext.refl hs) hp _ (.bl _)⟩
    | _ => exact P.elim
  | [], _, P => exact P.elim
  | a :: _ :: _, _, P => cases a <;> exact P.elim
/-- sorted of ints -/
def insI (x : Int) : List Int → List Int
  | [] => [x]
  | y :: r => if x ≤ y then x :: y :: r else y :: insI x r
def sortI : List Int → List Int
  | [] => []
  | x :: r => insI x (sortI r)
theorem insI_perm (x : Int) : ∀ l, (insI x l).Perm (x :: l)
  | [] => .refl _
  | y :: r => by
    unfold insI
    split
    · exact .refl _
    · exact ((insI_perm x r).cons y).trans (.swap x y r)
theorem sortI_perm : ∀ l, (sortI l).Perm l
  | [] => .refl _
  | x :: r => (insI_perm x (sortI r)).trans ((sortI_perm r).cons x)
theorem insI_sorted (x : Int) : ∀ l, l.Pairwise (· ≤ ·) → (insI x l).Pairwise (· ≤ ·)
  | [], _ => by simp [insI]
  | y :: r, h => by
    unfold insI
    have h' := List.pairwise_cons.mp h
    split
    · rename_i hxy
      refine List.pairwise_cons.mpr ⟨fun z hz => ?_, h⟩
      rcases List.mem_cons.mp hz with rfl | hz
      · exact hxy
      · exact Int.le_trans hxy (h'.1 z hz)
    · rename_i hxy
      refine List.pairwise_cons.mpr ⟨fun z hz => ?_, insI_sorted x r h'.2⟩
      have hz' := (insI_perm x r).mem_iff.mp hz
      rcases List.mem_cons.mp hz' with rfl | hz'
      · omega
      · exact h'.1 z hz'
theorem sortI_sorted : ∀ l, (sortI l).Pairwise (· ≤ ·)
  | [] => .nil
  | x :: r => insI_sorted x _ (sortI_sorted r)
theorem sorted_eq {l r : List Int} (p : l.Perm r) (hl : l.Pairwise (· ≤ ·)) (hr : r.Pairwise (· ≤ ·)) : l = r :=
  List.Perm.eq_of_pairwise (fun a b _ _ h1 h2 => Int.le_antisymm h1 h2) hl hr p
def sortedF : List D → PM D
  | [.lst xs] => match intsOf xs with | some ns => mkL ((sortI ns).map D.int) | none => bad
  | _ => bad
theorem rpl_ints {K : PySem.W.Frag} {G : Hp} (ns : List Int) : RpL K G (ns.map V.int) (ns.map D.int) := RpL.map_of ns fun x _ => .int x
theorem cd_sortedI : CallD X (.builtin "sorted") sortedF := by
  refine ⟨_, cr_sortedI, fun W pa σ G H s xs ds Q hs hp rs P => ?_⟩
  match ds, rs, P with
  | [d], rs, P =>
    obtain ⟨v, rfl, r⟩ := rp1 rs
    cases r with
    | @lst a vs es h n r =>
      have P : Pst X.K W X.mg pa σ (FD X.K Q) G H ((match intsOf es with | some ns => mkL ((sortI ns).map D.int) | none => bad : PM D) s) := P
      cases e : intsOf es with
      | none => rw [e] at P; exact P.elim
      | some bs =>
        rw [e] at P
        refine ⟨_, bs, rfl, by rw [← intsOf_rp ⟨n, r⟩ e]; exact SqL.of (hs _ _ h), fun ns' p q1 q2 np => ?_⟩
        have e2 : ns' = sortI bs := sorted_eq (q1.trans (sortI_perm bs).symm) q2 (sortI_sorted bs)
        rw [e2]
        exact mkL_use (P : Pst X.K W X.mg pa σ (FD X.K Q) G H (mkL _ s)) (rpl_ints _) hs hp np
    | _ => exact P.elim
  | [], _, P => exact P.elim
  | a :: _ :: _, _, P => cases a <;> exact P.elim
/-! repr of data -/
mutual
def okD : D → Bool
  | .non => true
  | .bl _ => true
  | .int i => decide (i.natAbs.log2 < 1920)
  | .str _ => true
  | .tup xs => okDL xs
  | .lst xs => okDL xs
  | .dct _ => false
  | .obj _ _ => false
def okDL : List D → Bool
  | [] => true
  | x :: xs => okD x && okDL xs
end
mutual
theorem okD_py : ∀ d : D, okD d = true → (toPy d).showable = true ∧ (toPy d).hasDict = false
  | .non, _ => ⟨rfl, rfl⟩
  | .bl _, _ => ⟨rfl, rfl⟩
  | .int i, h => ⟨by simpa [toPy, PyData.showable, okD] using h, rfl⟩
  | .str _, _ => ⟨rfl, rfl⟩
  | .tup xs, h => by
    have z := okDL_py xs (by simpa [okD] using h)
    exact ⟨by simpa [toPy, PyData.showable] using z.1, by simpa [toPy, PyData.hasDict] using z.2⟩
  | .lst xs, h => by
    have z := okDL_py xs (by simpa [okD] using h)
    exact ⟨by simpa [toPy, PyData.showable] using z.1, by simpa [toPy, PyData.hasDict] using z.2⟩
  | .dct _, h => by simp [okD] at h
  | .obj _ _, h => by simp [okD] at h
theorem okDL_py : ∀ ds : List D, okDL ds = true → PyData.showableAll (toPyL ds) = true ∧ PyData.hasDictAll (toPyL ds) = false
  | [], _ => ⟨rfl, rfl⟩
  | x :: xs, h => by
    simp only [okDL, Bool.and_eq_true] at h
    have z1 := okD_py x h.1
    have z2 := okDL_py xs h.2
    exact ⟨by simp [toPyL, PyData.showableAll, z1.1, z2.1], by simp [toPyL, PyData.hasDictAll, z1.2, z2.2]⟩
end
def reprF : List D → PM D
  | [d] => if okD d = true ∧ (toPy d).depth ≤ 60 ∧ (shown d).length ≤ lim then pure (.str (shown d)) else bad
  | _ => bad
def rRepr (K : PySem.W.Frag) : List V → Hp → VK → Prop := fun xs H Q => ∃ x d, xs = [x] ∧ Dp K H x d ∧ d.showable = true ∧ d.hasDict = false ∧ d.depth ≤ 60 ∧ d.shown.length ≤ sizeLine ∧ Q (.str d.shown) H
theorem call_reprD (hr : Room k X.A) (hg : X.A.guards = some []) : CallR X (.builtin "repr") (rRepr X.K) := by
  intro pins s σ H xs us Q I r h
  obtain ⟨x, d, rfl, dp, h1, h2, h3, h4, q⟩ := h
  obtain ⟨u, rfl, ru⟩ := vals1 r
  obtain ⟨as, rd⟩ := Dp.reads I d x u dp ru
  have hu := hr.un
  cases rd with
  | none => exact PySem.P.repr_of_none ⟨.str _, H, I.tok _, ⟨_, rfl⟩, q⟩
  | bool b => exact PySem.P.repr_of_bool ⟨.str _, H, I.tok _, ⟨_, rfl⟩, by cases b <;> exact q⟩
  | int i t => exact PySem.P.repr_of_int (by simpa [PyData.showable] using h1) ⟨.str _, H, I.tok _, ⟨_, rfl⟩, q⟩
  | str z t => exact PySem.P.repr_of_str ⟨.str _, H, I.tok _, ⟨_, rfl⟩, q⟩ h4
  | list a1 a2 a3 a4 => exact repr_of_reads' (.list a1 a2 a3 a4) h1 (fun e => by rw [h2] at e; cases e) hg (by omega) (fun _ _ e => e) (fun h' u tk hk => ⟨.str _, H, I.kept (t' := tk) hk, ⟨_, rfl⟩, q⟩) h4
  | tuple a1 a2 a3 a4 => exact repr_of_reads' (.tuple a1 a2 a3 a4) h1 (fun e => by rw [h2] at e; cases e) hg (by omega) (fun _ _ e => e) (fun h' u tk hk => ⟨.str _, H, I.kept (t' := tk) hk, ⟨_, rfl⟩, q⟩) h4
  | dict a1 a2 a3 a4 a5 => simp [PyData.hasDict] at h2
theorem cd_repr (hr : Room k X.A) (hg : X.A.guards = some []) : CallD X (.builtin "repr") reprF := by
  refine ⟨_, call_reprD hr hg, fun W pa σ G H s xs ds Q hs hp rs P => ?_⟩
  match ds, rs, P with
  | [d], rs, P =>
    obtain ⟨v, rfl, r⟩ := rp1 rs
    have P : Pst X.K W X.mg pa σ (FD X.K Q) G H ((if okD d = true ∧ (toPy d).depth ≤ 60 ∧ (shown d).length ≤ lim then pure (.str (shown d)) else bad : PM D) s) := P
    split at P
    · rename_i hh
      have z := okD_py d hh.1
      exact ⟨v, toPy d, rfl, (r.mono hs).dp z.2, z.1, z.2, hh.2.1, lim_le hh.2.2, P G H (Ext.refl hs) hp _ (.str _)⟩
    · exact P.elim
  | [], _, P => exact P.elim
  | a :: _ :: _, _, P => exact P.elim
end
end EV

/-! EV 4: what is walked; comprehensions. -/
namespace EV
open PySem PySem.Spec PyProof.Rows L2

/-! ### enumerate(tuple) -/
theorem newEnumB {v : Value} {o : Obj} {H : Heap → Prop} (B : Begins v o H) :
    Meets (Builtin.«enumerate.__new__» ⟨[.type "enumerate", v], []⟩)
      (fun _ R s => H s.heap ∧ R (.ok (.ret (.ref (s.heap.push o).objs.size)))
        { s with heap := (s.heap.push o).push { cls := .type "enumerate", data := .fields #[.none, .bool false, .ref s.heap.objs.size, rawInt 0, .none, .none] } }) :=
  .of_wp fun prog w A R s h => by
    obtain ⟨hp, g, d, tk, os⟩ := s
    obtain ⟨h1, h⟩ := h
    have hsub := sub_enumerate
    have q1 : ∀ {A' : Around} {E : Value → Shared → Prop} {Q : Value → Shared → Prop}, Q (.ref hp.objs.size) ⟨hp.push o, g, d, tk, os⟩ → wpAny (model prog w) A' (pyIter v) Q E ⟨hp, g, d, tk, os⟩ :=
      fun q => B.iter prog w _ _ ⟨hp, g, d, tk, os⟩ _ h1 q
    wp_walk using q1
    refine wpAny_stack_any fun st => wpAny_pure ?_
    split
    · rename_i c _ _ _ _ _
      cases (c == Value.type "enumerate") <;> (wp_walk using q1; exact ⟨_, rfl, h⟩)
    · wp_walk using q1
      exact ⟨_, rfl, h⟩
theorem callEnumT {prog : Program} {w : World} {A : Around} {E : Value → Shared → Prop} {s : Shared} {l : Addr} {items : Array Value} {Q : Value → Shared → Prop} (hT : s.heap.IsTuple l items)
    (h : ∀ h', IsEnum h' (s.heap.objs.size + 1) s.heap.objs.size 0 .none → h'.IsTupleIter s.heap.objs.size l 0 →
      (∀ b o, s.heap.get? b = some o → h'.get? b = some o) → Q (.ref (s.heap.objs.size + 1)) { s with heap := h' }) :
    wpAny (model prog w) A (call (.type "enumerate") [.ref l]) Q E s := by
  refine callType_new F.called_enumerate (by decide) (F.typeCall_enumerate_1 _) (F.newCall_enumerate_1 _) (fun obj => F.args_object_init_2 obj _)
    F.entry_enumerate_new (newEnumB (begins_tuple l items)) ⟨hT, ?_⟩
  generalize ho : ({ cls := .type "tuple_iterator", data := .fields #[.ref l, .int 0 0] } : Obj) = ob
  have hf : ob.isFreed = false := by rw [← ho]; rfl
  have hz : (s.heap.push ob).objs.size = s.heap.objs.size + 1 := Heap.size_push ..
  show _ ∧ _
  rw [hz]
  generalize he0 : ({ cls := .type "enumerate", data := .fields #[.none, .bool false, .ref s.heap.objs.size, rawInt 0, .none, .none] } : Obj) = oe
  have hfe : oe.isFreed = false := by rw [← he0]; rfl
  have he : ((s.heap.push ob).push oe).get? (s.heap.objs.size + 1) = some oe := by
    have := Heap.get?_push_size (s.heap.push ob) (o := oe) hfe
    rw [hz] at this
    exact this
  have he2 : IsEnum ((s.heap.push ob).push oe) (s.heap.objs.size + 1) s.heap.objs.size 0 .none := by
    subst he0
    exact he
  refine ⟨⟨_, he2, rfl⟩, h _ he2 ?_ fun b o x => Heap.get?_push_of_some _ (Heap.get?_push_of_some _ x)⟩
  subst ho
  exact ⟨_, Heap.get?_push_of_some _ (Heap.get?_push_size _ hf), rfl, rfl⟩
/-- the tuple at a, each item in a new pair -/
def IteT (K : PySem.W.Frag) (a : Addr) : It :=
  ⟨fun i H => ∃ (xs : List V) (x : V), SqT K H a xs ∧ xs[i]? = some x,
    fun i H v H' => ∃ T x, v = .ref T ∧ H T = none ∧ H' = upd H T (.tup [.int (i : Nat), x]) ∧ ∀ xs, SqT K H a xs → xs[i]? = some x,
    fun i H => ∃ xs : List V, SqT K H a xs ∧ xs.length ≤ i⟩
theorem turnEnumT {P : Program} {w : World} {K : PySem.W.Frag} {elts : List Expr} {kk : Nat} {tpos : Pos} (a e it : Addr) :
    Turn P w K (.Tuple elts kk tpos) (IteT K a) [e, it] e (fun i h => (∃ old, IsEnum h e it ((i : Nat) : Int) old) ∧ h.IsTupleIter it a i ∧ e ≠ it ∧ a ≠ it ∧ a ≠ e) where
  mem := by simp
  obj := fun i h st b hb => by
    obtain ⟨⟨old, he⟩, ⟨o, ho, hc, hd⟩, _⟩ := st
    have e' : b = e ∨ b = it := by simpa using hb
    rcases e' with z | z
    · rw [z]
      exact ⟨_, he, fun v q => nomatch q⟩
    · rw [z]
      exact ⟨o, ho, fun v q => by rw [hd] at q; cases q⟩
  keep := fun i h h' st k => by
    obtain ⟨⟨old, he⟩, hi, hne⟩ := st
    exact ⟨⟨old, k e (by simp) _ he⟩, hi.at fun o q => k it (by simp) o q, hne⟩
  item := by
    intro X hP hw hK hc i pins s σ H E I hf st hg
    subst hP hw hK
    obtain ⟨⟨old, he⟩, hit, hne, hai, hae⟩ := st
    obtain ⟨xs, x, hq, hx⟩ := hg
    obtain ⟨its, rv, p, hz⟩ := I.tuple hq
    have hlt : i < its.toArray.size := by
      have h1 := (List.getElem?_eq_some_iff.mp hx).1
      have h2 := rv.length
      simp only [List.size_toArray]
      omega
    have hel : e < s.heap.objs.size := Heap.lt_size he
    have hil : it < s.heap.objs.size := by
      obtain ⟨_, q, _⟩ := hit
      exact Heap.lt_size q
    refine wpAny_pyNext_enum_itemD (Draws.tuple (prog := X.prog) (w := X.w) (A := X.A.in1) (I.ok.hd hc) it a hai its.toArray) he ⟨hit, p⟩ hlt hne (by simp [hne, Ne.symm hae]) fun u h' tk hu ho hit' hT hsz hk => ?_
    obtain ⟨u', hu', ru'⟩ := rv.get hx
    have eu : u = u' := by
      have z : its[i]? = some u := by simpa using hu
      rw [hu'] at z
      exact (Option.some.inj z).symm
    subst eu
    refine ⟨_, rfl, wpAny_letOwnedTupleGo_enum (s := { s with heap := h', toks := tk + 1 }) ho fun h'' he' sb => ?_⟩
    have hT2 : h''.get? s.heap.objs.size = some { cls := .type "tuple", data := .seq #[.int i tk, u] } := (sb.2 _ (Nat.ne_of_gt hel)).trans hT
    have new : ObjOk X.prog X.w (upd H s.heap.objs.size (.tup [.int (i : Nat), x])) h'' s.heap.objs.size (.tup [.int (i : Nat), x]) :=
      ⟨(by show 2 ≤ sizeLine; decide), [.int i tk, u], .cons ⟨_, rfl⟩ (.cons ru' .nil), ⟨_, hT2, rfl, _, rfl⟩⟩
    have I1 : Inv X pins σ (upd H s.heap.objs.size (.tup [.int (i : Nat), x])) { s with heap := h'', toks := tk + 1 } := by
      refine I.turnedNew (ch := [e, it]) (fun b ob hb q => ?_) hf (Nat.le_refl _) new
      have n1 : b ≠ e := fun z => hb (by simp [z])
      have n2 : b ≠ it := fun z => hb (by simp [z])
      exact (sb.2 b n1).trans (hk b ob n1 n2 q)
    refine ⟨.ref s.heap.objs.size, _, I1, rfl, ⟨_, x, rfl, I.hok.fresh (Nat.le_refl _), rfl, fun ys hy => ?_⟩, ⟨⟨u, ?_⟩, ?_, hne, hai, hae⟩, fun b hb => ?_⟩
    · rw [I.tuple_inj hy hq]
      exact hx
    · have e1 : ((i + 1 : Nat) : Int) = (i : Int) + 1 := by omega
      rw [e1]
      exact he'
    · exact hit'.1.at fun o q => (sb.2 it (Ne.symm hne)).trans q
    · have hb' : b < s.heap.objs.size := by
        have e' : b = e ∨ b = it := by simpa using hb
        rcases e' with z | z <;> (rw [z]; assumption)
      rw [upd_ne (Nat.ne_of_lt hb')]
      exact (hf b hb).1
  done := by
    intro X hP hw hK hc i pins s σ H E I hf st hg
    subst hP hw hK
    obtain ⟨⟨old, he⟩, hit, hne, hai, hae⟩ := st
    obtain ⟨xs, hq, hx⟩ := hg
    obtain ⟨its, rv, p, hz⟩ := I.tuple hq
    obtain ⟨f0, f1, f2, f3, f4, f5⟩ := hf it (by simp)
    have hl := rv.length
    have D0 := Draws.tuple (prog := X.prog) (w := X.w) (A := X.A.in1) (I.ok.hd hc) it a hai its.toArray
    have D : Draws X.prog X.w X.A.in1 it [it, a] i (fun _ _ => True) (fun j h => j = i ∧ h.IsTupleIter it a i ∧ h.IsTuple a its.toArray) := by
      refine ⟨fun _ _ st => ?_, fun _ _ _ st hk => ⟨st.1, st.2.1.at fun o e => hk it (by simp) o e, st.2.2.at fun o e => hk a (by simp) o e⟩, fun j s Q E hj st => ?_, fun s Q E st hE => ?_⟩
      · obtain ⟨_, ⟨o, ho, _⟩, _⟩ := st
        exact ⟨o, ho⟩
      · have := st.1
        omega
      · exact wpAny_nextOf_tuple_end (I.ok.hd hc) st.2.1 st.2.2 (by simp; omega) hE
    exact wpAny_pyNext_enum_endD D he ⟨rfl, hit, p⟩ fun h' eb => ⟨rfl, I.turned (t' := s.toks) (fun b o hb q => eb b o hb q) f0 f1 f3 f4 f5⟩
  self := fun A i s Q E st h => by
    obtain ⟨⟨_, he⟩, _⟩ := st
    exact wpAny_pyIter_enum he h

/-! ### what is walked, as a list -/
def IterOk (K : PySem.W.Frag) (J : It) (G : Hp) (xs : List D) : Prop := ∀ G' H', Same G G' → Same G' H' →
  (∀ (i : Nat) x, xs[i]? = some x → J.go i H' ∧ ∀ v H'', J.yld i H' v H'' → ∃ G'', Ext K none G' H' G'' H'' ∧ Rp K G'' v x) ∧ (∀ i : Nat, xs.length ≤ i → J.stop i H')
def evI (X : Cx) (W : WX) (pa : Option Addr) (Γ : List Sl) (m : PM (List D)) : TI := fun σ H R => ∃ G0 H0 G s, Nv X.K pa G0 H0 G H σ Γ s ∧ Pst X.K W X.mg pa σ (fun G' H' xs _ => ∀ J, IterOk X.K J G' xs → R J H') G H (m s)
abbrev EI (X : Cx) (W : WX) (pa : Option Addr) (Γ : List Sl) (tg iter : Expr) (m : PM (List D)) : Prop := PI X tg iter (evI X W pa Γ m)
theorem pi_imp {X : Cx} {tg iter : Expr} {t t' : TI} (h : PI X tg iter t) (i : ∀ σ H Q, t' σ H Q → t σ H Q) : PI X tg iter t' := ⟨fun pins s σ H Q I q => h.run pins s σ H Q I (i σ H Q q)⟩
theorem Ext.any {K : PySem.W.Frag} {pa : Option Addr} {G H G' H' : Hp} (x : Ext K none G H G' H') : Ext K pa G H G' H' := ⟨x.g, fun a o e _ t => x.h a o e (fun z => by cases z) t, x.t, x.n, x.sub, x.tk, x.gt⟩
theorem PenOk.ext {K : PySem.W.Frag} {pa : Option Addr} {G H G' H' : Hp} {s : List Int} (p : PenOk pa G H s) (x : Ext K Option.none G H G' H') : PenOk pa G' H' s := fun q e => by
  obtain ⟨h1, h2⟩ := p q e
  exact ⟨x.n _ _ h2 h1, x.h _ _ h2 (fun z => by cases z)⟩
section
variable {K : PySem.W.Frag} {G : Hp} {vs : List V} {ds : List D} {a : Addr}
theorem iter_list (h : G a = some (.lst vs)) (r : RpL K G vs ds) : IterOk K (Itl K a) G ds := fun G' H' g s => by
  refine ⟨fun i x e => ?_, fun i hi => ⟨vs, SqL.of (s _ _ (g _ _ h)), by rw [r.1]; exact hi⟩⟩
  obtain ⟨v, e', rv⟩ := r.get e
  refine ⟨⟨vs, v, SqL.of (s _ _ (g _ _ h)), e'⟩, fun w H'' y => ?_⟩
  obtain ⟨rfl, y⟩ := y
  have e2 := y vs (SqL.of (s _ _ (g _ _ h)))
  rw [e'] at e2
  cases e2
  exact ⟨G', Ext.refl s, rv.mono g⟩
theorem iter_tup (h : SqT K G a vs) (r : RpL K G vs ds) : IterOk K (Itt K a) G ds := fun G' H' g s => by
  refine ⟨fun i x e => ?_, fun i hi => ⟨vs, sameT s (sameT g h), by rw [r.1]; exact hi⟩⟩
  obtain ⟨v, e', rv⟩ := r.get e
  refine ⟨⟨vs, v, sameT s (sameT g h), e'⟩, fun w H'' y => ?_⟩
  obtain ⟨rfl, y⟩ := y
  have e2 := y vs (sameT s (sameT g h))
  rw [e'] at e2
  cases e2
  exact ⟨G', Ext.refl s, rv.mono g⟩
def pairsFrom : Nat → List D → List D
  | _, [] => []
  | n, x :: r => .tup [.int n, x] :: pairsFrom (n + 1) r
theorem pairsFrom_get : ∀ (xs : List D) (n i : Nat) (y : D), (pairsFrom n xs)[i]? = some y → ∃ x, xs[i]? = some x ∧ y = .tup [.int ((n + i : Nat) : Int), x]
  | [], _, _, _, h => by simp [pairsFrom] at h
  | x :: r, n, 0, y, h => by
    simp [pairsFrom] at h
    exact ⟨x, rfl, h.symm⟩
  | x :: r, n, i + 1, y, h => by
    simp only [pairsFrom, List.getElem?_cons_succ] at h
    obtain ⟨z, h1, h2⟩ := pairsFrom_get r (n + 1) i y h
    refine ⟨z, by simpa using h1, ?_⟩
    rw [h2]
    have : n + 1 + i = n + (i + 1) := by omega
    rw [this]
theorem pairsFrom_len : ∀ (xs : List D) (n : Nat), (pairsFrom n xs).length = xs.length
  | [], _ => rfl
  | x :: r, n => by simp [pairsFrom, pairsFrom_len r]
theorem pairNew {G' H' : Hp} {T : Addr} {u v : V} {d e : D} (s : Same G' H') (nT : H' T = none) (r1 : Rp K G' u d) (r2 : Rp K G' v e) : ∃ G'', Ext K none G' H' G'' (upd H' T (.tup [u, v])) ∧ Rp K G'' (.ref T) (.tup [d, e]) := by
  have x := Ext.new (K := K) (pa := none) s nT (.tup [u, v])
  exact ⟨_, x, .mkT (SqT.of upd_same) (.cons (r1.mono x.g) (.cons (r2.mono x.g) .nil))⟩
theorem iter_enumL (h : G a = some (.lst vs)) (r : RpL K G vs ds) : IterOk K (Ite K a) G (pairsFrom 0 ds) := fun G' H' g s => by
  have hq := SqL.of (K := K) (s _ _ (g _ _ h))
  refine ⟨fun i x e => ?_, fun i hi => ⟨vs, hq, by rw [r.1, ← pairsFrom_len ds 0]; exact hi⟩⟩
  obtain ⟨z, e1, rfl⟩ := pairsFrom_get ds 0 i x e
  obtain ⟨v, e', rv⟩ := r.get e1
  refine ⟨⟨vs, v, hq, e'⟩, fun w H'' y => ?_⟩
  obtain ⟨T, u, rfl, nT, rfl, y⟩ := y
  have e2 := y vs hq
  rw [e'] at e2
  cases e2
  rw [Nat.zero_add]
  exact pairNew s nT (.int _) (rv.mono g)
theorem iter_enumT (h : SqT K G a vs) (r : RpL K G vs ds) : IterOk K (IteT K a) G (pairsFrom 0 ds) := fun G' H' g s => by
  have hq := sameT s (sameT g h)
  refine ⟨fun i x e => ?_, fun i hi => ⟨vs, hq, by rw [r.1, ← pairsFrom_len ds 0]; exact hi⟩⟩
  obtain ⟨z, e1, rfl⟩ := pairsFrom_get ds 0 i x e
  obtain ⟨v, e', rv⟩ := r.get e1
  refine ⟨⟨vs, v, hq, e'⟩, fun w H'' y => ?_⟩
  obtain ⟨T, u, rfl, nT, rfl, y⟩ := y
  have e2 := y vs hq
  rw [e'] at e2
  cases e2
  rw [Nat.zero_add]
  exact pairNew s nT (.int _) (rv.mono g)
def zipT : List D → List D → List D
  | x :: xs, y :: ys => .tup [x, y] :: zipT xs ys
  | _, _ => []
theorem zipT_get : ∀ (xs ys : List D) (i : Nat) (p : D), (zipT xs ys)[i]? = some p → ∃ x y, xs[i]? = some x ∧ ys[i]? = some y ∧ p = .tup [x, y]
  | [], _, _, _, h => by simp [zipT] at h
  | _ :: _, [], _, _, h => by simp [zipT] at h
  | x :: xs, y :: ys, 0, p, h => by
    simp [zipT] at h
    exact ⟨x, y, rfl, rfl, h.symm⟩
  | x :: xs, y :: ys, i + 1, p, h => by
    simp only [zipT, List.getElem?_cons_succ] at h
    obtain ⟨a, b, h1, h2, h3⟩ := zipT_get xs ys i p h
    exact ⟨a, b, by simpa using h1, by simpa using h2, h3⟩
theorem zipT_len : ∀ (xs ys : List D) (i : Nat), (zipT xs ys).length ≤ i → xs.length ≤ i ∨ ys.length ≤ i
  | [], _, _, _ => .inl (Nat.zero_le _)
  | _ :: _, [], _, _ => .inr (Nat.zero_le _)
  | x :: xs, y :: ys, 0, h => by simp [zipT] at h
  | x :: xs, y :: ys, i + 1, h => by
    have := zipT_len xs ys i (by simpa [zipT] using h)
    simpa using this
theorem iter_zipL {b : Addr} {ws : List V} {es : List D} (h : G a = some (.lst vs)) (r : RpL K G vs ds) (h' : G b = some (.lst ws)) (r' : RpL K G ws es) : IterOk K (Itz K a b) G (zipT ds es) := fun G' H' g s => by
  have hq := SqL.of (K := K) (s _ _ (g _ _ h))
  have hq' := SqL.of (K := K) (s _ _ (g _ _ h'))
  refine ⟨fun i x e => ?_, fun i hi => ⟨vs, ws, hq, hq', by rw [r.1, r'.1]; exact zipT_len ds es i hi⟩⟩
  obtain ⟨z1, z2, e1, e2, rfl⟩ := zipT_get ds es i x e
  obtain ⟨v, ev, rv⟩ := r.get e1
  obtain ⟨w, ew, rw'⟩ := r'.get e2
  refine ⟨⟨vs, ws, v, w, hq, hq', ev, ew⟩, fun q H'' y => ?_⟩
  obtain ⟨T, u1, u2, rfl, nT, rfl, y1, y2⟩ := y
  have q1 := y1 vs hq
  have q2 := y2 ws hq'
  rw [ev] at q1
  rw [ew] at q2
  cases q1
  cases q2
  exact pairNew s nT (rv.mono g) (rw'.mono g)
theorem iter_zipT {b : Addr} {ws : List V} {es : List D} (h : SqT K G a vs) (r : RpL K G vs ds) (h' : SqT K G b ws) (r' : RpL K G ws es) : IterOk K (RZ.ItzT K a b) G (zipT ds es) := fun G' H' g s => by
  have hq := sameT s (sameT g h)
  have hq' := sameT s (sameT g h')
  refine ⟨fun i x e => ?_, fun i hi => ⟨vs, ws, hq, hq', by rw [r.1, r'.1]; exact zipT_len ds es i hi⟩⟩
  obtain ⟨z1, z2, e1, e2, rfl⟩ := zipT_get ds es i x e
  obtain ⟨v, ev, rv⟩ := r.get e1
  obtain ⟨w, ew, rw'⟩ := r'.get e2
  refine ⟨⟨vs, ws, v, w, hq, hq', ev, ew⟩, fun q H'' y => ?_⟩
  obtain ⟨T, u1, u2, rfl, nT, rfl, y1, y2⟩ := y
  have q1 := y1 vs hq
  have q2 := y2 ws hq'
  rw [ev] at q1
  rw [ew] at q2
  cases q1
  cases q2
  exact pairNew s nT (rv.mono g) (rw'.mono g)
def rangeL (lo : Int) (n : Nat) : List D := (List.range n).map fun (i : Nat) => D.int (lo + (i : Int))
theorem iter_range {lo : Int} {n : Nat} : IterOk K (Itr lo n) G (rangeL lo n) := fun G' H' g s => by
  refine ⟨fun i x e => ?_, fun i hi => by simpa [rangeL, Itr] using hi⟩
  unfold rangeL at e
  rw [List.getElem?_map] at e
  by_cases hi : i < n
  · rw [List.getElem?_range hi] at e
    cases e
    refine ⟨hi, fun v H'' y => ?_⟩
    obtain ⟨rfl, rfl⟩ := y
    exact ⟨G', Ext.refl s, .int _⟩
  · rw [List.getElem?_eq_none (by simpa using hi)] at e
    cases e
end
section
variable {X : Cx} {W : WX} {pa : Option Addr} {Γ : List Sl} {tg : Expr} {p pos : Pos}
def itemsD : D → PM (List D)
  | .lst xs => pure xs
  | .tup xs => pure xs
  | _ => bad
/-- a list or a tuple -/
theorem pi_seq {l : Expr} {tl : TE} (hl : PE X l tl) : PI X tg l (fun σ H R => tl σ H fun x H1 => ∃ a, x = .ref a ∧ ((∃ xs, SqL X.K H1 a xs ∧ R (Itl X.K a) H1) ∨ (∃ xs, SqT X.K H1 a xs ∧ R (Itt X.K a) H1))) := by
  refine ⟨fun pins s σ H R I h => ?_⟩
  refine thn (hl.run pins s σ H _ I h) fun v s1 ⟨x, H1, I1, r1, a, e, q⟩ => ?_
  subst e
  cases r1
  have fr := fun (b : Addr) (hb : b ∈ [s1.heap.objs.size]) => (by
    have e : b = s1.heap.objs.size := by simpa using hb
    subst e
    exact I1.fpOk (Nat.le_refl _) (I1.hok.fresh (Nat.le_refl _)) : FpOk X pins H1 b)
  rcases q with ⟨xs, hq, q⟩ | ⟨xs, hq, q⟩
  · obtain ⟨its, rv, pl, hz⟩ := I1.list hq
    refine wpAny_pyIter_list pl.isList ?_
    exact ⟨s1.heap.objs.size, [s1.heap.objs.size], _, _, H1, rfl, I1.kept (t' := s1.toks) fun b o e => Heap.get?_push_of_some _ e, turn_list a _, ⟨_, Heap.get?_push_size _ rfl, rfl, rfl⟩, fr, q⟩
  · obtain ⟨its, rv, pl, hz⟩ := I1.tuple hq
    refine wpAny_pyIter_tuple (show s1.heap.IsTuple a its.toArray from pl) ?_
    exact ⟨s1.heap.objs.size, [s1.heap.objs.size], _, _, H1, rfl, I1.kept (t' := s1.toks) fun b o e => Heap.get?_push_of_some _ e, turn_tuple a _, ⟨_, Heap.get?_push_size _ rfl, rfl, rfl⟩, fr, q⟩
theorem ei_seq {l : Expr} {m : PM D} (h : EV X W pa Γ l m) : EI X W pa Γ tg l (m >>= itemsD) := pi_imp (pi_seq h) fun σ H R ⟨G0, H0, G, s, E, P⟩ => ⟨G0, H0, G, s, E, P.bind.imp fun G1 H1 d s1 x1 p1 P1 v r => by
  cases r with
  | lst h n r => exact ⟨_, rfl, .inl ⟨_, SqL.of (x1.sub _ _ h), P1.now x1.sub p1 _ (iter_list h ⟨n, r⟩)⟩⟩
  | tup h n r => exact ⟨_, rfl, .inr ⟨_, sameT x1.sub h, P1.now x1.sub p1 _ (iter_tup h ⟨n, r⟩)⟩⟩
  | _ => exact P1.elim⟩
def rangeF : List D → PM (List D)
  | [.int j] => if -(2 ^ 62) ≤ j ∧ j < 2 ^ 62 then pure (rangeL 0 j.toNat) else bad
  | [.int i, .int j] => if -(2 ^ 62) ≤ i ∧ i < 2 ^ 62 ∧ -(2 ^ 62) ≤ j ∧ j < 2 ^ 62 then pure (rangeL i (j - i).toNat) else bad
  | _ => bad
def rangeF1 : List D → PM (List D)
  | [d] => rangeF [d]
  | _ => bad
def rangeF2 : List D → PM (List D)
  | [d, e] => rangeF [d, e]
  | _ => bad
theorem ei_range1 {a : Expr} {ml : PM (List D)} (hg : Gl X "range") (hm : X.mg "range" = none) (ha : EL X W pa Γ [a] ml) (hs : starEach [a] X.env = [(false, eval a X.env)] := by rfl) :
    EI X W pa Γ tg (.Call (.Name "range" p) [a] [] pos) (ml >>= rangeF1) := pi_imp (pi_range1 hg hm ha hs) fun σ H R ⟨G0, H0, G, s, E, P⟩ =>
  ⟨G0, H0, G, s, E, P.bind.imp fun G1 H1 ds s1 x1 p1 P1 vs rs => by
    match ds, rs, P1 with
    | [d], rs, P1 =>
      obtain ⟨v, rfl, r⟩ := rp1 rs
      cases r with
      | int j =>
        have P1 : Pst X.K W X.mg pa σ (fun G' H' xs _ => ∀ J, IterOk X.K J G' xs → R J H') G1 H1 ((if -(2 ^ 62) ≤ j ∧ j < 2 ^ 62 then pure (rangeL 0 j.toNat) else bad : PM (List D)) s1) := P1
        split at P1
        · rename_i hj
          exact ⟨j, rfl, hj.1, hj.2, P1.now x1.sub p1 _ iter_range⟩
        · exact P1.elim
      | _ => exact P1.elim
    | [], _, P1 => exact P1.elim
    | _ :: _ :: _, _, P1 => exact P1.elim⟩
theorem ei_range2 {a b : Expr} {ml : PM (List D)} (hg : Gl X "range") (hm : X.mg "range" = none) (ha : EL X W pa Γ [a, b] ml) (hs : starEach [a, b] X.env = [(false, eval a X.env), (false, eval b X.env)] := by rfl) (hs2 : starEach [b] X.env = [(false, eval b X.env)] := by rfl) :
    EI X W pa Γ tg (.Call (.Name "range" p) [a, b] [] pos) (ml >>= rangeF2) := pi_imp (pi_range2 hg hm ha hs hs2) fun σ H R ⟨G0, H0, G, s, E, P⟩ =>
  ⟨G0, H0, G, s, E, P.bind.imp fun G1 H1 ds s1 x1 p1 P1 vs rs => by
    match ds, rs, P1 with
    | [d, e], rs, P1 =>
      obtain ⟨v, w, rfl, r, r'⟩ := rp2 rs
      cases r with
      | int i =>
        cases r' with
        | int j =>
          have P1 : Pst X.K W X.mg pa σ (fun G' H' xs _ => ∀ J, IterOk X.K J G' xs → R J H') G1 H1 ((if -(2 ^ 62) ≤ i ∧ i < 2 ^ 62 ∧ -(2 ^ 62) ≤ j ∧ j < 2 ^ 62 then pure (rangeL i (j - i).toNat) else bad : PM (List D)) s1) := P1
          split at P1
          · rename_i hj
            exact ⟨i, j, rfl, hj, P1.now x1.sub p1 _ iter_range⟩
          · exact P1.elim
        | _ => exact P1.elim
      | _ => cases r' <;> exact P1.elim
    | [], _, P1 => exact P1.elim
    | [_], _, P1 => exact P1.elim
    | _ :: _ :: _ :: _, _, P1 => exact P1.elim⟩
def enumF : List D → PM (List D)
  | [.lst xs] => pure (pairsFrom 0 xs)
  | [.tup xs] => pure (pairsFrom 0 xs)
  | _ => bad
theorem pi_enumA {e : Expr} {ta : TA} {tpos : Pos} {elts : List Expr} {kk : Nat} (hg : Gl X "enumerate") (hm : X.mg "enumerate" = none) (ha : PA X [e] ta) (hs : starEach [e] X.env = [(false, eval e X.env)] := by rfl) :
    PI X (.Tuple elts kk tpos) (.Call (.Name "enumerate" p) [e] [] pos) (fun σ H R => ta σ H fun vs H1 => ∃ a xs, vs = [.ref a] ∧ ((SqL X.K H1 a xs ∧ R (Ite X.K a) H1) ∨ (SqT X.K H1 a xs ∧ R (IteT X.K a) H1))) := by
  refine ⟨fun pins s σ H R I h => ?_⟩
  refine Call_ (ld_blt I hg hm boot_enumerate (PyProof.Rows.callWith_type1 (thn (ha.run pos pins s σ H _ I h) fun us s1 ⟨vs, H1, I1, r1, a, xs, ex, q⟩ => ?_) hs rfl))
  subst ex
  cases r1 with
  | cons r rr =>
    cases rr
    cases r
    have fr := fun (b : Addr) (hb : b ∈ [s1.heap.objs.size + 1, s1.heap.objs.size]) => (by
      have e' : b = s1.heap.objs.size + 1 ∨ b = s1.heap.objs.size := by simpa using hb
      have hle : s1.heap.objs.size ≤ b := by
        rcases e' with z | z
        · rw [z]; exact Nat.le_succ _
        · rw [z]; exact Nat.le_refl _
      exact I1.fpOk hle (I1.hok.fresh hle) : FpOk X pins H1 b)
    rcases q with ⟨hq, q⟩ | ⟨hq, q⟩
    · obtain ⟨its, rv, p', hz⟩ := I1.list hq
      refine call_enumerate_list p'.isList fun h' he hit hsz hk => wpAny_pyIter_enum he ?_
      exact ⟨s1.heap.objs.size + 1, [s1.heap.objs.size + 1, s1.heap.objs.size], _, _, H1, rfl, I1.kept (t' := s1.toks) hk, turn_enum a _ _, ⟨⟨.none, he⟩, hit, Nat.succ_ne_self _⟩, fr, q⟩
    · obtain ⟨its, rv, p', hz⟩ := I1.tuple hq
      have hlt : a < s1.heap.objs.size := by
        obtain ⟨o, ho, _⟩ := p'
        exact Heap.lt_size ho
      refine callEnumT (show s1.heap.IsTuple a its.toArray from p') fun h' he hit hk => wpAny_pyIter_enum he ?_
      exact ⟨s1.heap.objs.size + 1, [s1.heap.objs.size + 1, s1.heap.objs.size], _, _, H1, rfl, I1.kept (t' := s1.toks) hk, turnEnumT a _ _, ⟨⟨.none, he⟩, hit, Nat.succ_ne_self _, Nat.ne_of_lt hlt, Nat.ne_of_lt (Nat.lt_succ_of_lt hlt)⟩, fr, q⟩
theorem ei_enum {e : Expr} {ml : PM (List D)} {tpos : Pos} {elts : List Expr} {kk : Nat} (hg : Gl X "enumerate") (hm : X.mg "enumerate" = none) (ha : EL X W pa Γ [e] ml) (hs : starEach [e] X.env = [(false, eval e X.env)] := by rfl) :
    EI X W pa Γ (.Tuple elts kk tpos) (.Call (.Name "enumerate" p) [e] [] pos) (ml >>= enumF) := pi_imp (pi_enumA hg hm ha hs) fun σ H R ⟨G0, H0, G, s, E, P⟩ =>
  ⟨G0, H0, G, s, E, P.bind.imp fun G1 H1 ds s1 x1 p1 P1 vs rs => by
    match ds, rs, P1 with
    | [d], rs, P1 =>
      obtain ⟨v, rfl, r⟩ := rp1 rs
      cases r with
      | lst h n r => exact ⟨_, _, rfl, .inl ⟨SqL.of (x1.sub _ _ h), P1.now x1.sub p1 _ (iter_enumL h ⟨n, r⟩)⟩⟩
      | tup h n r => exact ⟨_, _, rfl, .inr ⟨sameT x1.sub h, P1.now x1.sub p1 _ (iter_enumT h ⟨n, r⟩)⟩⟩
      | _ => exact P1.elim
    | [], _, P1 => exact P1.elim
    | a :: _ :: _, _, P1 => cases a <;> exact P1.elim⟩
def zipF : List D → PM (List D)
  | [.lst xs, .lst ys] => pure (zipT xs ys)
  | [.tup xs, .tup ys] => pure (zipT xs ys)
  | _ => bad
theorem ei_zip {e e2 : Expr} {ml : PM (List D)} {tpos : Pos} {elts : List Expr} {kk : Nat} (hg : Gl X "zip") (hm : X.mg "zip" = none) (ha : EL X W pa Γ [e, e2] ml) (hs : starEach [e, e2] X.env = [(false, eval e X.env), (false, eval e2 X.env)] := by rfl)
    (hs2 : starEach [e2] X.env = [(false, eval e2 X.env)] := by rfl) :
    EI X W pa Γ (.Tuple elts kk tpos) (.Call (.Name "zip" p) [e, e2] [] pos) (ml >>= zipF) := pi_imp (RZ.pi_zipA hg hm ha (by rw [hs, hs2]) (by rw [hs2]; rfl)) fun σ H R ⟨G0, H0, G, s, E, P⟩ =>
  ⟨G0, H0, G, s, E, P.bind.imp fun G1 H1 ds s1 x1 p1 P1 vs rs => by
    match ds, rs, P1 with
    | [d, d'], rs, P1 =>
      obtain ⟨v, w, rfl, r, r'⟩ := rp2 rs
      cases r with
      | lst h n r =>
        cases r' with
        | lst h' n' r' => exact ⟨_, _, _, _, rfl, .inl ⟨SqL.of (x1.sub _ _ h), SqL.of (x1.sub _ _ h'), P1.now x1.sub p1 _ (iter_zipL h ⟨n, r⟩ h' ⟨n', r'⟩)⟩⟩
        | _ => exact P1.elim
      | tup h n r =>
        cases r' with
        | tup h' n' r' => exact ⟨_, _, _, _, rfl, .inr ⟨sameT x1.sub h, sameT x1.sub h', P1.now x1.sub p1 _ (iter_zipT h ⟨n, r⟩ h' ⟨n', r'⟩)⟩⟩
        | _ => exact P1.elim
      | _ => cases r' <;> exact P1.elim
    | [], _, P1 => exact P1.elim
    | [a], _, P1 => cases a <;> exact P1.elim
    | a :: b :: _ :: _, _, P1 => cases a <;> cases b <;> exact P1.elim⟩
end
end EV

/-! EV 5: comprehensions, calls of defs, isinstance. -/
namespace EV
open PySem PySem.Spec PyProof.Rows L2

/-! ### comprehensions -/
abbrev W0 : WX := fun _ _ _ _ => False
def noExc {α : Type} (m : PM α) : PM α := fun s => match m s with
  | .ok a s1 => .ok a s1
  | _ => .bad
theorem noExc_pure {α : Type} (a : α) : noExc (pure a : PM α) = pure a := rfl
theorem noExc_bind {α β : Type} (m : PM α) (f : α → PM β) : noExc (m >>= f) = noExc m >>= fun a => noExc (f a) := by
  funext s
  show (match (match m s with | .ok a s1 => f a s1 | .exc e => .exc e | .bad => .bad) with | .ok a s1 => R.ok a s1 | _ => .bad) = (match (match m s with | .ok a s1 => R.ok a s1 | _ => .bad) with | .ok a s1 => _ | .exc e => .exc e | .bad => .bad)
  cases m s <;> rfl
def compG {ι : Type} (dec : D → Option ι) (mt : ι → PM Bool) (me : ι → PM D) : List D → PM (List D)
  | [] => pure []
  | x :: xs => match dec x with
    | none => bad
    | some z => noExc (mt z) >>= fun b => if b = true then noExc (me z) >>= fun y => compG dec mt me xs >>= fun r => pure (y :: r) else compG dec mt me xs
def compL {ι : Type} (dec : D → Option ι) (mt : ι → PM Bool) (me : ι → PM D) (xs : List D) : PM (List D) := if xs.length ≤ lim then compG dec mt me xs else bad
/-- one name, a pair of names, three -/
def dec1 : D → Option D := some
def dec2 : D → Option (D × D)
  | .tup [a, b] => some (a, b)
  | _ => none
def wipeG (Γ : List Sl) : List Nat → List Sl
  | [] => Γ
  | v :: vs => (wipeG Γ vs).set v .junk
section
variable {K : PySem.W.Frag} {W : WX} {mg : Str → Option Value} {pa : Option Addr} {σ : L2.St} {G0 H0 G H G1 H1 : Hp} {Γ : List Sl} {s : List Int}
theorem Nv.wipe1 (E : Nv K pa G0 H0 G H σ Γ s) (v : Nat) : Nv K pa G0 H0 G H (σ.set v none) (Γ.set v .junk) s where
  len := by simp [E.len]
  val := fun i d e => by
    by_cases hi : v = i
    · subst hi
      have := (List.getElem?_eq_some_iff.mp e).1
      rw [List.getElem?_set_self (by simpa using this)] at e
      cases e
    · rw [List.getElem?_set_ne hi] at e ⊢
      exact E.val i d e
  own := fun i d e => by
    by_cases hi : v = i
    · subst hi
      have := (List.getElem?_eq_some_iff.mp e).1
      rw [List.getElem?_set_self (by simpa using this)] at e
      cases e
    · rw [List.getElem?_set_ne hi] at e ⊢
      exact E.own i d e
  inj := fun i j p xs ys e1 e2 => by
    have n1 : v ≠ i := fun hi => by
      subst hi
      have := (List.getElem?_eq_some_iff.mp e1).1
      rw [List.getElem?_set_self (by simpa using this)] at e1
      cases e1
    have n2 : v ≠ j := fun hi => by
      subst hi
      have := (List.getElem?_eq_some_iff.mp e2).1
      rw [List.getElem?_set_self (by simpa using this)] at e2
      cases e2
    rw [List.getElem?_set_ne n1] at e1 ⊢
    rw [List.getElem?_set_ne n2] at e2 ⊢
    exact E.inj i j p xs ys e1 e2
  pen := fun i e => by
    have n1 : v ≠ i := fun hi => by
      subst hi
      have := (List.getElem?_eq_some_iff.mp e).1
      rw [List.getElem?_set_self (by simpa using this)] at e
      cases e
    rw [List.getElem?_set_ne n1] at e ⊢
    exact E.pen i e
  scr := fun i ns e => by
    have n1 : v ≠ i := fun hi => by
      subst hi
      have := (List.getElem?_eq_some_iff.mp e).1
      rw [List.getElem?_set_self (by simpa using this)] at e
      cases e
    rw [List.getElem?_set_ne n1] at e ⊢
    exact E.scr i ns e
  ps := E.ps
  ext := E.ext
  x := E.x.put v rfl
theorem Nv.wipe (E : Nv K pa G0 H0 G H σ Γ s) : ∀ vs : List Nat, Nv K pa G0 H0 G H (L2.wipe σ vs) (wipeG Γ vs) s
  | [] => E
  | v :: vs => (E.wipe vs).wipe1 v
theorem Pst.bind0 {α β : Type} {F : Hp → Hp → β → List Int → Prop} {m : PM α} {f : α → PM β} {s : List Int} (x : Ext K pa G1 H1 G H) (h : Pst K W mg pa σ F G1 H1 ((m >>= f) s)) : Pst K W mg pa σ (fun _ _ a s' => Pst K W mg pa σ F G1 H1 (f a s')) G H (m s) := by
  rw [PM.bind_def] at h
  cases e : m s with
  | ok a s1 =>
    rw [e] at h
    exact fun _ _ _ _ => h
  | exc z =>
    rw [e] at h
    exact fun cls dx G' H' y q => h cls dx G' H' (x.trans y) q
  | bad => rw [e] at h; exact h
theorem Pst.noExc {α : Type} {W' : WX} {F : Hp → Hp → α → List Int → Prop} {m : PM α} {s : List Int} {σ' : L2.St} (h : Pst K W mg pa σ F G H (noExc m s)) : Pst K W' mg pa σ' F G H (m s) := by
  unfold EV.noExc at h
  cases e : m s with
  | ok a s1 => rw [e] at h; exact h
  | exc z => rw [e] at h; exact h.elim
  | bad => rw [e] at h; exact h.elim
end
/-- the target of a comprehension or of a loop: from an item to what the slots know -/
def TgOk (X : Cx) (pa : Option Addr) {ι : Type} (dec : D → Option ι) (g : TG) (vs : List Nat) (Γ : List Sl) (Γz : ι → List Sl) : Prop :=
  ∀ (G0 H0 G H : Hp) (σ : L2.St) (s : List Int) (v : V) (d : D) (z : ι) (Q : L2.St → Hp → Prop), Nv X.K pa G0 H0 G H σ Γ s → Rp X.K G v d → dec d = some z →
    (∀ σ', Nv X.K pa G0 H0 G H σ' (Γz z) s → L2.wipe σ' vs = L2.wipe σ vs → Q σ' H) → g v σ H Q
theorem wipe_set {σ : L2.St} {i : Nat} {x : Option V} : ∀ {vs : List Nat}, i ∈ vs → L2.wipe (σ.set i x) vs = L2.wipe σ vs
  | v :: vs, h => by
    unfold L2.wipe
    by_cases hv : i ∈ vs
    · rw [wipe_set hv]
    · have e : i = v := by
        rcases List.mem_cons.mp h with z | z
        · exact z
        · exact absurd z hv
      subst e
      clear h
      have step : ∀ us : List Nat, i ∉ us → (L2.wipe (σ.set i x) us) = (L2.wipe σ us).set i x := by
        intro us
        induction us with
        | nil => intro _; rfl
        | cons u us ih =>
          intro hu
          have h1 : u ≠ i := fun z => hu (by simp [z])
          have h2 : i ∉ us := fun z => hu (List.mem_cons_of_mem _ z)
          unfold L2.wipe
          rw [ih h2, List.set_comm _ _ (Ne.symm h1)]
      rw [step vs hv]
      simp
theorem tg_name {X : Cx} {pa : Option Addr} {i : Nat} {Γ : List Sl} {vs : List Nat} (hi : i ∈ vs) : TgOk X pa dec1 (gName i) vs Γ (fun d => Γ.set i (.val d)) := by
  intro G0 H0 G H σ s v d z Q E r e h
  cases e
  exact h _ (E.set i r) (wipe_set hi)
theorem tg_pair {X : Cx} {pa : Option Addr} {i j : Nat} {Γ : List Sl} {vs : List Nat} (hi : i ∈ vs) (hj : j ∈ vs) : TgOk X pa dec2 (gTup X.K 2 (gCons (gName i) (gCons (gName j) gNil))) vs Γ (fun z => (Γ.set i (.val z.1)).set j (.val z.2)) := by
  intro G0 H0 G H σ s v d z Q E r e h
  cases r with
  | tup hq n rr =>
    rename_i vs' ds
    match ds, e, n, rr with
    | [a, b], e, n, rr =>
      cases e
      obtain ⟨x, y, rfl, r1, r2⟩ := rp2 ⟨n, rr⟩
      refine ⟨_, _, rfl, sameT E.sub hq, rfl, x, [y], rfl, y, [], rfl, rfl, ?_⟩
      exact h _ ((E.set i r1).set j r2) (by rw [wipe_set hj, wipe_set hi])
    | [], e, _, _ => cases e
    | [_], e, _, _ => cases e
    | _ :: _ :: _ :: _, e, _, _ => cases e
  | _ => cases e
theorem pt_ex {X : Cx} {ι : Type} {e : Expr} {t : ι → TT} (h : ∀ z, PT X e (t z)) : PT X e (fun σ H Q => ∃ z, t z σ H Q) := ⟨fun pins s σ H Q I ⟨z, q⟩ => (h z).run pins s σ H Q I q⟩
theorem pe_ex {X : Cx} {ι : Type} {e : Expr} {t : ι → TE} (h : ∀ z, PE X e (t z)) : PE X e (fun σ H Q => ∃ z, t z σ H Q) := ⟨fun pins s σ H Q I ⟨z, q⟩ => (h z).run pins s σ H Q I q⟩
theorem pts_ex {X : Cx} {ι : Type} {e : List Expr} {t : ι → TT} (h : ∀ z, PTs X e (t z)) : PTs X e (fun σ H Q => ∃ z, t z σ H Q) := ⟨fun pins s σ H Q I ⟨z, q⟩ => (h z).run pins s σ H Q I q⟩
theorem pts_imp {X : Cx} {e : List Expr} {t t' : TT} (h : PTs X e t) (i : ∀ σ H Q, t' σ H Q → t σ H Q) : PTs X e t' := ⟨fun pins s σ H Q I q => h.run pins s σ H Q I (i σ H Q q)⟩
abbrev ETs (X : Cx) (W : WX) (pa : Option Addr) (Γ : List Sl) (es : List Expr) (m : PM Bool) : Prop := PTs X es (evB X W pa Γ m)
theorem ets_nil {X : Cx} {W : WX} {pa : Option Addr} {Γ : List Sl} : ETs X W pa Γ [] (pure true) := pts_imp pts_nil fun σ H Q ⟨G0, H0, G, s, E, P⟩ => P.now E.sub E.ps
theorem ets_one {X : Cx} {W : WX} {pa : Option Addr} {Γ : List Sl} {e : Expr} {m : PM Bool} (h : EB X W pa Γ e m) : ETs X W pa Γ [e] m := pts_one h

theorem lcCore {X : Cx} {W : WX} {pa : Option Addr} {Γ : List Sl} {ι β : Type} {dec : D → Option ι} {mt : ι → PM Bool} {me : ι → PM D} {g : TG} {vs : List Nat} {Γz : ι → List Sl} {σ : L2.St} {J : It} {xs : List D} {D0 : Addr}
    {G0 H0 G1 H1 : Hp} {s1 : List Int} {F : Hp → Hp → β → List Int → Prop} {cont : List D → PM β} {Qd : Hp → Prop}
    (hg : TgOk X pa dec g vs (wipeG Γ vs) Γz) (E : Nv X.K pa G0 H0 G1 H1 σ Γ s1) (hJ : IterOk X.K J G1 xs) (nD : H1 D0 = none)
    (P : Pst X.K W X.mg pa σ F G1 H1 ((compL dec mt me xs >>= cont) s1))
    (fin : ∀ G H accV accD s', Ext X.K pa G1 H1 G H → PenOk pa G H s' → H D0 = some (.lst accV) → G D0 = none → RpL X.K G accV accD → Pst X.K W X.mg pa σ F G1 H1 (cont accD s') → Qd H) :
    ∃ Wv : Nat → Nat → Hp → Prop, (∃ m, Wv 0 m (upd H1 D0 (.lst []))) ∧ ∀ i m H, Wv i m H →
      (J.stop i H ∧ Qd H) ∨ (J.go i H ∧ ∃ Nx : Hp → Prop, (∀ H', Nx H' → ∃ m', m' < m ∧ Wv (i + 1) m' H') ∧ ∀ x H', J.yld i H x H' → g x (L2.wipe σ vs) H' fun σ2 H2 => L2.wipe σ2 vs = L2.wipe σ vs ∧
        (fun σ H Q => ∃ z, evB X W0 pa (Γz z) (mt z) σ H Q : TT) σ2 H2 fun b H3 =>
          if b = true then (fun σ H Q => ∃ z, evT X W0 pa (Γz z) (me z) σ H Q : TE) σ2 H3 fun y H4 => ∃ acc, H4 D0 = some (.lst acc) ∧ acc.length < sizeLine ∧ Nx (upd H4 D0 (.lst (acc ++ [y]))) else Nx H3) := by
  have hlen : xs.length ≤ lim := by
    by_cases h : xs.length ≤ lim
    · exact h
    · unfold compL at P
      rw [if_neg h] at P
      exact P.elim
  unfold compL at P
  rw [if_pos hlen] at P
  let Wv : Nat → Nat → Hp → Prop := fun i m H => m = xs.length - i ∧ i ≤ xs.length ∧ ∃ G accV accD s', Ext X.K pa G1 H1 G H ∧ PenOk pa G H s' ∧ H D0 = some (.lst accV) ∧ G D0 = none ∧ RpL X.K G accV accD ∧ accD.length ≤ i ∧
    Pst X.K W X.mg pa σ F G1 H1 ((compG dec mt me (xs.drop i) >>= fun r => cont (accD ++ r)) s')
  refine ⟨Wv, ⟨xs.length, by simp, Nat.zero_le _, G1, [], [], s1, Ext.newH E.sub nD _, E.ps.updH nD _, upd_same, E.sub.free nD, .nil, Nat.le_refl _, by simpa using P⟩, ?_⟩
  rintro i m H ⟨rfl, hi, G, accV, accD, s', x1, p1, hD, gD, racc, hacc, P⟩
  by_cases hlt : i < xs.length
  · obtain ⟨x, hx⟩ : ∃ x, xs[i]? = some x := ⟨_, List.getElem?_eq_getElem hlt⟩
    obtain ⟨hgo, hyld⟩ := (hJ G H x1.g x1.sub).1 i x hx
    have hdrop : xs.drop i = x :: xs.drop (i + 1) := by
      rw [List.drop_eq_getElem_cons hlt]
      congr 1
      rw [List.getElem?_eq_getElem hlt] at hx
      exact Option.some.inj hx
    rw [hdrop] at P
    refine .inr ⟨hgo, fun H' => Wv (i + 1) (xs.length - (i + 1)) H', fun H' w => ⟨_, by omega, w⟩, fun v H2 hy => ?_⟩
    obtain ⟨G2, x2, rv⟩ := hyld v H2 hy
    have x2 : Ext X.K pa G H G2 H2 := x2.any
    have hD2 : H2 D0 = some (.lst accV) := (by assumption : Ext X.K none G H G2 H2).h _ _ hD (fun z => by cases z)
    have gD2 : G2 D0 = none := x2.n _ _ hD gD
    have p2 : PenOk pa G2 H2 s' := p1.ext (by assumption)
    have E2 : Nv X.K pa G0 H0 G2 H2 σ Γ s' := E.step (x1.trans x2) p2
    unfold compG at P
    cases hd : dec x with
    | none => rw [hd] at P; exact P.elim
    | some z =>
      rw [hd] at P
      dsimp only at P
      have P : Pst X.K W X.mg pa σ F G1 H1 ((noExc (mt z) >>= fun b => (if b = true then noExc (me z) >>= fun y => compG dec mt me (xs.drop (i + 1)) >>= fun r => pure (y :: r) else compG dec mt me (xs.drop (i + 1))) >>= fun r => cont (accD ++ r)) s') := by
        rw [bind_assoc] at P
        exact P
      refine hg G0 H0 G2 H2 (L2.wipe σ vs) s' v x z _ (E2.wipe vs) rv hd fun σ3 E3 hw => ⟨?_, z, G0, H0, G2, s', E3, ?_⟩
      · have ww : L2.wipe (L2.wipe σ vs) vs = L2.wipe σ vs := by
          have : ∀ us : List Nat, (∀ u ∈ us, u ∈ vs) → L2.wipe (L2.wipe σ us) vs = L2.wipe σ vs := by
            intro us
            induction us with
            | nil => intro _; rfl
            | cons u us ih =>
              intro hu
              show L2.wipe ((L2.wipe σ us).set u none) vs = _
              rw [wipe_set (hu u List.mem_cons_self)]
              exact ih fun w hw => hu w (List.mem_cons_of_mem _ hw)
          exact this vs fun _ h => h
        rw [hw, ww]
      · have Q1 := P.bind0 (x1.trans x2)
        refine (Pst.noExc Q1).imp fun G3 H3 b s3 x3 p3 P3 => ?_
        have hD3 : H3 D0 = some (.lst accV) := x3.h _ _ hD2 (fun z => by
          have := (p1 D0 z).2
          have := p1 D0 z
          have e1 := E.ps D0 z
          rw [e1.2] at nD
          cases nD)
        have gD3 : G3 D0 = none := x3.n _ _ hD2 gD2
        cases b with
        | false =>
          rw [if_neg Bool.false_ne_true] at P3
          show Wv (i + 1) (xs.length - (i + 1)) H3
          exact ⟨rfl, hlt, G3, accV, accD, s3, (x1.trans x2).trans x3, p3, hD3, gD3, racc.mono (x2.g.trans x3.g), by omega, P3⟩
        | true =>
          rw [if_pos rfl] at P3
          rw [bind_assoc] at P3
          show ∃ z, evT X W0 pa (Γz z) (me z) σ3 H3 _
          refine ⟨z, G0, H0, G3, s3, E3.step x3 p3, ?_⟩
          have Q3 := P3.bind0 ((x1.trans x2).trans x3)
          refine (Pst.noExc Q3).imp fun G4 H4 y s4 x4 p4 P4 => fun w rw4 => ?_
          have hD4 : H4 D0 = some (.lst accV) := x4.h _ _ hD3 (fun z => by
            have e1 := E.ps D0 z
            rw [e1.2] at nD
            cases nD)
          have gD4 : G4 D0 = none := x4.n _ _ hD3 gD3
          have xx := ((x1.trans x2).trans x3).trans x4
          have racc4 := racc.mono ((x2.g.trans x3.g).trans x4.g)
          have hl : accV.length < sizeLine := by
            rw [racc.1]
            exact lim_lt (by omega)
          refine ⟨accV, hD4, hl, rfl, hlt, G4, accV ++ [w], accD ++ [y], s4, ?_, ?_, upd_same, gD4, racc4.app (.cons rw4 .nil), by simp; omega, ?_⟩
          · refine ⟨xx.g, fun a o e np nt => ?_, fun a o e => ?_, xx.n, fun a o e => ?_, fun h => (xx.tk h).updL hD4, xx.gt⟩
            · rw [upd_ne (ne_of_none e nD)]
              exact xx.h a o e np nt
            · rw [upd_ne (ne_of_none e nD)]
              exact xx.t a o e
            · have : a ≠ D0 := ne_of_none e gD4
              rw [upd_ne this]
              exact xx.sub a o e
          · intro q e
            obtain ⟨q1, q2⟩ := p4 q e
            have : q ≠ D0 := fun z => by
              rw [z] at e
              have e1 := E.ps D0 e
              rw [e1.2] at nD
              cases nD
            rw [upd_ne this]
            exact ⟨q1, q2⟩
          · rw [bind_assoc] at P4
            have e5 : (fun r => cont (accD ++ [y] ++ r)) = fun r => (pure (y :: r) : PM (List D)) >>= fun r => cont (accD ++ r) := by
              funext r
              rw [pure_bind]
              simp
            rw [e5]
            exact P4
  · have e : i = xs.length := by omega
    subst e
    refine .inl ⟨(hJ G H x1.g x1.sub).2 _ (Nat.le_refl _), fin G H accV accD s' x1 p1 hD gD racc ?_⟩
    rw [List.drop_length] at P
    have P : Pst X.K W X.mg pa σ F G1 H1 (((pure [] : PM (List D)) >>= fun r => cont (accD ++ r)) s') := P
    rw [pure_bind, List.append_nil] at P
    exact P
end EV

/-! EV 6: comprehensions as values, isinstance, defs and their calls. -/
namespace EV
open PySem PySem.Spec PyProof.Rows L2

theorem Cok.blk {X : Cx} {W : WX} {k : Nat} (C : Cok X W k) {s : Shared} {H : Hp} {scope : Scope} {cenv : PySem.Env} {fp : List Addr} : Cok (X.blk s H scope cenv fp) W0 k where
  calm := C.calm
  nd := C.nd
  takes := takes0
  room := C.room
  guards := C.guards
  passes := PassesOwn.never
theorem Cok.mono {X : Cx} {W : WX} {j k : Nat} (C : Cok X W k) (h : j ≤ k) : Cok X W j := ⟨C.calm, C.nd, C.takes, C.room.mono h, fun q => C.guards (Nat.le_trans q h), C.passes⟩
/-- the rest after a list that is made: it is public -/
theorem lc_pub {X : Cx} {W : WX} {pa : Option Addr} {σ : L2.St} {G1 H1 : Hp} {D0 : Addr} {Q : VK} {s1 : List Int} (nD : H1 D0 = none) (hs1 : Same G1 H1) (hp1 : PenOk pa G1 H1 s1) (G H : Hp) (accV : List V) (accD : List D) (s' : List Int) (x : Ext X.K pa G1 H1 G H) (p : PenOk pa G H s') (hD : H D0 = some (.lst accV))
    (gD : G D0 = none) (r : RpL X.K G accV accD) (P : Pst X.K W X.mg pa σ (FD X.K Q) G1 H1 ((pure (.lst accD) : PM D) s')) : Q (.ref D0) H := by
  have sg : Same G (upd G D0 (.lst accV)) := fun a o e => by
    rw [upd_ne (ne_of_none e gD)]
    exact e
  have x' : Ext X.K pa G1 H1 (upd G D0 (.lst accV)) H := by
    refine ⟨x.g.trans sg, x.hh, x.t, fun a o e n => ?_, fun a o e => ?_, x.tk, fun h => (x.gt h).upd (nt_lst _)⟩
    · rw [upd_ne (ne_of_none e nD)]
      exact x.n a o e n
    · by_cases h : a = D0
      · subst h
        rw [upd_same] at e
        rw [← e]
        exact hD
      · rw [upd_ne h] at e
        exact x.sub a o e
  refine P _ _ x' (fun q e => ?_) _ (.mkL upd_same (r.mono sg))
  obtain ⟨q1, q2⟩ := p q e
  refine ⟨?_, q2⟩
  rw [upd_ne (ne_of_none (hp1 q e).2 nD)]
  exact q1

section
variable {X : Cx} {W : WX} {pa : Option Addr} {Γ : List Sl} {k : Nat} {pos : Pos} {ι : Type}
theorem lc_read {dec : D → Option ι} {mt : ι → PM Bool} {me : ι → PM D} {mi : PM (List D)} {g : TG} {vs : List Nat} {Γz : ι → List Sl} (hg : TgOk X pa dec g vs (wipeG Γ vs) Γz) (σ : L2.St) (H : Hp) (Q : VK)
    (h : evT X W pa Γ (mi >>= fun xs => compL dec mt me xs >>= fun r => pure (.lst r)) σ H Q) :
    tLc (evI X W pa Γ mi) g (fun σ H Q => ∃ z, evB X W0 pa (Γz z) (mt z) σ H Q) (fun σ H Q => ∃ z, evT X W0 pa (Γz z) (me z) σ H Q) vs σ H Q := by
  obtain ⟨G0, H0, G, s, E, P⟩ := h
  refine ⟨G0, H0, G, s, E, P.bind.imp fun G1 H1 xs s1 x1 p1 P1 J hJ D0 nD => ?_⟩
  exact lcCore hg (E.step x1 p1) hJ nD P1 fun G H accV accD s' x p hD gD r P => lc_pub nD x1.sub p1 G H accV accD s' x p hD gD r P
/-- [elt for tg in iter if ..] -/
theorem ev_lc {elt tg iter : Expr} {ifs : List Expr} {scope : Scope} {own : List (Str × Nat)} {dec : D → Option ι} {mt : ι → PM Bool} {me : ι → PM D} {mi : PM (List D)} {g : TG} {Γz : ι → List Sl} (C : Cok X W k) (hi : EI X W pa Γ tg iter mi) (ok : BlkOk X.N X.env.scope scope own)
    (hg : TgOk X pa dec g (own.map (·.2)) (wipeG Γ (own.map (·.2))) Γz)
    (hp : ∀ (s : Shared) (H : Hp) (C : Addr) (cl : List (Str × Addr)) (fp : List Addr), PG (X.blk s H scope (compEnvC scope cl C X.env) fp) tg g)
    (ht : ∀ (z : ι) (s : Shared) (H : Hp) (C : Addr) (cl : List (Str × Addr)) (fp : List Addr), ETs (X.blk s H scope (compEnvC scope cl C X.env) fp) W0 pa (Γz z) ifs (mt z))
    (he : ∀ (z : ι) (s : Shared) (H : Hp) (C : Addr) (cl : List (Str × Addr)) (fp : List Addr), EV (X.blk s H scope (compEnvC scope cl C X.env) fp) W0 pa (Γz z) elt (me z))
    (hs : ∀ x, foldedSetIterable iter X.env x = pure x := by intro _; rfl) :
    EV X W pa Γ (.ListComp elt [⟨tg, iter, ifs, 0⟩] scope pos) (mi >>= fun xs => compL dec mt me xs >>= fun r => pure (.lst r)) :=
  pe_imp (pe_lc C.calm C.nd hi ok hp (fun s H C cl fp => pts_ex fun z => ht z s H C cl fp) (fun s H C cl fp => pe_ex fun z => he z s H C cl fp) hs) fun σ H Q h => lc_read hg σ H Q h

/-! ### isinstance -/
def tyName : D → String
  | .non => "NoneType"
  | .bl _ => "bool"
  | .int _ => "int"
  | .str _ => "str"
  | .tup _ => "tuple"
  | .lst _ => "list"
  | .dct _ => "dict"
  | .obj _ _ => "object"
theorem Rp.ty {K : PySem.W.Frag} {G H : Hp} {v : V} {d : D} (hs : Same G H) (h : Rp K G v d) (hd : ∀ C fs, d ≠ .obj C fs) : TyX K H v (.type (tyName d)) := by
  cases h with
  | obj _ _ _ _ => exact absurd rfl (hd _ _)
  | @dct a sh vs kvs h hk n r =>
    have h := hs _ _ h
    cases sh with
    | t ks => exact .base (.dT h)
    | k ks => exact .base (.dK h)
    | tu m => cases hk
    | tn o m => cases hk
    | ins _ _ _ _ => cases hk
  | non => exact .base .non
  | bl b => exact .base (.bl b)
  | int i => exact .base (.int i)
  | str x => exact .base (.str x)
  | lst h _ _ => exact .base (.lst (hs _ _ h))
  | tup h _ _ =>
    rcases h with (h | ⟨o, h⟩) | ⟨o, its, n, h1, h2, _⟩
    · exact .base (.tup (hs _ _ h))
    · exact .fTuple (hs _ _ h)
    · exact .kTuple h1 h2
/-- one of int, bool, tuple, str, list -/
def isTy (T : String) (d : D) : Bool := tyName d == T || (tyName d == "bool" && T == "int")
def isF (T : String) : D → PM D
  | .obj _ _ => pure (.bl false)
  | d => pure (.bl (isTy T d))
theorem kitTable : ∀ a ∈ ["NoneType", "bool", "int", "str", "tuple", "list", "dict"], ∀ T ∈ ["int", "bool", "tuple", "str", "list"], kitB a T = some (a == T || (a == "bool" && T == "int")) := by decide +kernel
theorem kit_isTy (T : String) (hT : T ∈ ["int", "bool", "tuple", "str", "list"]) (d : D) (K : PySem.W.Frag) (h : ∀ c fs, d ≠ .obj c fs) : PySem.W.kitOne K (.type (tyName d)) (.type T) = some (isTy T d) := by
  refine kit_ty (kitTable (tyName d) ?_ T hT)
  cases d with
  | obj c fs => exact absurd rfl (h c fs)
  | _ => simp [tyName]
theorem ev_isi {e : Expr} {T : String} {x : Str} {m : PM D} {p p2 : Pos} (hT : T ∈ ["int", "bool", "tuple", "str", "list"]) (h : EV X W pa Γ e m) (hg : Gl X "isinstance") (hm : X.mg "isinstance" = none) (hg2 : Gl X x) (hm2 : X.mg x = none) (hv : bootBuiltins x = some (.type T))
    (hn : x ≠ "__name__" := by decide) (hdb : (x == ("__debug__" : Str)) = false := by decide)
    (hs : starEach [e, .Name x p2] X.env = (false, eval e X.env) :: starEach [.Name x p2] X.env := by rfl) (hs2 : starEach [.Name x p2] X.env = (false, eval (.Name x p2) X.env) :: starEach [] X.env := by rfl)
    (hpl : (backTo pos (starEach [.Name x p2] X.env)).any (·.1) = false := by rfl) :
    EV X W pa Γ (.Call (.Name "isinstance" p) [e, .Name x p2] [] pos) (m >>= isF T) := by
  have hb : PE X (.Name x p2) (tC (.ty T)) := pe_bltn hg2 hm2 hv rfl hn hdb
  refine pe_imp (pe_callB call_isi hg hm (by decide +kernel) (pa_cons h (pa_cons hb pa_nil hs2) hs) (by decide) (by decide) hs hpl) fun σ H Q ⟨G0, H0, G, s, E, P⟩ =>
    ⟨G0, H0, G, s, E, P.bind.imp fun G1 H1 d s1 x1 p1 P1 v r => ?_⟩
  by_cases ho : ∃ c fs, d = .obj c fs
  · obtain ⟨c, fs, rfl⟩ := ho
    cases r with
    | @obj a C dx fvs fs h hc hk rr => exact ⟨.ref a, .ty T, _, _, false, rfl, .ty T, .base (.ins (x1.sub _ _ h) hc.cl hc.ha hc.hn hc.htk hc.hm), hc.bt T hT, P1.now x1.sub p1 _ (.bl _)⟩
  · have e : isF T d = pure (.bl (isTy T d)) := by
      cases d <;> first | rfl | exact absurd ⟨_, _, rfl⟩ ho
    rw [e] at P1
    exact ⟨v, .ty T, _, _, isTy T d, rfl, .ty T, r.ty x1.sub (fun c fs z => ho ⟨c, fs, z⟩), kit_isTy T hT d X.K (fun c fs z => ho ⟨c, fs, z⟩), P1.now x1.sub p1 _ (.bl _)⟩
end

/-! ### defs -/
/-- a def's promise, where no guard is held around -/
structure FnG (P : Program) (w : World) (K : PySem.W.Frag) (mg : Str → Option Value) (base : Heap) (k : Nat) (f : Addr) (fd : FuncData) (ps : List Str) (sp : Sp) : Prop where
  len : ∀ vs H Q E, sp vs H Q E → vs.length = ps.length
  run : ∀ (A : Around) (outer : List PySem.Env) (s : Shared) (H : Hp) (args : Args) (us : List Value) (vs : List V) (Q : VK) (E : XK), (32 ≤ k → A.guards = some []) → Room k A →
    Env0 P w K mg base A outer s H → BindsTo s fd args (ps.zip us) → Vals vs us → sp vs H Q E → codeAny (model P w) A (.call (.ref f) args) (CR (L2.CX P w) outer P w H s Q E) s
theorem FnG.mono {P : Program} {w : World} {K : PySem.W.Frag} {mg : Str → Option Value} {base : Heap} {j k : Nat} {f : Addr} {fd : FuncData} {ps : List Str} {sp : Sp} (F : FnG P w K mg base j f fd ps sp) (h : j ≤ k) : FnG P w K mg base k f fd ps sp :=
  ⟨F.len, fun A outer s H args us vs Q E hg hr => F.run A outer s H args us vs Q E (fun q => hg (Nat.le_trans q h)) (hr.mono h)⟩
section
variable {X : Cx} {W : WX} {pa : Option Addr} {Γ : List Sl} {k : Nat} {f : Addr} {fd : FuncData} {ps : List Str} {sp : Sp} {ds : List Value} {dvs : List V} {E : L2.St → XK}
/-- as CallSlots' run of a def, for these promises -/
theorem runG {pins : List (Addr × Obj)} {σ : L2.St} {H : Hp} {s : Shared} {Q : VK} {us : List Value} {vs : List V} (C : Cok X W k) (F : FnG X.prog X.w X.K X.mg X.base k f fd ps sp) (hb : Binds X.K fd ps []) (I : Inv X pins σ H s) (r : Vals vs us)
    (h : sp vs H Q (fun cls d H' => W cls d σ H')) : wpAny (model X.prog X.w) X.A (call (.ref f) us) (EP X pins σ Q) X.xe s := by
  have hl : us.length = ps.length := by
    rw [← r.length]
    exact F.len _ _ _ _ h
  have hbd := hb s us I.kIn (by rw [List.append_nil]; exact hl)
  rw [List.append_nil] at hbd
  have key := F.run X.A X.stack s H ⟨us, []⟩ us vs Q _ C.guards C.room I.env0 hbd r h
  refine wpAny_call (codeAny_mono key fun r s' hq => ?_)
  cases r with
  | error e => exact C.takes e s' (XE.of_call I (fun cls d H' q => q) hq)
  | ok fl =>
    cases fl with
    | ret u => exact I.after hq
    | next => exact hq.elim
    | brk => exact hq.elim
    | cont => exact hq.elim
theorem pe_callG {x : Str} {p pos : Pos} {e : Expr} {es : List Expr} {t : TA} (C : Cok X W k) (F : FnG X.prog X.w X.K X.mg X.base k f fd ps sp) (hg : Gl X x) (hm : X.mg x = some (.ref f)) (hk : PySem.W.keepIn X.K (.ref f) = true) (hb : Binds X.K fd ps []) (ha : PA X (e :: es) t)
    (hdb : (x == ("__debug__" : Str)) = false := by decide) (he : starEach (e :: es) X.env = (false, eval e X.env) :: starEach es X.env := by rfl) (hpl : (backTo pos (starEach es X.env)).any (·.1) = false := by rfl) :
    PE X (.Call (.Name x p) (e :: es) [] pos) (fun σ H Q => t σ H fun vs H1 => sp vs H1 Q (fun cls d H' => W cls d σ H')) := by
  refine ⟨fun pins s σ H Q I h => ?_⟩
  have step := fun (us : List Value) (s1 : Shared) (q : AP X pins σ (fun vs H1 => sp vs H1 Q (fun cls d H' => W cls d σ H')) us s1) => (by
    obtain ⟨vs, H1, I1, r, q⟩ := q
    exact ⟨I1.kIn, runG C F hb I1 r q⟩ : X.K.In s1.heap ∧ wpAny (model X.prog X.w) X.A (call (.ref f) us) (EP X pins σ Q) X.xe s1)
  exact wpAny_Call_Name_kw (ld_glob I hg hm (PySem.W.callWith_K (h₀ := X.base) I.ok.mod.kin hk (thn (ha.run pos pins s σ H _ I h) step) he hpl) hdb)
theorem pe_callG0 {x : Str} {p pos : Pos} (C : Cok X W k) (F : FnG X.prog X.w X.K X.mg X.base k f fd ps sp) (hg : Gl X x) (hm : X.mg x = some (.ref f)) (hk : PySem.W.keepIn X.K (.ref f) = true) (hb : Binds X.K fd ps []) (hdb : (x == ("__debug__" : Str)) = false := by decide) :
    PE X (.Call (.Name x p) [] [] pos) (fun σ H Q => sp [] H Q (fun cls d H' => W cls d σ H')) := by
  refine ⟨fun pins s σ H Q I h => ?_⟩
  refine wpAny_Call_Name_kw (ld_glob I hg hm ?_ hdb)
  exact PySem.W.callWith_K0 I.kIn hk (runG (us := []) C F hb I .nil h)
end
end EV

/-! EV 7: promises by functions on trees; statements. -/
namespace EV
open PySem PySem.Spec PyProof.Rows L2

/-! ### functions of so many arguments -/
def fn0 (g : PM D) : List D → PM D
  | [] => g
  | _ => bad
def fn1 (g : D → PM D) : List D → PM D
  | [a] => g a
  | _ => bad
def fn2 (g : D → D → PM D) : List D → PM D
  | [a, b] => g a b
  | _ => bad
def fn3 (g : D → D → D → PM D) : List D → PM D
  | [a, b, c] => g a b c
  | _ => bad
def fn4 (g : D → D → D → D → PM D) : List D → PM D
  | [a, b, c, d] => g a b c d
  | _ => bad
def fn5 (g : D → D → D → D → D → PM D) : List D → PM D
  | [a, b, c, d, e] => g a b c d e
  | _ => bad
def Arity (n : Nat) (f : List D → PM D) : Prop := ∀ ds s, ds.length ≠ n → f ds s = .bad
theorem ar0 {g} : Arity 0 (fn0 g) := fun ds s h => by
  match ds, h with
  | [], h => exact absurd rfl h
  | _ :: _, _ => rfl
theorem ar1 {g} : Arity 1 (fn1 g) := fun ds s h => by
  match ds, h with
  | [_], h => exact absurd rfl h
  | [], _ => rfl
  | _ :: _ :: _, _ => rfl
theorem ar2 {g} : Arity 2 (fn2 g) := fun ds s h => by
  match ds, h with
  | [_, _], h => exact absurd rfl h
  | [], _ => rfl
  | [_], _ => rfl
  | _ :: _ :: _ :: _, _ => rfl
theorem ar3 {g} : Arity 3 (fn3 g) := fun ds s h => by
  match ds, h with
  | [_, _, _], h => exact absurd rfl h
  | [], _ => rfl
  | [_], _ => rfl
  | [_, _], _ => rfl
  | _ :: _ :: _ :: _ :: _, _ => rfl
theorem ar4 {g} : Arity 4 (fn4 g) := fun ds s h => by
  match ds, h with
  | [_, _, _, _], h => exact absurd rfl h
  | [], _ => rfl
  | [_], _ => rfl
  | [_, _], _ => rfl
  | [_, _, _], _ => rfl
  | _ :: _ :: _ :: _ :: _ :: _, _ => rfl
theorem ar5 {g} : Arity 5 (fn5 g) := fun ds s h => by
  match ds, h with
  | [_, _, _, _, _], h => exact absurd rfl h
  | [], _ => rfl
  | [_], _ => rfl
  | [_, _], _ => rfl
  | [_, _, _], _ => rfl
  | [_, _, _, _], _ => rfl
  | _ :: _ :: _ :: _ :: _ :: _ :: _, _ => rfl
/-- what a def with a pen (pn) or without makes of its arguments -/
def spF (K : PySem.W.Frag) (mg : Str → Option Value) (pn : Bool) (n : Nat) (f : List D → PM D) : Sp := fun vs H Q E => ∃ (pa : Option Addr) (G : Hp) (s : List Int) (vs' : List V) (ds : List D),
  pa.isSome = pn ∧ vs = pa.toList.map V.ref ++ vs' ∧ (Same G H ∧ TabK K H ∧ NoT G) ∧ PenOk pa G H s ∧ RpL K G vs' ds ∧ ds.length = n ∧
    Pst K (fun cls dx _ H' => E cls dx H') mg pa [] (FD K Q) G H (f ds s)
section
variable {X : Cx} {W : WX} {pa : Option Addr} {Γ : List Sl} {k : Nat} {f : Addr} {fd : FuncData} {ps : List Str} {n : Nat} {F : List D → PM D} {x : Str} {p pos : Pos}
theorem pst_run0 {K : PySem.W.Frag} {mg : Str → Option Value} {σ : L2.St} {G H : Hp} {s : List Int} {Q : VK} {m : PM D} (hp : PenOk pa G H s) (hP : Pst K W mg pa σ (FD K Q) G H (run0 m s)) : Pst K (fun cls dx _ H' => W cls dx σ H') mg none [] (FD K Q) G H (m []) := by
  unfold run0 at hP
  cases e : m [] with
  | ok a s1 =>
    rw [e] at hP
    exact fun G' H' y _ => hP G' H' y.any (hp.ext y)
  | exc z =>
    rw [e] at hP
    exact fun cls dx G' H' y q => hP cls dx G' H' y.any q
  | bad => rw [e] at hP; exact hP.elim
theorem run0_len {m : List D → PM D} (ar : Arity n m) {ds : List D} {K : PySem.W.Frag} {mg : Str → Option Value} {σ : L2.St} {G H : Hp} {s : List Int} {Q : VK} (hP : Pst K W mg pa σ (FD K Q) G H (run0 (m ds) s)) : ds.length = n := by
  by_cases h : ds.length = n
  · exact h
  · unfold run0 at hP
    rw [ar ds [] h] at hP
    exact hP.elim
/-- f(e, ..), a def without a pen -/
theorem ev_call {e : Expr} {es : List Expr} {ml : PM (List D)} (C : Cok X W k) (FG : FnG X.prog X.w X.K X.mg X.base k f fd ps (spF X.K X.mg false n F)) (ar : Arity n F) (hg : Gl X x) (hm : X.mg x = some (.ref f)) (hk : PySem.W.keepIn X.K (.ref f) = true) (hb : Binds X.K fd ps [])
    (ha : EL X W pa Γ (e :: es) ml) (hdb : (x == ("__debug__" : Str)) = false := by decide) (he : starEach (e :: es) X.env = (false, eval e X.env) :: starEach es X.env := by rfl) (hpl : (backTo pos (starEach es X.env)).any (·.1) = false := by rfl) :
    EV X W pa Γ (.Call (.Name x p) (e :: es) [] pos) (ml >>= fun ds => run0 (F ds)) :=
  pe_imp (pe_callG C FG hg hm hk hb ha hdb he hpl) fun σ H Q ⟨G0, H0, G, s, E, P⟩ => ⟨G0, H0, G, s, E, P.bind.imp fun G1 H1 ds s1 x1 p1 P1 vs r =>
    ⟨none, G1, [], vs, ds, rfl, rfl, ⟨x1.sub, x1.tk E.tk, x1.gt E.x.nt⟩, PenOk.none, r, run0_len ar P1, pst_run0 p1 P1⟩⟩
theorem ev_call0 (C : Cok X W k) (FG : FnG X.prog X.w X.K X.mg X.base k f fd ps (spF X.K X.mg false n F)) (ar : Arity n F) (hg : Gl X x) (hm : X.mg x = some (.ref f)) (hk : PySem.W.keepIn X.K (.ref f) = true) (hb : Binds X.K fd ps [])
    (hdb : (x == ("__debug__" : Str)) = false := by decide) : EV X W pa Γ (.Call (.Name x p) [] [] pos) (run0 (F [])) :=
  pe_imp (pe_callG0 C FG hg hm hk hb hdb) fun σ H Q ⟨G0, H0, G, s, E, P⟩ =>
    ⟨none, G, [], [], [], rfl, rfl, ⟨E.sub, E.tk, E.x.nt⟩, PenOk.none, .nil, run0_len ar P, pst_run0 E.ps P⟩
/-- f(pen, e, ..), a def with the pen -/
theorem ev_callP {q : Addr} {i : Nat} {y : Str} {p2 : Pos} {es : List Expr} {ml : PM (List D)} (C : Cok X W k) (FG : FnG X.prog X.w X.K X.mg X.base k f fd ps (spF X.K X.mg true n F)) (ar : Arity n F) (hg : Gl X x) (hm : X.mg x = some (.ref f)) (hk : PySem.W.keepIn X.K (.ref f) = true) (hb : Binds X.K fd ps [])
    (hΓ : Γ[i]? = some .pen) (hN : X.N[i]? = some y) (hv : Vis X.env.scope y) (ha : EL X W (some q) Γ es ml) (hdb : (x == ("__debug__" : Str)) = false := by decide)
    (he : starEach (.Name y p2 :: es) X.env = (false, eval (.Name y p2) X.env) :: starEach es X.env := by rfl) (hpl : (backTo pos (starEach es X.env)).any (·.1) = false := by rfl)
    (hd : (y == ("__debug__" : Str)) = false := by decide) (hcd : (y == ("__classdict__" : Str)) = false := by decide) :
    EV X W (some q) Γ (.Call (.Name x p) (.Name y p2 :: es) [] pos) (ml >>= F) :=
  pe_imp (pe_callG C FG hg hm hk hb (pa_cons (pe_var hN hv hd hcd) ha he) hdb he hpl) fun σ H Q ⟨G0, H0, G, s, E, P⟩ => by
    obtain ⟨q', e1, e2⟩ := E.pen i hΓ
    cases e1
    refine ⟨.ref q, e2, G0, H0, G, s, E, P.bind.imp fun G1 H1 ds s1 x1 p1 P1 vs r => ?_⟩
    refine ⟨some q, G1, s1, vs, ds, rfl, rfl, ⟨x1.sub, x1.tk E.tk, x1.gt E.x.nt⟩, p1, r, ?_, ?_⟩
    · by_cases h : ds.length = n
      · exact h
      · rw [ar ds s1 h] at P1
        exact P1.elim
    · cases e : F ds s1 with
      | ok a s2 => rw [e] at P1; exact P1
      | exc z => rw [e] at P1; exact P1
      | bad => rw [e] at P1; exact P1.elim
end

/-! ### statements -/
inductive Out where
  | fall (Γ : List Sl) | ret (d : D) | brk (Γ : List Sl) | cnt (Γ : List Sl)
def SPost (K : PySem.W.Frag) (W : WX) (mg : Str → Option Value) (pa : Option Addr) (G0 H0 : Hp) (Dn : Ends) : R Out → Prop
  | .ok (.fall Γ') s => ∀ σ' G' H', Nv K pa G0 H0 G' H' σ' Γ' s → Dn.nx σ' H'
  | .ok (.ret d) s => ∀ v G' H', Ext K pa G0 H0 G' H' → PenOk pa G' H' s → Rp K G' v d → Dn.rt v H'
  | .ok (.brk Γ') s => ∀ σ' G' H', Nv K pa G0 H0 G' H' σ' Γ' s → Dn.bk σ' H'
  | .ok (.cnt Γ') s => ∀ σ' G' H', Nv K pa G0 H0 G' H' σ' Γ' s → Dn.ct σ' H'
  | .exc e => ∀ cls dx σ' G' H', Ext K pa G0 H0 G' H' → ExcIs K mg G' H' e cls dx → W cls dx σ' H'
  | .bad => False
def svT (X : Cx) (W : WX) (pa : Option Addr) (Γ : List Sl) (m : PM Out) : TS := fun Dn σ H => ∃ G0 H0 G s, Nv X.K pa G0 H0 G H σ Γ s ∧ SPost X.K W X.mg pa G0 H0 Dn (m s)
/-- a block, its outcome m read by out -/
def SV (X : Cx) (W : WX) (pa : Option Addr) (Γ : List Sl) {α : Type} (out : α → Out) (sts : List Stmt) (m : PM α) : Prop := PSs X sts (svT X W pa Γ (m >>= fun a => pure (out a)))
section
variable {K : PySem.W.Frag} {W : WX} {mg : Str → Option Value} {pa : Option Addr} {G0 H0 G H : Hp} {Dn : Ends} {σ : L2.St} {Γ : List Sl} {s : List Int}
theorem SPost.bind {α : Type} {m : PM α} {f : α → PM Out} (E : Nv K pa G0 H0 G H σ Γ s) (h : SPost K W mg pa G0 H0 Dn ((m >>= f) s)) : Pst K W mg pa σ (fun _ _ a s' => SPost K W mg pa G0 H0 Dn (f a s')) G H (m s) := by
  rw [PM.bind_def] at h
  cases e : m s with
  | ok a s1 =>
    rw [e] at h
    exact fun _ _ _ _ => h
  | exc z =>
    rw [e] at h
    exact fun cls dx G' H' y q => h cls dx σ G' H' (E.ext.trans y) q
  | bad => rw [e] at h; exact h
end
theorem pss_imp {X : Cx} {sts : List Stmt} {t t' : TS} (h : PSs X sts t) (i : ∀ Dn σ H, t' Dn σ H → t Dn σ H) : PSs X sts t' := ⟨fun pins s σ H D I q => h.run pins s σ H D I (i D σ H q)⟩
theorem pss_ex {X : Cx} {ι : Type} {sts : List Stmt} {t : ι → TS} (h : ∀ z, PSs X sts (t z)) : PSs X sts (fun D σ H => ∃ z, t z D σ H) := ⟨fun pins s σ H D I ⟨z, q⟩ => (h z).run pins s σ H D I q⟩
section
variable {X : Cx} {W : WX} {pa : Option Addr} {Γ Γ' : List Sl} {k : Nat} {pos : Pos} {α β : Type} {out : α → Out} {rest : List Stmt}
/-- the block's end -/
theorem sv_nil {a : α} (h : out a = .fall Γ') (w : Weak Γ Γ') : SV X W pa Γ out [] (pure a) := by
  unfold SV
  rw [pure_bind, h]
  exact pss_imp pss_nil fun Dn σ H ⟨G0, H0, G, s, E, P⟩ => P σ G H (E.weak w)
/-- less is known -/
theorem sv_weak {sts : List Stmt} {m : PM α} (w : Weak Γ Γ') (h : SV X W pa Γ' out sts m) : SV X W pa Γ out sts m := pss_imp h fun Dn σ H ⟨G0, H0, G, s, E, P⟩ => ⟨G0, H0, G, s, E.weak w, P⟩
/-- x = e -/
theorem sv_set (i : Nat) {x : Str} {e : Expr} {pos' : Pos} {me : PM D} {kk : D → PM α} (hN : X.N.Nodup) (he : EV X W pa Γ e me) (hr : ∀ d, SV X W pa (Γ.set i (.val d)) out rest (kk d)) (hi : X.N[i]? = some x := by rfl) (hx : Loc X.env.scope x := by first | exact Or.inl rfl | exact Or.inr rfl)
    (hs : swapsWith e (some (.Name x pos')) pos.line X.env = pure false := by rfl) (hf : X.fn x = true ∨ X.env.scope.names.lookup x = some .local := by first | exact .inl rfl | exact .inr rfl) :
    SV X W pa Γ out (.Assign [.Name x pos'] e pos :: rest) (me >>= kk) := by
  unfold SV
  rw [bind_assoc]
  exact pss_imp (pss_cons (ps_set (i := i) hN hi hx he hs hf) (pss_ex hr)) fun Dn σ H ⟨G0, H0, G, s, E, P⟩ =>
    ⟨G0, H0, G, s, E, (P.bind E).imp fun G1 H1 d s1 x1 p1 P1 v r => ⟨d, G0, H0, G1, s1, (E.step x1 p1).set i r, P1⟩⟩
/-- return e -/
theorem sv_ret {e : Expr} {me : PM D} {inj : D → α} (hi : ∀ d, out (inj d) = .ret d) (he : EV X W pa Γ e me) : SV X W pa Γ out (.Return (some e) pos :: rest) (me >>= fun d => pure (inj d)) := by
  unfold SV
  rw [bind_assoc]
  refine pss_imp (pss_cons (ps_ret he) (pss_never (sts := rest))) fun Dn σ H ⟨G0, H0, G, s, E, P⟩ => ⟨G0, H0, G, s, E, (P.bind E).imp fun G1 H1 d s1 x1 p1 P1 v r => ?_⟩
  rw [pure_bind, hi] at P1
  exact P1 v G1 H1 (E.ext.trans x1) p1 r
/-- an expression alone -/
theorem sv_expr {e : Expr} {me : PM D} {kk : PM α} (he : EV X W pa Γ e me) (hr : SV X W pa Γ out rest kk) (hs : swapsWith e none pos.line X.env = pure false := by rfl) : SV X W pa Γ out (.Expr e pos :: rest) (me >>= fun _ => kk) := by
  unfold SV
  rw [bind_assoc]
  exact pss_imp (pss_cons (ps_expr he hs) hr) fun Dn σ H ⟨G0, H0, G, s, E, P⟩ => ⟨G0, H0, G, s, E, (P.bind E).imp fun G1 H1 d s1 x1 p1 P1 v r => ⟨G0, H0, G1, s1, E.step x1 p1, P1⟩⟩
/-- if c: .. that leaves the block by return; then the rest -/
theorem sv_ifR {c : Expr} {A : List Stmt} {mc : PM Bool} {mA kk : PM α} (hc : EB X W pa Γ c mc) (hA : SV X W pa Γ out A mA) (hn : ∀ a s s' Γ', mA s = .ok a s' → out a ≠ .fall Γ') (hr : SV X W pa Γ out rest kk) :
    SV X W pa Γ out (.If c A [] pos :: rest) (mc >>= fun b => if b = true then mA else kk) := by
  unfold SV
  rw [bind_assoc]
  refine pss_imp (pss_cons (ps_if hc hA pss_nil) hr) fun Dn σ H ⟨G0, H0, G, s, E, P⟩ => ⟨G0, H0, G, s, E, (P.bind E).imp fun G1 H1 b s1 x1 p1 P1 => ?_⟩
  cases b with
  | false => exact (show svT X W pa Γ (kk >>= fun a => pure (out a)) Dn σ H1 from ⟨G0, H0, G1, s1, E.step x1 p1, P1⟩)
  | true =>
    refine (show svT X W pa Γ (mA >>= fun a => pure (out a)) _ σ H1 from ⟨G0, H0, G1, s1, E.step x1 p1, ?_⟩)
    have P1 : SPost X.K W X.mg pa G0 H0 Dn ((mA >>= fun a => pure (out a)) s1) := P1
    rw [PM.bind_def] at P1 ⊢
    cases e : mA s1 with
    | ok a s2 =>
      rw [e] at P1
      have h := hn a s1 s2
      show SPost X.K W X.mg pa G0 H0 _ (.ok (out a) s2)
      have P1 : SPost X.K W X.mg pa G0 H0 Dn (.ok (out a) s2) := P1
      cases q : out a with
      | fall Γ' => exact absurd q (h Γ' e)
      | ret d => rw [q] at P1; exact P1
      | brk Γ' => rw [q] at P1; exact P1
      | cnt Γ' => rw [q] at P1; exact P1
    | exc z => rw [e] at P1; exact P1
    | bad => rw [e] at P1; exact P1.elim
/-- if c: A else: B at the block's end -/
theorem sv_ifE {c : Expr} {A B : List Stmt} {mc : PM Bool} {mA mB : PM α} (hc : EB X W pa Γ c mc) (hA : SV X W pa Γ out A mA) (hB : SV X W pa Γ out B mB) : SV X W pa Γ out [.If c A B pos] (mc >>= fun b => if b = true then mA else mB) := by
  unfold SV
  rw [bind_assoc]
  refine pss_imp (pss_one (ps_if hc hA hB)) fun Dn σ H ⟨G0, H0, G, s, E, P⟩ => ⟨G0, H0, G, s, E, (P.bind E).imp fun G1 H1 b s1 x1 p1 P1 => ?_⟩
  cases b with
  | false => exact (show svT X W pa Γ (mB >>= fun a => pure (out a)) Dn σ H1 from ⟨G0, H0, G1, s1, E.step x1 p1, P1⟩)
  | true => exact (show svT X W pa Γ (mA >>= fun a => pure (out a)) Dn σ H1 from ⟨G0, H0, G1, s1, E.step x1 p1, P1⟩)
/-- if c: A else: B, both fall into the rest; a tells what they changed -/
theorem sv_ifJ {c : Expr} {A B : List Stmt} {mc : PM Bool} {mA mB : PM β} {mk : β → List Sl} {kk : β → PM α} (hc : EB X W pa Γ c mc) (hA : SV X W pa Γ (fun b => Out.fall (mk b)) A mA) (hB : SV X W pa Γ (fun b => Out.fall (mk b)) B mB)
    (hr : ∀ b, SV X W pa (mk b) out rest (kk b)) : SV X W pa Γ out (.If c A B pos :: rest) (mc >>= fun b => (if b = true then mA else mB) >>= kk) := by
  unfold SV
  rw [bind_assoc]
  refine pss_imp (pss_cons (ps_if hc hA hB) (pss_ex hr)) fun Dn σ H ⟨G0, H0, G, s, E, P⟩ => ⟨G0, H0, G, s, E, (P.bind E).imp fun G1 H1 b s1 x1 p1 P1 => ?_⟩
  have go : ∀ m : PM β, SPost X.K W X.mg pa G0 H0 Dn (((m >>= kk) >>= fun a => pure (out a)) s1) →
      svT X W pa Γ (m >>= fun b => pure (Out.fall (mk b))) { Dn with nx := fun σ H => ∃ z, svT X W pa (mk z) (kk z >>= fun a => pure (out a)) Dn σ H } σ H1 := fun m P => by
    refine ⟨G0, H0, G1, s1, E.step x1 p1, ?_⟩
    rw [bind_assoc, PM.bind_def] at P
    rw [PM.bind_def]
    cases e : m s1 with
    | ok a s2 =>
      rw [e] at P
      exact fun σ' G' H' E' => ⟨a, G0, H0, G', s2, E', P⟩
    | exc z => rw [e] at P; exact P
    | bad => rw [e] at P; exact P.elim
  cases b with
  | false => exact go mB P1
  | true => exact go mA P1
end
end EV

/-! EV 8: loops, own lists, the pen. -/
namespace EV
open PySem PySem.Spec PyProof.Rows L2

/-! ### no fall -/
def NF {α : Type} (out : α → Out) (m : PM α) : Prop := ∀ a s s' Γ', m s = .ok a s' → out a ≠ .fall Γ'
theorem nf_ret {α : Type} {out : α → Out} {inj : D → α} {m : PM D} (h : ∀ d, out (inj d) = .ret d) : NF out (m >>= fun d => pure (inj d)) := fun a s s' Γ' e q => by
  rw [PM.bind_def] at e
  cases h1 : m s with
  | ok d s1 =>
    rw [h1] at e
    cases e
    rw [h] at q
    cases q
  | exc z => rw [h1] at e; cases e
  | bad => rw [h1] at e; cases e
theorem nf_bad {α : Type} {out : α → Out} : NF out (bad : PM α) := fun a s s' Γ' e => by cases e
theorem nf_bind {α β : Type} {out : α → Out} {m : PM β} {f : β → PM α} (h : ∀ b, NF out (f b)) : NF out (m >>= f) := fun a s s' Γ' e => by
  rw [PM.bind_def] at e
  cases h1 : m s with
  | ok d s1 => rw [h1] at e; exact h d a s1 s' Γ' e
  | exc z => rw [h1] at e; cases e
  | bad => rw [h1] at e; cases e
theorem nf_ite {α : Type} {out : α → Out} {c : Prop} [Decidable c] {m n : PM α} (h : NF out m) (h' : NF out n) : NF out (if c then m else n) := by
  split <;> assumption

/-! ### another base -/
section
variable {K : PySem.W.Frag} {W : WX} {mg : Str → Option Value} {pa : Option Addr} {G0 H0 G1 H1 G H : Hp} {σ : L2.St} {Γ : List Sl} {s : List Int}
theorem Ext.base (x : Ext K pa G0 H0 G1 H1) : Ext K pa G1 H0 G1 H1 := ⟨Same.refl _, x.hh, x.t, fun a o e n => n, x.sub, x.tk, fun h => h⟩
theorem Ext.back (x : Ext K pa G0 H0 G1 H1) (y : Ext K pa G1 H0 G H) : Ext K pa G0 H0 G H := ⟨x.g.trans y.g, y.hh, y.t, fun a o e n => y.n a o e (x.n a o e n), y.sub, y.tk, fun h => y.gt (x.gt h)⟩
theorem Nv.base (E : Nv K pa G0 H0 G1 H1 σ Γ s) : Nv K pa G1 H0 G1 H1 σ Γ s := ⟨E.len, E.val, E.own, E.inj, E.pen, E.scr, E.ps, E.ext.base, E.x⟩
theorem Nv.back (x : Ext K pa G0 H0 G1 H1) (E : Nv K pa G1 H0 G H σ Γ s) : Nv K pa G0 H0 G H σ Γ s := ⟨E.len, E.val, E.own, E.inj, E.pen, E.scr, E.ps, x.back E.ext, E.x⟩
theorem SPost.base {Dn : Ends} {r : R Out} (x : Ext K pa G0 H0 G1 H1) (h : SPost K W mg pa G0 H0 Dn r) : SPost K W mg pa G1 H0 Dn r := by
  cases r with
  | ok o s =>
    cases o with
    | fall Γ' => exact fun σ' G' H' E => h σ' G' H' (E.back x)
    | ret d => exact fun v G' H' y p r => h v G' H' (x.back y) p r
    | brk Γ' => exact fun σ' G' H' E => h σ' G' H' (E.back x)
    | cnt Γ' => exact fun σ' G' H' E => h σ' G' H' (E.back x)
  | exc e => exact fun cls dx σ' G' H' y q => h cls dx σ' G' H' (x.back y) q
  | bad => exact h
end

/-! ### for -/
inductive Lp (C : Type) where
  | go (c : C) | ret (d : D)
def forS {ι C : Type} (dec : D → Option ι) (mb : C → ι → PM C) : List D → C → PM C
  | [], c => pure c
  | x :: xs, c => match dec x with
    | none => bad
    | some z => mb c z >>= forS dec mb xs
def forL {ι C : Type} (dec : D → Option ι) (mb : C → ι → PM (Lp C)) : List D → C → PM (Lp C)
  | [], c => pure (.go c)
  | x :: xs, c => match dec x with
    | none => bad
    | some z => mb c z >>= fun r => match r with
      | .go c' => forL dec mb xs c'
      | .ret d => pure (.ret d)
def lpOut {C : Type} (mk : C → List Sl) : Lp C → Out
  | .go c => .fall (mk c)
  | .ret d => .ret d
def lpK {C α : Type} (inj : D → α) (kk : C → PM α) : Lp C → PM α
  | .go c => kk c
  | .ret d => pure (inj d)
section
variable {X : Cx} {W : WX} {pa : Option Addr} {Γ : List Sl} {k : Nat} {pos : Pos} {α : Type} {out : α → Out} {rest : List Stmt} {ι C : Type} {dec : D → Option ι} {tg iter : Expr} {body : List Stmt} {g : TG} {vs : List Nat} {mk : C → List Sl} {Γz : C → ι → List Sl} {mi : PM (List D)} {c0 : C}
theorem sv_forL {mb : C → ι → PM (Lp C)} {kk : C → PM α} {inj : D → α} (Cx : Cok X W k) (hi : EI X W pa Γ tg iter mi) (hp : PG X tg g) (hg : ∀ c, TgOk X pa dec g vs (mk c) (Γz c)) (w : Weak Γ (mk c0)) (hj : ∀ d, out (inj d) = .ret d)
    (hb : ∀ c z, SV X W pa (Γz c z) (lpOut mk) body (mb c z)) (hr : ∀ c, SV X W pa (mk c) out rest (kk c)) (hs : ∀ x, foldedSetIterable iter X.env x = pure x := by intro _; rfl) :
    SV X W pa Γ out (.For tg iter body [] pos :: rest) (mi >>= fun xs => forL dec mb xs c0 >>= lpK inj kk) := by
  have hbody : PSs X body (fun D σ H => ∃ p : C × ι, svT X W pa (Γz p.1 p.2) (mb p.1 p.2 >>= fun a => pure (lpOut mk a)) D σ H) := pss_ex (ι := C × ι) fun p => hb p.1 p.2
  unfold SV
  rw [bind_assoc]
  refine pss_imp (pss_cons (ps_for Cx.passes Cx.calm hi hp hbody hs) (pss_ex hr)) fun Dn σ H ⟨G0, H0, G, s, E, P⟩ => ⟨G0, H0, G, s, E, (P.bind E).imp fun G1 H1 xs s1 x1 p1 P1 J hJ => ?_⟩
  have E1 := (E.step x1 p1).weak w
  have P1 : SPost X.K W X.mg pa G1 H0 Dn (((forL dec mb xs c0 >>= lpK inj kk) >>= fun a => pure (out a)) s1) := P1.base E1.ext
  have E1b : Nv X.K pa G1 H0 G1 H1 σ (mk c0) s1 := E1.base
  refine ⟨fun i m σ H => m = xs.length - i ∧ i ≤ xs.length ∧ ∃ G c s', Nv X.K pa G1 H0 G H σ (mk c) s' ∧ SPost X.K W X.mg pa G1 H0 Dn (((forL dec mb (xs.drop i) c >>= lpK inj kk) >>= fun a => pure (out a)) s'),
    ⟨xs.length, by simp, Nat.zero_le _, G1, c0, s1, E1b, by simpa using P1⟩, ?_⟩
  rintro i m σ2 H2 ⟨rfl, hi', G2, c, s2, E2, P2⟩
  have jk := hJ G2 H2 E2.ext.g E2.sub
  by_cases hlt : i < xs.length
  · obtain ⟨x, hx⟩ : ∃ x, xs[i]? = some x := ⟨_, List.getElem?_eq_getElem hlt⟩
    obtain ⟨hgo, hyld⟩ := jk.1 i x hx
    have hdrop : xs.drop i = x :: xs.drop (i + 1) := by
      rw [List.drop_eq_getElem_cons hlt]
      congr 1
      rw [List.getElem?_eq_getElem hlt] at hx
      exact Option.some.inj hx
    rw [hdrop] at P2
    unfold forL at P2
    refine .inr ⟨hgo, fun σ H => ∃ G c s', Nv X.K pa G1 H0 G H σ (mk c) s' ∧ SPost X.K W X.mg pa G1 H0 Dn (((forL dec mb (xs.drop (i + 1)) c >>= lpK inj kk) >>= fun a => pure (out a)) s'), fun σ' H' q => ⟨_, by omega, rfl, hlt, q⟩, fun v H3 hy => ?_⟩
    obtain ⟨G3, x3, rv⟩ := hyld v H3 hy
    have p3 := E2.ps.ext x3
    have E3 := E2.step x3.any p3
    cases hd : dec x with
    | none => rw [hd] at P2; exact P2.elim
    | some z =>
      rw [hd] at P2
      dsimp only at P2
      refine hg c G1 H0 G3 H3 σ2 s2 v x z _ E3 rv hd fun σ4 E4 _ => ⟨(c, z), G1, H0, G3, s2, E4, ?_⟩
      rw [bind_assoc, bind_assoc, PM.bind_def] at P2
      rw [PM.bind_def]
      cases e : mb c z s2 with
      | ok r s5 =>
        rw [e] at P2
        dsimp only at P2
        cases r with
        | go c' => exact fun σ' G' H' E' => ⟨G', c', s5, E', by rw [bind_assoc]; exact P2⟩
        | ret d =>
          have P2 : SPost X.K W X.mg pa G1 H0 Dn ((((pure (.ret d) : PM (Lp C)) >>= lpK inj kk) >>= fun a => pure (out a)) s5) := by rw [bind_assoc]; exact P2
          rw [pure_bind] at P2
          have P2 : SPost X.K W X.mg pa G1 H0 Dn ((((pure (inj d)) : PM α) >>= fun a => pure (out a)) s5) := P2
          rw [pure_bind, hj] at P2
          exact P2
      | exc q => rw [e] at P2; exact P2
      | bad => rw [e] at P2; exact P2.elim
  · have e : i = xs.length := by omega
    subst e
    rw [List.drop_length] at P2
    exact .inl ⟨jk.2 _ (Nat.le_refl _), c, G1, H0, G2, s2, E2, P2⟩
theorem sv_forS {mb : C → ι → PM C} {kk : C → PM α} (Cx : Cok X W k) (hi : EI X W pa Γ tg iter mi) (hp : PG X tg g) (hg : ∀ c, TgOk X pa dec g vs (mk c) (Γz c)) (w : Weak Γ (mk c0))
    (hb : ∀ c z, SV X W pa (Γz c z) (fun c => Out.fall (mk c)) body (mb c z)) (hr : ∀ c, SV X W pa (mk c) out rest (kk c)) (hs : ∀ x, foldedSetIterable iter X.env x = pure x := by intro _; rfl) :
    SV X W pa Γ out (.For tg iter body [] pos :: rest) (mi >>= fun xs => forS dec mb xs c0 >>= kk) := by
  have hbody : PSs X body (fun D σ H => ∃ p : C × ι, svT X W pa (Γz p.1 p.2) (mb p.1 p.2 >>= fun a => pure (Out.fall (mk a))) D σ H) := pss_ex (ι := C × ι) fun p => hb p.1 p.2
  unfold SV
  rw [bind_assoc]
  refine pss_imp (pss_cons (ps_for Cx.passes Cx.calm hi hp hbody hs) (pss_ex hr)) fun Dn σ H ⟨G0, H0, G, s, E, P⟩ => ⟨G0, H0, G, s, E, (P.bind E).imp fun G1 H1 xs s1 x1 p1 P1 J hJ => ?_⟩
  have E1 := (E.step x1 p1).weak w
  have P1 : SPost X.K W X.mg pa G1 H0 Dn (((forS dec mb xs c0 >>= kk) >>= fun a => pure (out a)) s1) := P1.base E1.ext
  have E1b : Nv X.K pa G1 H0 G1 H1 σ (mk c0) s1 := E1.base
  refine ⟨fun i m σ H => m = xs.length - i ∧ i ≤ xs.length ∧ ∃ G c s', Nv X.K pa G1 H0 G H σ (mk c) s' ∧ SPost X.K W X.mg pa G1 H0 Dn (((forS dec mb (xs.drop i) c >>= kk) >>= fun a => pure (out a)) s'),
    ⟨xs.length, by simp, Nat.zero_le _, G1, c0, s1, E1b, by simpa using P1⟩, ?_⟩
  rintro i m σ2 H2 ⟨rfl, hi', G2, c, s2, E2, P2⟩
  have jk := hJ G2 H2 E2.ext.g E2.sub
  by_cases hlt : i < xs.length
  · obtain ⟨x, hx⟩ : ∃ x, xs[i]? = some x := ⟨_, List.getElem?_eq_getElem hlt⟩
    obtain ⟨hgo, hyld⟩ := jk.1 i x hx
    have hdrop : xs.drop i = x :: xs.drop (i + 1) := by
      rw [List.drop_eq_getElem_cons hlt]
      congr 1
      rw [List.getElem?_eq_getElem hlt] at hx
      exact Option.some.inj hx
    rw [hdrop] at P2
    unfold forS at P2
    refine .inr ⟨hgo, fun σ H => ∃ G c s', Nv X.K pa G1 H0 G H σ (mk c) s' ∧ SPost X.K W X.mg pa G1 H0 Dn (((forS dec mb (xs.drop (i + 1)) c >>= kk) >>= fun a => pure (out a)) s'), fun σ' H' q => ⟨_, by omega, rfl, hlt, q⟩, fun v H3 hy => ?_⟩
    obtain ⟨G3, x3, rv⟩ := hyld v H3 hy
    have p3 := E2.ps.ext x3
    have E3 := E2.step x3.any p3
    cases hd : dec x with
    | none => rw [hd] at P2; exact P2.elim
    | some z =>
      rw [hd] at P2
      dsimp only at P2
      refine hg c G1 H0 G3 H3 σ2 s2 v x z _ E3 rv hd fun σ4 E4 _ => ⟨(c, z), G1, H0, G3, s2, E4, ?_⟩
      rw [bind_assoc, bind_assoc, PM.bind_def] at P2
      rw [PM.bind_def]
      cases e : mb c z s2 with
      | ok c' s5 =>
        rw [e] at P2
        dsimp only at P2
        exact fun σ' G' H' E' => ⟨G', c', s5, E', by rw [bind_assoc]; exact P2⟩
      | exc q => rw [e] at P2; exact P2
      | bad => rw [e] at P2; exact P2.elim
  · have e : i = xs.length := by omega
    subst e
    rw [List.drop_length] at P2
    have P2 : SPost X.K W X.mg pa G1 H0 Dn ((((pure c : PM C) >>= kk) >>= fun a => pure (out a)) s2) := P2
    rw [pure_bind] at P2
    exact .inl ⟨jk.2 _ (Nat.le_refl _), c, G1, H0, G2, s2, E2, P2⟩
/-! ### while -/
def whileS {C : Type} (mc : C → PM Bool) (mb : C → PM C) : Nat → C → PM C
  | 0, _ => bad
  | n + 1, c => mc c >>= fun b => if b = true then mb c >>= whileS mc mb n else pure c
theorem sv_while (n : Nat) {cnd : Expr} {mc : C → PM Bool} {mb : C → PM C} {kk : C → PM α} (Cx : Cok X W k) (w : Weak Γ (mk c0)) (hc : ∀ c, EB X W pa (mk c) cnd (mc c)) (hb : ∀ c, SV X W pa (mk c) (fun c => Out.fall (mk c)) body (mb c)) (hr : ∀ c, SV X W pa (mk c) out rest (kk c)) :
    SV X W pa Γ out (.While cnd body [] pos :: rest) (whileS mc mb n c0 >>= kk) := by
  unfold SV
  rw [bind_assoc]
  have hcc : PT X cnd (fun σ H Q => ∃ c, evB X W pa (mk c) (mc c) σ H Q) := pt_ex hc
  have hbb : PSs X body (fun D σ H => ∃ c, svT X W pa (mk c) (mb c >>= fun a => pure (Out.fall (mk a))) D σ H) := pss_ex hb
  refine pss_imp (pss_cons (ps_while Cx.passes hcc hbb) (pss_ex hr)) fun Dn σ H ⟨G0, H0, G, s, E, P⟩ => ?_
  refine ⟨fun m σ H => ∃ G c s', Nv X.K pa G0 H0 G H σ (mk c) s' ∧ SPost X.K W X.mg pa G0 H0 Dn ((whileS mc mb m c >>= fun c => kk c >>= fun a => pure (out a)) s'), ⟨n, G, c0, s, E.weak w, P⟩, ?_⟩
  rintro m σ1 H1 ⟨G1, c, s1, E1, P1⟩
  cases m with
  | zero => exact P1.elim
  | succ m =>
    unfold whileS at P1
    rw [bind_assoc] at P1
    refine ⟨c, G0, H0, G1, s1, E1, (P1.bind E1).imp fun G2 H2 b s2 x2 p2 P2 => ?_⟩
    have E2 := E1.step x2 p2
    cases b with
    | false =>
      have P2 : SPost X.K W X.mg pa G0 H0 Dn (((pure c : PM C) >>= fun c => kk c >>= fun a => pure (out a)) s2) := P2
      rw [pure_bind] at P2
      exact (show ∃ z, svT X W pa (mk z) (kk z >>= fun a => pure (out a)) Dn σ1 H2 from ⟨c, G0, H0, G2, s2, E2, P2⟩)
    | true =>
      have P2 : SPost X.K W X.mg pa G0 H0 Dn (((mb c >>= whileS mc mb m) >>= fun c => kk c >>= fun a => pure (out a)) s2) := P2
      refine (show ∃ N : L2.St → Hp → Prop, _ from ⟨fun σ H => ∃ G c s', Nv X.K pa G0 H0 G H σ (mk c) s' ∧ SPost X.K W X.mg pa G0 H0 Dn ((whileS mc mb m c >>= fun c => kk c >>= fun a => pure (out a)) s'), fun σ' H' q => ⟨m, Nat.lt_succ_self _, q⟩, c, G0, H0, G2, s2, E2, ?_⟩)
      rw [bind_assoc, PM.bind_def] at P2
      rw [PM.bind_def]
      cases e : mb c s2 with
      | ok c' s5 =>
        rw [e] at P2
        exact fun σ' G' H' E' => ⟨G', c', s5, E', P2⟩
      | exc q => rw [e] at P2; exact P2
      | bad => rw [e] at P2; exact P2.elim
end
end EV

/-! EV 9: own lists, the pen, defs by their bodies. -/
namespace EV
open PySem PySem.Spec PyProof.Rows L2

section
variable {K : PySem.W.Frag} {pa : Option Addr} {G0 H0 G H : Hp} {σ : L2.St} {Γ : List Sl} {s : List Int}
theorem Nv.lt (E : Nv K pa G0 H0 G H σ Γ s) {i : Nat} {x : Sl} (h : Γ[i]? = some x) : i < Γ.length := (List.getElem?_eq_some_iff.mp h).1
/-- an own list seen as a value -/
theorem Nv.pubW (E : Nv K pa G0 H0 G H σ Γ s) {i : Nat} {xs : List D} (h : Γ[i]? = some (.own xs)) :
    ∃ p vs, σ[i]? = some (some (.ref p)) ∧ H p = some (.lst vs) ∧ G p = none ∧ RpL K G vs xs ∧ H0 p = none ∧ pa ≠ some p ∧ Nv K pa G0 H0 (upd G p (.lst vs)) H σ (Γ.set i (.val (.lst xs))) s := by
  obtain ⟨p, vs, h1, h2, h3, h4, h5, h6⟩ := E.own i xs h
  have sg : Same G (upd G p (.lst vs)) := fun a o e => by
    rw [upd_ne (ne_of_none e h3)]
    exact e
  refine ⟨p, vs, h1, h2, h3, h4, h5, h6, ?_⟩
  have hlt := E.lt h
  refine ⟨by simp [E.len], fun j d e => ?_, fun j ys e => ?_, fun j l q ys zs e1 e2 e3 e4 => ?_, fun j e => ?_, fun j ns e => ?_, fun q e => ?_, ?_, (E.x.pubL h2 h3).putG i rfl⟩
  · by_cases hj : i = j
    · subst hj
      rw [List.getElem?_set_self hlt] at e
      cases e
      exact ⟨_, h1, .mkL upd_same (h4.mono sg)⟩
    · rw [List.getElem?_set_ne hj] at e
      obtain ⟨v, q1, q2⟩ := E.val j d e
      exact ⟨v, q1, q2.mono sg⟩
  · by_cases hj : i = j
    · subst hj
      rw [List.getElem?_set_self hlt] at e
      cases e
    · rw [List.getElem?_set_ne hj] at e
      obtain ⟨q, ws, q1, q2, q3, q4, q5, q6⟩ := E.own j ys e
      have : q ≠ p := fun z => by
        rw [z] at q1
        exact hj (E.inj i j p _ _ h e h1 q1)
      exact ⟨q, ws, q1, q2, by rw [upd_ne this]; exact q3, q4.mono sg, q5, q6⟩
  · have n1 : i ≠ j := fun z => by
      subst z
      rw [List.getElem?_set_self hlt] at e1
      cases e1
    have n2 : i ≠ l := fun z => by
      subst z
      rw [List.getElem?_set_self hlt] at e2
      cases e2
    rw [List.getElem?_set_ne n1] at e1
    rw [List.getElem?_set_ne n2] at e2
    exact E.inj j l q ys zs e1 e2 e3 e4
  · have n1 : i ≠ j := fun z => by
      subst z
      rw [List.getElem?_set_self hlt] at e
      cases e
    rw [List.getElem?_set_ne n1] at e
    exact E.pen j e
  · have n1 : i ≠ j := fun z => by
      subst z
      rw [List.getElem?_set_self hlt] at e
      cases e
    rw [List.getElem?_set_ne n1] at e
    obtain ⟨a, q1, q2⟩ := E.scr j ns e
    exact ⟨a, q1, sg.seq q2⟩
  · obtain ⟨q1, q2⟩ := E.ps q e
    have : q ≠ p := fun z => h6 (by rw [← z]; exact e)
    rw [upd_ne this]
    exact ⟨q1, q2⟩
  · refine ⟨E.ext.g.trans sg, E.ext.hh, E.ext.t, fun a o e n => ?_, fun a o e => ?_, E.ext.tk, fun h => (E.ext.gt h).upd (nt_lst _)⟩
    · rw [upd_ne (ne_of_none e h5)]
      exact E.ext.n a o e n
    · by_cases ha : a = p
      · subst ha
        rw [upd_same] at e
        rw [← e]
        exact h2
      · rw [upd_ne ha] at e
        exact E.sub a o e
/-- back from a peek -/
theorem unpeek {p : Addr} {vs : List V} {G' H' : Hp} (hG : G p = none) (hp : H p = some (.lst vs)) (x : Ext K pa (upd G p (.lst vs)) H G' H') :
    ∃ G'', Ext K pa G H G'' H' ∧ (∀ s, PenOk pa G' H' s → PenOk pa G'' H' s) := by
  refine ⟨fun a => if a = p then none else G' a, ⟨fun a o e => ?_, x.hh, x.t, fun a o e n => ?_, fun a o e => ?_, x.tk, fun h P ps e => by
    have e : (if P = p then none else G' P) = some (.tbl ps) := e
    by_cases z : P = p
    · rw [if_pos z] at e
      cases e
    · rw [if_neg z] at e
      exact x.gt (h.upd (nt_lst _)) P ps e⟩, fun s q a e => ?_⟩
  · have : a ≠ p := ne_of_none e hG
    show (if a = p then none else G' a) = some o
    rw [if_neg this]
    refine x.g a o ?_
    rw [upd_ne this]
    exact e
  · show (if a = p then none else G' a) = none
    by_cases ha : a = p
    · rw [if_pos ha]
    · rw [if_neg ha]
      exact x.n a o e (by rw [upd_ne ha]; exact n)
  · have e : (if a = p then none else G' a) = some o := e
    by_cases ha : a = p
    · rw [if_pos ha] at e
      cases e
    · rw [if_neg ha] at e
      exact x.sub a o e
  · obtain ⟨q1, q2⟩ := q a e
    refine ⟨?_, q2⟩
    show (if a = p then none else G' a) = none
    by_cases ha : a = p
    · rw [if_pos ha]
    · rw [if_neg ha]
      exact q1
/-- an own list is changed -/
theorem Nv.mut (E : Nv K pa G0 H0 G H σ Γ s) {i : Nat} {xs : List D} {p : Addr} {vs : List V} {ys : List D} (h : Γ[i]? = some (.own xs)) (hp : σ[i]? = some (some (.ref p))) (r : RpL K G vs ys) :
    Nv K pa G0 H0 G (upd H p (.lst vs)) σ (Γ.set i (.own ys)) s := by
  obtain ⟨p', vs', h1, h2, h3, h4, h5, h6⟩ := E.own i xs h
  rw [hp] at h1
  cases h1
  have hlt := E.lt h
  refine ⟨by simp [E.len], fun j d e => ?_, fun j zs e => ?_, fun j l q ys' zs e1 e2 e3 e4 => ?_, fun j e => ?_, fun j ns e => ?_, fun q e => ?_, ?_, (E.x.updL h2).putG i rfl⟩
  · by_cases hj : i = j
    · subst hj
      rw [List.getElem?_set_self hlt] at e
      cases e
    · rw [List.getElem?_set_ne hj] at e
      exact E.val j d e
  · by_cases hj : i = j
    · subst hj
      rw [List.getElem?_set_self hlt] at e
      cases e
      exact ⟨p, vs, hp, upd_same, h3, r, h5, h6⟩
    · rw [List.getElem?_set_ne hj] at e
      obtain ⟨q, ws, q1, q2, q3, q4, q5, q6⟩ := E.own j zs e
      have : q ≠ p := fun z => by
        rw [z] at q1
        exact hj (E.inj i j p _ _ h e hp q1)
      exact ⟨q, ws, q1, by rw [upd_ne this]; exact q2, q3, q4, q5, q6⟩
  · have back : ∀ (m : Nat) zs, (Γ.set i (.own ys))[m]? = some (.own zs) → ∃ zs', Γ[m]? = some (.own zs') := fun m zs e => by
      by_cases hm : i = m
      · subst hm
        exact ⟨xs, h⟩
      · rw [List.getElem?_set_ne hm] at e
        exact ⟨zs, e⟩
    obtain ⟨z1, f1⟩ := back j ys' e1
    obtain ⟨z2, f2⟩ := back l zs e2
    exact E.inj j l q z1 z2 f1 f2 e3 e4
  · have n1 : i ≠ j := fun z => by
      subst z
      rw [List.getElem?_set_self hlt] at e
      cases e
    rw [List.getElem?_set_ne n1] at e
    exact E.pen j e
  · have n1 : i ≠ j := fun z => by
      subst z
      rw [List.getElem?_set_self hlt] at e
      cases e
    rw [List.getElem?_set_ne n1] at e
    exact E.scr j ns e
  · obtain ⟨q1, q2⟩ := E.ps q e
    have : q ≠ p := fun z => h6 (by rw [← z]; exact e)
    rw [upd_ne this]
    exact ⟨q1, q2⟩
  · refine ⟨E.ext.g, fun a o e n nt => ?_, fun a o e => ?_, E.ext.n, fun a o e => ?_, fun h => (E.ext.tk h).updL h2, E.ext.gt⟩
    · rw [upd_ne (ne_of_none e h5)]
      exact E.ext.h a o e n nt
    · rw [upd_ne (ne_of_none e h5)]
      exact E.ext.t a o e
    · rw [upd_ne (ne_of_none e h3)]
      exact E.sub a o e
end

section
variable {X : Cx} {W : WX} {pa : Option Addr} {Γ : List Sl} {k : Nat} {pos : Pos} {α : Type} {out : α → Out} {rest : List Stmt}
/-! ### peek, publish -/
theorem eb_peek (i : Nat) {xs : List D} {e : Expr} {m : PM Bool} (h : Γ[i]? = some (.own xs)) (he : EB X W pa (Γ.set i (.val (.lst xs))) e m) : EB X W pa Γ e (noExc m) :=
  pt_imp he fun σ H Q ⟨G0, H0, G, s, E, P⟩ => by
    obtain ⟨p, vs, h1, h2, h3, h4, h5, h6, E'⟩ := E.pubW h
    refine ⟨G0, H0, _, s, E', ?_⟩
    unfold noExc at P
    cases e : m s with
    | ok b s1 =>
      rw [e] at P
      intro G' H' x q
      obtain ⟨G'', y, z⟩ := unpeek h3 h2 x
      exact P G'' H' y (z _ q)
    | exc z => rw [e] at P; exact P.elim
    | bad => rw [e] at P; exact P.elim
def scalD : D → Bool
  | .non | .bl _ | .int _ | .str _ => true
  | _ => false
def scalO (d : D) : PM D := if scalD d = true then pure d else bad
theorem Rp.scal {K : PySem.W.Frag} {G G' : Hp} {v : V} {d : D} (h : scalD d = true) (r : Rp K G v d) : Rp K G' v d := by
  cases r with
  | non => exact .non
  | bl b => exact .bl b
  | int b => exact .int b
  | str b => exact .str b
  | lst _ _ _ => cases h
  | tup _ _ _ => cases h
  | dct _ _ _ _ => cases h
  | obj _ _ _ _ => cases h
theorem ev_peek (i : Nat) {xs : List D} {e : Expr} {m : PM D} (h : Γ[i]? = some (.own xs)) (he : EV X W pa (Γ.set i (.val (.lst xs))) e m) : EV X W pa Γ e (noExc m >>= scalO) :=
  pe_imp he fun σ H Q ⟨G0, H0, G, s, E, P⟩ => by
    obtain ⟨p, vs, h1, h2, h3, h4, h5, h6, E'⟩ := E.pubW h
    refine ⟨G0, H0, _, s, E', ?_⟩
    rw [PM.bind_def] at P
    unfold noExc at P
    cases e : m s with
    | ok d s1 =>
      rw [e] at P
      have P : Pst X.K W X.mg pa σ (FD X.K Q) G H ((if scalD d = true then pure d else bad : PM D) s1) := P
      split at P
      · rename_i hd
        intro G' H' x q v r
        obtain ⟨G'', y, z⟩ := unpeek h3 h2 x
        exact P G'' H' y (z _ q) v (r.scal hd)
      · exact P.elim
    | exc z => rw [e] at P; exact P.elim
    | bad => rw [e] at P; exact P.elim
theorem sv_pub (i : Nat) {xs : List D} {sts : List Stmt} {m : PM α} (h : Γ[i]? = some (.own xs)) (hr : SV X W pa (Γ.set i (.val (.lst xs))) out sts m) : SV X W pa Γ out sts m :=
  pss_imp hr fun Dn σ H ⟨G0, H0, G, s, E, P⟩ => by
    obtain ⟨p, vs, h1, h2, h3, h4, h5, h6, E'⟩ := E.pubW h
    exact ⟨G0, H0, _, s, E', P⟩
/-- nothing is said -/
theorem sv_bad {sts : List Stmt} : SV X W pa Γ out sts bad := pss_imp pss_never fun Dn σ H ⟨G0, H0, G, s, E, P⟩ => P.elim

/-! ### x.append(e), x.extend(e) -/
def okLen (xs : List D) : PM Unit := if xs.length ≤ lim then pure () else bad
theorem okLen_ok {xs : List D} (h : xs.length ≤ lim) : okLen xs = pure () := if_pos h
theorem sv_append (i : Nat) {x : Str} {e : Expr} {xs : List D} {me : PM D} {kk : D → PM α} {p1 apos cpos : Pos} (h : Γ[i]? = some (.own xs)) (he : EV X W pa Γ e me) (hr : ∀ d, SV X W pa (Γ.set i (.own (xs ++ [d]))) out rest (kk d))
    (hN : X.N[i]? = some x := by rfl) (hv : Vis X.env.scope x := by first | exact Or.inl rfl | exact Or.inr (Or.inl rfl) | exact Or.inr (Or.inr rfl)) (hd : (x == ("__debug__" : Str)) = false := by decide) (hcd : (x == ("__classdict__" : Str)) = false := by decide)
    (hbase : attributeBase (.Name x p1) "append" X.env (eval (.Name x p1) X.env) = eval (.Name x p1) X.env := by rfl)
    (hfew : ((backTo cpos (starEach [e] X.env)).all (fun x => !x.1) && (backToKw cpos (keywordEach [] X.env)).all (fun x => x.1.isSome)
      && decide ([e].length + ([] : List Keyword).length + (if ([] : List Keyword).isEmpty then 0 else 1) < 30)) = true := by rfl)
    (hline : (apos.endLine == cpos.line) = true := by rfl) (hs : starEach [e] X.env = (false, eval e X.env) :: starEach [] X.env := by rfl) (hplain : (backTo cpos (starEach [] X.env)).any (·.1) = false := by rfl)
    (hsw : swapsWith (.Call (.Attribute (.Name x p1) "append" apos) [e] [] cpos) none pos.line X.env = pure false := by rfl) :
    SV X W pa Γ out (.Expr (.Call (.Attribute (.Name x p1) "append" apos) [e] [] cpos) pos :: rest) (me >>= fun d => okLen (xs ++ [d]) >>= fun _ => kk d) := by
  unfold SV
  rw [bind_assoc]
  refine pss_imp (pss_cons (ps_expr (pe_bm PySem.F.plainAttrs_list PySem.F.slot_list_append PySem.F.type_list_append mt_append (pe_var hN hv hd hcd) (pa_cons he pa_nil hs) hbase hfew hline hs hplain) hsw) (pss_ex hr)) fun Dn σ H ⟨G0, H0, G, s, E, P⟩ => ?_
  obtain ⟨p, vs, h1, h2, h3, h4, h5, h6⟩ := E.own i xs h
  refine ⟨.ref p, h1, .inl ⟨rfl, vs, SqL.of h2⟩, G0, H0, G, s, E, (P.bind E).imp fun G1 H1 d s1 x1 p1 P1 v r => ?_⟩
  have h2' := x1.h _ _ h2 h6
  by_cases hl : (xs ++ [d]).length ≤ lim
  · rw [okLen_ok hl, pure_bind] at P1
    have hv' : vs.length < sizeLine := by
      rw [h4.1]
      rw [List.length_append, List.length_singleton] at hl
      exact lim_lt (by omega)
    have E1 := E.step x1 p1
    exact ⟨p, vs, v, rfl, rfl, h2', hv', d, G0, H0, G1, s1, E1.mut h h1 ((h4.mono x1.g).app (.cons r .nil)), P1⟩
  · unfold okLen at P1
    rw [if_neg hl] at P1
    exact P1.elim
def scalL : D → PM (List D)
  | .lst ys => if ys.all scalD = true then pure ys else bad
  | _ => bad
theorem rpl_scal {K : PySem.W.Frag} {G G' : Hp} {vs : List V} {ds : List D} (h : ds.all scalD = true) (r : RpL K G vs ds) : RpL K G' vs ds :=
  ⟨r.1, fun i v d h1 h2 => (r.2 i v d h1 h2).scal (List.all_eq_true.mp h d (List.mem_of_getElem? h2))⟩
/-- x.extend(e), e looks at x; its items are numbers, texts -/
theorem sv_extendP (i : Nat) {x : Str} {e : Expr} {xs : List D} {me : PM D} {kk : List D → PM α} {p1 apos cpos : Pos} (h : Γ[i]? = some (.own xs)) (he : EV X W pa (Γ.set i (.val (.lst xs))) e me) (hr : ∀ ys, SV X W pa (Γ.set i (.own (xs ++ ys))) out rest (kk ys))
    (hN : X.N[i]? = some x := by rfl) (hv : Vis X.env.scope x := by first | exact Or.inl rfl | exact Or.inr (Or.inl rfl) | exact Or.inr (Or.inr rfl)) (hd : (x == ("__debug__" : Str)) = false := by decide) (hcd : (x == ("__classdict__" : Str)) = false := by decide)
    (hbase : attributeBase (.Name x p1) "extend" X.env (eval (.Name x p1) X.env) = eval (.Name x p1) X.env := by rfl)
    (hfew : ((backTo cpos (starEach [e] X.env)).all (fun x => !x.1) && (backToKw cpos (keywordEach [] X.env)).all (fun x => x.1.isSome)
      && decide ([e].length + ([] : List Keyword).length + (if ([] : List Keyword).isEmpty then 0 else 1) < 30)) = true := by rfl)
    (hline : (apos.endLine == cpos.line) = true := by rfl) (hs : starEach [e] X.env = (false, eval e X.env) :: starEach [] X.env := by rfl) (hplain : (backTo cpos (starEach [] X.env)).any (·.1) = false := by rfl)
    (hsw : swapsWith (.Call (.Attribute (.Name x p1) "extend" apos) [e] [] cpos) none pos.line X.env = pure false := by rfl) :
    SV X W pa Γ out (.Expr (.Call (.Attribute (.Name x p1) "extend" apos) [e] [] cpos) pos :: rest) (noExc me >>= scalL >>= fun ys => okLen (xs ++ ys) >>= fun _ => kk ys) := by
  unfold SV
  rw [bind_assoc, bind_assoc]
  refine pss_imp (pss_cons (ps_expr (pe_bm PySem.F.plainAttrs_list PySem.F.slot_list_extend PySem.F.type_list_extend mt_extend (pe_var hN hv hd hcd) (pa_cons he pa_nil hs) hbase hfew hline hs hplain) hsw) (pss_ex hr)) fun Dn σ H ⟨G0, H0, G, s, E, P⟩ => ?_
  obtain ⟨p, vs, h1, h2, h3, h4, h5, h6, E'⟩ := E.pubW h
  refine ⟨.ref p, h1, .inl ⟨rfl, vs, SqL.of h2⟩, G0, H0, _, s, E', ?_⟩
  rw [PM.bind_def] at P
  unfold noExc at P
  cases em : me s with
  | exc z => rw [em] at P; exact P.elim
  | bad => rw [em] at P; exact P.elim
  | ok d s1 =>
    rw [em] at P
    intro G1 H1 x1 p1 v r
    cases r with
    | @lst b zs ys hb n rr =>
      have P : SPost X.K W X.mg pa G0 H0 Dn (((if ys.all scalD = true then pure ys else bad : PM (List D)) >>= fun ys => (okLen (xs ++ ys) >>= fun _ => kk ys) >>= fun a => pure (out a)) s1) := P
      by_cases hsc : ys.all scalD = true
      · rw [if_pos hsc, pure_bind] at P
        by_cases hl : (xs ++ ys).length ≤ lim
        · rw [okLen_ok hl, pure_bind] at P
          obtain ⟨G2, y2, z2⟩ := unpeek h3 h2 x1
          have h2' := x1.h _ _ h2 h6
          have E2 := E.step y2 (z2 _ p1)
          refine ⟨p, b, vs, zs, rfl, rfl, h2', x1.sub _ _ hb, ?_, ys, G0, H0, G2, s1, E2.mut h h1 ((h4.mono y2.g).app (rpl_scal hsc ⟨n, rr⟩)), P⟩
          rw [h4.1, n]
          rw [List.length_append] at hl
          exact lim_le hl
        · unfold okLen at P
          rw [if_neg hl] at P
          exact P.elim
      · rw [if_neg hsc] at P
        exact P.elim
    | _ => exact P.elim

/-! ### a list of one's own is made -/
def FO (K : PySem.W.Frag) (Hb : Hp) (Q : VK) : Hp → Hp → List D → List Int → Prop := fun G' H' ds _ => ∀ p vs, Hb p = none → H' p = some (.lst vs) → G' p = none → RpL K G' vs ds → Q (.ref p) H'
def evO (X : Cx) (W : WX) (pa : Option Addr) (Γ : List Sl) (m : PM (List D)) : TE := fun σ H Q => ∃ G0 H0 G s, Nv X.K pa G0 H0 G H σ Γ s ∧ Pst X.K W X.mg pa σ (FO X.K H Q) G H (m s)
abbrev EO' (X : Cx) (W : WX) (pa : Option Addr) (Γ : List Sl) (e : Expr) (m : PM (List D)) : Prop := PE X e (evO X W pa Γ m)
def okL (xs : List D) : PM (List D) := if xs.length ≤ lim then pure xs else bad
theorem eo_lst {es : List Expr} {ml : PM (List D)} (h : EL X W pa Γ es ml) : EO' X W pa Γ (.List es pos) (ml >>= okL) :=
  pe_imp (L2.pe_lst h) fun σ H Q ⟨G0, H0, G, s, E, P⟩ => ⟨G0, H0, G, s, E, P.bind.imp fun G1 H1 ds s1 x1 p1 P1 vs r => by
    unfold okL at P1
    split at P1
    · rename_i hl
      refine ⟨by rw [r.1]; exact lim_le hl, fun p np => ?_⟩
      have hb : H p = none := by
        cases q : H p with
        | none => rfl
        | some o =>
          obtain ⟨o', z⟩ := x1.t p o q
          rw [np] at z
          cases z
      exact P1 G1 _ (Ext.newH x1.sub np _) (p1.updH np _) p vs hb upd_same (x1.sub.free np) r
    · exact P1.elim⟩
theorem eo_lcR {ι : Type} {own : List (Str × Nat)} {dec : D → Option ι} {mt : ι → PM Bool} {me : ι → PM D} {mi : PM (List D)} {g : TG} {Γz : ι → List Sl} (hg : TgOk X pa dec g (own.map (·.2)) (wipeG Γ (own.map (·.2))) Γz) (σ : L2.St) (H : Hp) (Q : VK)
    (h : evO X W pa Γ (mi >>= fun xs => compL dec mt me xs) σ H Q) :
    tLc (evI X W pa Γ mi) g (fun σ H Q => ∃ z, evB X W0 pa (Γz z) (mt z) σ H Q) (fun σ H Q => ∃ z, evT X W0 pa (Γz z) (me z) σ H Q) (own.map (·.2)) σ H Q := by
  obtain ⟨G0, H0, G, s, E, P⟩ := h
  refine ⟨G0, H0, G, s, E, P.bind.imp fun G1 H1 xs s1 x1 p1 P1 J hJ D0 nD => ?_⟩
  have P1 : Pst X.K W X.mg pa σ (FO X.K H Q) G1 H1 ((compL dec mt me xs >>= fun r => (pure r : PM (List D))) s1) := by
    rw [bind_pure]
    exact P1
  refine lcCore hg (E.step x1 p1) hJ nD P1 fun G2 H2 accV accD s' x p hD gD r P2 => ?_
  have hb : H D0 = none := by
    cases q : H D0 with
    | none => rfl
    | some o =>
      obtain ⟨o', z⟩ := x1.t D0 o q
      rw [nD] at z
      cases z
  exact P2 G2 H2 x p D0 accV hb hD gD r
theorem eo_lc {ι : Type} {elt tg iter : Expr} {ifs : List Expr} {scope : Scope} {own : List (Str × Nat)} {dec : D → Option ι} {mt : ι → PM Bool} {me : ι → PM D} {mi : PM (List D)} {g : TG} {Γz : ι → List Sl} (C : Cok X W k) (hi : EI X W pa Γ tg iter mi) (ok : BlkOk X.N X.env.scope scope own)
    (hg : TgOk X pa dec g (own.map (·.2)) (wipeG Γ (own.map (·.2))) Γz)
    (hp : ∀ (s : Shared) (H : Hp) (C : Addr) (cl : List (Str × Addr)) (fp : List Addr), PG (X.blk s H scope (compEnvC scope cl C X.env) fp) tg g)
    (ht : ∀ (z : ι) (s : Shared) (H : Hp) (C : Addr) (cl : List (Str × Addr)) (fp : List Addr), ETs (X.blk s H scope (compEnvC scope cl C X.env) fp) W0 pa (Γz z) ifs (mt z))
    (he : ∀ (z : ι) (s : Shared) (H : Hp) (C : Addr) (cl : List (Str × Addr)) (fp : List Addr), EV (X.blk s H scope (compEnvC scope cl C X.env) fp) W0 pa (Γz z) elt (me z))
    (hs : ∀ x, foldedSetIterable iter X.env x = pure x := by intro _; rfl) :
    EO' X W pa Γ (.ListComp elt [⟨tg, iter, ifs, 0⟩] scope pos) (mi >>= fun xs => compL dec mt me xs) :=
  pe_imp (pe_lc C.calm C.nd hi ok hp (fun s H C cl fp => pts_ex fun z => ht z s H C cl fp) (fun s H C cl fp => pe_ex fun z => he z s H C cl fp) hs) fun σ H Q h => eo_lcR hg σ H Q h
theorem sv_setO (i : Nat) {st : Stmt} {me : PM (List D)} {kk : List D → PM α} (he : PS X st (tAsg (evO X W pa Γ me) (gName i))) (hr : ∀ ds, SV X W pa (Γ.set i (.own ds)) out rest (kk ds)) :
    SV X W pa Γ out (st :: rest) (me >>= kk) := by
  unfold SV
  rw [bind_assoc]
  refine pss_imp (pss_cons he (pss_ex hr)) fun Dn σ H ⟨G0, H0, G, s, E, P⟩ =>
    ⟨G0, H0, G, s, E, (P.bind E).imp fun G1 H1 ds s1 x1 p1 P1 p vs hb hp hg r => ⟨ds, G0, H0, G1, s1, ?_, P1⟩⟩
  have E1 := E.step x1 p1
  refine E1.setOwn i hp hg r ?_ (fun e => ?_) fun j ys hj e q => ?_
  · cases z : H0 p with
    | none => rfl
    | some o =>
      obtain ⟨o', z'⟩ := E.ext.t p o z
      rw [hb] at z'
      cases z'
  · have := (E.ps p e).2
    rw [hb] at this
    cases this
  · obtain ⟨p', vs', q1, q2, _⟩ := E.own j ys e
    rw [q] at q1
    cases q1
    rw [hb] at q2
    cases q2
theorem sv_setV (i : Nat) {st : Stmt} {me : PM D} {kk : D → PM α} (he : PS X st (tAsg (evT X W pa Γ me) (gName i))) (hr : ∀ d, SV X W pa (Γ.set i (.val d)) out rest (kk d)) :
    SV X W pa Γ out (st :: rest) (me >>= kk) := by
  unfold SV
  rw [bind_assoc]
  exact pss_imp (pss_cons he (pss_ex hr)) fun Dn σ H ⟨G0, H0, G, s, E, P⟩ =>
    ⟨G0, H0, G, s, E, (P.bind E).imp fun G1 H1 d s1 x1 p1 P1 v r => ⟨d, G0, H0, G1, s1, (E.step x1 p1).set i r, P1⟩⟩
theorem ps_imp {st : Stmt} {t t' : TS} (h : PS X st t) (i : ∀ Dn σ H, t' Dn σ H → t Dn σ H) : PS X st t' := ⟨fun pins s σ H D I q => h.run pins s σ H D I (i D σ H q)⟩
/-- y = [..] on one line, y a plain local: as a value, as a list of one's own -/
theorem ps_lcV {ι : Type} {i : Nat} {y : Str} {py spos : Pos} {elt tg iter : Expr} {ifs : List Expr} {scope : Scope} {own : List (Str × Nat)} {dec : D → Option ι} {mt : ι → PM Bool} {me : ι → PM D} {mi : PM (List D)} {g : TG} {Γz : ι → List Sl} (C : Cok X W k) (hy : X.N[i]? = some y) (hyl : X.env.scope.names.lookup y = some .local)
    (hsw : swapsWith (.ListComp elt [⟨tg, iter, ifs, 0⟩] scope pos) (some (.Name y py)) spos.line X.env = pure true) (hi : EI X W pa Γ tg iter mi) (ok : BlkOk X.N X.env.scope scope own)
    (hg : TgOk X pa dec g (own.map (·.2)) (wipeG Γ (own.map (·.2))) Γz)
    (hp : ∀ (s : Shared) (H : Hp) (C : Addr) (cl : List (Str × Addr)) (fp : List Addr), PG (X.blk s H scope (compEnvC scope cl C X.env) fp) tg g)
    (ht : ∀ (z : ι) (s : Shared) (H : Hp) (C : Addr) (cl : List (Str × Addr)) (fp : List Addr), ETs (X.blk s H scope (compEnvC scope cl C X.env) fp) W0 pa (Γz z) ifs (mt z))
    (he : ∀ (z : ι) (s : Shared) (H : Hp) (C : Addr) (cl : List (Str × Addr)) (fp : List Addr), EV (X.blk s H scope (compEnvC scope cl C X.env) fp) W0 pa (Γz z) elt (me z))
    (hs : ∀ x, foldedSetIterable iter X.env x = pure x := by intro _; rfl) :
    PS X (.Assign [.Name y py] (.ListComp elt [⟨tg, iter, ifs, 0⟩] scope pos) spos) (tAsg (evT X W pa Γ (mi >>= fun xs => compL dec mt me xs >>= fun r => pure (.lst r))) (gName i)) :=
  ps_imp (ps_setLc C.calm C.nd hy hyl hsw hi ok hp (fun s H C cl fp => pts_ex fun z => ht z s H C cl fp) (fun s H C cl fp => pe_ex fun z => he z s H C cl fp) hs) fun Dn σ H h => lc_read hg σ H _ h
theorem ps_lcO {ι : Type} {i : Nat} {y : Str} {py spos : Pos} {elt tg iter : Expr} {ifs : List Expr} {scope : Scope} {own : List (Str × Nat)} {dec : D → Option ι} {mt : ι → PM Bool} {me : ι → PM D} {mi : PM (List D)} {g : TG} {Γz : ι → List Sl} (C : Cok X W k) (hy : X.N[i]? = some y) (hyl : X.env.scope.names.lookup y = some .local)
    (hsw : swapsWith (.ListComp elt [⟨tg, iter, ifs, 0⟩] scope pos) (some (.Name y py)) spos.line X.env = pure true) (hi : EI X W pa Γ tg iter mi) (ok : BlkOk X.N X.env.scope scope own)
    (hg : TgOk X pa dec g (own.map (·.2)) (wipeG Γ (own.map (·.2))) Γz)
    (hp : ∀ (s : Shared) (H : Hp) (C : Addr) (cl : List (Str × Addr)) (fp : List Addr), PG (X.blk s H scope (compEnvC scope cl C X.env) fp) tg g)
    (ht : ∀ (z : ι) (s : Shared) (H : Hp) (C : Addr) (cl : List (Str × Addr)) (fp : List Addr), ETs (X.blk s H scope (compEnvC scope cl C X.env) fp) W0 pa (Γz z) ifs (mt z))
    (he : ∀ (z : ι) (s : Shared) (H : Hp) (C : Addr) (cl : List (Str × Addr)) (fp : List Addr), EV (X.blk s H scope (compEnvC scope cl C X.env) fp) W0 pa (Γz z) elt (me z))
    (hs : ∀ x, foldedSetIterable iter X.env x = pure x := by intro _; rfl) :
    PS X (.Assign [.Name y py] (.ListComp elt [⟨tg, iter, ifs, 0⟩] scope pos) spos) (tAsg (evO X W pa Γ (mi >>= fun xs => compL dec mt me xs)) (gName i)) :=
  ps_imp (ps_setLc C.calm C.nd hy hyl hsw hi ok hp (fun s H C cl fp => pts_ex fun z => ht z s H C cl fp) (fun s H C cl fp => pe_ex fun z => he z s H C cl fp) hs) fun Dn σ H h => eo_lcR hg σ H _ h
/-- y = [..], y a name that is captured -/
theorem ps_o {i : Nat} {x : Str} {e : Expr} {pos' : Pos} {me : PM (List D)} (hN : X.N.Nodup) (he : EO' X W pa Γ e me) (hi : X.N[i]? = some x := by rfl) (hx : Loc X.env.scope x := by first | exact Or.inl rfl | exact Or.inr rfl)
    (hs : swapsWith e (some (.Name x pos')) pos.line X.env = pure false := by rfl) (hf : X.fn x = true ∨ X.env.scope.names.lookup x = some .local := by first | exact .inl rfl | exact .inr rfl) :
    PS X (.Assign [.Name x pos'] e pos) (tAsg (evO X W pa Γ me) (gName i)) := ps_set hN hi hx he hs hf

/-! ### the pen -/
def penGet : D → PM D
  | .int i => fun s => match atI s i with
    | some n => .ok (.int n) s
    | none => .bad
  | _ => bad
def penSet (i : D) (d : D) : PM Unit := match i, d with
  | .int i, .int n => fun s => match ixN s.length i with
    | some j => .ok () (s.set j n)
    | none => .bad
  | _, _ => bad
theorem atI_map {α β : Type} (g : α → β) (xs : List α) (i : Int) : atI (xs.map g) i = (atI xs i).map g := by
  unfold atI
  rw [List.length_map]
  cases ixN xs.length i with
  | none => rfl
  | some j => simp
theorem ev_pen {q : Addr} {i : Nat} {y : Str} {b : Expr} {p2 : Pos} {mb : PM D} (hΓ : Γ[i]? = some .pen) (hN : X.N[i]? = some y) (hv : Vis X.env.scope y) (hb : EV X W (some q) Γ b mb) (hs : PlainIx b) (hd : (y == ("__debug__" : Str)) = false := by decide) (hcd : (y == ("__classdict__" : Str)) = false := by decide) :
    EV X W (some q) Γ (.Subscript (.Name y p2) b pos) (mb >>= penGet) := pe_imp (pe_ix ix_list (pe_var hN hv hd hcd) hb hs) fun σ H Q ⟨G0, H0, G, s, E, P⟩ => by
  obtain ⟨q', e1, e2⟩ := E.pen i hΓ
  cases e1
  refine ⟨.ref q, e2, G0, H0, G, s, E, P.bind.imp fun G1 H1 d s1 x1 p1 P1 v r => ?_⟩
  cases r with
  | int n =>
    have P1 : Pst X.K W X.mg (some q) σ (FD X.K Q) G1 H1 (match atI s1 n with | some n => R.ok (D.int n) s1 | none => .bad) := P1
    cases e : atI s1 n with
    | none => rw [e] at P1; exact P1.elim
    | some m =>
      rw [e] at P1
      exact ⟨q, s1.map V.int, n, .int m, rfl, rfl, SqL.of (p1 q rfl).2, by rw [atI_map, e]; rfl, P1 G1 H1 (Ext.refl x1.sub) p1 _ (.int m)⟩
  | _ => exact P1.elim
theorem Nv.pens {K : PySem.W.Frag} {q : Addr} {G0 H0 G H : Hp} {σ : L2.St} {s s' : List Int} (E : Nv K (some q) G0 H0 G H σ Γ s) : Nv K (some q) G0 H0 G (upd H q (.lst (s'.map V.int))) σ Γ s' := by
  have h := E.ps q rfl
  have hH : ∀ a o, H a = some o → a ≠ q → (upd H q (.lst (s'.map V.int))) a = some o := fun a o e n => by rw [upd_ne n]; exact e
  refine ⟨E.len, E.val, fun i xs e => ?_, E.inj, E.pen, E.scr, fun a e => ?_, ?_, E.x.updL h.2⟩
  · obtain ⟨p, vs, h1, h2, h3, h4, h5, h6⟩ := E.own i xs e
    exact ⟨p, vs, h1, hH _ _ h2 (fun z => h6 (by rw [z])), h3, h4, h5, h6⟩
  · cases e
    exact ⟨h.1, upd_same⟩
  · refine ⟨E.ext.g, fun a o e n nt => hH a o (E.ext.h a o e n nt) (fun z => n (by rw [z])), fun a o e => ?_, E.ext.n, fun a o e => ?_, fun hK => (E.ext.tk hK).updL h.2, E.ext.gt⟩
    · by_cases ha : a = q
      · subst ha
        exact ⟨_, upd_same⟩
      · rw [upd_ne ha]
        exact E.ext.t a o e
    · rw [upd_ne (ne_of_none e h.1)]
      exact E.sub a o e
/-- pen[i] = e -/
theorem sv_pen {q : Addr} {i : Nat} {y : Str} {b e : Expr} {p2 p3 : Pos} {mb me : PM D} {kk : PM α} (hΓ : Γ[i]? = some .pen) (hN : X.N[i]? = some y) (hv : Vis X.env.scope y) (he : EV X W (some q) Γ e me) (hb : EV X W (some q) Γ b mb) (hr : SV X W (some q) Γ out rest kk)
    (hd : (y == ("__debug__" : Str)) = false := by decide) (hcd : (y == ("__classdict__" : Str)) = false := by decide) (hs : swapsWithSole [.Subscript (.Name y p2) b p3] e pos.line X.env = pure false := by rfl) (hw : swappedStores [.Subscript (.Name y p2) b p3] e X.env = pure none := by rfl)
    (h1 : (assignEach [.Subscript (.Name y p2) b p3] X.env).map (·.2) = [assign (.Subscript (.Name y p2) b p3) X.env] := by rfl)
    (ha : ∀ v, assign (.Subscript (.Name y p2) b p3) X.env v = (do let ov ← holding [v] (eval (.Name y p2) X.env); let iv ← holding [v, ov] (eval b X.env); standAt p3; holding [v, ov, iv] (setItem ov iv v); release [v, ov, iv] []) := by intro _; rfl) :
    SV X W (some q) Γ out (.Assign [.Subscript (.Name y p2) b p3] e pos :: rest) (me >>= fun d => mb >>= fun ix => penSet ix d >>= fun _ => kk) := by
  unfold SV
  rw [bind_assoc]
  refine pss_imp (pss_cons (ps_asg he (pg_sub (pe_var hN hv hd hcd) hb set_list ha) hs hw h1) hr) fun Dn σ H ⟨G0, H0, G, s, E, P⟩ => ⟨G0, H0, G, s, E, (P.bind E).imp fun G1 H1 d s1 x1 p1 P1 v r => ?_⟩
  rw [bind_assoc] at P1
  have E1 := E.step x1 p1
  obtain ⟨q', e1, e2⟩ := E1.pen i hΓ
  cases e1
  refine ⟨.ref q, e2, G0, H0, G1, s1, E1, (P1.bind E1).imp fun G2 H2 ix s2 x2 p2 P2 w rw2 => ?_⟩
  have E2 := E1.step x2 p2
  cases rw2 with
  | int n =>
    cases r with
    | int m =>
      rw [bind_assoc, PM.bind_def] at P2
      have ee : penSet (.int n) (.int m) s2 = match ixN s2.length n with | some j => R.ok () (s2.set j m) | none => .bad := rfl
      rw [ee] at P2
      cases e : ixN s2.length n with
      | none => rw [e] at P2; exact P2.elim
      | some j =>
        rw [e] at P2
        refine ⟨q, s2.map V.int, n, j, rfl, rfl, (p2 q rfl).2, by rw [List.length_map]; exact e, G0, H0, G2, s2.set j m, ?_, P2⟩
        have z := E2.pens (s' := s2.set j m)
        rw [List.map_set] at z
        exact z
    | _ => exact P2.elim
  | _ => cases r <;> exact P2.elim
end
end EV

/-! EV 10: defs by their bodies, the script, new pens, pairs of names. -/
namespace EV
open PySem PySem.Spec PyProof.Rows L2

/-! ### a def by its body -/
section
variable {P : Program} {w : World} {K : PySem.W.Frag} {mg : Str → Option Value} {base : Heap}
theorem fnG_of {x qual : Str} {st : Stmt} {f : Addr} {fd : FuncData} {N ps : List Str} {k : Nat} {sp : Sp} (F : Fun K x qual st f fd) (S : FnScope N ps (defScope st)) (len : ∀ vs H Q E, sp vs H Q E → vs.length = ps.length)
    (hbody : ∀ (cdv : Value), fd.code = cdv → ∀ (A : Around) (outer : List PySem.Env) (s : Shared) (H : Hp) (vs : List V) (Q : VK) (E : XK), (32 ≤ k → A.guards = some []) → Room k (A.deeper (envOfC qual (defScope st) s.heap.objs.size f cdv)) → sp vs H Q E →
      ∃ t, PSs (cxOf (L2.CX P w) P w K mg base N qual (defScope st) f cdv A outer s H E) (defBody st) t ∧ t { nx := fun _ H' => Q .non H', rt := Q } (start N vs) H) :
    FnG P w K mg base (k + 1) f fd ps sp := by
  obtain ⟨oc, od, kV, doc, pm, an, cdv, ct, osl, rfl, lk, hcd⟩ := F.ex
  refine ⟨len, fun A outer s H args us vs Q E hgu hr e0 hb r hsp => ?_⟩
  have hl := len _ _ _ _ hsp
  have KX : K.In s.heap := e0.mod.kin.keeps fun b o e => (e0.bs b o e).1
  have lim : s.heap.NoLimit := e0.mod.nolimit.keeps fun b o e => (e0.bs b o e).1
  have hkind : ∀ y ∈ ps.zip us, (defScope st).names.lookup y.1 = some .local ∨ ((defScope st).names.lookup y.1 = some .cell ∧ ((cellsFrom (s.heap.objs.size + 1) (defScope st).names []).lookup y.1).isSome = true) := by
    intro y hy
    obtain ⟨n, v⟩ := y
    rcases S.par n (List.of_mem_zip hy).1 with q | q
    · exact .inl q
    · exact .inr ⟨q, PySem.W.cellsFrom_some _ _ _ (.inl q)⟩
  refine codeAny_call_function hr.depth (KX _ _ lk) rfl S.co S.gen rfl (PySem.W.codeRec_of KX hcd) (hb _ _ _ _ ?_)
  refine wpAny_newFunctionEnv_cells S.kind hkind fun env he s1 x => ?_
  subst he
  refine ⟨lim.keeps x.toInCall.keep, codeAny_func ?_⟩
  obtain ⟨t, ht, hq⟩ := hbody cdv rfl A outer s H vs Q E (fun q => hgu (Nat.le_succ_of_le q)) (hr.deeper _) hsp
  have I : Inv (cxOf (L2.CX P w) P w K mg base N qual (defScope st) f cdv A outer s H E) [] (start N vs) H s1 := inv_start S hr.hd e0 hl r x
  refine wpAny_mono (ht.run [] s1 (start N vs) H _ I hq) (fun fl s' hs => ?_) fun e s' hs => hs
  cases fl with
  | ret u =>
    obtain ⟨v, σ', H', J, rv, q⟩ := hs
    exact ⟨v, H', J.os, J.bare, J.base, J.hok, rv, q⟩
  | next =>
    obtain ⟨σ', H', J, q⟩ := hs
    exact ⟨V.non, H', J.os, J.bare, J.base, J.hok, rfl, q⟩
  | brk =>
    obtain ⟨_, _, _, q⟩ := hs
    exact q.elim
  | cont =>
    obtain ⟨_, _, _, q⟩ := hs
    exact q.elim
/-- the context of a def's body -/
theorem cok_fn {N : List Str} {qual : Str} {scope : Scope} {f : Addr} {cdv : Value} {A : Around} {outer : List PySem.Env} {s : Shared} {H : Hp} {E : XK} {k : Nat} (nd : N.Nodup) (hg : 32 ≤ k → A.guards = some []) (hr : Room k (A.deeper (envOfC qual scope s.heap.objs.size f cdv))) :
    Cok (cxOf (L2.CX P w) P w K mg base N qual scope f cdv A outer s H E) (fun cls d _ H => E cls d H) k where
  calm := rfl
  nd := nd
  takes := takes_of rfl rfl rfl rfl
  room := hr
  guards := hg
  passes := passes_of rfl
end
section
variable {K : PySem.W.Frag} {W : WX} {mg : Str → Option Value} {G H : Hp} {s : List Int} {N : List Str} {vs : List V} {ds : List D}
theorem start_get {vs : List V} {i : Nat} {v : V} (h : vs[i]? = some v) : (start N vs)[i]? = some (some v) := by
  have hi := (List.getElem?_eq_some_iff.mp h).1
  unfold L2.start
  rw [List.getElem?_append_left (by simpa using hi), List.getElem?_map, h]
  rfl
theorem start_len {vs : List V} (h : vs.length ≤ N.length) : (start N vs).length = N.length := by
  unfold L2.start
  rw [List.length_append, List.length_map, List.length_replicate]
  omega
theorem get_vals {l : List Sl} {m i : Nat} {x : Sl} (h : (l ++ List.replicate m Sl.junk)[i]? = some x) (hx : x ≠ .junk) : l[i]? = some x := by
  by_cases hi : i < l.length
  · rwa [List.getElem?_append_left hi] at h
  · rw [List.getElem?_append_right (by omega), List.getElem?_replicate] at h
    split at h
    · cases h
      exact absurd rfl hx
    · cases h
def slots0 (N : List Str) (ds : List D) : List Sl := ds.map .val ++ List.replicate (N.length - ds.length) .junk
def slotsP (N : List Str) (ds : List D) : List Sl := (.pen :: ds.map .val) ++ List.replicate (N.length - (ds.length + 1)) .junk
def slotsS (N : List Str) (ns : List Int) (ds : List D) : List Sl := (.scr ns :: ds.map .val) ++ List.replicate (N.length - (ds.length + 1)) .junk
theorem plain0 (l : List D) (m : Nat) : ∀ z ∈ l.map Sl.val ++ List.replicate m Sl.junk, plainS z = true := fun z h => by
  rcases List.mem_append.mp h with h | h
  · obtain ⟨d, _, rfl⟩ := List.mem_map.mp h
    rfl
  · rw [List.eq_of_mem_replicate h]
    rfl
theorem nv_start0 (hs : Same G H ∧ TabK K H ∧ NoT G) (r : RpL K G vs ds) (hn : vs.length ≤ N.length) : Nv K none G H G H (start N vs) (slots0 N ds) s where
  len := by
    rw [start_len hn]
    unfold slots0
    have := r.1
    simp
    omega
  val := fun i d e => by
    have e := get_vals e (fun z => by cases z)
    rw [List.getElem?_map] at e
    cases q : ds[i]? with
    | none => rw [q] at e; cases e
    | some d' =>
      rw [q] at e
      cases e
      obtain ⟨v, h1, h2⟩ := r.get q
      exact ⟨v, start_get h1, h2⟩
  own := fun i xs e => by
    have e := get_vals e (fun z => by cases z)
    rw [List.getElem?_map] at e
    cases q : ds[i]? <;> rw [q] at e <;> cases e
  inj := fun i j p xs ys e => by
    have e := get_vals e (fun z => by cases z)
    rw [List.getElem?_map] at e
    cases q : ds[i]? <;> rw [q] at e <;> cases e
  pen := fun i e => by
    have e := get_vals e (fun z => by cases z)
    rw [List.getElem?_map] at e
    cases q : ds[i]? <;> rw [q] at e <;> cases e
  scr := fun i ns e => by
    have e := get_vals e (fun z => by cases z)
    rw [List.getElem?_map] at e
    cases q : ds[i]? <;> rw [q] at e <;> cases e
  ps := PenOk.none
  ext := Ext.refl hs.1
  x := NvX.none (plain0 ds _) hs.2.1 hs.2.2
theorem nv_startP {q : Addr} (hs : Same G H ∧ TabK K H ∧ NoT G) (r : RpL K G vs ds) (hn : vs.length + 1 ≤ N.length) (hp : PenOk (some q) G H s) : Nv K (some q) G H G H (start N (.ref q :: vs)) (slotsP N ds) s where
  len := by
    rw [start_len (by simpa using hn)]
    unfold slotsP
    have := r.1
    simp
    omega
  val := fun i d e => by
    have e := get_vals e (fun z => by cases z)
    cases i with
    | zero => cases e
    | succ i =>
      rw [List.getElem?_cons_succ, List.getElem?_map] at e
      cases q : ds[i]? with
      | none => rw [q] at e; cases e
      | some d' =>
        rw [q] at e
        cases e
        obtain ⟨v, h1, h2⟩ := r.get q
        exact ⟨v, start_get (by simpa using h1), h2⟩
  own := fun i xs e => by
    have e := get_vals e (fun z => by cases z)
    cases i with
    | zero => cases e
    | succ i =>
      rw [List.getElem?_cons_succ, List.getElem?_map] at e
      cases q : ds[i]? <;> rw [q] at e <;> cases e
  inj := fun i j p xs ys e => by
    have e := get_vals e (fun z => by cases z)
    cases i with
    | zero => cases e
    | succ i =>
      rw [List.getElem?_cons_succ, List.getElem?_map] at e
      cases q : ds[i]? <;> rw [q] at e <;> cases e
  pen := fun i e => by
    have e := get_vals e (fun z => by cases z)
    cases i with
    | zero => exact ⟨q, rfl, start_get rfl⟩
    | succ i =>
      rw [List.getElem?_cons_succ, List.getElem?_map] at e
      cases q : ds[i]? <;> rw [q] at e <;> cases e
  scr := fun i ns e => by
    have e := get_vals e (fun z => by cases z)
    cases i with
    | zero => cases e
    | succ i =>
      rw [List.getElem?_cons_succ, List.getElem?_map] at e
      cases q : ds[i]? <;> rw [q] at e <;> cases e
  ps := hp
  ext := Ext.refl hs.1
  x := NvX.none (fun z h => by
    rcases List.mem_cons.mp h with rfl | h
    · rfl
    · exact plain0 ds _ z h) hs.2.1 hs.2.2
theorem nv_startS {a : Addr} {ns : List Int} (hs : Same G H ∧ TabK K H ∧ NoT G) (hq : SqL K G a (ns.map V.int)) (r : RpL K G vs ds) (hn : vs.length + 1 ≤ N.length) : Nv K none G H G H (start N (.ref a :: vs)) (slotsS N ns ds) s where
  len := by
    rw [start_len (by simpa using hn)]
    unfold slotsS
    have := r.1
    simp
    omega
  val := fun i d e => by
    have e := get_vals e (fun z => by cases z)
    cases i with
    | zero => cases e
    | succ i =>
      rw [List.getElem?_cons_succ, List.getElem?_map] at e
      cases q : ds[i]? with
      | none => rw [q] at e; cases e
      | some d' =>
        rw [q] at e
        cases e
        obtain ⟨v, h1, h2⟩ := r.get q
        exact ⟨v, start_get (by simpa using h1), h2⟩
  own := fun i xs e => by
    have e := get_vals e (fun z => by cases z)
    cases i with
    | zero => cases e
    | succ i =>
      rw [List.getElem?_cons_succ, List.getElem?_map] at e
      cases q : ds[i]? <;> rw [q] at e <;> cases e
  inj := fun i j p xs ys e => by
    have e := get_vals e (fun z => by cases z)
    cases i with
    | zero => cases e
    | succ i =>
      rw [List.getElem?_cons_succ, List.getElem?_map] at e
      cases q : ds[i]? <;> rw [q] at e <;> cases e
  pen := fun i e => by
    have e := get_vals e (fun z => by cases z)
    cases i with
    | zero => cases e
    | succ i =>
      rw [List.getElem?_cons_succ, List.getElem?_map] at e
      cases q : ds[i]? <;> rw [q] at e <;> cases e
  scr := fun i ns' e => by
    have e := get_vals e (fun z => by cases z)
    cases i with
    | zero =>
      cases e
      exact ⟨a, start_get rfl, hq⟩
    | succ i =>
      rw [List.getElem?_cons_succ, List.getElem?_map] at e
      cases q : ds[i]? <;> rw [q] at e <;> cases e
  ps := PenOk.none
  ext := Ext.refl hs.1
  x := NvX.none (fun z h => by
    rcases List.mem_cons.mp h with rfl | h
    · rfl
    · exact plain0 ds _ z h) hs.2.1 hs.2.2
def outD : Out → PM D
  | .ret d => pure d
  | .fall _ => pure .non
  | _ => bad
theorem spost_fn {α : Type} {out : α → Out} {m : PM α} {pa : Option Addr} {Q : VK} {E : XK} (h : Pst K (fun cls dx _ H' => E cls dx H') mg pa [] (FD K Q) G H ((m >>= fun a => outD (out a)) s)) :
    SPost K (fun cls d _ H => E cls d H) mg pa G H { nx := fun _ H' => Q .non H', rt := Q } ((m >>= fun a => pure (out a)) s) := by
  rw [PM.bind_def] at h ⊢
  cases e : m s with
  | ok a s1 =>
    rw [e] at h
    have h : Pst K (fun cls dx _ H' => E cls dx H') mg pa [] (FD K Q) G H (outD (out a) s1) := h
    show SPost K _ mg pa G H _ (.ok (out a) s1)
    cases q : out a with
    | fall Γ' =>
      rw [q] at h
      exact fun σ' G' H' E' => h G' H' E'.ext E'.ps _ .non
    | ret d =>
      rw [q] at h
      exact fun v G' H' x p r => h G' H' x p v r
    | brk Γ' => rw [q] at h; exact h.elim
    | cnt Γ' => rw [q] at h; exact h.elim
  | exc z =>
    rw [e] at h
    exact fun cls dx σ' G' H' x q => h cls dx G' H' x q
  | bad => rw [e] at h; exact h.elim
end
section
variable {P : Program} {w : World} {K : PySem.W.Frag} {mg : Str → Option Value} {base : Heap} {x qual : Str} {st : Stmt} {f : Addr} {fd : FuncData} {N ps : List Str} {k n : Nat}
theorem scope_le {sc : Scope} (S : FnScope N ps sc) : ps.length ≤ N.length := by
  have := congrArg List.length S.pre
  rw [List.length_take] at this
  omega
/-- a def without a pen -/
theorem fn_pure {F : List D → PM D} (FU : Fun K x qual st f fd) (S : FnScope N ps (defScope st)) (hps : ps.length = n)
    (hb : ∀ (cdv : Value) (A : Around) (outer : List PySem.Env) (s : Shared) (H : Hp) (E : XK), Cok (cxOf (L2.CX P w) P w K mg base N qual (defScope st) f cdv A outer s H E) (fun cls d _ H => E cls d H) k → ∀ ds : List D, ds.length = n →
      ∃ (α : Type) (out : α → Out) (m : PM α), SV (cxOf (L2.CX P w) P w K mg base N qual (defScope st) f cdv A outer s H E) (fun cls d _ H => E cls d H) none (slots0 N ds) out (defBody st) m ∧ F ds = (m >>= fun a => outD (out a))) :
    FnG P w K mg base (k + 1) f fd ps (spF K mg false n F) := by
  refine fnG_of FU S (fun vs H Q E h => ?_) fun cdv _ A outer s H vs Q E hg hr h => ?_
  · obtain ⟨pa, G, s, vs', ds, hpa, rfl, _, _, r, hn, _⟩ := h
    cases pa with
    | some _ => cases hpa
    | none => rw [show (Option.toList (none : Option Addr)).map V.ref ++ vs' = vs' from rfl, r.1, hn, hps]
  · obtain ⟨pa, G, s', vs', ds, hpa, rfl, hs, hp, r, hn, hP⟩ := h
    cases pa with
    | some _ => cases hpa
    | none =>
      obtain ⟨α, out, m, sv, e⟩ := hb cdv A outer s H E (cok_fn S.nd hg hr) ds hn
      rw [e] at hP
      exact ⟨_, sv, G, H, G, s', nv_start0 hs r (by show vs'.length ≤ _; rw [r.1, hn, ← hps]; exact scope_le S), spost_fn hP⟩
/-- a def with the pen -/
theorem fn_pen {F : List D → PM D} (FU : Fun K x qual st f fd) (S : FnScope N ps (defScope st)) (hps : ps.length = n + 1)
    (hb : ∀ (cdv : Value) (A : Around) (outer : List PySem.Env) (s : Shared) (H : Hp) (E : XK), Cok (cxOf (L2.CX P w) P w K mg base N qual (defScope st) f cdv A outer s H E) (fun cls d _ H => E cls d H) k → ∀ (q : Addr) (ds : List D), ds.length = n →
      ∃ (α : Type) (out : α → Out) (m : PM α), SV (cxOf (L2.CX P w) P w K mg base N qual (defScope st) f cdv A outer s H E) (fun cls d _ H => E cls d H) (some q) (slotsP N ds) out (defBody st) m ∧ F ds = (m >>= fun a => outD (out a))) :
    FnG P w K mg base (k + 1) f fd ps (spF K mg true n F) := by
  refine fnG_of FU S (fun vs H Q E h => ?_) fun cdv _ A outer s H vs Q E hg hr h => ?_
  · obtain ⟨pa, G, s, vs', ds, hpa, rfl, _, _, r, hn, _⟩ := h
    cases pa with
    | none => cases hpa
    | some p =>
      show vs'.length + 1 = _
      rw [r.1, hn, hps]
  · obtain ⟨pa, G, s', vs', ds, hpa, rfl, hs, hp, r, hn, hP⟩ := h
    cases pa with
    | none => cases hpa
    | some p =>
      obtain ⟨α, out, m, sv, e⟩ := hb cdv A outer s H E (cok_fn S.nd hg hr) p ds hn
      rw [e] at hP
      exact ⟨_, sv, G, H, G, s', nv_startP hs r (by show vs'.length + 1 ≤ _; rw [r.1, hn, ← hps]; exact scope_le S) hp, spost_fn hP⟩
/-- a def of the script -/
def spS (K : PySem.W.Frag) (mg : Str → Option Value) (n : Nat) (f : List Int → List D → PM D) : Sp := fun vs H Q E => ∃ (a : Addr) (ns : List Int) (G : Hp) (vs' : List V) (ds : List D),
  vs = .ref a :: vs' ∧ (Same G H ∧ TabK K H ∧ NoT G) ∧ SqL K G a (ns.map V.int) ∧ RpL K G vs' ds ∧ ds.length = n ∧ Pst K (fun cls dx _ H' => E cls dx H') mg none [] (FD K Q) G H (f ns ds [])
theorem fn_scr {F : List Int → List D → PM D} (FU : Fun K x qual st f fd) (S : FnScope N ps (defScope st)) (hps : ps.length = n + 1)
    (hb : ∀ (cdv : Value) (A : Around) (outer : List PySem.Env) (s : Shared) (H : Hp) (E : XK), Cok (cxOf (L2.CX P w) P w K mg base N qual (defScope st) f cdv A outer s H E) (fun cls d _ H => E cls d H) k → ∀ (ns : List Int) (ds : List D), ds.length = n →
      ∃ (α : Type) (out : α → Out) (m : PM α), SV (cxOf (L2.CX P w) P w K mg base N qual (defScope st) f cdv A outer s H E) (fun cls d _ H => E cls d H) none (slotsS N ns ds) out (defBody st) m ∧ F ns ds = (m >>= fun a => outD (out a))) :
    FnG P w K mg base (k + 1) f fd ps (spS K mg n F) := by
  refine fnG_of FU S (fun vs H Q E h => ?_) fun cdv _ A outer s H vs Q E hg hr h => ?_
  · obtain ⟨a, ns, G, vs', ds, rfl, _, _, r, hn, _⟩ := h
    show vs'.length + 1 = _
    rw [r.1, hn, hps]
  · obtain ⟨a, ns, G, vs', ds, rfl, hs, hq, r, hn, hP⟩ := h
    obtain ⟨α, out, m, sv, e⟩ := hb cdv A outer s H E (cok_fn S.nd hg hr) ns ds hn
    rw [e] at hP
    exact ⟨_, sv, G, H, G, [], nv_startS hs hq r (by rw [r.1, hn, ← hps]; exact scope_le S), spost_fn hP⟩
/-- a def that makes a pen -/
def spM (K : PySem.W.Frag) (mg : Str → Option Value) (n : Nat) (f : List D → PM (List Int)) : Sp := fun vs H Q E => ∃ (G : Hp) (ds : List D), (Same G H ∧ TabK K H ∧ NoT G) ∧ RpL K G vs ds ∧ ds.length = n ∧
  Pst K (fun cls dx _ H' => E cls dx H') mg none [] (fun G' H' ns _ => ∀ p, H p = none → H' p = some (.lst (ns.map V.int)) → G' p = none → Q (.ref p) H') G H (f ds [])
def asInts (ds : List D) : PM (List Int) := match intsOf ds with
  | some ns => if ns.length ≤ lim then pure ns else bad
  | none => bad
theorem fn_mk {F : List D → PM (List Int)} {es : List Expr} {p1 p2 : Pos} (FU : Fun K x qual st f fd) (S : FnScope N ps (defScope st)) (hps : ps.length = n) (hst : defBody st = [.Return (some (.List es p1)) p2])
    (hb : ∀ (cdv : Value) (A : Around) (outer : List PySem.Env) (s : Shared) (H : Hp) (E : XK), Cok (cxOf (L2.CX P w) P w K mg base N qual (defScope st) f cdv A outer s H E) (fun cls d _ H => E cls d H) k → ∀ ds : List D, ds.length = n →
      ∃ m, EL (cxOf (L2.CX P w) P w K mg base N qual (defScope st) f cdv A outer s H E) (fun cls d _ H => E cls d H) none (slots0 N ds) es m ∧ F ds = (m >>= asInts)) :
    FnG P w K mg base (k + 1) f fd ps (spM K mg n F) := by
  refine fnG_of FU S (fun vs H Q E h => ?_) fun cdv _ A outer s H vs Q E hg hr h => ?_
  · obtain ⟨G, ds, _, r, hn, _⟩ := h
    rw [r.1, hn, hps]
  · obtain ⟨G, ds, hs, r, hn, hP⟩ := h
    obtain ⟨m, el, e⟩ := hb cdv A outer s H E (cok_fn S.nd hg hr) ds hn
    rw [e] at hP
    rw [hst]
    refine ⟨_, pss_one (ps_ret (L2.pe_lst el)), G, H, G, [], nv_start0 hs r (by rw [r.1, hn, ← hps]; exact scope_le S), ?_⟩
    have hP : Pst K (fun cls d _ H => E cls d H) mg none (L2.start N vs) (fun G' H' ns _ => ∀ p, H p = none → H' p = some (.lst (ns.map V.int)) → G' p = none → Q (.ref p) H') G H ((m >>= asInts) []) := by
      cases q : (m >>= asInts) [] with
      | ok a s => rw [q] at hP; exact hP
      | exc z => rw [q] at hP; exact hP
      | bad => rw [q] at hP; exact hP.elim
    refine hP.bind.imp fun G1 H1 ds1 s1 x1 p1 P1 vs1 r1 => ?_
    unfold asInts at P1
    cases q : intsOf ds1 with
    | none => rw [q] at P1; exact P1.elim
    | some ns =>
      rw [q] at P1
      have P1 : Pst K (fun cls d _ H => E cls d H) mg none (L2.start N vs) (fun G' H' ns _ => ∀ p, H p = none → H' p = some (.lst (ns.map V.int)) → G' p = none → Q (.ref p) H') G1 H1 ((if ns.length ≤ lim then pure ns else bad : PM (List Int)) s1) := P1
      split at P1
      · rename_i hl
        have ev := intsOf_rp r1 q
        refine ⟨by rw [ev, List.length_map]; exact lim_le hl, fun p np => ?_⟩
        have hb : H p = none := by
          cases q : H p with
          | none => rfl
          | some o =>
            obtain ⟨o', z⟩ := x1.t p o q
            rw [np] at z
            cases z
        exact P1 G1 _ (Ext.newH x1.sub np _) PenOk.none p hb (by rw [upd_same, ev]) (x1.sub.free np)
      · exact P1.elim
end
end EV

/-! EV 11: the script, new pens, pairs of names, the law's end. -/
namespace EV
open PySem PySem.Spec PyProof.Rows L2
section
variable {X : Cx} {W : WX} {pa : Option Addr} {Γ : List Sl} {k : Nat} {pos : Pos} {α : Type} {out : α → Out} {rest : List Stmt} {f : Addr} {fd : FuncData} {ps : List Str} {n : Nat} {x : Str} {p : Pos}
/-! ### the script -/
theorem ev_lenScr {i : Nat} {y : Str} {ns : List Int} {p2 : Pos} (hg : Gl X "len") (hm : X.mg "len" = none) (hΓ : Γ[i]? = some (.scr ns)) (hN : X.N[i]? = some y) (hv : Vis X.env.scope y)
    (hs : starEach [.Name y p2] X.env = (false, eval (.Name y p2) X.env) :: starEach [] X.env := by rfl) (hpl : (backTo pos (starEach [] X.env)).any (·.1) = false := by rfl) (hd : (y == ("__debug__" : Str)) = false := by decide) (hcd : (y == ("__classdict__" : Str)) = false := by decide) :
    EV X W pa Γ (.Call (.Name "len" p) [.Name y p2] [] pos) (pure (.int ns.length)) :=
  pe_imp (pe_callB call_len_seq hg hm PySem.boot_len (pa_cons (pe_var hN hv hd hcd) pa_nil hs) (by decide) (by decide) hs hpl) fun σ H Q ⟨G0, H0, G, s, E, P⟩ => by
    obtain ⟨a, h1, h2⟩ := E.scr i ns hΓ
    refine ⟨.ref a, h1, a, ns.map V.int, rfl, .inl (E.sub.seq h2), ?_⟩
    rw [List.length_map]
    exact P.now E.sub E.ps _ (.int _)
def scrGet (ns : List Int) : D → PM D
  | .int i => match atI ns i with
    | some m => pure (.int m)
    | none => bad
  | _ => bad
theorem ev_scr {i : Nat} {y : Str} {ns : List Int} {b : Expr} {p2 : Pos} {mb : PM D} (hΓ : Γ[i]? = some (.scr ns)) (hN : X.N[i]? = some y) (hv : Vis X.env.scope y) (hb : EV X W pa Γ b mb) (hs : PlainIx b) (hd : (y == ("__debug__" : Str)) = false := by decide) (hcd : (y == ("__classdict__" : Str)) = false := by decide) :
    EV X W pa Γ (.Subscript (.Name y p2) b pos) (mb >>= scrGet ns) := pe_imp (pe_ix ix_list (pe_var hN hv hd hcd) hb hs) fun σ H Q ⟨G0, H0, G, s, E, P⟩ => by
  obtain ⟨a, e2, h2⟩ := E.scr i ns hΓ
  refine ⟨.ref a, e2, G0, H0, G, s, E, P.bind.imp fun G1 H1 d s1 x1 p1 P1 v r => ?_⟩
  cases r with
  | int j =>
    have P1 : Pst X.K W X.mg pa σ (FD X.K Q) G1 H1 ((match atI ns j with | some m => pure (.int m) | none => bad : PM D) s1) := P1
    cases e : atI ns j with
    | none => rw [e] at P1; exact P1.elim
    | some m =>
      rw [e] at P1
      exact ⟨a, ns.map V.int, j, .int m, rfl, rfl, (x1.g.trans x1.sub).seq h2, by rw [atI_map, e]; rfl, P1.now x1.sub p1 _ (.int m)⟩
  | _ => exact P1.elim
/-- f(script, e, ..) -/
theorem ev_callS {F : List Int → List D → PM D} {i : Nat} {y : Str} {ns : List Int} {p2 : Pos} {es : List Expr} {ml : PM (List D)} (C : Cok X W k) (FG : FnG X.prog X.w X.K X.mg X.base k f fd ps (spS X.K X.mg n F)) (ar : ∀ ns, Arity n (F ns)) (hg : Gl X x) (hm : X.mg x = some (.ref f)) (hk : PySem.W.keepIn X.K (.ref f) = true) (hb : Binds X.K fd ps [])
    (hΓ : Γ[i]? = some (.scr ns)) (hN : X.N[i]? = some y) (hv : Vis X.env.scope y) (ha : EL X W pa Γ es ml) (hdb : (x == ("__debug__" : Str)) = false := by decide)
    (he : starEach (.Name y p2 :: es) X.env = (false, eval (.Name y p2) X.env) :: starEach es X.env := by rfl) (hpl : (backTo pos (starEach es X.env)).any (·.1) = false := by rfl)
    (hd : (y == ("__debug__" : Str)) = false := by decide) (hcd : (y == ("__classdict__" : Str)) = false := by decide) :
    EV X W pa Γ (.Call (.Name x p) (.Name y p2 :: es) [] pos) (ml >>= fun ds => run0 (F ns ds)) :=
  pe_imp (pe_callG C FG hg hm hk hb (pa_cons (pe_var hN hv hd hcd) ha he) hdb he hpl) fun σ H Q ⟨G0, H0, G, s, E, P⟩ => by
    obtain ⟨a, e2, h2⟩ := E.scr i ns hΓ
    exact ⟨.ref a, e2, G0, H0, G, s, E, P.bind.imp fun G1 H1 ds s1 x1 p1 P1 vs r => ⟨a, ns, G1, vs, ds, rfl, ⟨x1.sub, x1.tk E.tk, x1.gt E.x.nt⟩, x1.g.seq h2, r, run0_len (ar ns) P1, pst_run0 p1 P1⟩⟩

/-! ### a new pen -/
def withPen {α : Type} (ns : List Int) (m : PM α) : PM α := fun s => match m ns with
  | .ok a _ => .ok a s
  | .exc e => .exc e
  | .bad => .bad
theorem withPen_ok {α : Type} {ns ns' : List Int} {m : PM α} {a : α} (h : m ns = .ok a ns') : withPen ns m = pure a := by
  funext s
  unfold withPen
  rw [h]
  rfl
def noPen : List Sl → Bool
  | [] => true
  | .pen :: _ => false
  | _ :: r => noPen r
theorem noPen_get : ∀ {l : List Sl} {i : Nat}, noPen l = true → l[i]? ≠ some .pen
  | [], _, _, h => by simp at h
  | x :: r, 0, h, e => by
    simp at e
    subst e
    cases h
  | x :: r, i + 1, h, e => by
    simp at e
    refine noPen_get (l := r) ?_ e
    cases x <;> first | exact h | cases h
theorem Nv.toPen {K : PySem.W.Frag} {G0 H0 G H : Hp} {σ : L2.St} {s : List Int} (E : Nv K none G0 H0 G H σ Γ s) (i : Nat) {q : Addr} {ns : List Int} (hq : H q = some (.lst (ns.map V.int))) (gq : G q = none) (h0 : H0 q = none)
    (hn : ∀ (j : Nat) xs, Γ[j]? = some (.own xs) → σ[j]? ≠ some (some (.ref q))) : Nv K (some q) G0 H0 G H (σ.set i (some (.ref q))) (Γ.set i .pen) ns where
  len := by simp [E.len]
  val := fun j d e => by
    by_cases hj : i = j
    · subst hj
      have := (List.getElem?_eq_some_iff.mp e).1
      rw [List.getElem?_set_self (by simpa using this)] at e
      cases e
    · rw [List.getElem?_set_ne hj] at e ⊢
      exact E.val j d e
  own := fun j d e => by
    by_cases hj : i = j
    · subst hj
      have := (List.getElem?_eq_some_iff.mp e).1
      rw [List.getElem?_set_self (by simpa using this)] at e
      cases e
    · rw [List.getElem?_set_ne hj] at e ⊢
      obtain ⟨p, vs, h1, h2, h3, h4, h5, h6⟩ := E.own j d e
      exact ⟨p, vs, h1, h2, h3, h4, h5, fun z => by
        cases z
        exact hn j d e h1⟩
  inj := fun j l p xs ys e1 e2 => by
    have n1 : i ≠ j := fun hj => by
      subst hj
      have := (List.getElem?_eq_some_iff.mp e1).1
      rw [List.getElem?_set_self (by simpa using this)] at e1
      cases e1
    have n2 : i ≠ l := fun hj => by
      subst hj
      have := (List.getElem?_eq_some_iff.mp e2).1
      rw [List.getElem?_set_self (by simpa using this)] at e2
      cases e2
    rw [List.getElem?_set_ne n1] at e1 ⊢
    rw [List.getElem?_set_ne n2] at e2 ⊢
    exact E.inj j l p xs ys e1 e2
  pen := fun j e => by
    by_cases hj : i = j
    · subst hj
      have hi := (List.getElem?_eq_some_iff.mp e).1
      exact ⟨q, rfl, List.getElem?_set_self (by rw [← E.len]; simpa using hi)⟩
    · rw [List.getElem?_set_ne hj] at e
      obtain ⟨p, h, _⟩ := E.pen j e
      cases h
  scr := fun j d e => by
    by_cases hj : i = j
    · subst hj
      have := (List.getElem?_eq_some_iff.mp e).1
      rw [List.getElem?_set_self (by simpa using this)] at e
      cases e
    · rw [List.getElem?_set_ne hj] at e ⊢
      exact E.scr j d e
  ps := fun a e => by
    cases e
    exact ⟨gq, hq⟩
  ext := E.ext.any
  x := E.x.put i rfl
theorem Nv.unPen {K : PySem.W.Frag} {G0 H0 G H : Hp} {σ : L2.St} {s s' : List Int} {q : Addr} (E : Nv K (some q) G0 H0 G H σ Γ s) (h0 : H0 q = none) (hn : noPen Γ = true) : Nv K none G0 H0 G H σ Γ s' where
  len := E.len
  val := E.val
  own := fun j d e => by
    obtain ⟨p, vs, h1, h2, h3, h4, h5, h6⟩ := E.own j d e
    exact ⟨p, vs, h1, h2, h3, h4, h5, fun z => by cases z⟩
  inj := E.inj
  pen := fun j e => absurd e (noPen_get hn)
  scr := E.scr
  ps := PenOk.none
  ext := ⟨E.ext.g, fun a o e _ nt => E.ext.h a o e (fun z => by
    cases z
    rw [h0] at e
    cases e) nt, E.ext.t, E.ext.n, E.ext.sub, E.ext.tk, E.ext.gt⟩
  x := E.x
theorem sv_penNew (i : Nat) {F : List D → PM (List Int)} {y : Str} {p0 : Pos} {e : Expr} {es : List Expr} {ml : PM (List D)} {kk : PM α} (C : Cok X W k) (FG : FnG X.prog X.w X.K X.mg X.base k f fd ps (spM X.K X.mg n F)) (ar : ∀ ds s, ds.length ≠ n → F ds s = .bad) (hg : Gl X x) (hm : X.mg x = some (.ref f)) (hk : PySem.W.keepIn X.K (.ref f) = true) (hb : Binds X.K fd ps [])
    (ha : EL X W none Γ (e :: es) ml) (hr : ∀ q, SV X W (some q) (Γ.set i .pen) out rest kk) (hnp : ∀ a, match out a with | .fall Γ' => noPen Γ' = true | .ret _ => True | _ => False)
    (hi : X.N[i]? = some y := by rfl) (hx : Loc X.env.scope y := by first | exact Or.inl rfl | exact Or.inr rfl) (hdb : (x == ("__debug__" : Str)) = false := by decide) (he : starEach (e :: es) X.env = (false, eval e X.env) :: starEach es X.env := by rfl) (hpl : (backTo pos (starEach es X.env)).any (·.1) = false := by rfl)
    {spos : Pos} (hs : swapsWith (.Call (.Name x p) (e :: es) [] pos) (some (.Name y p0)) spos.line X.env = pure false := by rfl) (hf : X.fn y = true ∨ X.env.scope.names.lookup y = some .local := by first | exact .inl rfl | exact .inr rfl) :
    SV X W none Γ out (.Assign [.Name y p0] (.Call (.Name x p) (e :: es) [] pos) spos :: rest) (ml >>= fun ds => run0 (F ds) >>= fun ns => withPen ns kk) := by
  unfold SV
  rw [bind_assoc]
  have hrest : PSs X rest (fun D σ H => ∃ q, svT X W (some q) (Γ.set i .pen) (kk >>= fun a => pure (out a)) D σ H) := pss_ex hr
  refine pss_imp (pss_cons (ps_set (i := i) C.nd hi hx (pe_callG C FG hg hm hk hb ha hdb he hpl) hs hf) hrest) fun Dn σ H ⟨G0, H0, G, s, E, P⟩ => ⟨G0, H0, G, s, E, (P.bind E).imp fun G1 H1 ds s1 x1 p1 P1 vs r => ?_⟩
  have E1 := E.step x1 p1
  rw [bind_assoc, PM.bind_def] at P1
  unfold run0 at P1
  have hlen : ds.length = n := by
    by_cases h : ds.length = n
    · exact h
    · rw [ar ds [] h] at P1
      exact P1.elim
  refine ⟨G1, ds, ⟨x1.sub, x1.tk E.tk, x1.gt E.x.nt⟩, r, hlen, ?_⟩
  cases q : F ds [] with
  | exc z =>
    rw [q] at P1
    exact fun cls dx G' H' y q' => P1 cls dx σ G' H' (E1.ext.trans y) q'
  | bad => rw [q] at P1; exact P1.elim
  | ok ns s2 =>
    rw [q] at P1
    have P1 : SPost X.K W X.mg none G0 H0 Dn ((withPen ns kk >>= fun a => pure (out a)) s1) := P1
    intro G' H' y yp p' np hp' gp'
    have E2 := E1.step (s' := s1) y PenOk.none
    have h0 : H0 p' = none := by
      cases z : H0 p' with
      | none => rfl
      | some o =>
        obtain ⟨o', z'⟩ := E1.ext.t p' o z
        rw [np] at z'
        cases z'
    have E3 := E2.toPen i hp' gp' h0 (fun j xs e z => by
      obtain ⟨p2, vs2, h1, h2, _⟩ := E1.own j xs e
      rw [z] at h1
      cases h1
      rw [np] at h2
      cases h2)
    refine ⟨p', G0, H0, G', ns, E3, ?_⟩
    rw [PM.bind_def] at P1 ⊢
    unfold withPen at P1
    cases e5 : kk ns with
    | exc z => rw [e5] at P1; exact fun cls dx σ' G' H' w q => P1 cls dx σ' G' H' ⟨w.g, fun a o e _ nt => w.h a o e (fun z => by
        cases z
        rw [h0] at e
        cases e) nt, w.t, w.n, w.sub, w.tk, w.gt⟩ q
    | bad => rw [e5] at P1; exact P1.elim
    | ok a s3 =>
      rw [e5] at P1
      have P1 : SPost X.K W X.mg none G0 H0 Dn (.ok (out a) s1) := P1
      show SPost X.K W X.mg (some p') G0 H0 Dn (.ok (out a) s3)
      have cv : ∀ G' H', Ext X.K (some p') G0 H0 G' H' → Ext X.K none G0 H0 G' H' := fun G' H' w => ⟨w.g, fun a o e _ nt => w.h a o e (fun z => by
        cases z
        rw [h0] at e
        cases e) nt, w.t, w.n, w.sub, w.tk, w.gt⟩
      have hnpa := hnp a
      cases e6 : out a with
      | fall Γ' =>
        rw [e6] at P1 hnpa
        exact fun σ' G' H' E' => P1 σ' G' H' (E'.unPen h0 hnpa)
      | ret d => rw [e6] at P1; exact fun v G' H' w _ r => P1 v G' H' (cv _ _ w) PenOk.none r
      | brk Γ' => rw [e6] at hnpa; exact hnpa.elim
      | cnt Γ' => rw [e6] at hnpa; exact hnpa.elim

/-! ### pairs of names -/
def two {β : Type} (kk : D → D → PM β) : List D → PM β
  | [a, b] => kk a b
  | _ => bad
def unp2 {β : Type} (kk : D → D → PM β) (d : D) : PM β := match dec2 d with
  | some z => kk z.1 z.2
  | none => bad
/-- a, b = e1, e2, plain locals -/
theorem sv_par (i j : Nat) {y z : Str} {a b : Expr} {px py pt : Pos} {kt k2 pt2} {ml : PM (List D)} {kk : D → D → PM α} (hc : X.calm = true) (hN : X.N.Nodup) (ha : EL X W pa Γ [a, b] ml) (hij : i ≠ j)
    (hr : ∀ u v, SV X W pa ((Γ.set i (.val u)).set j (.val v)) out rest (kk u v)) (hi : X.N[i]? = some y := by rfl) (hj : X.N[j]? = some z := by rfl)
    (hx : X.env.scope.names.lookup y = some .local := by rfl) (hy : X.env.scope.names.lookup z = some .local := by rfl)
    (hw : swappedStores [.Tuple [.Name y px, .Name z py] kt pt] (.Tuple [a, b] k2 pt2) X.env = pure (some [y, z]) := by rfl)
    (hs : swapsWithSole [.Tuple [.Name y px, .Name z py] kt pt] (.Tuple [a, b] k2 pt2) pos.line X.env = pure false := by rfl) :
    SV X W pa Γ out (.Assign [.Tuple [.Name y px, .Name z py] kt pt] (.Tuple [a, b] k2 pt2) pos :: rest) (ml >>= two kk) := by
  unfold SV
  rw [bind_assoc]
  have hrest : PSs X rest (fun D σ H => ∃ q : EV.D × EV.D, svT X W pa ((Γ.set i (.val q.1)).set j (.val q.2)) (kk q.1 q.2 >>= fun a => pure (out a)) D σ H) := pss_ex (ι := EV.D × EV.D) fun q => hr q.1 q.2
  refine pss_imp (pss_cons (ps_par (i := i) (j := j) hc hN hi hj hij hx hy ha hw hs) hrest) fun Dn σ H ⟨G0, H0, G, s, E, P⟩ => ⟨G0, H0, G, s, E, (P.bind E).imp fun G1 H1 ds s1 x1 p1 P1 vs r => ?_⟩
  match ds, r, P1 with
  | [u, v], r, P1 =>
    obtain ⟨v1, v2, rfl, r1, r2⟩ := rp2 r
    exact ⟨v1, v2, rfl, (u, v), G0, H0, G1, s1, ((E.step x1 p1).set i r1).set j r2, P1⟩
  | [], _, P1 => exact P1.elim
  | [_], _, P1 => exact P1.elim
  | _ :: _ :: _ :: _, _, P1 => exact P1.elim
/-- a, b = e, by a tuple -/
theorem sv_unp (i j : Nat) {y z : Str} {e : Expr} {px py pt : Pos} {kt : Nat} {me : PM D} {kk : D → D → PM α} (C : Cok X W k) (he : EV X W pa Γ e me)
    (hr : ∀ u v, SV X W pa ((Γ.set i (.val u)).set j (.val v)) out rest (kk u v)) (hp : PG X (.Tuple [.Name y px, .Name z py] kt pt) (gTup X.K 2 (gCons (gName i) (gCons (gName j) gNil))))
    (hs : swapsWithSole [.Tuple [.Name y px, .Name z py] kt pt] e pos.line X.env = pure false := by rfl) (hw : swappedStores [.Tuple [.Name y px, .Name z py] kt pt] e X.env = pure none := by rfl)
    (h1 : (assignEach [.Tuple [.Name y px, .Name z py] kt pt] X.env).map (·.2) = [assign (.Tuple [.Name y px, .Name z py] kt pt) X.env] := by rfl) :
    SV X W pa Γ out (.Assign [.Tuple [.Name y px, .Name z py] kt pt] e pos :: rest) (me >>= unp2 kk) := by
  unfold SV
  rw [bind_assoc]
  have hrest : PSs X rest (fun D σ H => ∃ q : EV.D × EV.D, svT X W pa ((Γ.set i (.val q.1)).set j (.val q.2)) (kk q.1 q.2 >>= fun a => pure (out a)) D σ H) := pss_ex (ι := EV.D × EV.D) fun q => hr q.1 q.2
  refine pss_imp (pss_cons (ps_asg he hp hs hw h1) hrest) fun Dn σ H ⟨G0, H0, G, s, E, P⟩ => ⟨G0, H0, G, s, E, (P.bind E).imp fun G1 H1 d s1 x1 p1 P1 v r => ?_⟩
  have E1 := E.step x1 p1
  cases e1 : dec2 d with
  | none =>
    unfold unp2 at P1
    rw [e1] at P1
    exact P1.elim
  | some q =>
    unfold unp2 at P1
    rw [e1] at P1
    exact tg_pair (vs := [i, j]) (by simp) (by simp) G0 H0 G1 H1 σ s1 v d q _ E1 r e1 fun σ' E' _ => ⟨q, G0, H0, G1, s1, E', P1⟩
end

/-! ### the law's end -/
theorem law_end {l : PySem.W.OpenLaw} {n k : Nat} {q : Program} {loose : List Str} {XP : (Str → Option Value) → Heap → Prop} {YP : World → Heap → Prop} {d : DefRec} {K : Params → PySem.W.Frag} {x : Str} {F : List Int → List D → PM D} (cs : List (Addr × Addr))
    (hn : l.most = some n) (hn2 : n ≤ sizeLine) (hdf : d.params.defaults = []) (hr : Room k callerA) (hY : ∀ (w : World) (h : Heap), YP w h → (K w.params).In h) (hT : ∀ (w : World) (h : Heap), YP w h → ∀ p ∈ cs, h.get? p.2 = some { cls := .none, data := .fields #[] })
    (hC : ∀ (w : World) (h : Heap), (K w.params).In h → ∀ p ∈ cs, PySem.W.CodeHd h p.1 p.2) (nT : ∀ w : World, ∀ p ∈ cs, (K w.params).lookup p.2 = none) (hN : ∀ (w : World) (P : Addr), NeedT (K w.params) P → ∃ p ∈ cs, p.2 = P)
    (hF : ∀ (w : World) (mg : Str → Option Value) (fa : Addr) (h : Heap), (K w.params).In h → h.Ns mainGlobals mg → mg d.name = some (.ref fa) →
      ∃ fd : FuncData, (∀ (s : Shared) (u : Value), BindsTo s fd ⟨[u], []⟩ [(x, u)]) ∧ ∀ base : Heap, (K w.params).In base → base.Ns mainGlobals mg → (∀ p ∈ cs, LamX.TabB base mg p.1 p.2) → FnG l.prog w (K w.params) mg base k fa fd [x] (spS (K w.params) mg 0 F))
    (hlaw : ∀ ns : List Int, ns.length ≤ n → ∃ s, F ns [] [] = .ok (.bl true) s) :
    PySem.W.WalkO q loose XP YP l.row.toRowW d [] (fun f vs => PySem.call f vs) := by
  refine Att.attach_call hn hdf fun w s₀ s₁ mg mb fa o pm cd doc a vs ns G Y ho hd hcd hmg hobj hints hlen hg => ?_
  have KX := hY w _ Y
  have tabs := hT w _ Y
  have heads := hC w _ KX
  obtain ⟨fd, hb, hFF⟩ := hF w mg fa _ KX G.T.g hmg
  have rv := vals_ints hints
  have lenV := hints.length
  have lz : ns.length ≤ sizeLine := Nat.le_trans hlen hn2
  have aNo : ∀ p ∈ cs, p.2 ≠ a := fun p hp z => by
    have q := tabs p hp
    rw [z, hobj] at q
    cases (show Data.seq vs.toArray _ = Data.fields #[] from congrArg Obj.data (Option.some.inj q))
  have core : ∀ G0 H : Hp, Same G0 H → NoT G0 → (∀ p ∈ cs, H p.2 = some (.tbl #[])) → (∀ b, H b = none ∨ (H b = some (.tbl #[]) ∧ ∃ p ∈ cs, p.2 = b) ∨ ∃ oz xs, H b = some (.frz oz (.lst xs))) → SqL (K w.params) G0 a (ns.map V.int) → HOk l.prog w H s₁.heap →
      (∀ b, H b ≠ none → b = a ∨ ∃ p ∈ cs, p.2 = b) → (H a ≠ none → (K w.params).lookup a = none) →
      codeAny (model l.prog w) callerA (.call (.ref fa) ⟨[.ref a], []⟩) (fun r s' => r = .ok (.ret (.bool true)) ∧ OldK s₁.heap s'.heap ∧ s'.os = s₁.os ∧ AllBare s'.gens) s₁ := by
    intro G0 H hGH hG0 hTb hO hS hok hA hK
    have offT : ∀ {b : Addr} {ob : Obj}, s₁.heap.get? b = some ob → (∀ us n, ob.data ≠ .seq us n) → ob.data ≠ .fields #[] → H b = none := by
      intro b ob e ne1 ne2
      refine Classical.byContradiction fun q => ?_
      rcases hA b q with e' | ⟨p, hp, e'⟩
      · subst e'
        rw [hobj] at e
        cases e
        exact ne1 _ _ rfl
      · subst e'
        rw [tabs p hp] at e
        cases e
        exact ne2 rfl
    have nodict : ∀ {b : Addr} {ob : Obj} {es : Array DictEntry} {ep : Nat}, s₁.heap.get? b = some ob → ob.data = .dict es ep → H b = none := fun {b ob es ep} e dd =>
      offT e (fun us n z => by rw [dd] at z; cases z) fun z => by rw [dd] at z; cases z
    have nsK : ∀ {b : Addr} {m : Str → Option Value}, s₁.heap.Ns b m → (hidT s₁.heap H).Ns b m := by
      intro b m hm
      obtain ⟨ob, es, ep, e, dd, r⟩ := hm
      exact ⟨ob, es, ep, hidT_get e (nodict e dd), dd, r⟩
    have hKb : (K w.params).In (hidT s₁.heap H) := by
      intro b ob e
      refine hidT_get (KX b ob e) ?_
      refine Classical.byContradiction fun q => ?_
      rcases hA b q with e' | ⟨p, hp, e'⟩
      · subst e'
        rw [hK q] at e
        cases e
      · subst e'
        rw [nT w p hp] at e
        cases e
    have hM : Mod (K w.params) mg (hidT s₁.heap H) := by
      obtain ⟨mc, l1, l2⟩ := G.T.nolimit
      exact ⟨hKb, nsK G.T.g, ⟨mb, nsK G.T.b, G.T.builtins⟩, mc, nsK l1, l2⟩
    have hTB : ∀ p ∈ cs, LamX.TabB (hidT s₁.heap H) mg p.1 p.2 := by
      intro p hp
      obtain ⟨gm, ges, gep, ge, gd, _⟩ := G.T.g
      refine ⟨?_, ?_, fun z => ?_⟩
      · obtain ⟨co, us, fi, tf, fl, tg, inF, tx, tt, c1, c2, c3, c4, rest⟩ := heads p hp
        refine ⟨co, us, fi, tf, fl, tg, inF, tx, tt, hidT_get c1 (offT c1 (fun us' n z => ?_) fun z => ?_), c2, c3, c4, rest⟩ <;> rw [c3] at z <;> cases z
        cases c4
      · obtain ⟨bm, ob, b1, b2, b3, b4, b5, b6⟩ := G.T.bmain
        refine ⟨bm, ob, b1, b2, fun z => ?_, fun z => ?_, hidT_get b3 (offT b3 (fun us' n z => ?_) fun z => ?_), b4, b5, b6⟩
        · rw [z, ge] at b3
          cases b3
          rw [gd] at b6
          cases b6
        · rw [z, tabs p hp] at b3
          cases b3
          cases b6
        · rw [b6] at z
          cases z
        · rw [b6] at z
          cases z
      · rw [z, tabs p hp] at ge
        cases ge
        cases gd
    have nil0 : ∀ b : Addr, b ∉ frs [] := fun b hb => absurd (show b ∈ ([] : List Addr) from hb) (by simp)
    have e0 : Env0 l.prog w (K w.params) mg (hidT s₁.heap H) callerA [] s₁ H :=
      ⟨rfl, hM, fun b ob e => of_hidT e, Nat.le_of_eq (hidT_size _ _), trivial, fun b hb => absurd hb (nil0 b), hok, .of_eq hg⟩
    obtain ⟨sf, hlf⟩ := hlaw ns hlen
    have tk1 : ∀ P ps, H P = some (.tbl ps) → LamX.TabS H P (tauK (K w.params) P) := fun P ps e => by
      rcases hO P with z | ⟨z, _⟩ | ⟨oz, xs, z⟩
      · rw [z] at e
        cases e
      · exact LamX.TabS.nil z
      · rw [z] at e
        cases e
    have tk : TabK (K w.params) H := ⟨tk1, fun P nd => by
      obtain ⟨p, hp, e⟩ := hN w P nd
      rw [← e]
      exact ⟨_, hTb p hp⟩⟩
    have hsp : spS (K w.params) mg 0 F [.ref a] H (fun v _ => v = .bl true) (fun _ _ _ => False) := by
      refine ⟨a, ns, G0, [], [], rfl, ⟨hGH, tk, hG0⟩, hS, .nil, rfl, ?_⟩
      rw [hlf]
      intro G' H' _ _ v rr
      cases rr
      rfl
    refine codeAny_mono ((hFF _ hKb (nsK G.T.g) hTB).run callerA [] s₁ H ⟨[.ref a], []⟩ [.ref a] [.ref a] _ _ (fun _ => rfl) hr e0 (hb s₁ (.ref a)) (.cons rfl .nil) hsp) fun r s' h => ?_
    cases r with
    | error e =>
      obtain ⟨_, _, _, _, _, _, _, _, _, _, _, _, z⟩ := h
      exact z.elim
    | ok fl =>
      cases fl with
      | next => exact h.elim
      | brk => exact h.elim
      | cont => exact h.elim
      | ret u =>
        obtain ⟨v, H', os, bare, un, hok', r', q'⟩ := h
        have q' : v = .bl true := q'
        subst q'
        obtain rfl : u = Value.bool true := r'
        have each : ∀ b ob, s₁.heap.get? b = some ob → s'.heap.get? b = some ob ∨ ∃ p ∈ cs, p.2 = b ∧ ∃ more, s'.heap.get? b = some { cls := .none, data := .fields more } := fun b ob e => by
          rcases hO b with z | ⟨z, p, hp, ep⟩ | ⟨oz, xs, z⟩
          · exact .inl (un.keep b ob e z (nil0 b) (by simp))
          · obtain ⟨more, z2⟩ := un.tbls b #[] z
            exact .inr ⟨p, hp, ep, _, hok' b _ z2⟩
          · have z2 := un.frzs b oz _ z
            obtain ⟨e1, _⟩ := hok b _ z
            obtain ⟨e2, _⟩ := hok' b _ z2
            rw [e] at e1
            cases e1
            exact .inl e2
        refine ⟨rfl, ⟨fun b ob e => ?_, fun b ob e => ?_⟩, os, bare⟩
        · rcases each b ob e with z | ⟨p, hp, rfl, more, z⟩
          · exact .inl z
          · have e1 := tabs p hp
            rw [e1] at e
            cases e
            exact .inr (.inl ⟨((heads p hp).tab e1).isCodeTable, rfl, #[], more, rfl, by rw [Array.empty_append]; exact z⟩)
        · rcases each b ob e with z | ⟨p, hp, rfl, more, z⟩
          · exact ⟨_, z⟩
          · exact ⟨_, z⟩
  have laid : ∀ G0 : Hp, (∀ b, G0 b = none ∨ (b = a ∧ G0 b = some (.frz { cls := .type "list", data := .seq vs.toArray } (.lst (ns.map V.int))))) → SqL (K w.params) G0 a (ns.map V.int) → (G0 a ≠ none → (K w.params).lookup a = none) →
      codeAny (model l.prog w) callerA (.call (.ref fa) ⟨[.ref a], []⟩) (fun r s' => r = .ok (.ret (.bool true)) ∧ OldK s₁.heap s'.heap ∧ s'.os = s₁.os ∧ AllBare s'.gens) s₁ := by
    intro G0 h0 hS hK
    have inT : ∀ {b : Addr}, b ∈ cs.map (·.2) → ∃ p ∈ cs, p.2 = b := fun {b} m => by
      obtain ⟨p, hp, e⟩ := List.mem_map.mp m
      exact ⟨p, hp, e⟩
    have aT : a ∉ cs.map (·.2) := fun m => by
      obtain ⟨p, hp, e⟩ := inT m
      exact aNo p hp e
    refine core G0 (fun b => if b ∈ cs.map (·.2) then some (.tbl #[]) else G0 b) (fun b u e => ?_) (fun P ps e => ?_) (fun p hp => if_pos (List.mem_map.mpr ⟨p, hp, rfl⟩)) (fun b => ?_) hS (fun b u e => ?_) (fun b z => ?_) fun z => hK (by rwa [if_neg aT] at z)
    · rcases h0 b with z | ⟨rfl, _⟩
      · rw [z] at e
        cases e
      · exact (if_neg aT).trans e
    · rcases h0 P with z | ⟨_, z⟩ <;> rw [z] at e <;> cases e
    · by_cases m : b ∈ cs.map (·.2)
      · exact .inr (.inl ⟨if_pos m, inT m⟩)
      · rcases h0 b with z | ⟨_, z⟩
        · exact .inl ((if_neg m).trans z)
        · exact .inr (.inr ⟨_, _, (if_neg m).trans z⟩)
    · by_cases m : b ∈ cs.map (·.2)
      · cases (if_pos m).symm.trans e
        obtain ⟨p, hp, rfl⟩ := inT m
        exact tabs p hp
      · have e := (if_neg m).symm.trans e
        rcases h0 b with z | ⟨rfl, z⟩
        · rw [z] at e
          cases e
        · rw [z] at e
          cases e
          exact ⟨hobj, by rw [List.length_map]; exact lz, vs, _, rv, hobj⟩
    · by_cases m : b ∈ cs.map (·.2)
      · exact .inr (inT m)
      · rcases h0 b with y | ⟨y, _⟩
        · exact absurd ((if_neg m).trans y) z
        · exact .inl y
  cases hk : (K w.params).lookup a with
  | some ok =>
    have e := KX a ok hk
    rw [hobj] at e
    cases e
    refine laid (fun _ => none) (fun _ => .inl rfl) (.inr ⟨_, vs.toArray, _, hk, rfl, rfl, rfl, ?_, ?_⟩) fun z => absurd rfl z
    · rw [List.size_toArray, lenV]
      exact lz
    · simpa using rv
  | none =>
    refine laid (fun b => if b = a then some (.frz { cls := .type "list", data := .seq vs.toArray } (.lst (ns.map V.int))) else none) (fun b => ?_) (.inl (.inr ⟨{ cls := .type "list", data := .seq vs.toArray }, if_pos rfl⟩)) fun _ => hk
    by_cases hb : b = a
    · exact .inr ⟨hb, if_pos hb⟩
    · exact .inl (if_neg hb)
end EV

/-! EV 12: short words for printed derivations. -/
namespace EV
open PySem PySem.Spec PyProof.Rows L2
section
variable {X : Cx} {W : WX} {pa : Option Addr} {Γ : List Sl} {k : Nat} {pos : Pos}
theorem vv (i : Nat) {x : Str} {d : D} (hΓ : Γ[i]? = some (.val d) := by rfl) (hN : X.N[i]? = some x := by rfl) (hv : Vis X.env.scope x := by first | exact Or.inl rfl | exact Or.inr (Or.inl rfl) | exact Or.inr (Or.inr rfl))
    (hd : (x == ("__debug__" : Str)) = false := by decide) (hcd : (x == ("__classdict__" : Str)) = false := by decide) : EV X W pa Γ (.Name x pos) (pure d) := ev_var hΓ hN hv hd hcd
/-- a def of the text that keeps its promise -/
structure Cal (P : Program) (w : World) (K : PySem.W.Frag) (mg : Str → Option Value) (base : Heap) (k : Nat) (x : Str) (ps : List Str) (sp : Sp) : Prop where
  ex : ∃ f fd, FnG P w K mg base k f fd ps sp ∧ mg x = some (.ref f) ∧ PySem.W.keepIn K (.ref f) = true ∧ Binds K fd ps []
theorem Cal.mono {P : Program} {w : World} {K : PySem.W.Frag} {mg : Str → Option Value} {base : Heap} {j k : Nat} {x : Str} {ps : List Str} {sp : Sp} (F : Cal P w K mg base j x ps sp) (h : j ≤ k) : Cal P w K mg base k x ps sp := by
  obtain ⟨f, fd, h1, h2, h3, h4⟩ := F.ex
  exact ⟨f, fd, h1.mono h, h2, h3, h4⟩
structure FunAt (K : PySem.W.Frag) (mg : Str → Option Value) (x : Str) (st : Stmt) : Prop where
  ex : ∃ f fd, Fun K x x st f fd ∧ mg x = some (.ref f)
theorem call {x : Str} {p : Pos} {n : Nat} {F : List D → PM D} {ps : List Str} {j : Nat} {e : Expr} {es : List Expr} {ml : PM (List D)} (C : Cok X W k) (FC : Cal X.prog X.w X.K X.mg X.base j x ps (spF X.K X.mg false n F)) (ar : Arity n F)
    (ha : EL X W pa Γ (e :: es) ml) (hj : j ≤ k := by decide) (hg : Gl X x := by rfl) (hdb : (x == ("__debug__" : Str)) = false := by decide) (he : starEach (e :: es) X.env = (false, eval e X.env) :: starEach es X.env := by rfl) (hpl : (backTo pos (starEach es X.env)).any (·.1) = false := by rfl) :
    EV X W pa Γ (.Call (.Name x p) (e :: es) [] pos) (ml >>= fun ds => run0 (F ds)) := by
  obtain ⟨f, fd, h1, h2, h3, h4⟩ := FC.ex
  exact ev_call C (h1.mono hj) ar hg h2 h3 h4 ha hdb he hpl
theorem callN {x : Str} {p : Pos} {n : Nat} {F : List D → PM D} {ps : List Str} {j : Nat} (C : Cok X W k) (FC : Cal X.prog X.w X.K X.mg X.base j x ps (spF X.K X.mg false n F)) (ar : Arity n F)
    (hj : j ≤ k := by decide) (hg : Gl X x := by rfl) (hdb : (x == ("__debug__" : Str)) = false := by decide) : EV X W pa Γ (.Call (.Name x p) [] [] pos) (run0 (F [])) := by
  obtain ⟨f, fd, h1, h2, h3, h4⟩ := FC.ex
  exact ev_call0 C (h1.mono hj) ar hg h2 h3 h4 hdb
theorem callP (i : Nat) {q : Addr} {x y : Str} {p p2 : Pos} {n : Nat} {F : List D → PM D} {ps : List Str} {j : Nat} {es : List Expr} {ml : PM (List D)} (C : Cok X W k) (FC : Cal X.prog X.w X.K X.mg X.base j x ps (spF X.K X.mg true n F)) (ar : Arity n F)
    (ha : EL X W (some q) Γ es ml) (hj : j ≤ k := by decide) (hΓ : Γ[i]? = some .pen := by rfl) (hN : X.N[i]? = some y := by rfl) (hv : Vis X.env.scope y := by first | exact Or.inl rfl | exact Or.inr (Or.inl rfl) | exact Or.inr (Or.inr rfl)) (hg : Gl X x := by rfl) (hdb : (x == ("__debug__" : Str)) = false := by decide)
    (he : starEach (.Name y p2 :: es) X.env = (false, eval (.Name y p2) X.env) :: starEach es X.env := by rfl) (hpl : (backTo pos (starEach es X.env)).any (·.1) = false := by rfl)
    (hd : (y == ("__debug__" : Str)) = false := by decide) (hcd : (y == ("__classdict__" : Str)) = false := by decide) :
    EV X W (some q) Γ (.Call (.Name x p) (.Name y p2 :: es) [] pos) (ml >>= F) := by
  obtain ⟨f, fd, h1, h2, h3, h4⟩ := FC.ex
  exact ev_callP C (h1.mono hj) ar hg h2 h3 h4 hΓ hN hv ha hdb he hpl hd hcd
theorem callS (i : Nat) {x y : Str} {ns : List Int} {p p2 : Pos} {n : Nat} {F : List Int → List D → PM D} {ps : List Str} {j : Nat} {es : List Expr} {ml : PM (List D)} (C : Cok X W k) (FC : Cal X.prog X.w X.K X.mg X.base j x ps (spS X.K X.mg n F)) (ar : ∀ ns, Arity n (F ns))
    (ha : EL X W pa Γ es ml) (hj : j ≤ k := by decide) (hΓ : Γ[i]? = some (.scr ns) := by rfl) (hN : X.N[i]? = some y := by rfl) (hv : Vis X.env.scope y := by first | exact Or.inl rfl | exact Or.inr (Or.inl rfl) | exact Or.inr (Or.inr rfl)) (hg : Gl X x := by rfl) (hdb : (x == ("__debug__" : Str)) = false := by decide)
    (he : starEach (.Name y p2 :: es) X.env = (false, eval (.Name y p2) X.env) :: starEach es X.env := by rfl) (hpl : (backTo pos (starEach es X.env)).any (·.1) = false := by rfl)
    (hd : (y == ("__debug__" : Str)) = false := by decide) (hcd : (y == ("__classdict__" : Str)) = false := by decide) :
    EV X W pa Γ (.Call (.Name x p) (.Name y p2 :: es) [] pos) (ml >>= fun ds => run0 (F ns ds)) := by
  obtain ⟨f, fd, h1, h2, h3, h4⟩ := FC.ex
  exact ev_callS C (h1.mono hj) ar hg h2 h3 h4 hΓ hN hv ha hdb he hpl hd hcd
theorem pget (i : Nat) {q : Addr} {y : Str} {b : Expr} {p2 : Pos} {mb : PM D} (hb : EV X W (some q) Γ b mb) (hs : PlainIx b) (hΓ : Γ[i]? = some .pen := by rfl) (hN : X.N[i]? = some y := by rfl) (hv : Vis X.env.scope y := by first | exact Or.inl rfl | exact Or.inr (Or.inl rfl) | exact Or.inr (Or.inr rfl)) (hd : (y == ("__debug__" : Str)) = false := by decide) (hcd : (y == ("__classdict__" : Str)) = false := by decide) :
    EV X W (some q) Γ (.Subscript (.Name y p2) b pos) (mb >>= penGet) := ev_pen hΓ hN hv hb hs hd hcd
theorem sget (i : Nat) {y : Str} {ns : List Int} {b : Expr} {p2 : Pos} {mb : PM D} (hb : EV X W pa Γ b mb) (hs : PlainIx b) (hΓ : Γ[i]? = some (.scr ns) := by rfl) (hN : X.N[i]? = some y := by rfl) (hv : Vis X.env.scope y := by first | exact Or.inl rfl | exact Or.inr (Or.inl rfl) | exact Or.inr (Or.inr rfl)) (hd : (y == ("__debug__" : Str)) = false := by decide) (hcd : (y == ("__classdict__" : Str)) = false := by decide) :
    EV X W pa Γ (.Subscript (.Name y p2) b pos) (mb >>= scrGet ns) := ev_scr hΓ hN hv hb hs hd hcd
theorem slen (i : Nat) {y : Str} {ns : List Int} {p p2 : Pos} (hm : X.mg "len" = none) (hg : Gl X "len" := by rfl) (hΓ : Γ[i]? = some (.scr ns) := by rfl) (hN : X.N[i]? = some y := by rfl) (hv : Vis X.env.scope y := by first | exact Or.inl rfl | exact Or.inr (Or.inl rfl) | exact Or.inr (Or.inr rfl))
    (hs : starEach [.Name y p2] X.env = (false, eval (.Name y p2) X.env) :: starEach [] X.env := by rfl) (hpl : (backTo pos (starEach [] X.env)).any (·.1) = false := by rfl) (hd : (y == ("__debug__" : Str)) = false := by decide) (hcd : (y == ("__classdict__" : Str)) = false := by decide) :
    EV X W pa Γ (.Call (.Name "len" p) [.Name y p2] [] pos) (pure (.int ns.length)) := ev_lenScr hg hm hΓ hN hv hs hpl hd hcd
def negD : D → PM D
  | .int i => pure (.int (-i))
  | _ => bad
theorem ev_neg {e : Expr} {m : PM D} (h : EV X W pa Γ e m) : EV X W pa Γ (.UnaryOp .USub e pos) (m >>= negD) := pe_imp (pe_un un_neg h) fun σ H Q ⟨G0, H0, G, s, E, P⟩ => ⟨G0, H0, G, s, E, P.bind.imp fun G1 H1 d s1 x1 p1 P1 v r => by
  cases r with
  | int i => exact ⟨i, rfl, P1.now x1.sub p1 _ (.int _)⟩
  | _ => exact P1.elim⟩
theorem eb_chain {op op' : CmpOp} {g g' : D → D → PM D} {a b c : Expr} {ma mb mc : PM D} (ho : OpD X (compareOp op) g) (ho' : OpD X (compareOp op') g') (ha : EV X W pa Γ a ma) (hb : EV X W pa Γ b mb) (hc : EV X W pa Γ c mc)
    (hm : lastMarks [op, op'] [b, c] = false := by with_unfolding_all rfl) : EB X W pa Γ (.Compare a [op, op'] [b, c] pos) (ma >>= fun x => mb >>= fun y => g x y >>= fun r => asB r >>= fun t => if t = true then mc >>= fun z => g' y z >>= asB else pure false) := by
  obtain ⟨r, h1, h2⟩ := ho
  obtain ⟨r', h1', h2'⟩ := ho'
  refine pt_imp (pt_chain h1 h1' ha hb hc hm) fun σ H Q ⟨G0, H0, G, s, E, P⟩ =>
    ⟨G0, H0, G, s, E, P.bind.imp fun G1 H1 a s1 x1 p1 P1 v rv => ⟨G0, H0, G1, s1, E.step x1 p1, P1.bind.imp fun G2 H2 b s2 x2 p2 P2 w rw => ?_⟩⟩
  refine h2 W pa σ G2 H2 s2 v w a b _ x2.sub p2 (rv.mono x2.g) rw (P2.bind.imp fun G3 H3 d s3 x3 p3 P3 u ru => ?_)
  cases ru with
  | bl t =>
    refine ⟨t, rfl, ?_⟩
    have P4 := (P3.bind).now x3.sub p3
    cases t with
    | false =>
      have q : Q false H3 := P4.now x3.sub p3
      exact (show ∃ k, V.bl false = V.bl k ∧ Q k H3 from ⟨false, rfl, q⟩)
    | true =>
      refine (show evT X W pa Γ mc σ H3 _ from ⟨G0, H0, G3, s3, ((E.step x1 p1).step x2 p2).step x3 p3, (P4.bind : Pst X.K W X.mg pa σ _ G3 H3 (mc s3)).imp fun G5 H5 z s5 x5 p5 P5 u' ru' => ?_⟩)
      refine h2' W pa σ G5 H5 s5 w u' b z _ x5.sub p5 (rw.mono (x3.g.trans x5.g)) ru' (P5.bind.imp fun G6 H6 d s6 x6 p6 P6 u2 ru2 => ?_)
      cases ru2 with
      | bl c => exact ⟨c, rfl, P6.now x6.sub p6⟩
      | _ => exact P6.elim
  | _ => exact P3.elim
end
section
variable {X : Cx} {pos : Pos}
theorem pgn (i : Nat) {x : Str} (nd : X.N.Nodup) (hi : X.N[i]? = some x := by rfl) (hx : Loc X.env.scope x := by first | exact Or.inl rfl | exact Or.inr rfl) (hf : X.fn x = true ∨ X.env.scope.names.lookup x = some .local := by first | exact .inl rfl | exact .inr rfl) : PG X (.Name x pos) (gName i) := pg_name nd hi hx hf
end
theorem wn : Weak [] [] := trivial
theorem wk {x : Sl} {xs ys : List Sl} (h : Weak xs ys) : Weak (x :: xs) (x :: ys) := ⟨.inr rfl, h⟩
theorem wj {x : Sl} {xs ys : List Sl} (h : Weak xs ys) : Weak (x :: xs) (.junk :: ys) := ⟨.inl rfl, h⟩
theorem out_ret (m : PM D) : m = (m >>= fun a => outD (Out.ret a)) := (bind_pure m).symm
/-- built-in names that the module leaves as they are -/
structure Bn (mg : Str → Option Value) : Prop where
  len : mg "len" = none
  tuple : mg "tuple" = none
  list : mg "list" = none
  sorted : mg "sorted" = none
  set : mg "set" = none
  range : mg "range" = none
  enumerate : mg "enumerate" = none
  zip : mg "zip" = none
  any : mg "any" = none
  all : mg "all" = none
  max : mg "max" = none
  min : mg "min" = none
  repr : mg "repr" = none
  isinstance : mg "isinstance" = none
  int : mg "int" = none
  bool : mg "bool" = none
  str : mg "str" = none
  dict : mg "dict" = none
theorem len0 {ds : List D} (h : ds.length = 0) : ds = [] := List.length_eq_zero_iff.mp h
theorem len1 {ds : List D} (h : ds.length = 1) : ∃ a, ds = [a] := List.length_eq_one_iff.mp h
theorem len2 {ds : List D} (h : ds.length = 2) : ∃ a b, ds = [a, b] := by
  match ds, h with
  | [a, b], _ => exact ⟨a, b, rfl⟩
theorem len3 {ds : List D} (h : ds.length = 3) : ∃ a b c, ds = [a, b, c] := by
  match ds, h with
  | [a, b, c], _ => exact ⟨a, b, c, rfl⟩
theorem len4 {ds : List D} (h : ds.length = 4) : ∃ a b c d, ds = [a, b, c, d] := by
  match ds, h with
  | [a, b, c, d], _ => exact ⟨a, b, c, d, rfl⟩
theorem len5 {ds : List D} (h : ds.length = 5) : ∃ a b c d e, ds = [a, b, c, d, e] := by
  match ds, h with
  | [a, b, c, d, e], _ => exact ⟨a, b, c, d, e, rfl⟩
section
variable {P : Program} {w : World} {K : PySem.W.Frag} {mg : Str → Option Value} {base : Heap} {x : Str} {st : Stmt} {N ps : List Str} {k n : Nat}
theorem mk_pure {F : List D → PM D} (FA : FunAt K mg x st) (S : FnScope N ps (defScope st)) (hps : ps.length = n)
    (hbd : ∀ (kV doc pm : Value) (an : Option Addr) (cdv ct : Value) (us : List Value), us.length = ps.length → bindArgs (PySem.W.fnOf x x (defArgs st) (defBody st) (defScope st) .none kV doc pm an cdv ct) ⟨us, []⟩ = pure (ps.zip us))
    (hb : ∀ (f : Addr) (cdv : Value) (A : Around) (outer : List PySem.Env) (s : Shared) (H : Hp) (E : XK), Cok (cxOf (L2.CX P w) P w K mg base N x (defScope st) f cdv A outer s H E) (fun cls d _ H => E cls d H) k → ∀ ds : List D, ds.length = n →
      ∃ (α : Type) (out : α → Out) (m : PM α), SV (cxOf (L2.CX P w) P w K mg base N x (defScope st) f cdv A outer s H E) (fun cls d _ H => E cls d H) none (slots0 N ds) out (defBody st) m ∧ F ds = (m >>= fun a => outD (out a))) :
    Cal P w K mg base (k + 1) x ps (spF K mg false n F) := by
  obtain ⟨f, fd, FU, hm⟩ := FA.ex
  exact ⟨f, fd, fn_pure FU S hps (hb f), hm, FU.kp, FU.binds hbd⟩
theorem mk_pen {F : List D → PM D} (FA : FunAt K mg x st) (S : FnScope N ps (defScope st)) (hps : ps.length = n + 1)
    (hbd : ∀ (kV doc pm : Value) (an : Option Addr) (cdv ct : Value) (us : List Value), us.length = ps.length → bindArgs (PySem.W.fnOf x x (defArgs st) (defBody st) (defScope st) .none kV doc pm an cdv ct) ⟨us, []⟩ = pure (ps.zip us))
    (hb : ∀ (f : Addr) (cdv : Value) (A : Around) (outer : List PySem.Env) (s : Shared) (H : Hp) (E : XK), Cok (cxOf (L2.CX P w) P w K mg base N x (defScope st) f cdv A outer s H E) (fun cls d _ H => E cls d H) k → ∀ (q : Addr) (ds : List D), ds.length = n →
      ∃ (α : Type) (out : α → Out) (m : PM α), SV (cxOf (L2.CX P w) P w K mg base N x (defScope st) f cdv A outer s H E) (fun cls d _ H => E cls d H) (some q) (slotsP N ds) out (defBody st) m ∧ F ds = (m >>= fun a => outD (out a))) :
    Cal P w K mg base (k + 1) x ps (spF K mg true n F) := by
  obtain ⟨f, fd, FU, hm⟩ := FA.ex
  exact ⟨f, fd, fn_pen FU S hps (hb f), hm, FU.kp, FU.binds hbd⟩
theorem mk_scr {F : List Int → List D → PM D} (FA : FunAt K mg x st) (S : FnScope N ps (defScope st)) (hps : ps.length = n + 1)
    (hbd : ∀ (kV doc pm : Value) (an : Option Addr) (cdv ct : Value) (us : List Value), us.length = ps.length → bindArgs (PySem.W.fnOf x x (defArgs st) (defBody st) (defScope st) .none kV doc pm an cdv ct) ⟨us, []⟩ = pure (ps.zip us))
    (hb : ∀ (f : Addr) (cdv : Value) (A : Around) (outer : List PySem.Env) (s : Shared) (H : Hp) (E : XK), Cok (cxOf (L2.CX P w) P w K mg base N x (defScope st) f cdv A outer s H E) (fun cls d _ H => E cls d H) k → ∀ (ns : List Int) (ds : List D), ds.length = n →
      ∃ (α : Type) (out : α → Out) (m : PM α), SV (cxOf (L2.CX P w) P w K mg base N x (defScope st) f cdv A outer s H E) (fun cls d _ H => E cls d H) none (slotsS N ns ds) out (defBody st) m ∧ F ns ds = (m >>= fun a => outD (out a))) :
    Cal P w K mg base (k + 1) x ps (spS K mg n F) := by
  obtain ⟨f, fd, FU, hm⟩ := FA.ex
  exact ⟨f, fd, fn_scr FU S hps (hb f), hm, FU.kp, FU.binds hbd⟩
theorem mk_mk {F : List D → PM (List Int)} {es : List Expr} {p1 p2 : Pos} (FA : FunAt K mg x st) (S : FnScope N ps (defScope st)) (hps : ps.length = n)
    (hbd : ∀ (kV doc pm : Value) (an : Option Addr) (cdv ct : Value) (us : List Value), us.length = ps.length → bindArgs (PySem.W.fnOf x x (defArgs st) (defBody st) (defScope st) .none kV doc pm an cdv ct) ⟨us, []⟩ = pure (ps.zip us)) (hst : defBody st = [.Return (some (.List es p1)) p2])
    (hb : ∀ (f : Addr) (cdv : Value) (A : Around) (outer : List PySem.Env) (s : Shared) (H : Hp) (E : XK), Cok (cxOf (L2.CX P w) P w K mg base N x (defScope st) f cdv A outer s H E) (fun cls d _ H => E cls d H) k → ∀ ds : List D, ds.length = n →
      ∃ m, EL (cxOf (L2.CX P w) P w K mg base N x (defScope st) f cdv A outer s H E) (fun cls d _ H => E cls d H) none (slots0 N ds) es m ∧ F ds = (m >>= asInts)) :
    Cal P w K mg base (k + 1) x ps (spM K mg n F) := by
  obtain ⟨f, fd, FU, hm⟩ := FA.ex
  exact ⟨f, fd, fn_mk FU S hps hst (hb f), hm, FU.kp, FU.binds hbd⟩
theorem sv_new {X : Cx} {W : WX} {Γ : List Sl} {pos : Pos} {α : Type} {out : α → Out} {rest : List Stmt} (i : Nat) {F : List D → PM (List Int)} {x y : Str} {p p0 : Pos} {e : Expr} {es : List Expr} {ml : PM (List D)} {kk : PM α} {j : Nat} (C : Cok X W k) (FC : Cal X.prog X.w X.K X.mg X.base j x ps (spM X.K X.mg n F)) (ar : ∀ ds s, ds.length ≠ n → F ds s = .bad)
    (ha : EL X W none Γ (e :: es) ml) (hnp : ∀ a, match out a with | .fall Γ' => noPen Γ' = true | .ret _ => True | _ => False) (hr : ∀ q, SV X W (some q) (Γ.set i .pen) out rest kk)
    (hj : j ≤ k := by decide) (hg : Gl X x := by rfl) (hi : X.N[i]? = some y := by rfl) (hx : Loc X.env.scope y := by first | exact Or.inl rfl | exact Or.inr rfl) (hdb : (x == ("__debug__" : Str)) = false := by decide) (he : starEach (e :: es) X.env = (false, eval e X.env) :: starEach es X.env := by rfl) (hpl : (backTo pos (starEach es X.env)).any (·.1) = false := by rfl)
    {spos : Pos} (hs : swapsWith (.Call (.Name x p) (e :: es) [] pos) (some (.Name y p0)) spos.line X.env = pure false := by rfl) (hf : X.fn y = true ∨ X.env.scope.names.lookup y = some .local := by first | exact .inl rfl | exact .inr rfl) :
    SV X W none Γ out (.Assign [.Name y p0] (.Call (.Name x p) (e :: es) [] pos) spos :: rest) (ml >>= fun ds => run0 (F ds) >>= fun ns => withPen ns kk) := by
  obtain ⟨f, fd, h1, h2, h3, h4⟩ := FC.ex
  exact sv_penNew i C (h1.mono hj) ar hg h2 h3 h4 ha hr hnp hi hx hdb he hpl hs hf
end
def mfn1 (g : D → PM (List Int)) : List D → PM (List Int)
  | [a] => g a
  | _ => bad
theorem mar1 {g} : ∀ ds s, ds.length ≠ 1 → mfn1 g ds s = .bad := fun ds s h => by
  match ds, h with
  | [_], h => exact absurd rfl h
  | [], _ => rfl
  | _ :: _ :: _, _ => rfl
/-! what the head tells of a def -/
structure DefF (K : PySem.W.Frag) (x : Str) (st : Stmt) : Prop where
  ex : ∃ f fd, Fun K x x st f fd ∧ PySem.W.nsIn K mainGlobals x = some (some (.ref f))
theorem defF {K : PySem.W.Frag} {x : Str} {st : Stmt} {f : Addr} {oc : Value} {od an : Option Addr} {osl : Array (Option Value)} {kV doc pm cdv ct : Value} (a : PySem.W.nsIn K mainGlobals x = some (some (.ref f)))
    (l : K.lookup f = some ⟨oc, od, .func (PySem.W.fnOf x x (defArgs st) (defBody st) (defScope st) .none kV doc pm an cdv ct), osl⟩) (c : PySem.W.codeIn K cdv x = true) (k : PySem.W.keepIn K (.ref f) = true) : DefF K x st := ⟨f, _, fun_mk l c k, a⟩
theorem DefF.at {K : PySem.W.Frag} {x : Str} {st : Stmt} {h : Heap} {mg : Str → Option Value} (X : K.In h) (G : h.Ns mainGlobals mg) (d : DefF K x st) : FunAt K mg x st := by
  obtain ⟨f, fd, F, a⟩ := d.ex
  exact ⟨f, fd, F, PySem.W.mg_of X G a⟩
section
variable {X : Cx} {W : WX} {pa : Option Addr} {Γ : List Sl} {k : Nat} {pos : Pos} {α : Type} {out : α → Out} {rest : List Stmt}
theorem peekB (Γ' : List Sl) (i : Nat) {xs : List D} {e : Expr} {m : PM Bool} (h : Γ[i]? = some (.own xs)) (hG : Γ.set i (.val (.lst xs)) = Γ') (he : EB X W pa Γ' e m) : EB X W pa Γ e (noExc m) :=
  eb_peek i h (hG ▸ he)
theorem peekV (Γ' : List Sl) (i : Nat) {xs : List D} {e : Expr} {m : PM D} (h : Γ[i]? = some (.own xs)) (hG : Γ.set i (.val (.lst xs)) = Γ') (he : EV X W pa Γ' e m) : EV X W pa Γ e (noExc m >>= scalO) :=
  ev_peek i h (hG ▸ he)
theorem sv_ext (Γ' : List Sl) (i : Nat) {x : Str} {e : Expr} {xs : List D} {me : PM D} {kk : List D → PM α} {p1 apos cpos : Pos} (h : Γ[i]? = some (.own xs)) (hG : Γ.set i (.val (.lst xs)) = Γ') (he : EV X W pa Γ' e me) (hr : ∀ ys, SV X W pa (Γ.set i (.own (xs ++ ys))) out rest (kk ys))
    (hN : X.N[i]? = some x := by rfl) (hv : Vis X.env.scope x := by first | exact Or.inl rfl | exact Or.inr (Or.inl rfl) | exact Or.inr (Or.inr rfl)) (hd : (x == ("__debug__" : Str)) = false := by decide) (hcd : (x == ("__classdict__" : Str)) = false := by decide)
    (hbase : attributeBase (.Name x p1) "extend" X.env (eval (.Name x p1) X.env) = eval (.Name x p1) X.env := by rfl)
    (hfew : ((backTo cpos (starEach [e] X.env)).all (fun x => !x.1) && (backToKw cpos (keywordEach [] X.env)).all (fun x => x.1.isSome)
      && decide ([e].length + ([] : List Keyword).length + (if ([] : List Keyword).isEmpty then 0 else 1) < 30)) = true := by rfl)
    (hline : (apos.endLine == cpos.line) = true := by rfl) (hs : starEach [e] X.env = (false, eval e X.env) :: starEach [] X.env := by rfl) (hplain : (backTo cpos (starEach [] X.env)).any (·.1) = false := by rfl)
    (hsw : swapsWith (.Call (.Attribute (.Name x p1) "extend" apos) [e] [] cpos) none pos.line X.env = pure false := by rfl) :
    SV X W pa Γ out (.Expr (.Call (.Attribute (.Name x p1) "extend" apos) [e] [] cpos) pos :: rest) (noExc me >>= scalL >>= fun ys => okLen (xs ++ ys) >>= fun _ => kk ys) :=
  sv_extendP i h (hG ▸ he) hr hN hv hd hcd hbase hfew hline hs hplain hsw
end
end EV

/-! EV 13: set(list) of ints. -/
namespace L2
open PySem PySem.Spec PyProof.Rows
abbrev nset (w : World) : Obj := { cls := .type "set", dict := none, data := .set #[] 0 (.fresh 0 0 (!w.params.followText "set-order")) }
section
variable {P : Program} {w : World} {A : Around} {E : Value → Shared → Prop} {s : Shared}
set_option maxHeartbeats 3000000 in
theorem call_set_lsI {l : Addr} {items0 : Array Value} (ns0 : List Int) {Q : Value → Shared → Prop} (hh0 : A.handled = none) (hl0 : s.heap.IsList l items0) (hit0 : IntsAre items0.toList ns0) (hb0 : ns0.length + 1 < scanBound)
    (h0 : ∀ (h' : Heap) (tk y62 : Nat), SetR w h' s.heap.objs.size (fun j => decide (j ∈ ns0)) y62 → y62 ≤ ns0.length → (∀ y54 y55, s.heap.get? y54 = some y55 → h'.get? y54 = some y55) → Q (.ref s.heap.objs.size) { s with heap := h', toks := tk }) :
    wpAny (model P w) A (call (.type "set") [Value.ref l]) Q E s := by
  have y5 : items0.size = ns0.length := by
    have y6 := IntsAre.length hit0
    rw [Array.length_toList] at y6
    exact y6
  obtain ⟨y62, y63, y7⟩ := F.called_set.mro
  have y8 := F.called_set.made
  have y9 := F.called_set.sub
  refine wpAny_call (codeAny_of_tree (show wpAny _ _ (callAny (.type "set") _) _ _ _ from ?_))
  refine wpAny_pure (And.intro (Code.quiet_builtin _ (by decide +kernel)) (codeAny_builtin F.entry_type_call ?_))
  rw [Around.under_plain (weight_type_call_type "set" [Value.ref l] []) rfl]
  have y10 := F.called_set.notType
  have y11 := F.called_set.canCreate
  have y12 := F.typeCall_set_1 (.ref l)
  repeat (any_goals first | assumption | wp_step)

  refine codeAny_mono (code_set_led1 (.ref l) (E := E) (Q₁ := fun y69 y64 => y69 = .ref s.heap.objs.size ∧ y64 = { s with heap := s.heap.push (nset w) }) ⟨rfl, rfl⟩) fun y70 y64 y13 => ?_
  cases y70 with
  | error y61 => exact y13
  | ok y68 =>
    cases y68 with
    | ret y69 =>
      obtain ⟨rfl, rfl⟩ := y13
      have y14 : (s.heap.push (nset w)).get? s.heap.objs.size = some (nset w) := Heap.get?_push_size _ rfl
      have y15 : Shared.TypeIs { s with heap := s.heap.push (nset w) } (.ref s.heap.objs.size) "set" := ⟨_, y14, rfl⟩
      have y16 := F.called_set.init.lookup
      have y17 := F.called_set.init.bind (.ref s.heap.objs.size)
      repeat (any_goals first | assumption | wp_step)

      refine codeAny_mono (codeAny_call_builtin (R := wants (fun y70 y65 => y70 = .none ∧ ∃ h' tk y62, y65 = { s with heap := h', toks := tk } ∧ SetR w h' s.heap.objs.size (fun j => decide (j ∈ ns0)) y62 ∧ y62 ≤ ns0.length ∧
          (∀ y54 y55, s.heap.get? y54 = some y55 → h'.get? y54 = some y55)) E) F.called_set.init.plain F.entry_set_init (check_set_init_1 y15 ?_)) fun y66 y65 y18 => ?_
      · obtain ⟨y19, y20, y21, y22, y23⟩ := hl0
        obtain ⟨y24, y25, y26, y27⟩ := y19
        simp only at y21 y23
        subst y21; subst y23
        have y28 : (s.heap.push (nset w)).get? l = some { cls := .type "list", dict := y25, data := .seq items0 y22, slots := y27 } := Heap.get?_push_of_some _ y20
        have y29 := F.sub_list_set
        have y30 := F.sub_list_frozenset
        have y31 : (Value.type "list" == Value.type "dict") = false := by decide
        have y32 : (s.heap.push (nset w)).IsList l items0 := ⟨_, y28, rfl, y22, rfl⟩
        unfold Builtin.«set.__init__» Builtin.Frozenset.updateFrom noKeywords
        generalize y34 : pyIter = y33
        wp_walk
        subst y34

        refine wpAny_pyIter_list y32 ?_
        refine wpAny_bind (wpAny_runValue (?_ : _))
        have y35 : l < s.heap.objs.size := Heap.lt_size y20
        have y36 : A.in1.in1.in1.handled = none := by simp [hh0]
        have y37 : (s.heap.push (nset w)).objs.size = s.heap.objs.size + 1 := Heap.size_push ..
        have y38 : l ≠ (s.heap.push (nset w)).objs.size := by
          rw [Heap.size_push]; exact Nat.ne_of_lt (Nat.lt_succ_of_lt y35)
        have y39 : s.heap.objs.size ∉ [(s.heap.push (nset w)).objs.size, l] := by
          simp only [Heap.size_push, List.mem_cons, List.mem_singleton, List.not_mem_nil, or_false, not_or]
          exact ⟨Nat.ne_of_lt (Nat.lt_succ_self _), Nat.ne_of_gt y35⟩
        have y40 : ∀ (i : Nat) (v : Value), items0[i]? = some v → ∃ k t, ns0[i]? = some k ∧ v = .int k t := fun i v y41 => by
          have y42 : i < ns0.length := by rw [← y5]; exact (Array.getElem?_eq_some_iff.mp y41).1
          obtain ⟨t, y61⟩ := PyProof.Rows.IntsAre.int_at hit0 i v (by rw [Array.getElem?_toList]; exact y41)
          refine ⟨ns0[i], t, List.getElem?_eq_getElem y42, ?_⟩
          rw [y61, List.getD_eq_getElem?_getD, List.getElem?_eq_getElem y42] <;> rfl
        refine set_update_ints ((Walks.list y36 _ l y38 items0).toS) s.heap.objs.size
          y39 ns0 y5 hb0 y40 (items0.size - 0) 0 _ (by omega) (Nat.zero_le _)
          ⟨⟨_, Heap.get?_push_size _ rfl, rfl, rfl⟩, (y32.push _)⟩ ?hS0 ?hR
        case hS0 =>
          have y43 : ((s.heap.push (nset w)).push { cls := .type "list_iterator", data := .fields #[.ref l, .int 0 0] }).get? s.heap.objs.size
              = some (nset w) := Heap.get?_push_of_some _ y14
          exact ⟨0, Nat.le_refl 0, setR_new_at y43⟩
        case hR =>
          intro y73 y60 y44 y46 y45
          obtain ⟨h', y47, y48, y49, y50⟩ := y73
          have y51 : y47 = s.gens := y44.gens
          have y52 : y48 = s.drawn := y44.drawn
          have y53 : y50 = s.os := y44.os
          subst y51; subst y52; subst y53
          show wpAny _ _ _ _ _ _
          refine wpAny_pure ?_
          show wpAny _ _ (ret (.none : Value)) _ _ _
          rw [y5] at y46
          refine wpAny_pure ⟨rfl, h', y49, y60, rfl, y45, y46, fun y54 y55 y61 => ?_⟩
          have y56 : y54 < s.heap.objs.size := Heap.lt_size y61
          have y57 : y54 ≠ s.heap.objs.size := Nat.ne_of_lt y56
          have y58 : y54 ≠ (s.heap.push (nset w)).objs.size := by
            rw [Heap.size_push]; exact Nat.ne_of_lt (Nat.lt_succ_of_lt y56)
          exact y44.heap y54 y55 (by simp only [List.mem_cons, List.mem_singleton, List.not_mem_nil, or_false, not_or]; exact ⟨y57, y58⟩) (Heap.get?_push_of_some _ (Heap.get?_push_of_some _ y61))

      · cases y66 with
        | error y61 => exact y18
        | ok y67 =>
          cases y67 with
          | ret y70 =>
            obtain ⟨rfl, h', tk, y60, rfl, y45, y46, y59⟩ := y18
            repeat (any_goals first | assumption | wp_step)
            exact h0 _ _ _ y45 y46 y59
          | _ => exact y18.elim
    | _ => exact y13.elim

end
end L2

/-! EV 14: sorted(set(e)) of ints. -/
namespace EV
open PySem PySem.Spec PyProof.Rows L2
def putI (x : Int) : List Int → List Int
  | [] => [x]
  | y :: r => if x < y then x :: y :: r else if x = y then y :: r else y :: putI x r
def setI : List Int → List Int
  | [] => []
  | x :: r => putI x (setI r)
theorem mem_putI {x k : Int} : ∀ {l : List Int}, k ∈ putI x l ↔ k = x ∨ k ∈ l
  | [] => by simp [putI]
  | y :: r => by
    unfold putI
    split
    · simp
    · split
      · rename_i h
        subst h
        simp
      · rw [List.mem_cons, mem_putI (l := r), List.mem_cons]
        constructor
        · rintro (h | h | h)
          · exact .inr (.inl h)
          · exact .inl h
          · exact .inr (.inr h)
        · rintro (h | h | h)
          · exact .inr (.inl h)
          · exact .inl h
          · exact .inr (.inr h)
theorem mem_setI {k : Int} : ∀ {l : List Int}, k ∈ setI l ↔ k ∈ l
  | [] => .rfl
  | x :: r => by
    unfold setI
    rw [mem_putI, mem_setI (l := r), List.mem_cons]
theorem putI_asc {x : Int} : ∀ {l : List Int}, l.Pairwise (· < ·) → (putI x l).Pairwise (· < ·)
  | [], _ => by simp [putI]
  | y :: r, h => by
    have q := List.pairwise_cons.mp h
    unfold putI
    split
    · rename_i h1
      refine List.pairwise_cons.mpr ⟨fun z hz => ?_, h⟩
      rcases List.mem_cons.mp hz with rfl | hz
      · exact h1
      · exact Int.lt_trans h1 (q.1 z hz)
    · split
      · exact h
      · refine List.pairwise_cons.mpr ⟨fun z hz => ?_, putI_asc q.2⟩
        rcases mem_putI.mp hz with rfl | hz
        · omega
        · exact q.1 z hz
theorem setI_asc : ∀ (l : List Int), (setI l).Pairwise (· < ·)
  | [] => .nil
  | x :: r => putI_asc (setI_asc r)
theorem asc_eq : ∀ {l r : List Int}, l.Pairwise (· < ·) → r.Pairwise (· < ·) → (∀ k, k ∈ l ↔ k ∈ r) → l = r
  | [], [], _, _, _ => rfl
  | [], y :: r, _, _, h => absurd ((h y).mpr List.mem_cons_self) (by simp)
  | x :: l, [], _, _, h => absurd ((h x).mp List.mem_cons_self) (by simp)
  | x :: l, y :: r, hl, hr, h => by
    have p := List.pairwise_cons.mp hl
    have q := List.pairwise_cons.mp hr
    have e : x = y := by
      rcases List.mem_cons.mp ((h x).mp List.mem_cons_self) with e | m
      · exact e
      · rcases List.mem_cons.mp ((h y).mpr List.mem_cons_self) with e | m'
        · exact e.symm
        · have h1 := q.1 x m
          have h2 := p.1 y m'
          omega
    subst e
    rw [asc_eq p.2 q.2 fun k => ?_]
    constructor
    · intro m
      rcases List.mem_cons.mp ((h k).mp (List.mem_cons_of_mem _ m)) with e | m'
      · have := p.1 k m
        omega
      · exact m'
    · intro m
      rcases List.mem_cons.mp ((h k).mpr (List.mem_cons_of_mem _ m)) with e | m'
      · have := q.1 k m
        omega
      · exact m'
section
variable {X : Cx} {W : WX} {pa : Option Addr} {Γ : List Sl} {k : Nat} {pos : Pos}
def tSetI (K : PySem.W.Frag) (ta : TE) : TE := fun σ H Q => ta σ H fun x H1 => ∃ (l : Addr) (ns : List Int), x = V.ref l ∧ (SqL K H1 l (ns.map V.int) ∨ SqT K H1 l (ns.map V.int)) ∧ (ns.length < 1000 ∧ (setI ns).length < 64) ∧ ∀ p, H1 p = none → Q (.ref p) (upd H1 p (.lst ((setI ns).map V.int)))
/-- as many as there are different ones -/
theorem setR_count {w : World} {h : Heap} {a : Addr} {ns : List Int} {c : Nat} (R : SetR w h a (fun j => decide (j ∈ ns)) c) : c = (setI ns).length := by
  obtain ⟨o, es, ep, t, _, _, _, _, nd, hm, _, _, hn, _, _⟩ := R
  have p : (es.toList.map keyOf).Perm (setI ns) := (List.perm_ext_iff_of_nodup nd ((setI_asc ns).imp fun h => by omega)).mpr fun k => by
    rw [← hm k, decide_eq_true_eq, mem_setI]
  have l := p.length_eq
  rw [List.length_map, Array.length_toList] at l
  omega
theorem sorted_setR {pins : List (Addr × Obj)} {σ : L2.St} {H : Hp} {s : Shared} {a : Addr} {S : Int → Bool} {n : Nat} {Q : VK} (I : Inv X pins σ H s) (hc : X.calm = true) (R : SetR X.w s.heap a S n) (h64 : n < 64)
    (q : ∀ (ns : List Int) (p : Addr), ns.Pairwise (· < ·) → (∀ k : Int, k ∈ ns ↔ S k = true) → ns.length = n → H p = none → Q (.ref p) (upd H p (.lst (ns.map V.int)))) :
    wpAny (model X.prog X.w) X.A (PySem.call (.builtin "sorted") [Value.ref a]) (EP X pins σ Q) X.xe s := by
  refine sorted_set R (I.ok.hd hc) h64 fun t p out c ns k g o hp hgt hi hs hm hl => ?_
  have hz : (ns.map V.int).length ≤ sizeLine := by
    rw [List.length_map, hl, sizeLine_eq]
    omega
  have hn : H p = none := I.hok.fresh hp
  have J : Inv X pins σ (upd H p (.lst (ns.map V.int))) { s with heap := t.heap, gens := t.gens, drawn := t.drawn, toks := t.toks } :=
    I.call (ch := []) (Un.laid k hp hn) (I.hok.laid k hp ⟨hz, out.toList, c, vals_of_ints hi, hgt⟩) (by rw [g]; exact I.bare) (fun _ z => nomatch z)
  have e : t = { s with heap := t.heap, gens := t.gens, drawn := t.drawn, toks := t.toks } := by
    cases t
    cases s
    cases o
    rfl
  rw [e]
  exact ⟨.ref p, _, J, rfl, q ns p hs hm hl hn⟩
theorem pe_setI {a : Expr} {ta : TE} {p p2 q pos : Pos} (hc : X.calm = true) (hg : Gl X "sorted") (hm : X.mg "sorted" = none) (hg2 : Gl X "set") (hm2 : X.mg "set" = none) (ha : PE X a ta)
    (na : starEach [a] X.env = (false, eval a X.env) :: starEach [] X.env := by rfl) : PE X (.Call (.Name "sorted" p) [.Call (.Name "set" p2) [a] [] q] [] pos) (tSetI X.K ta) := by
  refine ⟨fun pins s σ H Q I h => ?_⟩
  refine Call_ (ld_blt I hg hm (by decide +kernel : bootBuiltins ("sorted" : Str) = some (.builtin "sorted")) ?_)
  refine callWith_builtin1 (args_cons ?_ rfl) rfl rfl
  refine Call_ (ld_blt I hg2 hm2 boot_set ?_)
  refine callWith_type1 (args_cons (thn (ha.run pins s σ H _ I h) fun v s1 ⟨x, H1, I1, r1, q1⟩ => args_nil ?_) na) na rfl
  obtain ⟨l, ns, rfl, hq, ⟨h63, h64⟩, q1⟩ := q1
  cases r1
  have go : ∀ (h' : Heap) (tk c : Nat), SetR X.w h' s1.heap.objs.size (fun j => decide (j ∈ ns)) c → c ≤ ns.length → (∀ b o, s1.heap.get? b = some o → h'.get? b = some o) →
      wpAny (model X.prog X.w) X.A (PySem.call (.builtin "sorted") [Value.ref s1.heap.objs.size]) (EP X pins σ Q) X.xe { s1 with heap := h', toks := tk } := fun h' tk c R hc' k =>
    sorted_setR (I1.kept fun b o e => k b o e) hc R (by rw [setR_count R]; exact h64) fun ms p hs hm3 hl hn => by
      have e1 : ms = setI ns := asc_eq hs (setI_asc ns) fun j => by rw [hm3 j, decide_eq_true_eq, mem_setI]
      rw [e1]
      exact q1 p hn
  rcases hq with hq | hq
  · obtain ⟨its, r, pl, hz⟩ := I1.list hq
    exact call_set_lsI ns (I.ok.hd hc) pl.isList (by simpa using r.ints) (by unfold scanBound; omega) fun h' tk c R hc' k => args_nil (go h' tk c R hc' k)
  · obtain ⟨its, r, hT, hz⟩ := I1.tuple hq
    exact call_set_tupI ns (I.ok.hd hc) hT (by simpa using r.ints) (by unfold scanBound; omega) fun h' tk c R hc' k => args_nil (go h' tk c R hc' k)
/-- sorted(set(..)) -/
def sortSetD : D → PM D
  | .lst xs | .tup xs => match intsOf xs with
    | some ns => if ns.length < 1000 ∧ (setI ns).length < 64 then mkL ((setI ns).map D.int) else bad
    | none => bad
  | _ => bad
theorem ev_setI {a : Expr} {m : PM D} {p p2 q pos : Pos} (hc : X.calm = true) (hg : Gl X "sorted") (hm : X.mg "sorted" = none) (hg2 : Gl X "set") (hm2 : X.mg "set" = none) (ha : EV X W pa Γ a m)
    (na : starEach [a] X.env = (false, eval a X.env) :: starEach [] X.env := by rfl) : EV X W pa Γ (.Call (.Name "sorted" p) [.Call (.Name "set" p2) [a] [] q] [] pos) (m >>= sortSetD) :=
  pe_imp (pe_setI hc hg hm hg2 hm2 ha na) fun σ H Q ⟨G0, H0, G, s, E, P⟩ => ⟨G0, H0, G, s, E, P.bind.imp fun G1 H1 d s1 x1 p1 P1 v r => by
    have main : ∀ (l : Addr) (xs : List V) (ds : List D), RpL X.K G1 xs ds → (SqL X.K H1 l xs ∨ SqT X.K H1 l xs) → v = V.ref l →
        Pst X.K W X.mg pa σ (FD X.K Q) G1 H1 ((match intsOf ds with | some ns => if ns.length < 1000 ∧ (setI ns).length < 64 then mkL ((setI ns).map D.int) else bad | none => bad : PM D) s1) →
        ∃ (l : Addr) (ns : List Int), v = V.ref l ∧ (SqL X.K H1 l (ns.map V.int) ∨ SqT X.K H1 l (ns.map V.int)) ∧ (ns.length < 1000 ∧ (setI ns).length < 64) ∧ ∀ p, H1 p = none → Q (.ref p) (upd H1 p (.lst ((setI ns).map V.int))) := by
      intro l xs ds rr hq ev P2
      cases e : intsOf ds with
      | none => rw [e] at P2; exact P2.elim
      | some bs =>
        rw [e] at P2
        by_cases hb : bs.length < 1000 ∧ (setI bs).length < 64
        · have P2 : Pst X.K W X.mg pa σ (FD X.K Q) G1 H1 ((if bs.length < 1000 ∧ (setI bs).length < 64 then mkL ((setI bs).map D.int) else bad : PM D) s1) := P2
          rw [if_pos hb] at P2
          rw [intsOf_rp rr e] at hq
          exact ⟨l, bs, ev, hq, hb, fun p np => mkL_use P2 (rpl_ints _) x1.sub p1 np⟩
        · have P2 : Pst X.K W X.mg pa σ (FD X.K Q) G1 H1 ((if bs.length < 1000 ∧ (setI bs).length < 64 then mkL ((setI bs).map D.int) else bad : PM D) s1) := P2
          rw [if_neg hb] at P2
          exact P2.elim
    cases r with
    | @lst a vs es h n r => exact main a vs es ⟨n, r⟩ (.inl (SqL.of (x1.sub _ _ h))) rfl P1
    | @tup a vs es h n r => exact main a vs es ⟨n, r⟩ (.inr (sameT x1.sub h)) rfl P1
    | non => exact P1.elim
    | bl _ => exact P1.elim
    | int _ => exact P1.elim
    | str _ => exact P1.elim
    | dct _ _ _ _ => exact P1.elim
    | obj _ _ _ _ => exact P1.elim⟩
end
theorem cstI {K : PySem.W.Frag} {x : Str} {h : Heap} {mg : Str → Option Value} {i : Int} {t : Tok} (X : K.In h) (G : h.Ns mainGlobals mg) (a : PySem.W.nsIn K mainGlobals x = some (some (.int i t))) : ∃ t, mg x = some (.int i t) := ⟨t, PySem.W.mg_of X G a⟩
theorem cstS {K : PySem.W.Frag} {x : Str} {h : Heap} {mg : Str → Option Value} {i : Str} {t : Tok} (X : K.In h) (G : h.Ns mainGlobals mg) (a : PySem.W.nsIn K mainGlobals x = some (some (.str i t))) : ∃ t, mg x = some (.str i t) := ⟨t, PySem.W.mg_of X G a⟩
end EV

/-! EV 15: several targets, some of them lists of one's own; range as a list. -/
namespace EV
open PySem PySem.Spec PyProof.Rows L2

/-! ### tuple(range(..)), list(range(..)) -/
section
variable {X : Cx} {W : WX} {pa : Option Addr} {Γ : List Sl} {k : Nat} {pos : Pos}
theorem rgV_rp {K : PySem.W.Frag} {G : Hp} (a b : Int) : RpL K G (rgV a b) (rangeL a (b - a).toNat) := by
  refine ⟨by rw [rgV_length]; simp [rangeL], fun i v d h1 h2 => ?_⟩
  unfold rgV at h1
  unfold rangeL at h2
  rw [List.getElem?_map] at h1 h2
  cases e : (List.range (b - a).toNat)[i]? with
  | none => rw [e] at h1; cases h1
  | some j =>
    rw [e] at h1 h2
    cases h1
    cases h2
    exact .int _
def rgD (a b : Int) : PM (List D) := if -(2 ^ 62) ≤ a ∧ a < 2 ^ 62 ∧ -(2 ^ 62) ≤ b ∧ b < 2 ^ 62 ∧ (b - a).toNat ≤ lim then pure (rangeL a (b - a).toNat) else bad
def rg1 : D → PM (List D)
  | .int n => rgD 0 n
  | _ => bad
def rg2 : D → D → PM (List D)
  | .int a, .int b => rgD a b
  | _, _ => bad
theorem rg_use {K : PySem.W.Frag} {mg : Str → Option Value} {σ : L2.St} {F : Hp → Hp → D → List Int → Prop} {G H : Hp} {a b : Int} {f : List D → PM D} {s : List Int} (P : Pst K W mg pa σ F G H ((rgD a b >>= f) s)) : RgOk a b ∧ Pst K W mg pa σ F G H (f (rangeL a (b - a).toNat) s) := by
  unfold rgD at P
  by_cases h : -(2 ^ 62) ≤ a ∧ a < 2 ^ 62 ∧ -(2 ^ 62) ≤ b ∧ b < 2 ^ 62 ∧ (b - a).toNat ≤ lim
  · rw [if_pos h] at P
    obtain ⟨h1, h2, h3, h4, h5⟩ := h
    exact ⟨⟨h1, h2, h3, h4, Nat.le_trans h5 (by decide)⟩, P⟩
  · rw [if_neg h] at P
    exact P.elim
theorem ev_tupRg1 {a : Expr} {m : PM D} {p p2 pos2 : Pos} (C : Cok X W k) (hg : Gl X "tuple") (hm : X.mg "tuple" = none) (hg2 : Gl X "range") (hm2 : X.mg "range" = none) (h : EV X W pa Γ a m)
    (na : starEach [a] X.env = (false, eval a X.env) :: starEach [] X.env := by rfl) (na2 : starEach [.Call (.Name "range" p2) [a] [] pos2] X.env = (false, eval (.Call (.Name "range" p2) [a] [] pos2) X.env) :: starEach [] X.env := by rfl) :
    EV X W pa Γ (.Call (.Name "tuple" p) [.Call (.Name "range" p2) [a] [] pos2] [] pos) (m >>= fun d => rg1 d >>= mkT) :=
  pe_imp (pe_tupRg C.calm hg hm (prg_1 hg2 hm2 h na) na2) fun σ H Q ⟨G0, H0, G, s, E, P⟩ => ⟨G0, H0, G, s, E, P.bind.imp fun G1 H1 d s1 x1 p1 P1 v r => by
    cases r with
    | int n =>
      obtain ⟨h1, P2⟩ := rg_use (P1 : Pst X.K W X.mg pa σ (FD X.K Q) G1 H1 ((rgD 0 n >>= mkT) s1))
      exact ⟨n, rfl, h1, fun q nq => mkT_use P2 (rgV_rp 0 n) x1.sub p1 nq⟩
    | _ => exact P1.elim⟩
theorem ev_lstRg1 {a : Expr} {m : PM D} {p p2 pos2 : Pos} (C : Cok X W k) (hg : Gl X "list") (hm : X.mg "list" = none) (hg2 : Gl X "range") (hm2 : X.mg "range" = none) (h : EV X W pa Γ a m)
    (na : starEach [a] X.env = (false, eval a X.env) :: starEach [] X.env := by rfl) (na2 : starEach [.Call (.Name "range" p2) [a] [] pos2] X.env = (false, eval (.Call (.Name "range" p2) [a] [] pos2) X.env) :: starEach [] X.env := by rfl) :
    EV X W pa Γ (.Call (.Name "list" p) [.Call (.Name "range" p2) [a] [] pos2] [] pos) (m >>= fun d => rg1 d >>= mkL) :=
  pe_imp (pe_listRg C.calm hg hm (prg_1 hg2 hm2 h na) na2) fun σ H Q ⟨G0, H0, G, s, E, P⟩ => ⟨G0, H0, G, s, E, P.bind.imp fun G1 H1 d s1 x1 p1 P1 v r => by
    cases r with
    | int n =>
      obtain ⟨h1, P2⟩ := rg_use (P1 : Pst X.K W X.mg pa σ (FD X.K Q) G1 H1 ((rgD 0 n >>= mkL) s1))
      exact ⟨n, rfl, h1, fun q nq => mkL_use P2 (rgV_rp 0 n) x1.sub p1 nq⟩
    | _ => exact P1.elim⟩
end

/-! ### several values, some of them fresh lists -/
inductive Mv where
  | v (d : D) | o (xs : List D)
def mvS : Mv → Sl
  | .v d => .val d
  | .o xs => .own xs
/-- no list of one's own among these is p -/
def NoOwn (p : Addr) : List V → List Mv → Prop
  | v :: vs, .o _ :: ms => v ≠ .ref p ∧ NoOwn p vs ms
  | _ :: vs, .v _ :: ms => NoOwn p vs ms
  | _, _ => True
def MR (K : PySem.W.Frag) (pa : Option Addr) (G H Hb : Hp) : List V → List Mv → Prop
  | [], [] => True
  | v :: vs, .v d :: ms => Rp K G v d ∧ MR K pa G H Hb vs ms
  | v :: vs, .o xs :: ms => (∃ p ws, v = .ref p ∧ Hb p = none ∧ H p = some (.lst ws) ∧ G p = none ∧ RpL K G ws xs ∧ pa ≠ some p ∧ NoOwn p vs ms) ∧ MR K pa G H Hb vs ms
  | _, _ => False
theorem MR.base {K : PySem.W.Frag} {pa : Option Addr} {G H Hb Hb' : Hp} (i : ∀ p, Hb p = none → Hb' p = none) : ∀ {vs : List V} {ms : List Mv}, MR K pa G H Hb vs ms → MR K pa G H Hb' vs ms
  | [], [], h => h
  | _ :: _, .v _ :: _, h => ⟨h.1, MR.base i h.2⟩
  | _ :: _, .o _ :: _, h => by
    obtain ⟨⟨p, ws, h1, h2, h3⟩, h4⟩ := h
    exact ⟨⟨p, ws, h1, i p h2, h3⟩, MR.base i h4⟩
  | [], .v _ :: _, h => h.elim
  | [], .o _ :: _, h => h.elim
  | _ :: _, [], h => h.elim
theorem MR.noOwn {K : PySem.W.Frag} {pa : Option Addr} {G H Hb : Hp} {p : Addr} {o : HO} (e : Hb p = some o) : ∀ {vs : List V} {ms : List Mv}, MR K pa G H Hb vs ms → NoOwn p vs ms
  | [], [], h => trivial
  | _ :: vs, .v _ :: ms, h => by
    have z : NoOwn p vs ms := MR.noOwn (K := K) (pa := pa) (G := G) (H := H) e h.2
    exact z
  | _ :: _, .o _ :: _, h => by
    obtain ⟨⟨q, ws, h1, h2, h3⟩, h4⟩ := h
    refine ⟨fun z => ?_, MR.noOwn (K := K) (pa := pa) (G := G) (H := H) e h4⟩
    rw [h1] at z
    injection z with z
    rw [z, e] at h2
    cases h2
  | [], .v _ :: _, h => h.elim
  | [], .o _ :: _, h => h.elim
  | _ :: _, [], h => h.elim
section
variable {X : Cx} {W : WX} {pa : Option Addr} {Γ : List Sl} {k : Nat} {pos : Pos}
def FM (K : PySem.W.Frag) (pa : Option Addr) (Hb : Hp) (Q : List V → Hp → Prop) : Hp → Hp → List Mv → List Int → Prop := fun G' H' ms _ => ∀ vs, MR K pa G' H' Hb vs ms → Q vs H'
def evM (X : Cx) (W : WX) (pa : Option Addr) (Γ : List Sl) (m : PM (List Mv)) : TA := fun σ H Q => ∃ G0 H0 G s, Nv X.K pa G0 H0 G H σ Γ s ∧ Pst X.K W X.mg pa σ (FM X.K pa H Q) G H (m s)
abbrev EM (X : Cx) (W : WX) (pa : Option Addr) (Γ : List Sl) (es : List Expr) (m : PM (List Mv)) : Prop := PA X es (evM X W pa Γ m)
theorem em_nil : EM X W pa Γ [] (pure []) := pa_imp pa_nil fun σ H Q ⟨G0, H0, G, s, E, P⟩ => P.now E.sub E.ps [] trivial
theorem ext_free {K : PySem.W.Frag} {G H G' H' : Hp} (x : Ext K pa G H G' H') {p : Addr} (h : H' p = none) : H p = none := by
  cases e : H p with
  | none => rfl
  | some o =>
    obtain ⟨o', e'⟩ := x.t p o e
    rw [h] at e'
    cases e'
theorem em_v {e : Expr} {es : List Expr} {m : PM D} {ml : PM (List Mv)} (h : EV X W pa Γ e m) (t : EM X W pa Γ es ml) (hs : starEach (e :: es) X.env = (false, eval e X.env) :: starEach es X.env := by rfl) :
    EM X W pa Γ (e :: es) (m >>= fun d => ml >>= fun ds => pure (.v d :: ds)) := pa_imp (pa_cons h t hs) fun σ H Q ⟨G0, H0, G, s, E, P⟩ =>
  ⟨G0, H0, G, s, E, P.bind.imp fun G1 H1 a s1 x1 p1 P1 v r => ⟨G0, H0, G1, s1, E.step x1 p1, P1.bind.imp fun G2 H2 as s2 x2 p2 P2 vs rs => P2.now x2.sub p2 (v :: vs) ⟨r.mono x2.g, rs.base fun p h => ext_free x1 h⟩⟩⟩
theorem em_o {e : Expr} {es : List Expr} {m : PM (List D)} {ml : PM (List Mv)} (h : EO' X W pa Γ e m) (t : EM X W pa Γ es ml) (hs : starEach (e :: es) X.env = (false, eval e X.env) :: starEach es X.env := by rfl) :
    EM X W pa Γ (e :: es) (m >>= fun d => ml >>= fun ds => pure (.o d :: ds)) := pa_imp (pa_cons h t hs) fun σ H Q ⟨G0, H0, G, s, E, P⟩ =>
  ⟨G0, H0, G, s, E, P.bind.imp fun G1 H1 a s1 x1 p1 P1 p ws hb hp hg r => ⟨G0, H0, G1, s1, E.step x1 p1, P1.bind.imp fun G2 H2 as s2 x2 p2 P2 vs rs => by
    have hpa : pa ≠ some p := fun e => by
      have z := (E.ps p e).2
      rw [hb] at z
      cases z
    exact P2.now x2.sub p2 (.ref p :: vs) ⟨⟨p, ws, rfl, hb, x2.h _ _ hp hpa, x2.n _ _ hp hg, r.mono x2.g, hpa, rs.noOwn hp⟩, rs.base fun p h => ext_free x1 h⟩⟩⟩
end

/-! stores -/
section
variable {K : PySem.W.Frag} {pa : Option Addr} {G0 H0 G H : Hp} {σ : L2.St} {Γ : List Sl} {s : List Int}
def FreshIn (Γ : List Sl) (σ : L2.St) (p : Addr) : Prop := ∀ (j : Nat) ys, Γ[j]? = some (.own ys) → σ[j]? ≠ some (some (.ref p))
theorem Nv.freshIn (E : Nv K pa G0 H0 G H σ Γ s) {p : Addr} (h : H p = none) : FreshIn Γ σ p := fun j ys e q => by
  obtain ⟨p', vs', q1, q2, _⟩ := E.own j ys e
  rw [q] at q1
  cases q1
  rw [h] at q2
  cases q2
theorem FreshIn.set {p : Addr} (f : FreshIn Γ σ p) (i : Nat) {v : V} {m : Mv} (h : ∀ xs, m = .o xs → v ≠ .ref p) : FreshIn (Γ.set i (mvS m)) (σ.set i (some v)) p := fun j ys e q => by
  by_cases hj : i = j
  · subst hj
    have hi : i < Γ.length := by
      have := (List.getElem?_eq_some_iff.mp e).1
      simpa using this
    rw [List.getElem?_set_self hi] at e
    have hi2 : i < σ.length := by
      have := (List.getElem?_eq_some_iff.mp q).1
      simpa using this
    rw [List.getElem?_set_self hi2] at q
    cases m with
    | v d => cases e
    | o xs =>
      have := h xs rfl
      injection q with q
      injection q with q
      exact this q
  · rw [List.getElem?_set_ne hj] at e q
    exact f j ys e q
/-- one of them is stored -/
theorem Nv.setM (E : Nv K pa G0 H0 G H σ Γ s) {Hb : Hp} {v : V} {m : Mv} {vs : List V} {ms : List Mv} (i : Nat) (r : MR K pa G H Hb (v :: vs) (m :: ms)) (h0 : ∀ p, Hb p = none → H0 p = none) (f : ∀ p, v = .ref p → Hb p = none → FreshIn Γ σ p) :
    Nv K pa G0 H0 G H (σ.set i (some v)) (Γ.set i (mvS m)) s := by
  cases m with
  | v d => exact E.set i r.1
  | o xs =>
    obtain ⟨⟨p, ws, rfl, h1, h2, h3, h4, h5, h6⟩, _⟩ := r
    exact E.setOwn i h2 h3 h4 (h0 p h1) h5 fun j ys _ e => f p rfl h1 j ys e
theorem MR.tail {Hb : Hp} {v : V} {m : Mv} {vs : List V} {ms : List Mv} (r : MR K pa G H Hb (v :: vs) (m :: ms)) : MR K pa G H Hb vs ms := by
  cases m with
  | v d => exact r.2
  | o xs => exact r.2
theorem mr_one {Hb : Hp} {vs : List V} {m : Mv} (r : MR K pa G H Hb vs [m]) : ∃ v, vs = [v] := by
  match vs, r with
  | [v], _ => exact ⟨v, rfl⟩
  | [], r => cases m <;> exact r.elim
  | _ :: _ :: _, r => cases m <;> exact r.2.elim
theorem mr_two {Hb : Hp} {vs : List V} {m n : Mv} (r : MR K pa G H Hb vs [m, n]) : ∃ v w, vs = [v, w] := by
  match vs, r with
  | v :: vs, r =>
    obtain ⟨w, rfl⟩ := mr_one r.tail
    exact ⟨v, w, rfl⟩
  | [], r => cases m <;> exact r.elim
theorem mr_three {Hb : Hp} {vs : List V} {m n o : Mv} (r : MR K pa G H Hb vs [m, n, o]) : ∃ v w x, vs = [v, w, x] := by
  match vs, r with
  | v :: vs, r =>
    obtain ⟨w, x, rfl⟩ := mr_two r.tail
    exact ⟨v, w, x, rfl⟩
  | [], r => cases m <;> exact r.elim
theorem mr_ne {Hb : Hp} {v : V} {m : Mv} {vs : List V} {ms : List Mv} (r : MR K pa G H Hb (v :: vs) (m :: ms)) {p : Addr} (hp : NoOwn p (v :: vs) (m :: ms)) : ∀ xs, m = .o xs → v ≠ .ref p := fun xs e => by
  subst e
  exact hp.1
theorem noOwn_tail {p : Addr} {v : V} {m : Mv} {vs : List V} {ms : List Mv} (h : NoOwn p (v :: vs) (m :: ms)) : NoOwn p vs ms := by
  cases m with
  | v d => exact h
  | o xs => exact h.2
/-- a later one is not an earlier one -/
theorem mr_apart {Hb : Hp} {v w : V} {m n : Mv} {vs : List V} {ms : List Mv} (r : MR K pa G H Hb (v :: w :: vs) (m :: n :: ms)) {p : Addr} (e : w = .ref p) (hn : ∃ xs, n = .o xs) : ∀ xs, m = .o xs → v ≠ .ref p := fun xs em z => by
  subst em
  obtain ⟨ys, rfl⟩ := hn
  obtain ⟨⟨q, ws, h1, _, _, _, _, _, h6⟩, _⟩ := r
  rw [h1] at z
  injection z with z
  rw [z] at h6
  exact h6.1 e
theorem Nv.set2 (E : Nv K pa G0 H0 G H σ Γ s) {Hb : Hp} {v w : V} {m n : Mv} (i j : Nat) (r : MR K pa G H Hb [v, w] [m, n]) (h0 : ∀ p, Hb p = none → H0 p = none) (f : ∀ p, Hb p = none → FreshIn Γ σ p) :
    Nv K pa G0 H0 G H ((σ.set i (some v)).set j (some w)) ((Γ.set i (mvS m)).set j (mvS n)) s := by
  have E1 := E.setM i r h0 fun p _ hb => f p hb
  cases n with
  | v d => exact E1.set j r.tail.1
  | o xs => exact E1.setM j r.tail h0 fun p e hb => (f p hb).set i (mr_apart r e ⟨xs, rfl⟩)
end
section
variable {X : Cx} {W : WX} {pa : Option Addr} {Γ : List Sl} {k : Nat} {pos : Pos} {α : Type} {out : α → Out} {rest : List Stmt}
def two2 {β : Type} (kk : Mv → Mv → PM β) : List Mv → PM β
  | [a, b] => kk a b
  | _ => bad
def kVO {β : Type} (kk : D → List D → PM β) : Mv → Mv → PM β
  | .v d, .o xs => kk d xs
  | _, _ => bad
def kOV {β : Type} (kk : List D → D → PM β) : Mv → Mv → PM β
  | .o xs, .v d => kk xs d
  | _, _ => bad
theorem h_vo {i j : Nat} {kk : D → List D → PM α} (h : ∀ d xs, SV X W pa ((Γ.set i (.val d)).set j (.own xs)) out rest (kk d xs)) : ∀ a b, SV X W pa ((Γ.set i (mvS a)).set j (mvS b)) out rest (kVO kk a b)
  | .v d, .o xs => h d xs
  | .v _, .v _ => sv_bad
  | .o _, .v _ => sv_bad
  | .o _, .o _ => sv_bad
theorem h_ov {i j : Nat} {kk : List D → D → PM α} (h : ∀ xs d, SV X W pa ((Γ.set i (.own xs)).set j (.val d)) out rest (kk xs d)) : ∀ a b, SV X W pa ((Γ.set i (mvS a)).set j (mvS b)) out rest (kOV kk a b)
  | .o xs, .v d => h xs d
  | .v _, .v _ => sv_bad
  | .v _, .o _ => sv_bad
  | .o _, .o _ => sv_bad
/-- a, b = e1, e2, plain locals -/
theorem sv_parM (i j : Nat) {y z : Str} {a b : Expr} {px py pt : Pos} {kt k2 pt2} {ml : PM (List Mv)} {kk : Mv → Mv → PM α} (hc : X.calm = true) (hN : X.N.Nodup) (ha : EM X W pa Γ [a, b] ml) (hij : i ≠ j)
    (hr : ∀ u v, SV X W pa ((Γ.set i (mvS u)).set j (mvS v)) out rest (kk u v)) (hi : X.N[i]? = some y := by rfl) (hj : X.N[j]? = some z := by rfl)
    (hx : X.env.scope.names.lookup y = some .local := by rfl) (hy : X.env.scope.names.lookup z = some .local := by rfl)
    (hw : swappedStores [.Tuple [.Name y px, .Name z py] kt pt] (.Tuple [a, b] k2 pt2) X.env = pure (some [y, z]) := by rfl)
    (hs : swapsWithSole [.Tuple [.Name y px, .Name z py] kt pt] (.Tuple [a, b] k2 pt2) pos.line X.env = pure false := by rfl) :
    SV X W pa Γ out (.Assign [.Tuple [.Name y px, .Name z py] kt pt] (.Tuple [a, b] k2 pt2) pos :: rest) (ml >>= two2 kk) := by
  unfold SV
  rw [bind_assoc]
  have hrest : PSs X rest (fun D σ H => ∃ q : Mv × Mv, svT X W pa ((Γ.set i (mvS q.1)).set j (mvS q.2)) (kk q.1 q.2 >>= fun a => pure (out a)) D σ H) := pss_ex (ι := Mv × Mv) fun q => hr q.1 q.2
  refine pss_imp (pss_cons (ps_par (i := i) (j := j) hc hN hi hj hij hx hy ha hw hs) hrest) fun Dn σ H ⟨G0, H0, G, s, E, P⟩ => ⟨G0, H0, G, s, E, (P.bind E).imp fun G1 H1 ds s1 x1 p1 P1 vs r => ?_⟩
  match ds, r, P1 with
  | [u, v], r, P1 =>
    obtain ⟨v1, v2, rfl⟩ := mr_two r
    exact ⟨v1, v2, rfl, (u, v), G0, H0, G1, s1, (E.step x1 p1).set2 i j r (fun p h => ext_free E.ext h) (fun p h => E.freshIn h), P1⟩
  | [], _, P1 => exact P1.elim
  | [_], _, P1 => exact P1.elim
  | _ :: _ :: _ :: _, _, P1 => exact P1.elim
/-- a, b = e1, e2, by a tuple -/
theorem sv_unpM (i j : Nat) {y z : Str} {a b : Expr} {px py pt : Pos} {kt k2 pt2} {ml : PM (List Mv)} {kk : Mv → Mv → PM α} (C : Cok X W k) (ha : EM X W pa Γ [a, b] ml)
    (hr : ∀ u v, SV X W pa ((Γ.set i (mvS u)).set j (mvS v)) out rest (kk u v)) (hp : PG X (.Tuple [.Name y px, .Name z py] kt pt) (gTup X.K 2 (gCons (gName i) (gCons (gName j) gNil))))
    (hs : swapsWithSole [.Tuple [.Name y px, .Name z py] kt pt] (.Tuple [a, b] k2 pt2) pos.line X.env = pure false := by rfl) (hw : swappedStores [.Tuple [.Name y px, .Name z py] kt pt] (.Tuple [a, b] k2 pt2) X.env = pure none := by rfl)
    (h1 : (assignEach [.Tuple [.Name y px, .Name z py] kt pt] X.env).map (·.2) = [assign (.Tuple [.Name y px, .Name z py] kt pt) X.env] := by rfl) :
    SV X W pa Γ out (.Assign [.Tuple [.Name y px, .Name z py] kt pt] (.Tuple [a, b] k2 pt2) pos :: rest) (ml >>= two2 kk) := by
  unfold SV
  rw [bind_assoc]
  have hrest : PSs X rest (fun D σ H => ∃ q : Mv × Mv, svT X W pa ((Γ.set i (mvS q.1)).set j (mvS q.2)) (kk q.1 q.2 >>= fun a => pure (out a)) D σ H) := pss_ex (ι := Mv × Mv) fun q => hr q.1 q.2
  refine pss_imp (pss_cons (ps_asg (L2.pe_tup ha) hp hs hw h1) hrest) fun Dn σ H ⟨G0, H0, G, s, E, P⟩ => ⟨G0, H0, G, s, E, (P.bind E).imp fun G1 H1 ds s1 x1 p1 P1 vs r => ?_⟩
  match ds, r, P1 with
  | [u, v], r, P1 =>
    obtain ⟨v1, v2, rfl⟩ := mr_two r
    refine ⟨by show 2 ≤ sizeLine; decide, fun q nq => ⟨q, [v1, v2], rfl, .inl (.inl upd_same), rfl, v1, [v2], rfl, v2, [], rfl, rfl, (u, v), G0, H0, G1, s1, ?_, P1⟩⟩
    have E1 := (E.step x1 p1).set2 i j r (fun p h => ext_free E.ext h) (fun p h => E.freshIn h)
    exact E1.step (Ext.newH x1.sub nq _) (p1.updH nq _)
  | [], _, P1 => exact P1.elim
  | [_], _, P1 => exact P1.elim
  | _ :: _ :: _ :: _, _, P1 => exact P1.elim
def lstOf : D → PM (List D)
  | .lst ys => pure ys
  | _ => bad
/-- x.extend(e), e does not look at x -/
theorem sv_extV (i : Nat) {x : Str} {e : Expr} {xs : List D} {me : PM D} {kk : List D → PM α} {p1 apos cpos : Pos} (h : Γ[i]? = some (.own xs)) (he : EV X W pa Γ e me) (hr : ∀ ys, SV X W pa (Γ.set i (.own (xs ++ ys))) out rest (kk ys))
    (hN : X.N[i]? = some x := by rfl) (hv : Vis X.env.scope x := by first | exact Or.inl rfl | exact Or.inr (Or.inl rfl) | exact Or.inr (Or.inr rfl)) (hd : (x == ("__debug__" : Str)) = false := by decide) (hcd : (x == ("__classdict__" : Str)) = false := by decide)
    (hbase : attributeBase (.Name x p1) "extend" X.env (eval (.Name x p1) X.env) = eval (.Name x p1) X.env := by rfl)
    (hfew : ((backTo cpos (starEach [e] X.env)).all (fun x => !x.1) && (backToKw cpos (keywordEach [] X.env)).all (fun x => x.1.isSome)
      && decide ([e].length + ([] : List Keyword).length + (if ([] : List Keyword).isEmpty then 0 else 1) < 30)) = true := by rfl)
    (hline : (apos.endLine == cpos.line) = true := by rfl) (hs : starEach [e] X.env = (false, eval e X.env) :: starEach [] X.env := by rfl) (hplain : (backTo cpos (starEach [] X.env)).any (·.1) = false := by rfl)
    (hsw : swapsWith (.Call (.Attribute (.Name x p1) "extend" apos) [e] [] cpos) none pos.line X.env = pure false := by rfl) :
    SV X W pa Γ out (.Expr (.Call (.Attribute (.Name x p1) "extend" apos) [e] [] cpos) pos :: rest) (me >>= lstOf >>= fun ys => okLen (xs ++ ys) >>= fun _ => kk ys) := by
  unfold SV
  refine pss_imp (pss_cons (ps_expr (pe_bm PySem.F.plainAttrs_list PySem.F.slot_list_extend PySem.F.type_list_extend mt_extend (pe_var hN hv hd hcd) (pa_cons he pa_nil hs) hbase hfew hline hs hplain) hsw) (pss_ex hr)) fun Dn σ H ⟨G0, H0, G, s, E, P⟩ => ?_
  obtain ⟨p, vs, h1, h2, h3, h4, h5, h6⟩ := E.own i xs h
  rw [bind_assoc, bind_assoc] at P
  refine ⟨.ref p, h1, .inl ⟨rfl, vs, SqL.of h2⟩, G0, H0, G, s, E, (P.bind E).imp fun G1 H1 d s1 x1 p1 P1 v r => ?_⟩
  cases r with
  | @lst b zs ys hb n rr =>
    have P1 : SPost X.K W X.mg pa G0 H0 Dn ((((okLen (xs ++ ys) >>= fun _ => kk ys)) >>= fun a => pure (out a)) s1) := P1
    rw [bind_assoc] at P1
    have h2' := x1.h _ _ h2 h6
    by_cases hl : (xs ++ ys).length ≤ lim
    · rw [okLen_ok hl, pure_bind] at P1
      have E1 := E.step x1 p1
      refine ⟨p, b, vs, zs, rfl, rfl, h2', x1.sub _ _ hb, ?_, ys, G0, H0, G1, s1, E1.mut h h1 ((h4.mono x1.g).app ⟨n, rr⟩), P1⟩
      rw [h4.1, n]
      rw [List.length_append] at hl
      exact lim_le hl
    · unfold okLen at P1
      rw [if_neg hl] at P1
      exact P1.elim
  | _ => exact P1.elim
end
/-! a constant tuple of texts -/
structure CT (K : PySem.W.Frag) (mg : Str → Option Value) (x : Str) (d : D) : Prop where
  ex : ∃ a, mg x = some (.ref a) ∧ ∀ G, Rp K G (.ref a) d
def strsB : List Value → List Str → Bool
  | [], [] => true
  | .str s _ :: r, x :: xs => s == x && strsB r xs
  | _, _ => false
theorem strsB_vals : ∀ {us : List Value} {xs : List Str}, strsB us xs = true → Vals (xs.map V.str) us
  | [], [], _ => .nil
  | .str s t :: r, x :: xs, h => by
    unfold strsB at h
    rw [Bool.and_eq_true, beq_iff_eq] at h
    rw [h.1]
    exact .cons ⟨t, rfl⟩ (strsB_vals h.2)
  | [], _ :: _, h => by cases h
  | .str _ _ :: _, [], h => by cases h
  | .none :: _, xs, h => by cases xs <;> cases h
  | .bool _ :: _, xs, h => by cases xs <;> cases h
  | .int _ _ :: _, xs, h => by cases xs <;> cases h
  | .float _ _ :: _, xs, h => by cases xs <;> cases h
  | .bytes _ _ :: _, xs, h => by cases xs <;> cases h
  | .ref _ :: _, xs, h => by cases xs <;> cases h
  | .type _ :: _, xs, h => by cases xs <;> cases h
  | .builtin _ :: _, xs, h => by cases xs <;> cases h
  | .ellipsis :: _, xs, h => by cases xs <;> cases h
  | .notImplemented :: _, xs, h => by cases xs <;> cases h
theorem ctS {K : PySem.W.Frag} {x : Str} {h : Heap} {mg : Str → Option Value} {a : Addr} {od : Option Addr} {its : Array Value} {n : Nat} {sl : Array (Option Value)} {xs : List Str} (X : K.In h) (G : h.Ns mainGlobals mg)
    (e : PySem.W.nsIn K mainGlobals x = some (some (.ref a))) (l : K.lookup a = some ⟨.type "tuple", od, .seq its n, sl⟩) (v : strsB its.toList xs = true) (hz : xs.length ≤ sizeLine := by decide) : CT K mg x (.tup (xs.map .str)) := by
  have hv := strsB_vals v
  have hl : its.size ≤ sizeLine := by
    rw [← Array.length_toList, ← hv.length, List.length_map]
    exact hz
  exact ⟨a, PySem.W.mg_of X G e, fun G' => .tup (xs := xs.map V.str) (.inr ⟨_, its, n, l, rfl, rfl, hl, hv⟩) (by simp) fun i v d h1 h2 => by
    rw [List.getElem?_map] at h1 h2
    cases q : xs[i]? with
    | none => rw [q] at h1; cases h1
    | some y =>
      rw [q] at h1 h2
      cases h1
      cases h2
      exact .str y⟩
end EV

/-! EV 16: sorted of a list of tuples that begins with the empty tuple; of any list of alike data. -/
namespace PySem.SeqAt
open PySem PySem.Spec PyProof.Rows PySem.W
section
variable {prog : Program} {w : World} {A : Around} {E : Value → Shared → Prop} {s : Shared}
/-- the call of tuple's own __lt__ -/
theorem tup_lt_call {Q : Value → Shared → Prop} {l b : Addr} {us ts : Array Value} {e r : Nat → Bool} (hl : s.heap.IsTuple l us) (hb : s.heap.IsTuple b ts)
    (he : ∀ j (h1 : j < us.size) (h2 : j < ts.size), EqAt A.in1 s us[j] ts[j] (e j)) (hr : ∀ j (h1 : j < us.size) (h2 : j < ts.size), e j = false → RcLt A.in1 s us[j] ts[j] (r j))
    (h : Q (.bool (firstLt e r (decide (us.size < ts.size)) (List.range (min us.size ts.size)))) s) : wpAny (model prog w) A (call (.builtin "tuple.__lt__") [.ref l, .ref b]) Q E s := by
  obtain ⟨⟨c1, d1, x1, z1⟩, g1, q1, n1, r1⟩ := id hl
  obtain ⟨⟨c2, d2, x2, z2⟩, g2, q2, n2, r2⟩ := id hb
  simp only at q1 r1 q2 r2
  subst q1 r1 q2 r2
  exact call_meets F.slot_tuple_lt ⟨_, g1, rfl⟩ F.entry_tuple_lt (F.args_tuple_lt_2 _ _) (tuple_ltAt l b us ts n1 n2 d1 d2 z1 z2 e r) ⟨g1, g2, he, hr, h⟩
end
end PySem.SeqAt
namespace EV
open PySem PySem.Spec PyProof.Rows PySem.W PySem.SeqAt L2
section
variable {prog : Program} {w : World} {A : Around} {E : Value → Shared → Prop} {s : Shared}
theorem oneLt_tups {xs ys : List PyData} {a b : Value} {as bs : List Addr} {Q : Bool → Shared → Prop} (ra : Reads s.heap a (.tuple xs) as) (rb : Reads s.heap b (.tuple ys) bs) (h : alikeAll xs ys = true)
    (hu : A.units + min (PyData.tuple xs).depth (PyData.tuple ys).depth < cLine) (hq : Q (dataLt (.tuple xs) (.tuple ys)) s) : wpAny (model prog w) A (oneLt' true a b) Q E s := by
  cases ra with
  | @tuple l o vs n _ as₁ h1 h2 h3 h4 =>
    cases rb with
    | @tuple l' o' vs' n' _ bs₁ k1 k2 k3 k4 =>
      have n1 : vs.size = xs.length := by simpa using ReadsAll.length _ _ _ h4
      have n2 : vs'.size = ys.length := by simpa using ReadsAll.length _ _ _ k4
      rw [dataLt_tuple, ← firstLt_toks xs ys h, ← n1, ← n2] at hq
      rw [oneLt'_eq]
      simp only [if_true]
      refine wpAny_bind (wpAny_cRoomFor (room_here hu) ?_)
      refine wpAny_bind (wpAny_callSpecialIfBound?_slot (T := "tuple") ⟨_, h1, h2⟩ F.slot_tuple_lt (tup_lt_call (e := pairEq xs ys) (r := fun j => dataLt (xs.getD j .none) (ys.getD j .none)) ⟨_, h1, h2, _, h3⟩ ⟨_, k1, k2, _, k3⟩ (fun j j1 j2 => ?_) (fun j j1 j2 hj => ?_) ?_))
      · have z := eqAt_alikeAll xs ys A.in1 s vs.toList vs'.toList _ _ h4 k4 h (room_in hu) j (by simpa using j1) (by simpa using j2)
        simpa using z
      · have z := rcLt_alikeAll xs ys A.in1 s vs.toList vs'.toList _ _ h4 k4 h (room_in hu) j (by simpa using j1) (by simpa using j2) hj
        simpa using z
      · exact wpAny_truthy_bool hq
theorem mapM_each {M : Model} {α β : Type} {f : α → Sem β} {r : α → β} : ∀ (l : List α) {Q : List β → Shared → Prop}, (∀ v ∈ l, ∀ (Q' : β → Shared → Prop), Q' (r v) s → wpAny M A (f v) Q' E s) → Q (l.map r) s → wpAny M A (l.mapM f) Q E s
  | [], _, _, h => by
    rw [List.mapM_nil]
    exact wpAny_pure h
  | x :: l, Q, hf, h => by
    rw [List.mapM_cons]
    exact wpAny_bind (hf x (.head _) _ (wpAny_bind (mapM_each l (Q := fun bs s' => wpAny M A (pure (r x :: bs)) Q E s') (fun v hv => hf v (.tail _ hv)) (wpAny_pure h))))
def fstH (h : Heap) : Value → Option Value
  | .ref a => match h.get? a with
    | some ⟨_, _, .seq its _, _⟩ => its[0]?
    | _ => none
  | _ => none
theorem kind_tups {vs : List Value} {Q : SortKind → Shared → Prop} (h2 : 2 ≤ vs.length) (hT : ∀ v ∈ vs, ∃ a its, v = .ref a ∧ s.heap.IsTuple a its) (h0 : ∃ a, vs[0]? = some (.ref a) ∧ s.heap.IsTuple a #[]) (h : Q oneType' s) :
    wpAny (model prog w) A (keyKind' vs.toArray) Q E s := by
  obtain ⟨v₁, v₂, rest, rfl⟩ : ∃ v₁ v₂ rest, vs = v₁ :: v₂ :: rest := by
    match vs, h2 with
    | [], h2 => simp at h2
    | [_], h2 => simp at h2
    | v₁ :: v₂ :: rest, _ => exact ⟨v₁, v₂, rest, rfl⟩
  obtain ⟨a0, e0, t0⟩ := h0
  have e0 : v₁ = .ref a0 := Option.some.inj e0
  have z0 : fstH s.heap v₁ = none := by
    obtain ⟨⟨c, d, x, z⟩, g, q, n, r⟩ := t0
    simp only at q r
    subst q r
    rw [e0]
    unfold fstH
    simp only [g]
    rfl
  have lk : ∀ v ∈ v₁ :: v₂ :: rest, Looks (model prog w) s.heap (typeOf v) (Value.type "tuple") := fun v hv => by
    obtain ⟨a, its, rfl, ⟨o, g, q, n, r⟩⟩ := hT v hv
    exact q ▸ (Looks.ld g).andThen .now
  rw [keyKind'_eq, List.mapM_toArray, map_eq_pure_bind]
  refine wpAny_bind (wpAny_bind (mapM_each (r := fstH s.heap) _ (fun v hv Q' hq => ?_) (wpAny_pure ?_)))
  · rw [kas_first_eq]
    refine wpAny_bind ((lk v hv).here ?_)
    rw [if_neg (by simp)]
    obtain ⟨a, its, rfl, ⟨⟨c, d, x, z⟩, g, q, n, r⟩⟩ := hT v hv
    simp only at q r
    subst q r
    refine wpAny_bind (listItems_at g rfl (wpAny_pure ?_))
    have e : fstH s.heap (.ref a) = its[0]? := by
      unfold fstH
      simp only [g]
    rw [← e]
    exact hq
  · rw [if_neg (by simp [z0]), if_neg (by simp [z0])]
    rw [oneTypeOnly'_eq, List.mapM_toArray, map_eq_pure_bind]
    refine wpAny_bind (wpAny_bind (wpAny_bind (kas_mapM (r := Value.type "tuple") _ (fun v hv Q' hq => (lk v hv).here hq) (wpAny_pure ?_))))
    have hall : ((List.map (fun _ => Value.type "tuple") (v₁ :: v₂ :: rest)).toArray.all fun x => x == Value.type "tuple") = true := by
      simp only [List.all_toArray, List.all_map, List.all_eq_true]
      intro _ _
      exact beq_self_eq_true _
    have hh : (List.map (fun _ => Value.type "tuple") (v₁ :: v₂ :: rest)).toArray[0]? = some (Value.type "tuple") := by simp
    rw [hh]
    simp only [hall, if_true]
    exact wpAny_pure (wpAny_pure h)
/-- tuples, the first one without an item -/
def Tups0 (ds : List PyData) : Prop := (∀ d ∈ ds, ∃ xs, d = .tuple xs) ∧ ∃ r, ds = .tuple [] :: r
theorem reads_tup {h : Heap} {v : Value} {xs : List PyData} {as : List Addr} (r : Reads h v (.tuple xs) as) : ∃ a its, v = .ref a ∧ h.IsTuple a its ∧ its.size = xs.length := by
  cases r with
  | @tuple l o vs n _ as₁ h1 h2 h3 h4 => exact ⟨l, vs, rfl, ⟨o, h1, h2, n, h3⟩, by simpa using ReadsAll.length _ _ _ h4⟩
theorem sortsAt_tups {vs : List Value} {ds : List PyData} (e : EachIs (fun v d => ∃ as, Reads s.heap v d as) vs ds) (hal : AllAlike ds) (hk : Tups0 ds) (hu : ∀ d, d ∈ ds → A.units + d.depth < cLine) : SortsAt prog w A s (dataKind s.heap ds) vs := by
  refine ⟨fun v hv => ?_, oneType', ?_, fun h2 E Q hq => ?_⟩
  · obtain ⟨d, hd, as, r⟩ := e.left v hv
    exact ⟨_, dataKind_some hal hd r⟩
  · intro E x y a b Q ha hb hq
    obtain ⟨d, as, hd, ra, rfl⟩ := dataKind_inv ha
    obtain ⟨d', as', hd', rb, rfl⟩ := dataKind_inv hb
    rw [keyLt'_oneType]
    obtain ⟨xs, rfl⟩ := hk.1 d hd
    obtain ⟨ys, rfl⟩ := hk.1 d' hd'
    exact oneLt_tups ra rb (by simpa [alike] using hal _ hd _ hd') (Nat.lt_of_le_of_lt (Nat.add_le_add_left (Nat.min_le_left _ _) _) (hu _ hd)) hq
  · refine kind_tups h2 (fun v hv => ?_) ?_ hq
    · obtain ⟨d, hd, as, r⟩ := e.left v hv
      obtain ⟨xs, rfl⟩ := hk.1 d hd
      obtain ⟨a, its, e1, e2, _⟩ := reads_tup r
      exact ⟨a, its, e1, e2⟩
    · obtain ⟨r, rfl⟩ := hk.2
      cases e with
      | cons h1 t =>
        obtain ⟨as, h1⟩ := h1
        obtain ⟨a, its, rfl, e2, e3⟩ := reads_tup h1
        have : its = #[] := Array.size_eq_zero_iff.mp e3
        subst this
        exact ⟨a, rfl, e2⟩
theorem sorted_any {β : Type} {vs : List Value} {bs : List β} {enc : β → PyData} {R : Value → β → Prop} {l : Addr} {Q : Value → Shared → Prop} (hl : s.heap.IsList l vs.toArray) (e : EachIs R vs bs) (er : EachIs (fun v b => ∃ as, Reads s.heap v (enc b) as) vs bs) (hal : AllAlike (bs.map enc))
    (hk : Sortable (bs.map enc) ∨ Tups0 (bs.map enc)) (hL : bs.length ≤ sizeLine) (hu : ∀ b, b ∈ bs → A.units + 2 + (enc b).depth < cLine) (h : ∀ out, out.length = bs.length → EachIs R out (bs.mergeSort (dataLe false enc)) → Q (.ref (s.heap.objs.size + 1)) { s with heap := sortedAll s.heap vs (List.toArray out) }) :
    wpAny (model prog w) A (PySem.call (.builtin "sorted") [.ref l]) Q E s := by
  rcases hk with hk | hk
  · exact sorted_data hl e er hal hk hL hu h
  · have er' : EachIs (fun v b => ∃ as, Reads (sortingHeap (copyHeap s.heap vs) (s.heap.objs.size + 1) vs) v (enc b) as) vs bs := er.mono fun _ _ ⟨as, r⟩ => ⟨as, PyProof.Rows.Reads.keeps (fun _ _ => sorting_copy_old) r⟩
    refine sorted_vals hl (sortsAt_tups (s := { s with heap := sortingHeap (copyHeap s.heap vs) (s.heap.objs.size + 1) vs }) (each_map (R := fun v d => ∃ as, Reads (sortingHeap (copyHeap s.heap vs) (s.heap.objs.size + 1) vs) v d as) enc er') hal hk fun d hd => ?_) (by rw [e.length]; exact hL) (h _ (by rw [sortVals_length false rfl]; exact e.length) (sortVals_data false e er' hal))
    obtain ⟨b, hb, rfl⟩ := List.mem_map.mp hd
    exact hu b hb
end
/-! ### sorted, any alike data -/
def neTup : PyData → Bool
  | .tuple (_ :: _) => true
  | _ => false
def noTup : PyData → Bool
  | .tuple _ => false
  | .none => false
  | _ => true
def isTup : PyData → Bool
  | .tuple _ => true
  | _ => false
def tup0 : List PyData → Bool
  | .tuple [] :: _ => true
  | _ => false
def sortP (xs : List D) : Bool := (xs.all fun a => xs.all fun b => alike (toPy a) (toPy b)) && (xs.all fun a => decide ((toPy a).depth ≤ 60)) &&
  ((xs.all fun a => neTup (toPy a)) || (xs.all fun a => noTup (toPy a)) || ((xs.all fun a => isTup (toPy a)) && tup0 (xs.map toPy)))
def leD2 (a b : D) : Bool := !dataLt (toPy b) (toPy a)
def sortedA : List D → PM D
  | [.lst xs] => if sortP xs = true then mkL (xs.mergeSort leD2) else bad
  | _ => bad
theorem sortP_use {xs : List D} (h : sortP xs = true) : AllAlike (xs.map toPy) ∧ (∀ d ∈ xs, (toPy d).depth ≤ 60) ∧ (Sortable (xs.map toPy) ∨ Tups0 (xs.map toPy)) := by
  unfold sortP at h
  rw [Bool.and_eq_true, Bool.and_eq_true] at h
  obtain ⟨⟨h1, h2⟩, h3⟩ := h
  refine ⟨fun d hd d' hd' => ?_, fun d hd => of_decide_eq_true (List.all_eq_true.mp h2 d hd), ?_⟩
  · obtain ⟨a, ha, rfl⟩ := List.mem_map.mp hd
    obtain ⟨b, hb, rfl⟩ := List.mem_map.mp hd'
    exact List.all_eq_true.mp (List.all_eq_true.mp h1 a ha) b hb
  · rw [Bool.or_eq_true, Bool.or_eq_true, Bool.and_eq_true] at h3
    rcases h3 with (h3 | h3) | ⟨h3, h4⟩
    · refine .inl (.inl fun d hd => ?_)
      obtain ⟨a, ha, rfl⟩ := List.mem_map.mp hd
      have z := List.all_eq_true.mp h3 a ha
      cases e : toPy a with
      | tuple xs =>
        rw [e] at z
        cases xs with
        | nil => cases z
        | cons x r => exact ⟨x, r, rfl⟩
      | _ => rw [e] at z; cases z
    · refine .inl (.inr fun d hd => ?_)
      obtain ⟨a, ha, rfl⟩ := List.mem_map.mp hd
      have z := List.all_eq_true.mp h3 a ha
      refine ⟨fun e => ?_, fun xs e => ?_⟩
      · rw [e] at z
        cases z
      · rw [e] at z
        cases z
    · refine .inr ⟨fun d hd => ?_, ?_⟩
      · obtain ⟨a, ha, rfl⟩ := List.mem_map.mp hd
        have z := List.all_eq_true.mp h3 a ha
        cases e : toPy a with
        | tuple xs => exact ⟨xs, rfl⟩
        | _ => rw [e] at z; cases z
      · cases e : xs.map toPy with
        | nil => rw [e] at h4; cases h4
        | cons d r =>
          rw [e] at h4
          cases d with
          | tuple ys =>
            cases ys with
            | nil => exact ⟨r, rfl⟩
            | cons _ _ => cases h4
          | _ => cases h4
theorem each_of {K : PySem.W.Frag} {G : Hp} : ∀ {xs : List V} {us : List Value} {ds : List D}, Vals xs us → RpL K G xs ds → EachIs (fun u d => ∃ v, RelV v u ∧ Rp K G v d) us ds
  | [], _, [], .nil, _ => .nil
  | [], _, _ :: _, _, r => absurd r.1 (by simp)
  | _ :: _, _, [], _, r => absurd r.1 (by simp)
  | x :: xs, _, d :: ds, .cons h t, r => .cons ⟨x, h, (RpL.tail r).1⟩ (each_of t (RpL.tail r).2)
theorem each_ofN {K : PySem.W.Frag} {G : Hp} : ∀ {xs : List V} {us : List Value} {ds : List D}, Vals xs us → RpL K G xs ds → (∀ d ∈ ds, (toPy d).hasDict = false) → EachIs (fun u d => ∃ v, RelV v u ∧ Rp K G v d ∧ (toPy d).hasDict = false) us ds
  | [], _, [], .nil, _, _ => .nil
  | [], _, _ :: _, _, r, _ => absurd r.1 (by simp)
  | _ :: _, _, [], _, r, _ => absurd r.1 (by simp)
  | x :: xs, _, d :: ds, .cons h t, r, n => .cons ⟨x, h, (RpL.tail r).1, n d List.mem_cons_self⟩ (each_ofN t (RpL.tail r).2 fun e m => n e (List.mem_cons_of_mem _ m))
mutual
theorem alike_nd : ∀ d : PyData, alike d d = true → d.hasDict = false
  | .none, _ => rfl
  | .bool _, _ => rfl
  | .int _, _ => rfl
  | .str _, _ => rfl
  | .list xs, h => by
    simp only [alike] at h
    simp only [PyData.hasDict]
    exact alikeAll_nd xs h
  | .tuple xs, h => by
    simp only [alike] at h
    simp only [PyData.hasDict]
    exact alikeAll_nd xs h
  | .dict _, h => by simp [alike] at h
theorem alikeAll_nd : ∀ xs : List PyData, alikeAll xs xs = true → PyData.hasDictAll xs = false
  | [], _ => rfl
  | x :: xs, h => by
    simp only [alikeAll, Bool.and_eq_true] at h
    simp only [PyData.hasDictAll, alike_nd x h.1, alikeAll_nd xs h.2, Bool.or_self]
end
theorem allAlike_nd {ds : List D} (h : AllAlike (ds.map toPy)) : ∀ d ∈ ds, (toPy d).hasDict = false := fun d m => alike_nd _ (h _ (List.mem_map.mpr ⟨d, m, rfl⟩) _ (List.mem_map.mpr ⟨d, m, rfl⟩))
theorem of_each {K : PySem.W.Frag} {G : Hp} : ∀ {us : List Value} {ds : List D}, EachIs (fun u d => ∃ v, RelV v u ∧ Rp K G v d) us ds → ∃ xs : List V, Vals xs us ∧ RpL K G xs ds
  | _, _, .nil => ⟨[], .nil, .nil⟩
  | _, _, .cons ⟨v, h1, h2⟩ t => by
    obtain ⟨xs, q1, q2⟩ := of_each t
    exact ⟨v :: xs, .cons h1 q1, .cons h2 q2⟩
section
variable {X : Cx} {k : Nat}
def rSortA (K : PySem.W.Frag) : List V → Hp → VK → Prop := fun vs H Q => ∃ (G : Hp) (a : Addr) (xs : List V) (ds : List D), Same G H ∧ vs = [V.ref a] ∧ SqL K H a xs ∧ RpL K G xs ds ∧ sortP ds = true ∧
  ∀ (ys : List V) (p : Addr), RpL K G ys (ds.mergeSort leD2) → H p = none → Q (.ref p) (upd H p (.lst ys))
theorem cr_sortA (hr : Room k X.A) : CallR X (.builtin "sorted") (rSortA X.K) := by
  intro pins s σ H vs us Q I r h
  obtain ⟨G, a, xs, ds, hs, rfl, hq, rr, hp, q⟩ := h
  obtain ⟨h1, h2, h3⟩ := sortP_use hp
  obtain ⟨its, rv, hl, hz⟩ := I.list hq
  rw [Vals.ref1 r]
  have e := each_of rv rr
  have u := hr.units
  refine sorted_any (bs := ds) (enc := toPy) hl.isList e ((each_ofN rv rr (allAlike_nd h1)).mono fun v d ⟨x, z1, z2, z3⟩ => Dp.reads I _ x v ((z2.mono hs).dp z3) z1) h1 h3 (by rw [← rr.1]; exact hz) (fun b hb => by have := h2 b hb; omega) fun out ho ho2 => ?_
  obtain ⟨ys, y1, y2⟩ := of_each ho2
  obtain ⟨ep, he'⟩ := PyProof.Rows.sortedAll_at s.heap its out.toArray
  have hlen : ys.length ≤ sizeLine := by
    rw [y1.length, ho, ← rr.1]
    exact hz
  exact ⟨.ref _, upd H (s.heap.objs.size + 1) (.lst ys), I.laid (t' := s.toks) (fun _ _ => PyProof.Rows.sortedAll_old) (Nat.le_succ _) ⟨hlen, out, ep, y1, he'⟩, rfl, q _ _ y2 (I.hok.fresh (Nat.le_succ _))⟩
theorem cd_sortedA (hr : Room k X.A) : CallD X (.builtin "sorted") sortedA := by
  refine ⟨_, cr_sortA hr, fun W pa σ G H s xs ds Q hs hp rs P => ?_⟩
  match ds, rs, P with
  | [d], rs, P =>
    obtain ⟨v, rfl, r⟩ := rp1 rs
    cases r with
    | @lst a vs es h n r =>
      have P : Pst X.K W X.mg pa σ (FD X.K Q) G H ((if sortP es = true then mkL (es.mergeSort leD2) else bad : PM D) s) := P
      by_cases hc : sortP es = true
      · rw [if_pos hc] at P
        exact ⟨G, a, vs, es, hs, rfl, SqL.of (hs _ _ h), ⟨n, r⟩, hc, fun ys p ry np => mkL_use P ry hs hp np⟩
      · rw [if_neg hc] at P
        exact P.elim
    | _ => exact P.elim
  | [], _, P => exact P.elim
  | a :: _ :: _, _, P => cases a <;> exact P.elim
/-- ints by their own way -/
def intsQ : List D → Bool
  | [.lst xs] => (intsOf xs).isSome
  | _ => false
def sortedG (a : List D) : PM D := if intsQ a = true then sortedF a else sortedA a
theorem cd_sortedG (hr : Room k X.A) : CallD X (.builtin "sorted") sortedG := cd_sortedI.or (cd_sortedA hr)
end
/-! what the head tells of a constant tuple of texts -/
structure DefC (K : PySem.W.Frag) (x : Str) (xs : List Str) : Prop where
  ex : ∃ a od its n sl, PySem.W.nsIn K mainGlobals x = some (some (.ref a)) ∧ K.lookup a = some ⟨.type "tuple", od, .seq its n, sl⟩ ∧ strsB its.toList xs = true
theorem defC {K : PySem.W.Frag} {x : Str} {xs : List Str} {a : Addr} {od : Option Addr} {its : Array Value} {n : Nat} {sl : Array (Option Value)} (e : PySem.W.nsIn K mainGlobals x = some (some (.ref a)))
    (l : K.lookup a = some ⟨.type "tuple", od, .seq its n, sl⟩) (v : strsB its.toList xs = true) : DefC K x xs := ⟨a, od, its, n, sl, e, l, v⟩
theorem DefC.at {K : PySem.W.Frag} {x : Str} {xs : List Str} {h : Heap} {mg : Str → Option Value} (X : K.In h) (G : h.Ns mainGlobals mg) (d : DefC K x xs) (hz : xs.length ≤ sizeLine := by decide) : CT K mg x (.tup (xs.map .str)) := by
  obtain ⟨a, od, its, n, sl, e, l, v⟩ := d.ex
  exact ctS X G e l v hz
end EV

/-! EV 17: three names. -/
namespace EV
open PySem PySem.Spec PyProof.Rows L2
theorem rp3 {K : PySem.W.Frag} {G : Hp} {vs : List V} {a b c : D} (h : RpL K G vs [a, b, c]) : ∃ x y z, vs = [x, y, z] ∧ Rp K G x a ∧ Rp K G y b ∧ Rp K G z c := by
  match vs, h with
  | x :: vs, h =>
    obtain ⟨h1, h2⟩ := RpL.tail h
    obtain ⟨y, z, rfl, h3, h4⟩ := rp2 h2
    exact ⟨x, y, z, rfl, h1, h3, h4⟩
  | [], h => exact absurd h.1 (by simp)
def three {β : Type} (kk : D → D → D → PM β) : List D → PM β
  | [a, b, c] => kk a b c
  | _ => bad
def unp3 {β : Type} (kk : D → D → D → PM β) : D → PM β
  | .tup [a, b, c] => kk a b c
  | _ => bad
section
variable {X : Cx} {W : WX} {pa : Option Addr} {Γ : List Sl} {k : Nat} {pos : Pos} {α : Type} {out : α → Out} {rest : List Stmt}
/-- a, b, c = e1, e2, e3, plain locals -/
theorem sv_par3 (i j l : Nat) {y z t : Str} {a b c : Expr} {px py pz pt : Pos} {kt k2 pt2} {ml : PM (List D)} {kk : D → D → D → PM α} (hc : X.calm = true) (hN : X.N.Nodup) (ha : EL X W pa Γ [a, b, c] ml) (hij : i ≠ j) (hil : i ≠ l) (hjl : j ≠ l)
    (hr : ∀ u v w, SV X W pa (((Γ.set i (.val u)).set j (.val v)).set l (.val w)) out rest (kk u v w)) (hi : X.N[i]? = some y := by rfl) (hj : X.N[j]? = some z := by rfl) (hl : X.N[l]? = some t := by rfl)
    (hx : X.env.scope.names.lookup y = some .local := by rfl) (hy : X.env.scope.names.lookup z = some .local := by rfl) (hz : X.env.scope.names.lookup t = some .local := by rfl)
    (hw : swappedStores [.Tuple [.Name y px, .Name z py, .Name t pz] kt pt] (.Tuple [a, b, c] k2 pt2) X.env = pure (some [y, z, t]) := by rfl)
    (hs : swapsWithSole [.Tuple [.Name y px, .Name z py, .Name t pz] kt pt] (.Tuple [a, b, c] k2 pt2) pos.line X.env = pure false := by rfl) :
    SV X W pa Γ out (.Assign [.Tuple [.Name y px, .Name z py, .Name t pz] kt pt] (.Tuple [a, b, c] k2 pt2) pos :: rest) (ml >>= three kk) := by
  unfold SV
  rw [bind_assoc]
  have hrest : PSs X rest (fun Dn σ H => ∃ q : EV.D × EV.D × EV.D, svT X W pa (((Γ.set i (.val q.1)).set j (.val q.2.1)).set l (.val q.2.2)) (kk q.1 q.2.1 q.2.2 >>= fun a => pure (out a)) Dn σ H) := pss_ex (ι := EV.D × EV.D × EV.D) fun q => hr q.1 q.2.1 q.2.2
  refine pss_imp (pss_cons (ps_par3 (i := i) (j := j) (l := l) hc hN hi hj hl hij hil hjl hx hy hz ha hw hs) hrest) fun Dn σ H ⟨G0, H0, G, s, E, P⟩ => ⟨G0, H0, G, s, E, (P.bind E).imp fun G1 H1 ds s1 x1 p1 P1 vs r => ?_⟩
  match ds, r, P1 with
  | [u, v, w], r, P1 =>
    obtain ⟨v1, v2, v3, rfl, r1, r2, r3⟩ := rp3 r
    exact ⟨v1, v2, v3, rfl, (u, v, w), G0, H0, G1, s1, (((E.step x1 p1).set i r1).set j r2).set l r3, P1⟩
  | [], _, P1 => exact P1.elim
  | [_], _, P1 => exact P1.elim
  | [_, _], _, P1 => exact P1.elim
  | _ :: _ :: _ :: _ :: _, _, P1 => exact P1.elim
/-- a, b, c = e, by a tuple -/
theorem sv_unp3 (i j l : Nat) {tg : Expr} {e : Expr} {me : PM D} {kk : D → D → D → PM α} (C : Cok X W k) (he : EV X W pa Γ e me)
    (hr : ∀ u v w, SV X W pa (((Γ.set i (.val u)).set j (.val v)).set l (.val w)) out rest (kk u v w)) (hp : PG X tg (gTup X.K 3 (gCons (gName i) (gCons (gName j) (gCons (gName l) gNil)))))
    (hs : swapsWithSole [tg] e pos.line X.env = pure false := by rfl) (hw : swappedStores [tg] e X.env = pure none := by rfl)
    (h1 : (assignEach [tg] X.env).map (·.2) = [assign tg X.env] := by rfl) :
    SV X W pa Γ out (.Assign [tg] e pos :: rest) (me >>= unp3 kk) := by
  unfold SV
  rw [bind_assoc]
  have hrest : PSs X rest (fun Dn σ H => ∃ q : EV.D × EV.D × EV.D, svT X W pa (((Γ.set i (.val q.1)).set j (.val q.2.1)).set l (.val q.2.2)) (kk q.1 q.2.1 q.2.2 >>= fun a => pure (out a)) Dn σ H) := pss_ex (ι := EV.D × EV.D × EV.D) fun q => hr q.1 q.2.1 q.2.2
  refine pss_imp (pss_cons (ps_asg he hp hs hw h1) hrest) fun Dn σ H ⟨G0, H0, G, s, E, P⟩ => ⟨G0, H0, G, s, E, (P.bind E).imp fun G1 H1 d s1 x1 p1 P1 v r => ?_⟩
  have E1 := E.step x1 p1
  cases r with
  | @tup a xs ds hq n rr =>
    match ds, n, rr, P1 with
    | [u, v, w], n, rr, P1 =>
      obtain ⟨v1, v2, v3, rfl, r1, r2, r3⟩ := rp3 ⟨n, rr⟩
      exact ⟨a, [v1, v2, v3], rfl, sameT x1.sub hq, rfl, v1, [v2, v3], rfl, v2, [v3], rfl, v3, [], rfl, rfl, (u, v, w), G0, H0, G1, s1, ((E1.set i r1).set j r2).set l r3, P1⟩
    | [], _, _, P1 => exact P1.elim
    | [_], _, _, P1 => exact P1.elim
    | [_, _], _, _, P1 => exact P1.elim
    | _ :: _ :: _ :: _ :: _, _, _, P1 => exact P1.elim
  | _ => exact P1.elim
end
end EV

/-! EV 18: starred parts. -/
namespace EV
open PySem PySem.Spec PyProof.Rows L2
section
variable {X : Cx} {W : WX} {pa : Option Addr} {Γ : List Sl} {k : Nat} {pos : Pos}
/-- (*e, ..) -/
theorem el_star {e : Expr} {p : Pos} {es : List Expr} {m : PM D} {ml : PM (List D)} (h : EV X W pa Γ e m) (t : EL X W pa Γ es ml) (hs : starEach (.Starred e p :: es) X.env = (true, eval e X.env) :: starEach es X.env := by rfl) :
    EL X W pa Γ (.Starred e p :: es) (m >>= itemsD >>= fun xs => ml >>= fun ds => pure (xs ++ ds)) := pa_imp (StX.pa_star h t hs) fun σ H Q ⟨G0, H0, G, s, E, P⟩ => by
  rw [bind_assoc] at P
  refine ⟨G0, H0, G, s, E, P.bind.imp fun G1 H1 d s1 x1 p1 P1 v r => ?_⟩
  have go : ∀ (xs : List V) (ds : List D), RpL X.K G1 xs ds → Pst X.K W X.mg pa σ (FL X.K Q) G1 H1 ((pure ds >>= fun xs => ml >>= fun ds => pure (xs ++ ds) : PM (List D)) s1) → evL X W pa Γ ml σ H1 fun vs H2 => Q (xs ++ vs) H2 := fun xs ds rr P2 => by
    rw [pure_bind] at P2
    exact ⟨G0, H0, G1, s1, E.step x1 p1, P2.bind.imp fun G2 H2 as s2 x2 p2 P3 vs rs => P3.now x2.sub p2 (xs ++ vs) ((rr.mono x2.g).app rs)⟩
  cases r with
  | @lst a xs ds h n rr => exact ⟨a, xs, rfl, .inr (SqL.of (x1.sub _ _ h)), go xs ds ⟨n, rr⟩ P1⟩
  | @tup a xs ds h n rr => exact ⟨a, xs, rfl, .inl (sameT x1.sub h), go xs ds ⟨n, rr⟩ P1⟩
  | _ => exact P1.elim
end
end EV

/-! EV 19: count and index of a list, max and min of a list or tuple of ints, int of a bool. -/
namespace EV
open PySem PySem.Spec PyProof.Rows L2
section
variable {X : Cx} {k : Nat}
/-! count -/
def rCntD (K : PySem.W.Frag) : V → List V → Hp → VK → Prop := fun x xs H Q => ∃ (a : Addr) (y : V) (d : PyData) (ds : List PyData), x = V.ref a ∧ xs = [y] ∧ Dp K H (V.ref a) (.list ds) ∧ Dp K H y d ∧
  SeqAt.shaped (.list ds) = true ∧ SeqAt.shaped d = true ∧ Q (.int ((ds.countP fun z => PyData.eqv z d : Nat) : Int)) H
theorem mt_countD (hu : X.A.units + 65 < cLine) : MtR X "list.count" (rCntD X.K) := fun pins s σ H x xs v us Q I rx rxs h => by
  obtain ⟨a, y, d, ds, rfl, rfl, hl, hy, sl, sd, q⟩ := h
  cases rx
  match us, rxs with
  | [uy], .cons ry .nil =>
    obtain ⟨bs, r1⟩ := Dp.reads I d y uy hy ry
    cases hl with
    | lst hs ha =>
      obtain ⟨its, rv, ⟨⟨cls, dd, data, sls⟩, n, ho, hc, hdn, hdt⟩, hlen⟩ := I.list hs
      cases hc
      cases hdt
      obtain ⟨as, h4⟩ := Dp.readsAll I ds _ its ha rv
      have hxs := SeqAt.canLay_of_shaped sl
      have hmap : its.map (SeqAt.readOf s.heap) = ds := SeqAt.readsAll_map ds its as hxs h4
      have ec : its.toArray.toList.countP (fun u => PyData.eqv (SeqAt.readOf s.heap u) d) = ds.countP fun z => PyData.eqv z d := by
        rw [← hmap, List.countP_map]
        rfl
      refine call_meets PySem.F.slot_list_count ⟨_, ho, rfl⟩ PySem.F.entry_list_count (PySem.F.args_list_count_2 _ _) (SeqAt.list_countAt a its.toArray n dd sls uy fun u => PyData.eqv (SeqAt.readOf s.heap u) d)
        ⟨ho, SeqAt.items_eqAt (vs := its.toArray) (show ReadsAll s.heap its.toArray.toList ds as from h4) r1 hxs (SeqAt.canLay_of_shaped sd) (room_in_shaped sd hu), ⟨.int ((ds.countP fun z => PyData.eqv z d : Nat) : Int), H, I.tok _, ⟨s.toks, ?_⟩, q⟩⟩
      show Value.int ((its.toArray.toList.countP _ : Nat) : Int) s.toks = _
      rw [ec]
end
/-- xs.count(y) of a list -/
def countD (xs : List D) (y : D) : PM D := if shp (.lst xs) = true ∧ shp y = true then pure (.int (xs.countP fun z => eqvD z y : Nat)) else bad
/-- xs.index(y) of a list, y in it -/
def indexD (xs : List D) (y : D) : PM D := if shp (.lst xs) = true ∧ shp y = true then (match xs.findIdx? fun z => eqvD z y with | some j => pure (.int (j : Nat)) | none => bad) else bad
section
variable {X : Cx} {W : WX} {pa : Option Addr} {Γ : List Sl} {k : Nat} {pos : Pos}
theorem dp_lst {K : PySem.W.Frag} {H : Hp} {a : Addr} {vs : List V} {ds : List D} (h : H a = some (.lst vs)) (r : RpL K H vs ds) (hs : shp (.lst ds) = true) : Dp K H (.ref a) (.list (ds.map toPy)) := by
  have z := (Rp.mkL h r).dpS hs
  simp only [toPy, toPyL_map] at z
  exact z
theorem shp_lst {ds : List D} (h : shp (.lst ds) = true) : SeqAt.shaped (.list (ds.map toPy)) = true := by
  unfold shp at h
  simp only [toPy, toPyL_map] at h
  exact h
/-- a method of a list, of one value -/
theorem ev_lm {o e : Expr} {name : Str} {id : String} {mo me : PM D} {f : List D → D → PM D} {r : V → List V → Hp → VK → Prop} {apos cpos : Pos} (slot : Slot "list" name id) (hty : typeOf (.builtin id) = pure (.type "method_descriptor")) (hm : MtR X id r)
    (hf : ∀ (σ : L2.St) (G H : Hp) (s : List Int) (a : Addr) (vs : List V) (ds : List D) (w : V) (y : D) (Q : VK), Same G H → PenOk pa G H s → H a = some (.lst vs) → RpL X.K G vs ds → Rp X.K G w y → Pst X.K W X.mg pa σ (FD X.K Q) G H (f ds y s) → r (.ref a) [w] H Q)
    (ho : EV X W pa Γ o mo) (he : EV X W pa Γ e me) (hbase : attributeBase o name X.env (eval o X.env) = eval o X.env := by rfl)
    (hfew : ((backTo cpos (starEach [e] X.env)).all (fun x => !x.1) && (backToKw cpos (keywordEach [] X.env)).all (fun x => x.1.isSome)
      && decide ([e].length + ([] : List Keyword).length + (if ([] : List Keyword).isEmpty then 0 else 1) < 30)) = true := by rfl)
    (hline : (apos.endLine == cpos.line) = true := by rfl) (hs : starEach [e] X.env = (false, eval e X.env) :: starEach [] X.env := by rfl) (hplain : (backTo cpos (starEach [] X.env)).any (·.1) = false := by rfl) :
    EV X W pa Γ (.Call (.Attribute o name apos) [e] [] cpos) (mo >>= fun d => lstOf d >>= fun xs => me >>= fun y => f xs y) :=
  pe_imp (pe_bm PySem.F.plainAttrs_list slot hty hm ho (pa_cons he pa_nil hs) hbase hfew hline hs hplain) fun σ H Q ⟨G0, H0, G, s, E, P⟩ =>
    ⟨G0, H0, G, s, E, P.bind.imp fun G1 H1 d s1 x1 p1 P1 v rv => by
      cases rv with
      | @lst a vs ds h n rr =>
        have P1 : Pst X.K W X.mg pa σ (FD X.K Q) G1 H1 ((me >>= fun y => f ds y) s1) := P1
        exact ⟨.inl ⟨rfl, vs, SqL.of (x1.sub _ _ h)⟩, G0, H0, G1, s1, E.step x1 p1, P1.bind.imp fun G2 H2 d2 s2 x2 p2 P2 w rw => hf σ G2 H2 s2 a vs ds w d2 Q x2.sub p2 (x2.sub _ _ (x2.g _ _ h)) (RpL.mono x2.g ⟨n, rr⟩) rw P2⟩
      | _ => exact P1.elim⟩
theorem ev_count {o e : Expr} {mo me : PM D} {apos cpos : Pos} (C : Cok X W k) (ho : EV X W pa Γ o mo) (he : EV X W pa Γ e me)
    (hbase : attributeBase o "count" X.env (eval o X.env) = eval o X.env := by rfl)
    (hfew : ((backTo cpos (starEach [e] X.env)).all (fun x => !x.1) && (backToKw cpos (keywordEach [] X.env)).all (fun x => x.1.isSome)
      && decide ([e].length + ([] : List Keyword).length + (if ([] : List Keyword).isEmpty then 0 else 1) < 30)) = true := by rfl)
    (hline : (apos.endLine == cpos.line) = true := by rfl) (hs : starEach [e] X.env = (false, eval e X.env) :: starEach [] X.env := by rfl) (hplain : (backTo cpos (starEach [] X.env)).any (·.1) = false := by rfl) :
    EV X W pa Γ (.Call (.Attribute o "count" apos) [e] [] cpos) (mo >>= fun d => lstOf d >>= fun xs => me >>= fun y => countD xs y) :=
  ev_lm PySem.F.slot_list_count PySem.F.type_list_count (mt_countD (room65 C.room)) (fun σ G H s a vs ds w y Q hs hp h rr rw P => by
    unfold countD at P
    by_cases hc : shp (.lst ds) = true ∧ shp y = true
    · rw [if_pos hc] at P
      refine ⟨a, w, toPy y, ds.map toPy, rfl, rfl, dp_lst h (rr.mono hs) hc.1, (rw.mono hs).dpS hc.2, shp_lst hc.1, hc.2, ?_⟩
      rw [List.countP_map]
      exact P.now hs hp _ (.int _)
    · rw [if_neg hc] at P
      exact P.elim) ho he hbase hfew hline hs hplain
theorem ev_index {o e : Expr} {mo me : PM D} {apos cpos : Pos} (C : Cok X W k) (ho : EV X W pa Γ o mo) (he : EV X W pa Γ e me)
    (hbase : attributeBase o "index" X.env (eval o X.env) = eval o X.env := by rfl)
    (hfew : ((backTo cpos (starEach [e] X.env)).all (fun x => !x.1) && (backToKw cpos (keywordEach [] X.env)).all (fun x => x.1.isSome)
      && decide ([e].length + ([] : List Keyword).length + (if ([] : List Keyword).isEmpty then 0 else 1) < 30)) = true := by rfl)
    (hline : (apos.endLine == cpos.line) = true := by rfl) (hs : starEach [e] X.env = (false, eval e X.env) :: starEach [] X.env := by rfl) (hplain : (backTo cpos (starEach [] X.env)).any (·.1) = false := by rfl) :
    EV X W pa Γ (.Call (.Attribute o "index" apos) [e] [] cpos) (mo >>= fun d => lstOf d >>= fun xs => me >>= fun y => indexD xs y) :=
  ev_lm PySem.F.slot_list_index PySem.F.type_list_index (mt_indexD (room65 C.room)) (fun σ G H s a vs ds w y Q hs hp h rr rw P => by
    unfold indexD at P
    by_cases hc : shp (.lst ds) = true ∧ shp y = true
    · rw [if_pos hc] at P
      cases e : ds.findIdx? fun z => eqvD z y with
      | none => rw [e] at P; exact P.elim
      | some j =>
        rw [e] at P
        obtain ⟨hj, h1, h2⟩ := List.findIdx?_eq_some_iff_getElem.mp e
        refine ⟨a, w, toPy y, ds.map toPy, j, toPy ds[j], rfl, rfl, dp_lst h (rr.mono hs) hc.1, (rw.mono hs).dpS hc.2, shp_lst hc.1, hc.2, by rw [List.getElem?_map, List.getElem?_eq_getElem hj]; rfl, h1, fun m z' hm hz => ?_, P.now hs hp _ (.int _)⟩
        rw [List.getElem?_map, List.getElem?_eq_getElem (by omega)] at hz
        have hz := Option.some.inj hz
        subst hz
        have := h2 m hm
        simpa [eqvD] using this
    · rw [if_neg hc] at P
      exact P.elim) ho he hbase hfew hline hs hplain
end
/-! max, min -/
def minL (x : Int) (xs : List Int) : Int := xs.foldl (fun a y => if y < a then y else a) x
def maxL (x : Int) (xs : List Int) : Int := xs.foldl (fun a y => if a < y then y else a) x
theorem minL_spec : ∀ (xs : List Int) (x : Int), minL x xs ∈ x :: xs ∧ ∀ y ∈ x :: xs, minL x xs ≤ y
  | [], x => ⟨by simp [minL], by simp [minL]⟩
  | z :: xs, x => by
    have ih := minL_spec xs (if z < x then z else x)
    have e : minL x (z :: xs) = minL (if z < x then z else x) xs := rfl
    rw [e]
    refine ⟨?_, fun y m => ?_⟩
    · rcases List.mem_cons.mp ih.1 with q | q
      · rw [q]
        split <;> simp
      · simp [q]
    · have i0 := ih.2 _ List.mem_cons_self
      have i1 := ih.2
      generalize minL (if z < x then z else x) xs = q at i0 i1 ⊢
      rcases List.mem_cons.mp m with rfl | m
      · split at i0 <;> omega
      · rcases List.mem_cons.mp m with rfl | m
        · split at i0 <;> omega
        · exact i1 y (List.mem_cons_of_mem _ m)
theorem maxL_spec : ∀ (xs : List Int) (x : Int), maxL x xs ∈ x :: xs ∧ ∀ y ∈ x :: xs, y ≤ maxL x xs
  | [], x => ⟨by simp [maxL], by simp [maxL]⟩
  | z :: xs, x => by
    have ih := maxL_spec xs (if x < z then z else x)
    have e : maxL x (z :: xs) = maxL (if x < z then z else x) xs := rfl
    rw [e]
    refine ⟨?_, fun y m => ?_⟩
    · rcases List.mem_cons.mp ih.1 with q | q
      · rw [q]
        split <;> simp
      · simp [q]
    · have i0 := ih.2 _ List.mem_cons_self
      have i1 := ih.2
      generalize maxL (if x < z then z else x) xs = q at i0 i1 ⊢
      rcases List.mem_cons.mp m with rfl | m
      · split at i0 <;> omega
      · rcases List.mem_cons.mp m with rfl | m
        · split at i0 <;> omega
        · exact i1 y (List.mem_cons_of_mem _ m)
theorem minD_ints : ∀ (xs : List Int) (x : Int), PySem.W.minD (.int x) (xs.map PyData.int) = .int (minL x xs)
  | [], x => rfl
  | z :: xs, x => by
    have ih := minD_ints xs (if z < x then z else x)
    unfold PySem.W.minD at ih ⊢
    rw [List.map_cons, List.foldl_cons, PySem.W.dataLt_int]
    show _ = PyData.int (minL (if z < x then z else x) xs)
    rw [← ih]
    by_cases h : z < x
    · rw [decide_eq_true h, if_pos rfl, if_pos h]
    · rw [decide_eq_false h, if_neg (by decide), if_neg h]
theorem maxD_ints : ∀ (xs : List Int) (x : Int), PySem.W.maxD (.int x) (xs.map PyData.int) = .int (maxL x xs)
  | [], x => rfl
  | z :: xs, x => by
    have ih := maxD_ints xs (if x < z then z else x)
    unfold PySem.W.maxD at ih ⊢
    rw [List.map_cons, List.foldl_cons, PySem.W.dataLt_int]
    show _ = PyData.int (maxL (if x < z then z else x) xs)
    rw [← ih]
    by_cases h : x < z
    · rw [decide_eq_true h, if_pos rfl, if_pos h]
    · rw [decide_eq_false h, if_neg (by decide), if_neg h]
section
variable {X : Cx} {k : Nat}
theorem dpAll_ints {K : PySem.W.Frag} {H : Hp} : ∀ (xs : List Int), DpAll K H (xs.map V.int) (xs.map PyData.int)
  | [] => .nil
  | x :: xs => .cons (.int x) (dpAll_ints xs)
theorem alike_ints' (xs : List Int) : PySem.W.AlikeAll (xs.map PyData.int) := ⟨fun a ha b hb => by
  obtain ⟨x, _, rfl⟩ := List.mem_map.mp ha
  obtain ⟨y, _, rfl⟩ := List.mem_map.mp hb
  simp [PySem.W.alike], fun a ha => by
  obtain ⟨x, _, rfl⟩ := List.mem_map.mp ha
  simp⟩
def rMinA (K : PySem.W.Frag) : List V → Hp → VK → Prop := fun vs H Q => ∃ (a : Addr) (x : Int) (xs : List Int), vs = [V.ref a] ∧ (SqL K H a ((x :: xs).map V.int) ∨ SqT K H a ((x :: xs).map V.int)) ∧ Q (.int (minL x xs)) H
def rMaxA (K : PySem.W.Frag) : List V → Hp → VK → Prop := fun vs H Q => ∃ (a : Addr) (x : Int) (xs : List Int), vs = [V.ref a] ∧ (SqL K H a ((x :: xs).map V.int) ∨ SqT K H a ((x :: xs).map V.int)) ∧ Q (.int (maxL x xs)) H
theorem cr_minA (hr : Room k X.A) (hc : X.calm = true) : CallR X (.builtin "min") (rMinA X.K) := by
  intro pins s σ H vs us Q I r h
  obtain ⟨a, x, xs, rfl, hs, q⟩ := h
  rw [Vals.ref1 r]
  have u := hr.units
  have hd : PyData.depthAll ((x :: xs).map PyData.int) = 0 := PySem.W.depth_ints (x :: xs)
  have fin : ∀ (v : Value) (h' : Heap) (tk : Nat) (bs : List Addr), Reads h' v (PySem.W.minD (.int x) (xs.map PyData.int)) bs → (∀ b o, s.heap.get? b = some o → h'.get? b = some o) → EP X pins σ Q v { s with heap := h', toks := tk } := fun v h' tk bs rd hk => by
    rw [minD_ints] at rd
    cases rd
    exact ⟨.int _, H, I.kept hk, ⟨_, rfl⟩, q⟩
  rcases hs with hs | hs
  · obtain ⟨its, rv, hl, hz⟩ := I.list hs
    obtain ⟨as, ra⟩ := Dp.readsAll I _ _ its (dpAll_ints (x :: xs)) rv
    exact PySem.W.min_list_data (I.ok.hd hc) hl.isList (show ReadsAll s.heap its.toArray.toList ((x :: xs).map PyData.int) as from ra) (alike_ints' (x :: xs)) (by rw [List.map_cons] at hd; rw [hd]; omega) fun i v h' tk bs _ rd hk => fin v h' tk bs rd hk
  · obtain ⟨its, rv, hl, hz⟩ := I.tuple hs
    obtain ⟨as, ra⟩ := Dp.readsAll I _ _ its (dpAll_ints (x :: xs)) rv
    exact PySem.W.min_tuple_data (I.ok.hd hc) hl (show ReadsAll s.heap its.toArray.toList ((x :: xs).map PyData.int) as from ra) (alike_ints' (x :: xs)) (by rw [List.map_cons] at hd; rw [hd]; omega) fun i v h' tk bs _ rd hk => fin v h' tk bs rd hk
theorem cr_maxA (hr : Room k X.A) (hc : X.calm = true) : CallR X (.builtin "max") (rMaxA X.K) := by
  intro pins s σ H vs us Q I r h
  obtain ⟨a, x, xs, rfl, hs, q⟩ := h
  rw [Vals.ref1 r]
  have u := hr.units
  have hd : PyData.depthAll ((x :: xs).map PyData.int) = 0 := PySem.W.depth_ints (x :: xs)
  have fin : ∀ (v : Value) (h' : Heap) (tk : Nat) (bs : List Addr), Reads h' v (PySem.W.maxD (.int x) (xs.map PyData.int)) bs → (∀ b o, s.heap.get? b = some o → h'.get? b = some o) → EP X pins σ Q v { s with heap := h', toks := tk } := fun v h' tk bs rd hk => by
    rw [maxD_ints] at rd
    cases rd
    exact ⟨.int _, H, I.kept hk, ⟨_, rfl⟩, q⟩
  rcases hs with hs | hs
  · obtain ⟨its, rv, hl, hz⟩ := I.list hs
    obtain ⟨as, ra⟩ := Dp.readsAll I _ _ its (dpAll_ints (x :: xs)) rv
    exact PySem.W.max_list_data (I.ok.hd hc) hl.isList (show ReadsAll s.heap its.toArray.toList ((x :: xs).map PyData.int) as from ra) (alike_ints' (x :: xs)) (by rw [List.map_cons] at hd; rw [hd]; omega) fun i v h' tk bs _ rd hk => fin v h' tk bs rd hk
  · obtain ⟨its, rv, hl, hz⟩ := I.tuple hs
    obtain ⟨as, ra⟩ := Dp.readsAll I _ _ its (dpAll_ints (x :: xs)) rv
    exact PySem.W.max_tuple_data (I.ok.hd hc) hl (show ReadsAll s.heap its.toArray.toList ((x :: xs).map PyData.int) as from ra) (alike_ints' (x :: xs)) (by rw [List.map_cons] at hd; rw [hd]; omega) fun i v h' tk bs _ rd hk => fin v h' tk bs rd hk
/-- of one list or tuple of ints, or of two ints -/
def oneSeq : List D → Bool
  | [.lst _] => true
  | [.tup _] => true
  | _ => false
def minS : List D → PM D
  | [.lst ds] | [.tup ds] => match intsOf ds with | some (x :: xs) => pure (.int (minL x xs)) | _ => bad
  | _ => bad
def maxS : List D → PM D
  | [.lst ds] | [.tup ds] => match intsOf ds with | some (x :: xs) => pure (.int (maxL x xs)) | _ => bad
  | _ => bad
theorem cd_minS (hr : Room k X.A) (hc : X.calm = true) : CallD X (.builtin "min") minS := by
  refine ⟨_, cr_minA hr hc, fun W pa σ G H s xs ds Q hs hp rs P => ?_⟩
  have main : ∀ (a : Addr) (vs : List V) (es : List D), RpL X.K G vs es → (SqL X.K H a vs ∨ SqT X.K H a vs) → Pst X.K W X.mg pa σ (FD X.K Q) G H ((match intsOf es with | some (x :: xs) => pure (.int (minL x xs)) | _ => bad : PM D) s) → rMinA X.K [.ref a] H Q := fun a vs es rr hq P => by
    cases e : intsOf es with
    | none => rw [e] at P; exact P.elim
    | some bs =>
      rw [e] at P
      cases bs with
      | nil => exact P.elim
      | cons x xs =>
        rw [intsOf_rp rr e] at hq
        exact ⟨a, x, xs, rfl, hq, P.now hs hp _ (.int _)⟩
  match ds, rs, P with
  | [d], rs, P =>
    obtain ⟨v, rfl, r⟩ := rp1 rs
    cases r with
    | @lst a vs es h n r => exact main a vs es ⟨n, r⟩ (.inl (SqL.of (hs _ _ h))) P
    | @tup a vs es h n r => exact main a vs es ⟨n, r⟩ (.inr (sameT hs h)) P
    | _ => exact P.elim
  | [], _, P => exact P.elim
  | a :: _ :: _, _, P => cases a <;> exact P.elim
theorem cd_maxS (hr : Room k X.A) (hc : X.calm = true) : CallD X (.builtin "max") maxS := by
  refine ⟨_, cr_maxA hr hc, fun W pa σ G H s xs ds Q hs hp rs P => ?_⟩
  have main : ∀ (a : Addr) (vs : List V) (es : List D), RpL X.K G vs es → (SqL X.K H a vs ∨ SqT X.K H a vs) → Pst X.K W X.mg pa σ (FD X.K Q) G H ((match intsOf es with | some (x :: xs) => pure (.int (maxL x xs)) | _ => bad : PM D) s) → rMaxA X.K [.ref a] H Q := fun a vs es rr hq P => by
    cases e : intsOf es with
    | none => rw [e] at P; exact P.elim
    | some bs =>
      rw [e] at P
      cases bs with
      | nil => exact P.elim
      | cons x xs =>
        rw [intsOf_rp rr e] at hq
        exact ⟨a, x, xs, rfl, hq, P.now hs hp _ (.int _)⟩
  match ds, rs, P with
  | [d], rs, P =>
    obtain ⟨v, rfl, r⟩ := rp1 rs
    cases r with
    | @lst a vs es h n r => exact main a vs es ⟨n, r⟩ (.inl (SqL.of (hs _ _ h))) P
    | @tup a vs es h n r => exact main a vs es ⟨n, r⟩ (.inr (sameT hs h)) P
    | _ => exact P.elim
  | [], _, P => exact P.elim
  | a :: _ :: _, _, P => cases a <;> exact P.elim
end
end EV

/-! EV 20: sorted(set(..)) of a list of tuples of ints, none of them empty. -/
namespace EV
open PySem PySem.Spec PyProof.Rows L2 PySem.W
/-! rows, ascending, without doubles -/
def leR (a b : List Int) : Bool := decide (a ≤ b)
theorem leR_tr (a b c : List Int) (h : leR a b = true) (h2 : leR b c = true) : leR a c = true := decide_eq_true (List.le_trans (of_decide_eq_true h) (of_decide_eq_true h2))
theorem leR_tot (a b : List Int) : (leR a b || leR b a) = true := by
  rw [Bool.or_eq_true]
  rcases List.le_total a b with h | h
  · exact .inl (decide_eq_true h)
  · exact .inr (decide_eq_true h)
theorem leR_anti {a b : List Int} (h : leR a b = true) (h2 : leR b a = true) : a = b := List.le_antisymm (of_decide_eq_true h) (of_decide_eq_true h2)
def ddR : List (List Int) → List (List Int)
  | [] => []
  | x :: r => if x ∈ ddR r then ddR r else x :: ddR r
theorem mem_ddR {x : List Int} : ∀ {l : List (List Int)}, x ∈ ddR l ↔ x ∈ l
  | [] => Iff.rfl
  | y :: r => by
    unfold ddR
    split
    · rename_i h
      rw [mem_ddR (l := r), List.mem_cons]
      constructor
      · exact .inr
      · rintro (e | m)
        · rw [e]
          exact mem_ddR.mp h
        · exact m
    · rw [List.mem_cons, mem_ddR (l := r), List.mem_cons]
theorem ddR_nodup : ∀ (l : List (List Int)), (ddR l).Nodup
  | [] => .nil
  | y :: r => by
    unfold ddR
    split
    · exact ddR_nodup r
    · rename_i h
      exact List.nodup_cons.mpr ⟨h, ddR_nodup r⟩
def setT (l : List (List Int)) : List (List Int) := (ddR l).mergeSort leR
theorem mem_setT {x : List Int} {l : List (List Int)} : x ∈ setT l ↔ x ∈ l := by
  unfold setT
  rw [(List.mergeSort_perm _ _).mem_iff, mem_ddR]
theorem setT_sorted (l : List (List Int)) : (setT l).Pairwise fun a b => leR a b = true := List.pairwise_mergeSort leR_tr leR_tot _
theorem setT_nodup (l : List (List Int)) : (setT l).Nodup := (List.mergeSort_perm _ _).nodup_iff.mpr (ddR_nodup l)
theorem setT_uniq {A B : List (List Int)} (ha : A.Pairwise fun a b => leR a b = true) (hb : B.Pairwise fun a b => leR a b = true) (na : A.Nodup) (nb : B.Nodup) (e : ∀ x, x ∈ A ↔ x ∈ B) : A = B :=
  List.Perm.eq_of_pairwise (fun a b _ _ h1 h2 => leR_anti h1 h2) ha hb ((List.perm_ext_iff_of_nodup na nb).mpr e)
def tR (r : List Int) : D := .tup (r.map D.int)
def encR (r : List Int) : PyData := .tuple (r.map PyData.int)
theorem encR_le (a b : List Int) : dataLe false encR a b = leR a b := by
  show (!dataLt (encR b) (encR a)) = leR a b
  unfold encR leR
  rw [dataLt_tuple, show PyProof.Rows.lexLt PyProof.Rows.itemOrd (keyToksAll (b.map PyData.int)) (keyToksAll (a.map PyData.int)) = rowLt (b.map .int) (a.map .int) from rfl, dataLt_ints]
  by_cases h : b < a
  · rw [decide_eq_true h, decide_eq_false (fun z => (List.not_lt.mpr z) h)]
    rfl
  · rw [decide_eq_false h, decide_eq_true (List.not_lt.mp h)]
    rfl
theorem perm_map_ex {α β : Type} {f : α → β} {xs ys : List β} (p : xs.Perm ys) : ∀ L : List α, xs = L.map f → ∃ L1 : List α, L1.Perm L ∧ ys = L1.map f := by
  induction p with
  | nil =>
    intro L e
    exact ⟨L, .refl _, e⟩
  | cons x _ ih =>
    intro L e
    cases L with
    | nil => cases e
    | cons y L =>
      rw [List.map_cons] at e
      injection e with e1 e2
      obtain ⟨L1, p1, e3⟩ := ih L e2
      exact ⟨y :: L1, p1.cons y, by rw [List.map_cons, e1, e3]⟩
  | swap x y l =>
    intro L e
    match L, e with
    | a :: b :: L, e =>
      rw [List.map_cons, List.map_cons] at e
      injection e with e1 e2
      injection e2 with e2 e3
      exact ⟨b :: a :: L, .swap a b L, by rw [List.map_cons, List.map_cons, e1, e2, e3]⟩
    | [], e => cases e
    | [a], e => cases e
  | trans _ _ ih1 ih2 =>
    intro L e
    obtain ⟨L1, p1, e1⟩ := ih1 L e
    obtain ⟨L2, p2, e2⟩ := ih2 L1 e1
    exact ⟨L2, p2.trans p1, e2⟩
section
variable {P : Program} {w : World} {A : Around} {E : Value → Shared → Prop} {s : Shared}
theorem call_sort_data {β : Type} {a : Addr} {vs : List Value} {n : Nat} {bs : List β} {enc : β → PyData} {R : Value → β → Prop} {Q : Value → Shared → Prop} (ho : s.heap.get? a = some (seqObj "list" vs.toArray n)) (e : EachIs R vs bs)
    (er : EachIs (fun v b => ∃ as, Reads (sortingHeap s.heap a vs) v (enc b) as) vs bs) (hal : AllAlike (bs.map enc)) (hk : Sortable (bs.map enc)) (hL : vs.length ≤ sizeLine) (hu : ∀ b, b ∈ bs → A.in1.units + (enc b).depth < cLine)
    (h : ∀ out : List Value, EachIs R out (bs.mergeSort (dataLe false enc)) → Q .none { s with heap := sortedHeap s.heap a vs out.toArray }) : wpAny (model P w) A (PySem.call (.builtin "list.sort") [.ref a]) Q E s :=
  wpAny_call_entry slot_list_sort ⟨_, ho, rfl⟩ entry_list_sort (list_sort_vals ho (SortsAt.data (s := { s with heap := sortingHeap s.heap a vs }) (each_map (R := fun v d => ∃ as, Reads (sortingHeap s.heap a vs) v d as) enc er) hal hk (bound_map hu)) hL
    ⟨_, rfl, h _ (sortVals_data false e er hal)⟩) (args_list_sort _)
theorem each_refs {L : List (Addr × List Int)} : ∀ L1 : List (Addr × List Int), (∀ q ∈ L1, q ∈ L) → EachIs (fun v b => ∃ q ∈ L, v = Value.ref q.1 ∧ b = q.2) (L1.map fun q => Value.ref q.1) (L1.map (·.2))
  | [], _ => .nil
  | q :: L1, h => .cons ⟨q, h q List.mem_cons_self, rfl, rfl⟩ (each_refs L1 fun r m => h r (List.mem_cons_of_mem _ m))
theorem sorted_setA {a : Addr} {L : List (Addr × List Int)} {es : Array (Int × Value)} {ep : Nat} {t : SetTable} {Q : Value → Shared → Prop} (R : SetTR P w s.heap a L es ep t) (hh : A.handled = none) (hne : ∀ p ∈ L, p.2 ≠ [])
    (hrd : ∀ p ∈ L, ∃ as, Reads s.heap (.ref p.1) (encR p.2) as) (hu : A.units + 20 < cLine)
    (hQ : ∀ (s' : Shared) (p : Addr) (out : List Value) (c : Nat), (∀ b o, s.heap.get? b = some o → s'.heap.get? b = some o) → s'.gens = s.gens → s'.os = s.os → s.heap.objs.size ≤ p → s'.heap.get? p = some (seqObj "list" out.toArray c) →
      EachIs (fun v b => ∃ q ∈ L, v = Value.ref q.1 ∧ b = q.2) out ((L.map (·.2)).mergeSort leR) → Q (.ref p) s') : wpAny (model P w) A (PySem.call (.builtin "sorted") [.ref a]) Q E s := by
  obtain ⟨ob, hob, hx, hdat⟩ := R.ob
  have few := R.few
  have size := R.size
  refine Calls.call_function_entry (prog := P) (w := w) kind_sorted plain_sorted entry_sorted (args_sorted1 (.ref a)) ?_
  unfold Builtin.«sorted»
  refine wpAny_bind (m := checkCount "sorted" 1 1 (1 : Nat)) (wpAny_pure ?_)
  refine wpAny_bind (collect_set (A := A.in1) hh ⟨ob, hob, hx.1, hdat⟩ R.fits (by unfold scanBound; omega) R.tab.ris R.led fun s1 vs keep1 size1 g1 o1 pm => ?_)
  have rows : es.toList.map (·.2) = L.map fun q => Value.ref q.1 := by
    rw [R.rows, L2.rowsOf, List.map_map]
    rfl
  rw [rows] at pm
  obtain ⟨L1, pL, evs⟩ := perm_map_ex pm.symm L rfl
  have hvl : vs.length < 64 := by
    rw [evs, List.length_map, pL.length_eq]
    exact few
  have hLs : vs.length ≤ sizeLine := by
    rw [sizeLine_eq]
    omega
  refine wpAny_bind (wpAny_newList ?_ hLs)
  have hoL : (s1.heap.push (seqObj "list" vs.toArray 0)).get? s1.heap.objs.size = some (seqObj "list" vs.toArray 0) := Heap.get?_push_size s1.heap rfl
  have keepP : ∀ b o, s.heap.get? b = some o → (sortingHeap (s1.heap.push (seqObj "list" vs.toArray 0)) s1.heap.objs.size vs).get? b = some o := fun b o e =>
    sortingHeap_old (Nat.ne_of_lt (Heap.lt_size (keep1 b o e))) (Heap.get?_push_of_some _ (keep1 b o e))
  have inL : ∀ q ∈ L1, q ∈ L := fun q m => pL.mem_iff.mp m
  have e0 : EachIs (fun v b => ∃ q ∈ L, v = Value.ref q.1 ∧ b = q.2) vs (L1.map (·.2)) := by
    rw [evs]
    exact each_refs L1 inL
  have er : EachIs (fun v b => ∃ as, Reads (sortingHeap (s1.heap.push (seqObj "list" vs.toArray 0)) s1.heap.objs.size vs) v (encR b) as) vs (L1.map (·.2)) := e0.mono fun v b ⟨q, hq, e1, e2⟩ => by
    obtain ⟨as, rd⟩ := hrd q hq
    rw [e1, e2]
    exact ⟨as, PyProof.Rows.Reads.keeps keepP rd⟩
  have hal : AllAlike ((L1.map (·.2)).map encR) := fun d hd d' hd' => by
    obtain ⟨x, _, rfl⟩ := List.mem_map.mp hd
    obtain ⟨y, _, rfl⟩ := List.mem_map.mp hd'
    simp only [encR, alike]
    exact alike_ints x y
  have hks : Sortable ((L1.map (·.2)).map encR) := by
    refine .inl fun d hd => ?_
    obtain ⟨x, hx, rfl⟩ := List.mem_map.mp hd
    obtain ⟨q, hq, ex⟩ := List.mem_map.mp hx
    rw [← ex]
    have z := hne q (inL q hq)
    cases e : q.2 with
    | nil => exact absurd e z
    | cons y r => exact ⟨.int y, r.map PyData.int, rfl⟩
  refine wpAny_bind (wpAny_holding (call_sort_data (s := { s1 with heap := s1.heap.push (seqObj "list" vs.toArray 0) }) hoL e0 er hal hks hLs (fun b _ => ?_) fun out eo => ?_))
  · have e : (encR b).depth = 1 := by
      simp only [encR, PyData.depth, depth_ints]
    rw [e]
    show A.units + 1 + 1 + 1 < cLine
    omega
  · obtain ⟨c, hc⟩ := sortedHeap_at (vs := vs) (out := out.toArray) hoL
    refine wpAny_pure ⟨_, rfl, hQ _ s1.heap.objs.size out c (fun b u e => ?_) g1 o1 size1 hc ?_⟩
    · have q := keep1 b u e
      have lt := Heap.lt_size q
      show (sortedHeap (s1.heap.push (seqObj "list" vs.toArray 0)) s1.heap.objs.size vs out.toArray).get? b = some u
      rw [sortedHeap_old (Nat.ne_of_lt lt) (by rw [size_push']; exact Nat.lt_succ_of_lt lt)]
      exact Heap.get?_push_of_some _ q
    · have e1 : (L1.map (·.2)).mergeSort (dataLe false encR) = (L.map (·.2)).mergeSort leR := by
        rw [show (dataLe false encR) = leR from funext fun x => funext fun y => encR_le x y]
        exact List.Perm.eq_of_pairwise (fun a b _ _ h1 h2 => leR_anti h1 h2) (List.pairwise_mergeSort leR_tr leR_tot _) (List.pairwise_mergeSort leR_tr leR_tot _) ((List.mergeSort_perm _ _).trans ((pL.map _).trans (List.mergeSort_perm _ _).symm))
      rw [← e1]
      exact eo
end
theorem ks_of {K : PySem.W.Frag} {G : Hp} : ∀ {xs : List V} {rows : List (List Int)}, RpL K G xs (rows.map tR) → ∃ ks : List (Addr × List Int), xs = ks.map (fun p => V.ref p.1) ∧ ks.map (·.2) = rows ∧ ∀ p ∈ ks, SqT K G p.1 (p.2.map V.int)
  | [], [], _ => ⟨[], rfl, rfl, fun p m => by cases m⟩
  | [], _ :: _, h => absurd h.1 (by simp)
  | _ :: _, [], h => absurd h.1 (by simp)
  | x :: xs, r :: rows, h => by
    obtain ⟨h1, h2⟩ := RpL.tail h
    obtain ⟨ks, e1, e2, e3⟩ := ks_of h2
    obtain ⟨a, ys, rfl, hq, rr⟩ := h1.tupE
    rw [intsOf_rp rr (intsOf_map r)] at hq
    refine ⟨(a, r) :: ks, by rw [List.map_cons, e1], by rw [List.map_cons, e2], fun p m => ?_⟩
    rcases List.mem_cons.mp m with rfl | m
    · exact hq
    · exact e3 p m
theorem of_eachT {K : PySem.W.Frag} {G : Hp} {ks : List (Addr × List Int)} (hk : ∀ p ∈ ks, SqT K G p.1 (p.2.map V.int)) : ∀ {us : List Value} {bs : List (List Int)}, EachIs (fun v b => ∃ q ∈ ks, v = Value.ref q.1 ∧ b = q.2) us bs → ∃ ys : List V, Vals ys us ∧ RpL K G ys (bs.map tR)
  | _, _, .nil => ⟨[], .nil, .nil⟩
  | _, _, .cons ⟨q, hq, e1, e2⟩ t => by
    obtain ⟨ys, q1, q2⟩ := of_eachT hk t
    subst e1
    subst e2
    exact ⟨.ref q.1 :: ys, .cons rfl q1, .cons (Rp.mkT (hk q hq) (rpl_ints _)) q2⟩
section
variable {X : Cx} {W : WX} {pa : Option Addr} {Γ : List Sl} {k : Nat} {pos : Pos}
def tSetT (K : PySem.W.Frag) (ta : TE) : TE := fun σ H Q => ta σ H fun x H1 => ∃ (G : Hp) (l : Addr) (xs : List V) (rows : List (List Int)), Same G H1 ∧ x = V.ref l ∧ SqL K H1 l xs ∧ RpL K G xs (rows.map tR) ∧ rows.length < 64 ∧ (∀ r ∈ rows, r ≠ []) ∧
  ∀ (ys : List V) (p : Addr), RpL K G ys ((setT rows).map tR) → H1 p = none → Q (.ref p) (upd H1 p (.lst ys))
theorem pe_setT {a : Expr} {ta : TE} {p p2 q pos : Pos} (hr : Room k X.A) (hc : X.calm = true) (hg : Gl X "sorted") (hm : X.mg "sorted" = none) (hg2 : Gl X "set") (hm2 : X.mg "set" = none) (ha : PE X a ta)
    (na : starEach [a] X.env = (false, eval a X.env) :: starEach [] X.env := by rfl) : PE X (.Call (.Name "sorted" p) [.Call (.Name "set" p2) [a] [] q] [] pos) (tSetT X.K ta) := by
  refine ⟨fun pins s σ H Q I h => ?_⟩
  refine Call_ (ld_blt I hg hm (by decide +kernel : bootBuiltins ("sorted" : Str) = some (.builtin "sorted")) ?_)
  refine callWith_builtin1 (args_cons ?_ rfl) rfl rfl
  refine Call_ (ld_blt I hg2 hm2 boot_set ?_)
  refine callWith_type1 (args_cons (thn (ha.run pins s σ H _ I h) fun v s1 ⟨x, H1, I1, r1, q1⟩ => args_nil ?_) na) na rfl
  obtain ⟨G, l, xs, rows, hs, rfl, hq, rr, h64, hne, q1⟩ := q1
  cases r1
  obtain ⟨ks, ex, ek, hk⟩ := ks_of rr
  subst ex
  have hkl : ks.length < 64 := by
    rw [← List.length_map (f := fun p : Addr × List Int => p.2), ek]
    exact h64
  obtain ⟨its, rv, pl, hz⟩ := I1.list hq
  have u := hr.units
  refine call_set_tups (P := X.prog) (w := X.w) ks (I1.ok.hd hc) pl.isList (by simpa using refs_of_vals rv) (fun p hp => I1.isT (sameT hs (hk p hp))) hkl (by omega) fun h' tk L es ep t R g kk => args_nil ?_
  have I2 := I1.kept (t' := tk) kk
  have sub : ∀ p ∈ L, p ∈ ks := fun p m => List.mem_of_mem_take (g.sub p m)
  have all : ∀ p ∈ ks, p.2 ∈ L.map (·.2) := fun p m => g.all p (by rw [List.take_length]; exact m)
  refine sorted_setA R (I2.ok.hd hc) (fun p m => hne _ (by rw [← ek]; exact List.mem_map.mpr ⟨p, sub p m, rfl⟩)) (fun p m => ?_) (by omega) fun s' pp out c k3 g3 o3 hp hgt eo => ?_
  · exact Dp.reads I2 (encR p.2) (.ref p.1) (.ref p.1) (.tup (sameT hs (hk p (sub p m))) (dpAll_ints p.2)) rfl
  · have e1 : (L.map (·.2)).mergeSort leR = setT rows := setT_uniq (List.pairwise_mergeSort leR_tr leR_tot _) (setT_sorted _) ((List.mergeSort_perm _ _).nodup_iff.mpr R.nd) (setT_nodup _) fun y => by
      rw [(List.mergeSort_perm _ _).mem_iff, mem_setT, ← ek]
      constructor
      · intro m
        obtain ⟨z, mz, e⟩ := List.mem_map.mp m
        exact List.mem_map.mpr ⟨z, sub z mz, e⟩
      · intro m
        obtain ⟨z, mz, rfl⟩ := List.mem_map.mp m
        exact all z mz
    rw [e1] at eo
    obtain ⟨ys, v1, v2⟩ := of_eachT hk (eo.mono fun v b ⟨q, hq, e1, e2⟩ => ⟨q, sub q hq, e1, e2⟩)
    have hlen : ys.length ≤ sizeLine := by
      rw [v2.1, List.length_map, ← e1, List.length_mergeSort, List.length_map, sizeLine_eq]
      have := R.few
      omega
    have hn : H1 pp = none := I2.hok.fresh hp
    have J : Inv X pins σ (upd H1 pp (.lst ys)) { s1 with heap := s'.heap, gens := s'.gens, drawn := s'.drawn, toks := s'.toks } :=
      Inv.call (s := { s1 with heap := h', toks := tk }) I2 (ch := []) (Un.laid k3 hp hn) (I2.hok.laid k3 hp ⟨hlen, out, c, v1, hgt⟩) (by rw [g3]; exact I2.bare) (fun _ z => nomatch z)
    have e : s' = { s1 with heap := s'.heap, gens := s'.gens, drawn := s'.drawn, toks := s'.toks } := by
      cases s'
      cases s1
      cases o3
      rfl
    rw [e]
    exact ⟨.ref pp, _, J, rfl, q1 ys pp v2 hn⟩
/-- rows of ints in trees -/
def rowOf : D → Option (List Int)
  | .tup xs => intsOf xs
  | _ => none
def rowsOfD : List D → Option (List (List Int))
  | [] => some []
  | d :: ds => match rowOf d, rowsOfD ds with
    | some r, some rs => some (r :: rs)
    | _, _ => none
theorem intsOf_eq : ∀ {ds : List D} {ns : List Int}, intsOf ds = some ns → ds = ns.map D.int
  | [], ns, h => by
    cases h
    rfl
  | d :: ds, ns, h => by
    cases d with
    | int i =>
      have h : (match intsOf ds with | some ns => some (i :: ns) | none => none) = some ns := by
        unfold intsOf at h
        cases q : intsOf ds with
        | none => rw [q] at h; cases h
        | some ms => rw [q] at h; exact h
      cases q : intsOf ds with
      | none => rw [q] at h; cases h
      | some ms =>
        rw [q] at h
        cases h
        rw [intsOf_eq q]
        rfl
    | _ => cases h
theorem rowsOfD_eq : ∀ {ds : List D} {rs : List (List Int)}, rowsOfD ds = some rs → ds = rs.map tR
  | [], rs, h => by
    cases h
    rfl
  | d :: ds, rs, h => by
    unfold rowsOfD at h
    cases q : rowOf d with
    | none => rw [q] at h; cases h
    | some r =>
      cases q2 : rowsOfD ds with
      | none => rw [q, q2] at h; cases h
      | some rs2 =>
        rw [q, q2] at h
        cases h
        rw [rowsOfD_eq q2]
        cases d with
        | tup xs =>
          rw [List.map_cons]
          unfold tR
          rw [intsOf_eq (show intsOf xs = some r from q)]
        | _ => cases q
theorem rowsOfD_map : ∀ rs : List (List Int), rowsOfD (rs.map tR) = some rs
  | [] => rfl
  | r :: rs => by
    rw [List.map_cons]
    unfold rowsOfD
    rw [rowsOfD_map rs, show rowOf (tR r) = some r from intsOf_map r]
/-- sorted(set(..)), of tuples of ints -/
def sortSetR : D → PM D
  | .lst xs => match rowsOfD xs with
    | some rs => if rs.length < 64 ∧ rs.all (fun r => !r.isEmpty) = true then mkL ((setT rs).map tR) else bad
    | none => bad
  | _ => bad
theorem ev_setT {a : Expr} {m : PM D} {p p2 q pos : Pos} (C : Cok X W k) (hg : Gl X "sorted") (hm : X.mg "sorted" = none) (hg2 : Gl X "set") (hm2 : X.mg "set" = none) (ha : EV X W pa Γ a m)
    (na : starEach [a] X.env = (false, eval a X.env) :: starEach [] X.env := by rfl) : EV X W pa Γ (.Call (.Name "sorted" p) [.Call (.Name "set" p2) [a] [] q] [] pos) (m >>= sortSetR) :=
  pe_imp (pe_setT C.room C.calm hg hm hg2 hm2 ha na) fun σ H Q ⟨G0, H0, G, s, E, P⟩ => ⟨G0, H0, G, s, E, P.bind.imp fun G1 H1 d s1 x1 p1 P1 v r => by
    cases r with
    | @lst b zs ds h n rr =>
      have P1 : Pst X.K W X.mg pa σ (FD X.K Q) G1 H1 ((match rowsOfD ds with | some rs => if rs.length < 64 ∧ rs.all (fun r => !r.isEmpty) = true then mkL ((setT rs).map tR) else bad | none => bad : PM D) s1) := P1
      cases e : rowsOfD ds with
      | none => rw [e] at P1; exact P1.elim
      | some rs =>
        rw [e] at P1
        have P1 : Pst X.K W X.mg pa σ (FD X.K Q) G1 H1 ((if rs.length < 64 ∧ rs.all (fun r => !r.isEmpty) = true then mkL ((setT rs).map tR) else bad : PM D) s1) := P1
        by_cases hb : rs.length < 64 ∧ rs.all (fun r => !r.isEmpty) = true
        · rw [if_pos hb] at P1
          have rr : RpL X.K G1 zs ds := ⟨n, rr⟩
          rw [rowsOfD_eq e] at rr
          have ne : ∀ r ∈ rs, r ≠ [] := fun r mr e => by
            have z := List.all_eq_true.mp hb.2 r mr
            rw [e] at z
            cases z
          exact ⟨G1, b, zs, rs, x1.sub, rfl, SqL.of (x1.sub _ _ h), rr, hb.1, ne, fun ys p ry np => mkL_use P1 ry x1.sub p1 np⟩
        · rw [if_neg hb] at P1
          exact P1.elim
    | _ => exact P1.elim⟩
end
end EV

/-! EV 21: three names, the last one a list of one's own; int of a bool. -/
namespace EV
open PySem PySem.Spec PyProof.Rows L2
section
variable {X : Cx} {W : WX} {pa : Option Addr} {Γ : List Sl} {k : Nat} {pos : Pos} {α : Type} {out : α → Out} {rest : List Stmt}
def vvo {β : Type} (kk : D → D → List D → PM β) : List Mv → PM β
  | [.v a, .v b, .o xs] => kk a b xs
  | _ => bad
theorem vvo_cases {β : Type} (kk : D → D → List D → PM β) (ds : List Mv) : (∃ u v w, ds = [.v u, .v v, .o w]) ∨ vvo kk ds = bad := by
  unfold vvo
  split
  · exact .inl ⟨_, _, _, rfl⟩
  · exact .inr rfl
/-- a, b, c = e1, e2, [..], plain locals -/
theorem sv_parVVO (i j l : Nat) {y z t : Str} {a b c : Expr} {px py pz pt : Pos} {kt k2 pt2} {ml : PM (List Mv)} {kk : D → D → List D → PM α} (hc : X.calm = true) (hN : X.N.Nodup) (ha : EM X W pa Γ [a, b, c] ml) (hij : i ≠ j) (hil : i ≠ l) (hjl : j ≠ l)
    (hr : ∀ u v w, SV X W pa (((Γ.set i (.val u)).set j (.val v)).set l (.own w)) out rest (kk u v w)) (hi : X.N[i]? = some y := by rfl) (hj : X.N[j]? = some z := by rfl) (hl : X.N[l]? = some t := by rfl)
    (hx : X.env.scope.names.lookup y = some .local := by rfl) (hy : X.env.scope.names.lookup z = some .local := by rfl) (hz : X.env.scope.names.lookup t = some .local := by rfl)
    (hw : swappedStores [.Tuple [.Name y px, .Name z py, .Name t pz] kt pt] (.Tuple [a, b, c] k2 pt2) X.env = pure (some [y, z, t]) := by rfl)
    (hs : swapsWithSole [.Tuple [.Name y px, .Name z py, .Name t pz] kt pt] (.Tuple [a, b, c] k2 pt2) pos.line X.env = pure false := by rfl) :
    SV X W pa Γ out (.Assign [.Tuple [.Name y px, .Name z py, .Name t pz] kt pt] (.Tuple [a, b, c] k2 pt2) pos :: rest) (ml >>= vvo kk) := by
  unfold SV
  rw [bind_assoc]
  have hrest : PSs X rest (fun Dn σ H => ∃ q : EV.D × EV.D × List EV.D, svT X W pa (((Γ.set i (.val q.1)).set j (.val q.2.1)).set l (.own q.2.2)) (kk q.1 q.2.1 q.2.2 >>= fun a => pure (out a)) Dn σ H) := pss_ex (ι := EV.D × EV.D × List EV.D) fun q => hr q.1 q.2.1 q.2.2
  refine pss_imp (pss_cons (ps_par3 (i := i) (j := j) (l := l) hc hN hi hj hl hij hil hjl hx hy hz ha hw hs) hrest) fun Dn σ H ⟨G0, H0, G, s, E, P⟩ => ⟨G0, H0, G, s, E, (P.bind E).imp fun G1 H1 ds s1 x1 p1 P1 vs r => ?_⟩
  rcases vvo_cases kk ds with ⟨u, v, w, rfl⟩ | e
  · obtain ⟨v1, v2, v3, rfl⟩ := mr_three r
    have E1 := E.step x1 p1
    obtain ⟨r1, r2, ⟨p, ws, e3, hb, hp, hg, rr, hpa, _⟩, _⟩ := r
    subst e3
    have f0 : FreshIn Γ σ p := E.freshIn hb
    have f1 : FreshIn (Γ.set i (.val u)) (σ.set i (some v1)) p := FreshIn.set (m := .v u) f0 i fun xs e => by cases e
    have f2 : FreshIn ((Γ.set i (.val u)).set j (.val v)) ((σ.set i (some v1)).set j (some v2)) p := FreshIn.set (m := .v v) f1 j fun xs e => by cases e
    exact ⟨v1, v2, .ref p, rfl, (u, v, w), G0, H0, G1, s1, ((E1.set i r1).set j r2).setOwn l hp hg rr (ext_free E.ext hb) hpa (fun q ys _ e => f2 q ys e), P1⟩
  · rw [e] at P1
    exact P1.elim
end
/-! int(..) -/
def intF : List D → PM D
  | [.int i] => pure (.int i)
  | [.bl b] => pure (.int (if b then 1 else 0))
  | _ => bad
theorem cd_int {X : Cx} : CallD X (.type "int") intF := by
  refine ⟨_, call_int1, fun W pa σ G H s xs ds Q hs hp rs P => ?_⟩
  match ds, rs, P with
  | [d], rs, P =>
    obtain ⟨v, rfl, r⟩ := rp1 rs
    cases r with
    | int i => exact .inl ⟨i, rfl, P G H (Ext.refl hs) hp _ (.int _)⟩
    | bl b => exact .inr ⟨b, rfl, P G H (Ext.refl hs) hp _ (.int _)⟩
    | _ => exact P.elim
  | [], _, P => exact P.elim
  | a :: _ :: _, _, P => cases a <;> exact P.elim
end EV

set_option maxHeartbeats 1000000
/-! EV 22: a for loop in a generator's body. -/
namespace EV
open PySem PySem.Spec PyProof.Rows L2 GenW
section
variable {prog : Program} {w : World} {A : Around} {R : GenEnd} {Y : Protocol} {n : Nat} {s₀ : Shared} {c : Code} {fs : List Frame} {s : Shared} {env : PySem.Env}
/-- an exception on its way out of a loop's code -/
def outX (x : Value) (env : PySem.Env) : Sem PySem.Fin := (do noteFrame x env; theTreesLotGoes x : Sem Unit).wrap (fun _ => .raise x) .raise id id
theorem seg_loopFor {target : Expr} {it : Value} {body : List Stmt}
    (h : wpAny (model prog w) (A.over (.forLoop target it body [] env) fs) (pyNext it) (fun r s1 => match r with
      | none => ∀ c', Seg (model prog w) A R Y n s₀ c' (leafOf (.ok .next)) fs s1
      | some v => wpAny (model prog w) (A.over (.forLoop target it body [] env) fs) (letOwnedTupleGo target it v) (fun _ s2 => wpAny (model prog w) (A.over (.forLoop target it body [] env) fs) (assign target env v) (fun _ s3 =>
          Seg (model prog w) A R Y n s₀ (.forLoop target it body [] env) ((execs body env).wrap (fun f => match f with
            | .next | .cont => .pure (.again (.forLoop target it body [] env))
            | .brk => .pure (.done .next)
            | .ret v => .pure (.done (.ret v))) (fun e => outX e env) id id) fs s3)
        (fun x s' => Seg (model prog w) A R Y n s₀ (.forLoop target it body [] env) (outX x env) fs s') s2) (fun x s' => Seg (model prog w) A R Y n s₀ (.forLoop target it body [] env) (outX x env) fs s') s1)
      (fun x s' => Seg (model prog w) A R Y n s₀ (.forLoop target it body [] env) (outX x env) fs s') s) :
    Seg (model prog w) A R Y n s₀ (.forLoop target it body [] env) ((model prog w).den (.forLoop target it body [] env)) fs s := by
  show Seg _ A R Y n s₀ _ ((forTurn target it body [] env).onRaise (fun x => do noteFrame x env; theTreesLotGoes x)) fs s
  unfold forTurn
  have ex : ∀ x s', Seg (model prog w) A R Y n s₀ (.forLoop target it body [] env) (outX x env) fs s' → Seg (model prog w) A R Y n s₀ (.forLoop target it body [] env) ((do noteFrame x env; theTreesLotGoes x : Sem Unit).bind fun _ => .raise x) fs s' := fun x s' hx => by
    rw [Sem.bind_eq_wrap]
    exact hx
  rw [Sem.onRaise_eq_wrap]
  refine seg_bind_wrap (wpAny_standAt ?_)
  refine seg_bind_wrap (wpAny_onRaise (wpAny_mono h (fun r s1 h1 => ?_) fun x s' hx => wpAny_standAt (ex x s' hx)))
  cases r with
  | none =>
    refine seg_again rfl ?_
    exact h1 _
  | some v =>
    refine seg_bind_wrap (wpAny_mono h1 (fun _ s2 h2 => ?_) fun x s' hx => ex x s' hx)
    refine seg_bind_wrap (wpAny_mono h2 (fun _ s3 h3 => ?_) fun x s' hx => ex x s' hx)
    rw [Sem.bind_eq_wrap', Sem.wrap_wrap]
    rw [Sem.wrap_congr (execs body env) _ _ (K' := fun f => match f with
            | .next | .cont => .pure (.again (.forLoop target it body [] env))
            | .brk => .pure (.done .next)
            | .ret v => .pure (.done (.ret v))) (H' := fun e => outX e env)
        (fun f => by cases f <;> rfl) (fun e => by
          show (do noteFrame e env; theTreesLotGoes e : Sem Unit).bind (fun _ => .raise e) = _
          rw [Sem.bind_eq_wrap]
          rfl)]
    exact h3
end
section
variable {X : Cx}
def tGFor (wi : TI) (g : TG) (tb : TGn) : TGn := fun D ys σ H => wi σ H fun J H1 => ∃ W : Nat → Nat → List V → L2.St → Hp → Prop, (∃ m, W 0 m ys σ H1) ∧ ∀ i m ys σ H, W i m ys σ H →
  (J.stop i H ∧ D.nx ys σ H) ∨ (J.go i H ∧ ∃ N : List V → L2.St → Hp → Prop, (∀ ys' σ' H', N ys' σ' H' → ∃ m', m' < m ∧ W (i + 1) m' ys' σ' H') ∧ ∀ x H', J.yld i H x H' → g x σ H' fun σ2 H2 => tb { D with nx := N, ct := N, bk := D.nx } ys σ2 H2)
theorem gs_for {iter tg : Expr} {body : List Stmt} {wi : TI} {g : TG} {tb : TGn} {pos : Pos} (hp : PassesOwn (model X.prog X.w) X.A X.env X.xe) (hc : X.calm = true) (hi : PI X tg iter wi) (hg : PG X tg g) (hb : GSs X body tb)
    (hs : ∀ x, foldedSetIterable iter X.env x = pure x := by intro _; rfl) : GS X (.For tg iter body [] pos) (tGFor wi g tb) := by
  refine ⟨fun A S ip R n ys s₀ c fs K J gd lv s σ H D gc hn k hI ht => ?_⟩
  obtain ⟨acc, cc, rv, I⟩ := hI
  rw [exec_For]
  refine seg_bind_wrap (wpAny_standAt ?_)
  refine seg_bind_wrap ?_
  rw [gc.over]
  refine wpAny_mono (hi.run _ s σ H _ I ht) (fun v s1 h1 => ?_) fun x s' hx => k.exc n s₀ x s' hx
  refine seg_bind_wrap (wpAny_of_eq (hs v) ?_)
  refine seg_bind_wrap (wpAny_standAt ?_)
  refine seg_bind_wrap ?_
  rw [gc.over]
  refine wpAny_holding (wpAny_mono h1 (fun itv s2 h2 => ?_) fun x s' hx => k.exc n s₀ x s' hx)
  obtain ⟨it, fp, tn, Jt, H2, e, I2, T, st2, f2, W, ⟨m0, w0⟩, turn⟩ := h2
  subst e
  show Seg _ _ _ _ _ _ _ ((runOwn (.forLoop tg (.ref it) body [] X.env) X.env).wrap K J gd lv) _ _
  refine seg_call fun p => ?_
  have hS : ∀ b ∈ fp, S ≠ b := fun b hb => (f2 b hb).2.2.2.2.2 (S, lstObj acc cc) (List.mem_append_right _ List.mem_cons_self)
  have stat : ∀ {H' : Hp} {acc' : Array Value} {c' : Nat}, (∀ b ∈ fp, H' b = none) → ∀ b ∈ fp, FpOk X ((S, lstObj acc' c') :: ip) H' b := fun {H' acc' c'} hn b hb => by
    obtain ⟨_, q1, q2, q3, q4, q5⟩ := f2 b hb
    refine ⟨hn b hb, q1, q2, q3, q4, fun p hp => ?_⟩
    rcases List.mem_append.mp hp with hp | hp
    · exact q5 p (List.mem_append_left _ hp)
    · rcases List.mem_cons.mp hp with rfl | hp
      · exact hS b hb
      · exact q5 p (List.mem_append_right _ (List.mem_cons_of_mem _ hp))
  have gl := fun (ip' : List (Addr × Obj)) (g' : GC X S ip' A c fs gd) (kk : Result → Sem PySem.Fin) => gc_loop (k := kk) (c' := .forLoop tg (.ref it) body [] X.env) (l := lv []) (kp := []) (p := p) g' rfl rfl
  have gpin : ∀ h : Heap, GC X S (ip ++ pinsAt fp h) A c fs gd := fun h => ⟨gc.pn, fun p hp => by
    rcases List.mem_append.mp hp with hp | hp
    · exact gc.ip p hp
    · exact fun e => hS p.1 (of_pinsAt hp).1 e.symm, gc.apart, gc.over, gc.split, gc.guard, gc.gd⟩
  have loop : ∀ (m i n : Nat) (ys : List V) (s₀ s : Shared) (σ : L2.St) (H : Hp), n + ys.length = sizeLine → W i m ys σ H → GI X S ip ys σ H s → tn i s.heap → (∀ b ∈ fp, H b = none) →
      Seg (model X.prog X.w) A R (GY X S) n s₀ (.forLoop tg (.ref it) body [] X.env) ((model X.prog X.w).den (.forLoop tg (.ref it) body [] X.env))
        (.ret (fun r => ((match r with | .ok f => (.pure f : Sem Flow) | .error e => .raise e).onRaise (cameBack X.env)).wrap K J gd lv) none (gd false) (lv []) c p [] :: fs) s := by
    intro m
    induction m using Nat.strongRecOn with
    | ind m ih =>
      intro i n ys s₀ s σ H hn w hI st fr
      have ee : ∀ (n : Nat) (s₀ : Shared) (x : Value) (s' : Shared), X.xe x s' → Seg (model X.prog X.w) A R (GY X S) n s₀ (.forLoop tg (.ref it) body [] X.env) (outX x X.env)
          (.ret (fun r => ((match r with | .ok f => (.pure f : Sem Flow) | .error e => .raise e).onRaise (cameBack X.env)).wrap K J gd lv) none (gd false) (lv []) c p [] :: fs) s' := fun n s₀ x s' hx => by
        unfold outX
        refine seg_wrap ?_
        rw [(gl ip gc _).over]
        refine wpAny_bind (wpAny_mono (hp x s' hx) (fun _ s'' hcb => wpAny_theTreesLotGoes ?_) fun y s'' hcb => ?_)
        · exact seg_leaf (.error x) (seg_cameBack gc k hcb)
        · exact seg_leaf (.error y) (seg_cameBack gc k hcb)
      refine seg_loopFor ?_
      rw [(gl ip gc _).over]
      obtain ⟨acc, cc, r, I⟩ := hI
      rcases turn i m ys σ H w with ⟨stop, qn⟩ | ⟨go, N, hN, step⟩
      · refine wpAny_mono (T.done X rfl rfl rfl hc i _ s σ H X.xe I (stat fr) st stop) (fun r s4 ⟨hr, I4⟩ => ?_) fun x s' hx => ee n s₀ x s' hx
        subst hr
        intro c'
        exact seg_leaf (.ok .next) (k.ok n ys s₀ s4 .next hn ⟨σ, H, ⟨acc, cc, r, I4⟩, qn⟩)
      · refine wpAny_mono (T.item X rfl rfl rfl hc i _ s σ H X.xe I (stat fr) st go) (fun r1 s4 ⟨u, hr, h4⟩ => ?_) fun x s' hx => ee n s₀ x s' hx
        subst hr
        refine wpAny_mono h4 (fun _ s5 ⟨x, H5, I5, r5, y5, st5, fr5⟩ => ?_) fun x s' hx => ee n s₀ x s' hx
        have I5' := I5.pinned (stat fr5) (T.obj _ _ st5)
        refine wpAny_mono (hg.run _ s5 σ H5 x u _ I5' r5 (step x H5 y5)) (fun _ s6 ⟨σ6, H6, I6, q6⟩ => ?_) fun x s' hx => ee n s₀ x s' hx
        have back : ∀ {ys' : List V} {σ' : L2.St} {H' : Hp} {s' : Shared}, GI X S (ip ++ pinsAt fp s5.heap) ys' σ' H' s' → GI X S ip ys' σ' H' s' ∧ tn (i + 1) s'.heap ∧ ∀ b ∈ fp, H' b = none := fun {ys' σ' H' s'} ⟨acc', c', r', I'⟩ => by
          refine ⟨⟨acc', c', r', Inv.unpinned (pins := (S, lstObj acc' c') :: ip) I'⟩, T.keep _ _ _ st5 fun b hb o e => (I'.pin (b, o) (List.mem_append_right _ (List.mem_cons_of_mem _ (List.mem_append_right _ (mem_pinsAt hb e))))).1, fun b hb => ?_⟩
          obtain ⟨o, e, _⟩ := T.obj _ _ st5 b hb
          exact (I'.pin (b, o) (List.mem_append_right _ (List.mem_cons_of_mem _ (List.mem_append_right _ (mem_pinsAt hb e))))).2.1
        refine hb.run A S (ip ++ pinsAt fp s5.heap) R n ys s₀ _ _ _ _ id id s6 σ6 H6 { D with nx := N, ct := N, bk := D.nx } (gl _ (gpin s5.heap) _) hn ⟨fun n' ys' s₀' s7 f hn' hs => ?_, fun n' s₀' x s7 hx => ee n' s₀' x s7 hx⟩ ⟨acc, cc, r, I6⟩ q6
        cases f with
        | next =>
          obtain ⟨σ7, H7, I7, n7⟩ := hs
          obtain ⟨m', hm, w7⟩ := hN ys' σ7 H7 n7
          obtain ⟨b1, b2, b3⟩ := back I7
          exact seg_again rfl (ih m' hm (i + 1) n' ys' s₀' s7 σ7 H7 hn' w7 b1 b2 b3)
        | cont =>
          obtain ⟨σ7, H7, I7, n7⟩ := hs
          obtain ⟨m', hm, w7⟩ := hN ys' σ7 H7 n7
          obtain ⟨b1, b2, b3⟩ := back I7
          exact seg_again rfl (ih m' hm (i + 1) n' ys' s₀' s7 σ7 H7 hn' w7 b1 b2 b3)
        | brk =>
          obtain ⟨σ7, H7, I7, n7⟩ := hs
          exact seg_leaf (.ok .next) (k.ok n' ys' s₀' s7 .next hn' ⟨σ7, H7, (back I7).1, n7⟩)
        | ret v =>
          obtain ⟨x7, σ7, H7, I7, r7, q7⟩ := hs
          exact seg_leaf (.ok (.ret v)) (k.ok n' ys' s₀' s7 (.ret v) hn' ⟨x7, σ7, H7, (back I7).1, r7, q7⟩)
  exact loop m0 0 n ys s₀ s2 σ H2 hn w0 ⟨acc, cc, rv, I2⟩ st2 fun b hb => (f2 b hb).1
end
end EV

set_option maxHeartbeats 1000000
/-! EV 23: generator defs whose items are drained: list(f(..)). -/
namespace EV
open PySem PySem.Spec PyProof.Rows L2 GenW
/-- a generator's body: what it hands out -/
def gbT (X : Cx) (W : WX) (pa : Option Addr) (Γ : List Sl) (m : PM (List D)) : TGn := fun Dn ys σ H => ys = [] ∧ ∃ G0 H0 G s, Nv X.K pa G0 H0 G H σ Γ s ∧
  Pst X.K W X.mg pa σ (fun G' H' xs _ => ∀ vs, RpL X.K G' vs xs → ∀ σ', Dn.nx vs σ' H') G H (m s)
theorem gs_imp {X : Cx} {st : List Stmt} {t t' : TGn} (h : GSs X st t) (i : ∀ Dn ys σ H, t' Dn ys σ H → t Dn ys σ H) : GSs X st t' :=
  ⟨fun A S ip R n ys s₀ c fs K J gd lv s σ H D gc hn k hI ht => h.run A S ip R n ys s₀ c fs K J gd lv s σ H D gc hn k hI (i D ys σ H ht)⟩
theorem weak_set : ∀ (Γ : List Sl) (i : Nat) (d : Sl), Weak (Γ.set i d) (Γ.set i .junk)
  | [], _, _ => trivial
  | _ :: t, 0, _ => ⟨.inl rfl, Weak.refl t⟩
  | _ :: t, i + 1, d => ⟨.inr rfl, weak_set t i d⟩
section
variable {X : Cx} {W : WX} {pa : Option Addr} {Γ : List Sl} {k : Nat} {q1 q2 q3 yp : Pos}
theorem gb_for (i : Nat) {x : Str} {e0 iter : Expr} {m0 : PM D} {mi : PM (List D)} {p1 p2 : Pos} (C : Cok X W k) (h0 : EV X W pa Γ e0 m0) (hi : EI X W pa Γ (.Name x p1) iter mi) (hw : Weak Γ (Γ.set i .junk)) (pg : PG X (.Name x p1) (gName i)) (hil : i < Γ.length)
    (hN : X.N[i]? = some x := by rfl) (hv : Vis X.env.scope x := by first | exact Or.inl rfl | exact Or.inr (Or.inl rfl) | exact Or.inr (Or.inr rfl))
    (hd : (x == ("__debug__" : Str)) = false := by decide) (hcd : (x == ("__classdict__" : Str)) = false := by decide)
    (hsw : swapsWith e0 none q1.line X.env = pure false := by rfl) (hs : ∀ x, foldedSetIterable iter X.env x = pure x := by intro _; rfl)
    (hco : X.env.scope.isCoroutine = false := by rfl) (hin : interactive X.env = false := by rfl) :
    GSs X [.Expr e0 q1, .For (.Name x p1) iter [.Expr (.Yield (some (.Name x p2)) yp) q2] [] q3] (gbT X W pa Γ (m0 >>= fun _ => mi >>= okL)) := by
  have hy : PE X (.Name x p2) (tVar i) := pe_var hN hv hd hcd
  refine gs_imp (gss_cons (gs_ps (ps_expr h0 hsw)) (gss_cons (gs_for C.passes C.calm hi pg (gss_cons (gs_yield hy hco hin) gss_nil) hs) gss_nil)) fun Dn ys σ H ⟨hys, G0, H0, G, s, E, P⟩ => ?_
  subst hys
  refine ⟨G0, H0, G, s, E, P.bind.imp fun G1 H1 d s1 x1 p1 P1 v rv => ?_⟩
  have E1 := E.step x1 p1
  refine ⟨G0, H0, G1, s1, E1, P1.bind.imp fun G2 H2 xs s2 x2 p2 P2 J hJ => ?_⟩
  have E2 := (E1.step x2 p2).weak hw
  unfold okL at P2
  split at P2
  · rename_i hl
    have hl' : xs.length ≤ sizeLine := lim_le hl
    refine ⟨fun i' m ys σ' H' => m = xs.length - i' ∧ i' ≤ xs.length ∧ ∃ G', RpL X.K G' ys (xs.take i') ∧ Nv X.K pa G0 H0 G' H' σ' (Γ.set i .junk) s2 ∧ Ext X.K pa G2 H2 G' H', ⟨xs.length, by simp, Nat.zero_le _, G2, by simpa using RpL.nil, E2, Ext.refl E2.sub⟩, ?_⟩
    rintro i' m ys σ' H' ⟨rfl, hi', G', r, E', y⟩
    have jk := hJ G' H' y.g E'.sub
    by_cases hlt : i' < xs.length
    · obtain ⟨x0, hx⟩ : ∃ x0, xs[i']? = some x0 := ⟨_, List.getElem?_eq_getElem hlt⟩
      obtain ⟨hgo, hyld⟩ := jk.1 i' x0 hx
      refine .inr ⟨hgo, fun ys σ H => i' + 1 ≤ xs.length ∧ ∃ G', RpL X.K G' ys (xs.take (i' + 1)) ∧ Nv X.K pa G0 H0 G' H σ (Γ.set i .junk) s2 ∧ Ext X.K pa G2 H2 G' H, fun ys' σ'' H'' q => ⟨_, by omega, rfl, q.1, q.2⟩, fun v3 H3 hy3 => ?_⟩
      obtain ⟨G3, x3, rv3⟩ := hyld v3 H3 hy3
      have p3 := E'.ps.ext x3
      have E3 := E'.step x3.any p3
      have ry : ys.length = i' := by
        have := r.1
        rw [this, List.length_take]
        omega
      refine ⟨by rw [ry]; omega, v3, ?_, hlt, G3, ?_, ?_, y.trans x3.any⟩
      · have hiσ : i < σ'.length := by
          rw [← E'.len, List.length_set]
          exact hil
        rw [List.getElem?_set_self hiσ]
      · have et : xs.take (i' + 1) = xs.take i' ++ [x0] := by
          rw [List.take_add_one, hx]
          rfl
        rw [et]
        exact (r.mono x3.g).app (.cons rv3 .nil)
      · have := E3.set i rv3
        refine this.weak ?_
        rw [List.set_set]
        exact weak_set _ _ _
    · have e : i' = xs.length := by omega
      subst e
      refine .inl ⟨jk.2 _ (Nat.le_refl _), ?_⟩
      rw [List.take_length] at r
      exact P2 G' H' y E'.ps ys r σ'
  · exact P2.elim
end
/-- what a generator def hands out of its arguments -/
def spGn (K : PySem.W.Frag) (mg : Str → Option Value) (n : Nat) (f : List D → PM (List D)) : SpG := fun vs H Q _ => ∃ (G : Hp) (ds : List D), (Same G H ∧ TabK K H ∧ NoT G) ∧ RpL K G vs ds ∧ ds.length = n ∧
  Pst K (fun _ _ _ _ => False) mg none [] (FL K Q) G H (f ds [])
section
variable {P : Program} {w : World} {K : PySem.W.Frag} {mg : Str → Option Value} {base : Heap} {x qual : Str} {st : Stmt} {f : Addr} {fd : FuncData} {N ps : List Str} {k n : Nat}
theorem gscope_le {sc : Scope} (S : GScope N ps sc) : ps.length ≤ N.length := by
  have := congrArg List.length S.pre
  rw [List.length_take] at this
  omega
theorem fn_gen {F : List D → PM (List D)} (hk : k < 32) (FU : Fun K x qual st f fd) (S : GScope N ps (defScope st)) (hps : ps.length = n)
    (hb : ∀ (cdv : Value) (A : Around) (outer : List PySem.Env) (s : Shared) (H : Hp) (E : XK) (pn : List (Addr × Obj)), Cok (gcxOf P w K mg base N qual (defScope st) f cdv A outer s H E pn) (fun cls d _ H => E cls d H) k → ∀ ds : List D, ds.length = n →
      GSs (gcxOf P w K mg base N qual (defScope st) f cdv A outer s H E pn) (defBody st) (gbT (gcxOf P w K mg base N qual (defScope st) f cdv A outer s H E pn) (fun cls d _ H => E cls d H) none (slots0 N ds) (F ds))) :
    GFn P w K mg base (k + 1) f fd ps (spGn K mg n F) := by
  obtain ⟨oc, od, kV, doc, pm, an, cdv, ct, osl, rfl, lk, hcd⟩ := FU.ex
  refine gfn_of lk hcd S (fun vs H Q E h => ?_) fun A outer s H vs Q E pn hr h => ?_
  · obtain ⟨G, ds, _, r, hn, _⟩ := h
    rw [r.1, hn, hps]
  · obtain ⟨G, ds, hs, r, hn, hP⟩ := h
    have C : Cok (gcxOf P w K mg base N qual (defScope st) f cdv A outer s H E pn) (fun cls d _ H => E cls d H) k := ⟨rfl, S.nd, takes_gcx, hr, fun q => absurd q (by omega), owns_gcx⟩
    refine ⟨_, hb cdv A outer s H E pn C ds hn, rfl, G, H, G, [], nv_start0 hs r (by rw [r.1, hn, ← hps]; exact gscope_le S), ?_⟩
    cases q : F ds [] with
    | ok a s => rw [q] at hP; exact fun G' H' y p vs r σ' => hP G' H' y p vs r
    | exc z => rw [q] at hP; exact fun cls dx G' H' y z => (hP cls dx G' H' y z).elim
    | bad => rw [q] at hP; exact hP.elim
end
/-- a generator def of the text that keeps its promise -/
structure CalG (P : Program) (w : World) (K : PySem.W.Frag) (mg : Str → Option Value) (base : Heap) (k : Nat) (x : Str) (ps : List Str) (sp : SpG) : Prop where
  ex : ∃ f fd, GFn P w K mg base k f fd ps sp ∧ mg x = some (.ref f) ∧ PySem.W.keepIn K (.ref f) = true ∧ Binds K fd ps []
section
variable {P : Program} {w : World} {K : PySem.W.Frag} {mg : Str → Option Value} {base : Heap} {x : Str} {st : Stmt} {N ps : List Str} {k n : Nat}
theorem mk_gen {F : List D → PM (List D)} (hk : k < 32) (FA : FunAt K mg x st) (S : GScope N ps (defScope st)) (hps : ps.length = n)
    (hbd : ∀ (kV doc pm : Value) (an : Option Addr) (cdv ct : Value) (us : List Value), us.length = ps.length → bindArgs (PySem.W.fnOf x x (defArgs st) (defBody st) (defScope st) .none kV doc pm an cdv ct) ⟨us, []⟩ = pure (ps.zip us))
    (hb : ∀ (f : Addr) (cdv : Value) (A : Around) (outer : List PySem.Env) (s : Shared) (H : Hp) (E : XK) (pn : List (Addr × Obj)), Cok (gcxOf P w K mg base N x (defScope st) f cdv A outer s H E pn) (fun cls d _ H => E cls d H) k → ∀ ds : List D, ds.length = n →
      GSs (gcxOf P w K mg base N x (defScope st) f cdv A outer s H E pn) (defBody st) (gbT (gcxOf P w K mg base N x (defScope st) f cdv A outer s H E pn) (fun cls d _ H => E cls d H) none (slots0 N ds) (F ds))) :
    CalG P w K mg base (k + 1) x ps (spGn K mg n F) := by
  obtain ⟨f, fd, FU, hm⟩ := FA.ex
  exact ⟨f, fd, fn_gen hk FU S hps (hb f), hm, FU.kp, FU.binds hbd⟩
end
def fnL2 (g : D → D → PM (List D)) : List D → PM (List D)
  | [a, b] => g a b
  | _ => bad
def fnL1 (g : D → PM (List D)) : List D → PM (List D)
  | [a] => g a
  | _ => bad
theorem GFn.mono {P : Program} {w : World} {K : PySem.W.Frag} {mg : Str → Option Value} {base : Heap} {j k : Nat} {f : Addr} {fd : FuncData} {ps : List Str} {sp : SpG} (F : GFn P w K mg base j f fd ps sp) (h : j ≤ k) : GFn P w K mg base k f fd ps sp := by
  refine ⟨F.len, fun A outer s H args us vs Q E hr e0 hb r hsp => codeAny_mono (F.run A outer s H args us vs Q E (hr.mono h) e0 hb r hsp) fun r s' hq => ?_⟩
  cases r with
  | error e => exact hq
  | ok fl =>
    cases fl with
    | ret u =>
      obtain ⟨a, g, c, h1, h2, h3, h4, h5, h6, h7, h8, h9, h10⟩ := hq
      exact ⟨a, g, c, h1, h2, h3, h4, h5, h6, h7, h8, h9, fun A S s2 hr => h10 A S s2 (hr.mono h)⟩
    | next => exact hq.elim
    | brk => exact hq.elim
    | cont => exact hq.elim
section
variable {X : Cx} {W : WX} {pa : Option Addr} {Γ : List Sl} {k : Nat} {pos pos' p p2 : Pos}
theorem ev_listG {x nm : Str} {n : Nat} {F : List D → PM (List D)} {ps : List Str} {j : Nat} {e : Expr} {es : List Expr} {ml : PM (List D)} (C : Cok X W k) (FC : CalG X.prog X.w X.K X.mg X.base j x ps (spGn X.K X.mg n F)) (hn : ∀ ds, ds.length ≠ n → F ds [] = .bad)
    (hgl : Gl X nm) (hml : X.mg nm = none) (hvl : bootBuiltins nm = some (.type "list"))
    (ha : EL X W pa Γ (e :: es) ml) (hj : j + 3 ≤ k := by decide) (hg : Gl X x := by rfl) (hdb : (x == ("__debug__" : Str)) = false := by decide) (hnm : nm ≠ "__name__" := by decide) (hdbl : (nm == ("__debug__" : Str)) = false := by decide)
    (he : starEach (e :: es) X.env = (false, eval e X.env) :: starEach es X.env := by rfl) (hpl : (backTo pos' (starEach es X.env)).any (·.1) = false := by rfl)
    (hel : starEach [Expr.Call (.Name x p2) (e :: es) [] pos'] X.env = (false, eval (Expr.Call (.Name x p2) (e :: es) [] pos') X.env) :: starEach [] X.env := by rfl) :
    EV X W pa Γ (.Call (.Name nm p) [.Call (.Name x p2) (e :: es) [] pos'] [] pos) (ml >>= fun ds => noExc (run0 (F ds)) >>= mkL) := by
  obtain ⟨f, fd, FG, hm, hk, hb⟩ := FC.ex
  have g := pgen_call (E := fun _ _ _ => False) (p := p2) (pos' := pos') FG (C.room.mono (by omega)) hg hm hk hb (ds := []) (dvs := []) .nil ha hdb he hpl
  refine pe_imp (pe_listG (p := p) (pos := pos) g (fun pins σ H s e s' I hc => ?_) (fun _ _ _ h => h.elim) (C.room.mono hj) hgl hml hvl hnm hdbl hel) fun σ H Q ⟨G0, H0, G, s, E, P⟩ =>
    ⟨G0, H0, G, s, E, P.bind.imp fun G1 H1 ds s1 x1 p1 P1 vs r => ⟨G1, ds, ⟨x1.sub, x1.tk E.tk, x1.gt E.x.nt⟩, by rw [List.append_nil]; exact r, ?_, ?_⟩⟩
  · obtain ⟨a, B, H', cls, d, _, _, _, _, _, _, _, q⟩ := hc
    exact q.elim
  · by_cases hl : ds.length = n
    · exact hl
    · rw [PM.bind_def] at P1
      unfold noExc run0 at P1
      rw [hn ds hl] at P1
      exact P1.elim
  · rw [PM.bind_def] at P1
    unfold noExc run0 at P1
    cases q : F ds [] with
    | ok xs s2 =>
      rw [q] at P1
      exact fun G' H' y _ vs r p np => mkL_use ((P1 : Pst X.K W X.mg pa σ (FD X.K Q) G1 H1 (mkL xs s1)).mono y.any) r y.sub (p1.ext y) np
    | exc z => rw [q] at P1; exact P1.elim
    | bad => rw [q] at P1; exact P1.elim
end
theorem arL2 {g} : ∀ ds, ds.length ≠ 2 → fnL2 g ds [] = .bad := fun ds h => by
  match ds, h with
  | [_, _], h => exact absurd rfl h
  | [], _ => rfl
  | [_], _ => rfl
  | _ :: _ :: _ :: _, _ => rfl
section
variable {X : Cx} {W : WX} {pa : Option Addr} {Γ : List Sl} {pos : Pos} {α C : Type} {out : α → Out} {rest : List Stmt}
/-- if c: A else: B, which fall into the rest or leave by a return -/
theorem sv_ifJL {c : Expr} {A B : List Stmt} {mc : PM Bool} {mA mB : PM (Lp C)} {mk : C → List Sl} {kk : C → PM α} {inj : D → α} (hc : EB X W pa Γ c mc) (hj : ∀ d, out (inj d) = .ret d) (hA : SV X W pa Γ (lpOut mk) A mA) (hB : SV X W pa Γ (lpOut mk) B mB)
    (hr : ∀ b, SV X W pa (mk b) out rest (kk b)) : SV X W pa Γ out (.If c A B pos :: rest) (mc >>= fun b => (if b = true then mA else mB) >>= lpK inj kk) := by
  unfold SV
  rw [bind_assoc]
  refine pss_imp (pss_cons (ps_if hc hA hB) (pss_ex hr)) fun Dn σ H ⟨G0, H0, G, s, E, P⟩ => ⟨G0, H0, G, s, E, (P.bind E).imp fun G1 H1 b s1 x1 p1 P1 => ?_⟩
  have go : ∀ m : PM (Lp C), SPost X.K W X.mg pa G0 H0 Dn (((m >>= lpK inj kk) >>= fun a => pure (out a)) s1) →
      svT X W pa Γ (m >>= fun b => pure (lpOut mk b)) { Dn with nx := fun σ H => ∃ z, svT X W pa (mk z) (kk z >>= fun a => pure (out a)) Dn σ H } σ H1 := fun m P => by
    refine ⟨G0, H0, G1, s1, E.step x1 p1, ?_⟩
    rw [bind_assoc, PM.bind_def] at P
    rw [PM.bind_def]
    cases e : m s1 with
    | ok a s2 =>
      rw [e] at P
      cases a with
      | go c => exact fun σ' G' H' E' => ⟨c, G0, H0, G', s2, E', P⟩
      | ret d =>
        have P : SPost X.K W X.mg pa G0 H0 Dn ((((pure (inj d)) : PM α) >>= fun a => pure (out a)) s2) := P
        rw [pure_bind, hj] at P
        exact P
    | exc z => rw [e] at P; exact P
    | bad => rw [e] at P; exact P.elim
  cases b with
  | false => exact go mB P1
  | true => exact go mA P1
end
end EV

/-! EV 24: min of a list of tuples of ints. -/
namespace EV
open PySem PySem.Spec PyProof.Rows L2 PySem.W
def minRow (x : List Int) (xs : List (List Int)) : List Int := xs.foldl (fun a y => if leR a y = true then a else y) x
theorem minD_rows : ∀ (xs : List (List Int)) (x : List Int), PySem.W.minD (encR x) (xs.map encR) = encR (minRow x xs)
  | [], x => rfl
  | z :: xs, x => by
    have ih := minD_rows xs (if leR x z = true then x else z)
    unfold PySem.W.minD at ih ⊢
    rw [List.map_cons, List.foldl_cons]
    have e : (if dataLt (encR z) (encR x) = true then encR z else encR x) = encR (if leR x z = true then x else z) := by
      have q : (!dataLt (encR z) (encR x)) = leR x z := encR_le x z
      rw [← q]
      cases dataLt (encR z) (encR x) <;> rfl
    rw [e, ih]
    rfl
theorem encR_inj {a b : List Int} (h : encR a = encR b) : a = b := by
  unfold encR at h
  injection h with h
  exact List.map_inj_right (fun x y e => by injection e) |>.mp h
section
variable {X : Cx} {k : Nat}
def rMinR (K : PySem.W.Frag) : List V → Hp → VK → Prop := fun vs H Q => ∃ (a : Addr) (ws : List V) (x : List Int) (L : List (List Int)), vs = [V.ref a] ∧ SqL K H a ws ∧ DpAll K H ws ((x :: L).map encR) ∧
  ∀ (i : Nat) (w : V), ws[i]? = some w → (x :: L)[i]? = some (minRow x L) → Q w H
theorem depth_rows : ∀ L : List (List Int), PyData.depthAll (L.map encR) ≤ 1
  | [] => by simp [PyData.depthAll]
  | r :: L => by
    have e : (encR r).depth ≤ 1 := by
      unfold encR
      have := PySem.W.depth_ints r
      simp only [PyData.depth]
      omega
    have := depth_rows L
    rw [List.map_cons]
    simp only [PyData.depthAll]
    omega
theorem cr_minR (hr : Room k X.A) (hc : X.calm = true) : CallR X (.builtin "min") (rMinR X.K) := by
  intro pins s σ H vs us Q I r h
  obtain ⟨a, ws, x, L, rfl, hs, hd, q⟩ := h
  rw [Vals.ref1 r]
  have u := hr.units
  have dl := depth_rows (x :: L)
  rw [List.map_cons] at dl
  obtain ⟨its, rv, hl, hz⟩ := I.list hs
  obtain ⟨as, ra⟩ := Dp.readsAll I _ _ its hd rv
  have al : PySem.W.AlikeAll ((x :: L).map encR) := ⟨fun d hd d' hd' => by
    obtain ⟨y, _, rfl⟩ := List.mem_map.mp hd
    obtain ⟨z, _, rfl⟩ := List.mem_map.mp hd'
    simp only [encR, PySem.W.alike]
    exact alike_ints y z, fun d hd => by
    obtain ⟨y, _, rfl⟩ := List.mem_map.mp hd
    unfold encR
    intro z
    cases z⟩
  refine PySem.W.min_list_data (I.ok.hd hc) hl.isList (show ReadsAll s.heap its.toArray.toList ((x :: L).map encR) as from ra) al (by omega) fun i v h' tk bs hv rd hk => ?_
  have hv' : its[i]? = some v := by simpa using hv
  obtain ⟨bs', rd', il, _, _⟩ := PySem.W.readsAll_at (show ReadsAll s.heap its ((x :: L).map encR) as from ra) i v hv'
  have e := (PyProof.Rows.reads_det (fun b o e _ => hk b o e) rd' rd).1
  rw [minD_rows] at e
  rw [List.length_map] at il
  have e1 : (x :: L)[i]? = some (minRow x L) := by
    rw [List.getElem?_eq_getElem il]
    rw [List.getD_eq_getElem?_getD, List.getElem?_map, List.getElem?_eq_getElem il] at e
    exact congrArg some (encR_inj e.symm)
  obtain ⟨w, hw⟩ : ∃ w, ws[i]? = some w := by
    have hi : i < ws.length := by
      rw [rv.length]
      exact (List.getElem?_eq_some_iff.mp hv').1
    exact ⟨_, List.getElem?_eq_getElem hi⟩
  obtain ⟨v2, h2, rw2⟩ := rv.get hw
  rw [hv'] at h2
  cases h2
  exact ⟨w, H, I.kept hk, rw2, q i w hw e1⟩
/-- min(..) of a list of tuples of ints -/
def minR : List D → PM D
  | [.lst ds] => match rowsOfD ds with | some (x :: L) => pure (tR (minRow x L)) | _ => bad
  | _ => bad
theorem cd_minR (hr : Room k X.A) (hc : X.calm = true) : CallD X (.builtin "min") minR := by
  refine ⟨_, cr_minR hr hc, fun W pa σ G H s xs ds Q hs hp rs P => ?_⟩
  match ds, rs, P with
  | [d], rs, P =>
    obtain ⟨v, rfl, r⟩ := rp1 rs
    cases r with
    | @lst a vs es h n r =>
      have P : Pst X.K W X.mg pa σ (FD X.K Q) G H ((match rowsOfD es with | some (x :: L) => pure (tR (minRow x L)) | _ => bad : PM D) s) := P
      cases e : rowsOfD es with
      | none => rw [e] at P; exact P.elim
      | some bs =>
        rw [e] at P
        cases bs with
        | nil => exact P.elim
        | cons x L =>
          have P2 : Pst X.K W X.mg pa σ (FD X.K Q) G H ((pure (tR (minRow x L)) : PM D) s) := P
          have ee := rowsOfD_eq e
          subst ee
          have dp : DpAll X.K H vs (((x :: L).map tR).map toPy) := dpAll_of n fun i w d h1 h2 => ((r i w d h1 h2).mono hs).dp (by
            rw [List.getElem?_map] at h2
            obtain ⟨q, _, rfl⟩ := Option.map_eq_some_iff.mp h2
            unfold tR
            simp only [toPy, PyData.hasDict, toPyL_map]
            exact nd_ints q)
          have em : ((x :: L).map tR).map toPy = (x :: L).map encR := by
            rw [List.map_map]
            refine List.map_congr_left fun y _ => ?_
            show toPy (tR y) = encR y
            unfold tR encR
            simp only [toPy, toPyL_map, List.map_map]
            rfl
          rw [em] at dp
          refine ⟨a, vs, x, L, rfl, SqL.of (hs _ _ h), dp, fun i w h1 h2 => (show Pst X.K W X.mg pa σ (FD X.K Q) G H ((pure (tR (minRow x L)) : PM D) s) from P2).now hs hp w (r i w _ h1 (by rw [List.getElem?_map, h2]; rfl))⟩
    | _ => exact P.elim
  | [], _, P => exact P.elim
  | a :: _ :: _, _, P => cases a <;> exact P.elim
end
end EV

/-! EV 25: match e, e2: by cases of a text and a number. -/
namespace EV
open PySem PySem.Spec PyProof.Rows L2
section
variable {X : Cx} {k : Nat}
/-- case "s", n: -/
def patSN (s : Str) (n : Int) (j1 j2 : Nat) (p1 p2 p3 p4 p5 : Pos) : Pattern := .MatchSequence [.MatchValue (.Constant (.str s) j1 p1) p2, .MatchValue (.Constant (.int n) j2 p3) p4] p5
inductive MCs (X : Cx) : List MatchCase → (Str → Int → TS) → Prop
  | nil : MCs X [] (fun _ _ D σ H => D.nx σ H)
  | cons {s : Str} {n : Int} {j1 j2 : Nat} {p1 p2 p3 p4 p5 : Pos} {body : List Stmt} {t : TS} {cs : List MatchCase} {f : Str → Int → TS} : PSs X body t → MCs X cs f →
      MCs X (⟨.MatchSequence [.MatchValue (.Constant (.str s) j1 p1) p2, .MatchValue (.Constant (.int n) j2 p3) p4] p5, none, body⟩ :: cs) (fun a b D σ H => if (a == s && b == n) = true then t D σ H else f a b D σ H)
theorem eqS_run {pins : List (Addr × Obj)} {s : Shared} {σ : L2.St} {H : Hp} {a b : Str} {v u : Value} {Q : VK} (hr : Room k X.A) (I : Inv X pins σ H s) (rv : RelV (.str a) v) (ru : RelV (.str b) u) (q : Q (.bl (a == b)) H) : wpAny (model X.prog X.w) X.A (compareOp .Eq v u) (EP X pins σ Q) X.xe s :=
  (op_eq.or (op_eqD hr.units)) pins s σ H _ _ _ _ Q I rv ru (.inl ⟨rfl, by rw [dec_str]; exact q⟩)
theorem eqI_run {pins : List (Addr × Obj)} {s : Shared} {σ : L2.St} {H : Hp} {a b : Int} {v u : Value} {Q : VK} (hr : Room k X.A) (I : Inv X pins σ H s) (rv : RelV (.int a) v) (ru : RelV (.int b) u) (q : Q (.bl (a == b)) H) : wpAny (model X.prog X.w) X.A (compareOp .Eq v u) (EP X pins σ Q) X.xe s :=
  (op_eq.or (op_eqD hr.units)) pins s σ H _ _ _ _ Q I rv ru (.inr ⟨.int a, .int b, .int a, .int b, rfl, rfl, q⟩)
theorem match_cases (hr : Room k X.A) (hc : X.calm = true) {cs : List MatchCase} {f : Str → Int → TS} (h : MCs X cs f) : ∀ (pins : List (Addr × Obj)) (s : Shared) (σ : L2.St) (H : Hp) (D : Ends) (p : Addr) (a : Str) (b : Int) (first : Bool),
    Inv X pins σ H s → SqT X.K H p [.str a, .int b] → f a b D σ H → wpAny (model X.prog X.w) X.A (matchCases cs X.env (.ref p) first) (SP X pins D) X.xe s := by
  induction h with
  | nil => exact fun pins s σ H D p a b first I _ q => wpAny_matchCases_nil ⟨σ, H, I, q⟩
  | @cons c n j1 j2 p1 p2 p3 p4 p5 body t cs f hb _ ih =>
    intro pins s σ H D p a b first I hq q
    obtain ⟨its, rv, ht, hz⟩ := I.tuple hq
    obtain ⟨u1, u2, rfl, r1, r2⟩ : ∃ u1 u2, its = [u1, u2] ∧ RelV (.str a) u1 ∧ RelV (.int b) u2 := by
      cases rv with
      | cons r1 t =>
        cases t with
        | cons r2 t2 =>
          cases t2
          exact ⟨_, _, rfl, r1, r2⟩
    refine wpAny_matchCases_cons ?_
    have hsz : ([u1, u2] : List Value).toArray.size = 2 := rfl
    have hfit : (([u1, u2] : List Value).toArray.size : Int) < 2 ^ 63 := by rw [hsz]; omega
    have hst : ([Pattern.MatchValue (.Constant (.str c) j1 p1) p2, Pattern.MatchValue (.Constant (.int n) j2 p3) p4] : List Pattern).findIdx? (·.isStar) = none := rfl
    have hwi : (([Pattern.MatchValue (.Constant (.str c) j1 p1) p2, Pattern.MatchValue (.Constant (.int n) j2 p3) p4] : List Pattern).all fun p => p.isWildcard || (p.isStar && p.names.isEmpty)) = false := rfl
    refine matchSeq_tuple_hit (hstar := hst) (hwild := hwi) ht hfit hsz ?_
    have I0 : Inv X pins σ H { s with toks := s.toks + 1 + 1 } := I.kept (t' := s.toks + 1 + 1) fun b o e => e
    have ht0 : IsTup ({ s with toks := s.toks + 1 + 1 } : Shared).heap p ([u1, u2] : List Value).toArray := ht
    show wpAny (model X.prog X.w) X.A (unpackItems (.ref p) ([u1, u2] : List Value).toArray.size none) _ _ _
    refine unpackItems_tuple (items := ([u1, u2] : List Value).toArray) (I0.ok.hd hc) ht0 fun h' hx => ?_
    have I1 : Inv X pins σ H { ({ s with toks := s.toks + 1 + 1 } : Shared) with heap := h' } := I0.kept (t' := s.toks + 1 + 1) fun b o e => hx b o (Nat.ne_of_lt (Heap.lt_size e)) e
    have miss : (a == c && b == n) = false → ∀ s', Inv X pins σ H s' → wpAny (model X.prog X.w) X.A (matchCases cs X.env (.ref p) false) (SP X pins D) X.xe s' := fun e s' I' => by
      rw [e, if_neg (by decide)] at q
      exact ih pins s' σ H D p a b false I' hq q
    refine wpAny_matchEach_cons (wpAny_matchPattern_Value ?_)
    refine wpAny_mono (pe_str.run pins _ σ H (fun v H' => v = .str c ∧ H' = H) I1 ⟨rfl, rfl⟩) (fun w s2 hw => ?_) fun _ _ he => he
    obtain ⟨x, H', I2, rx, rfl, rfl⟩ := hw
    refine wpAny_mono (eqS_run (Q := fun v H'' => v = .bl (a == c) ∧ H'' = H') hr I2 r1 rx ⟨rfl, rfl⟩) (fun w s3 hw => ?_) fun _ _ he => he
    obtain ⟨y, H'', I3, ry, rfl, rfl⟩ := hw
    obtain rfl : w = .bool (a == c) := ry
    refine wpAny_truthy_bool ?_
    cases e1 : (a == c) with
    | false =>
      simp only [Bool.false_eq_true, if_false]
      exact miss (by rw [e1]; rfl) s3 I3
    | true =>
      simp only [if_true]
      refine wpAny_matchEach_cons (wpAny_matchPattern_Value ?_)
      refine wpAny_mono (pe_int.run pins _ σ H'' (fun v H' => v = .int n ∧ H' = H'') I3 ⟨rfl, rfl⟩) (fun w s4 hw => ?_) fun _ _ he => he
      obtain ⟨x, H', I4, rx, rfl, rfl⟩ := hw
      refine wpAny_mono (eqI_run (Q := fun v H'' => v = .bl (b == n) ∧ H'' = H') hr I4 r2 rx ⟨rfl, rfl⟩) (fun w s5 hw => ?_) fun _ _ he => he
      obtain ⟨y, H3, I5, ry, rfl, rfl⟩ := hw
      obtain rfl : w = .bool (b == n) := ry
      refine wpAny_truthy_bool ?_
      cases e2 : (b == n) with
      | false =>
        simp only [Bool.false_eq_true, if_false]
        exact miss (by rw [e1, e2]; rfl) s5 I5
      | true =>
        simp only [if_true]
        refine wpAny_matchEach_nil ?_
        refine wpAny_assignInOrder_none ?_
        rw [e1, e2, Bool.and_self, if_pos rfl] at q
        exact hb.run pins s5 σ H3 D I5 q
def tMatch2 (te : TE) (f : Str → Int → TS) : TS := fun D σ H => te σ H fun v H1 => ∃ (p : Addr) (a : Str) (b : Int), v = .ref p ∧ SqT X.K H1 p [.str a, .int b] ∧ f a b D σ H1
theorem ps_match2 {subj : Expr} {pos : Pos} {te : TE} {cs : List MatchCase} {f : Str → Int → TS} (hr : Room k X.A) (hc : X.calm = true) (he : PE X subj te) (h : MCs X cs f) : PS X (.Match subj cs pos) (tMatch2 (X := X) te f) := by
  refine ⟨fun pins s σ H D I ht => wpAny_Match (wpAny_mono (he.run pins s σ H _ I ht) (fun v s1 hv => ?_) fun _ _ he => he)⟩
  obtain ⟨x, H1, I1, rx, p, a, b, rfl, hq, q⟩ := hv
  obtain rfl : v = Value.ref p := rx
  exact match_cases hr hc h pins s1 σ H1 D p a b true I1 hq q
end
def matK {α : Type} (f : Str → Int → PM α) : List D → PM α
  | [.str a, .int b] => f a b
  | _ => bad
/-- the cases, each of which leaves the block; then the rest -/
inductive SMs (X : Cx) (W : WX) (pa : Option Addr) (Γ : List Sl) {α : Type} (out : α → Out) (kk : PM α) : List MatchCase → (Str → Int → PM α) → Prop
  | nil : SMs X W pa Γ out kk [] (fun _ _ => kk)
  | cons {s : Str} {n : Int} {j1 j2 : Nat} {p1 p2 p3 p4 p5 : Pos} {body : List Stmt} {m : PM α} {cs : List MatchCase} {f : Str → Int → PM α} : SV X W pa Γ out body m → (∀ a s s' Γ', m s = .ok a s' → out a ≠ .fall Γ') → SMs X W pa Γ out kk cs f →
      SMs X W pa Γ out kk (⟨.MatchSequence [.MatchValue (.Constant (.str s) j1 p1) p2, .MatchValue (.Constant (.int n) j2 p3) p4] p5, none, body⟩ :: cs) (fun a b => if (a == s && b == n) = true then m else f a b)
section
variable {X : Cx} {W : WX} {pa : Option Addr} {Γ : List Sl} {k : Nat} {α : Type} {out : α → Out} {rest : List Stmt}
theorem sms_mcs {kk : PM α} {cs : List MatchCase} {f : Str → Int → PM α} (h : SMs X W pa Γ out kk cs f) : ∃ F : Str → Int → TS, MCs X cs F ∧
    ∀ (a : Str) (b : Int) (Dn : Ends) (σ : L2.St) (H : Hp), svT X W pa Γ (f a b >>= fun a => pure (out a)) Dn σ H → F a b { Dn with nx := fun σ H => svT X W pa Γ (kk >>= fun a => pure (out a)) Dn σ H } σ H := by
  induction h with
  | nil => exact ⟨_, .nil, fun a b Dn σ H q => q⟩
  | @cons s n j1 j2 p1 p2 p3 p4 p5 body m cs f hb hn _ ih =>
    obtain ⟨F, hF, i⟩ := ih
    refine ⟨_, .cons hb hF, fun a b Dn σ H q => ?_⟩
    by_cases e : (a == s && b == n) = true
    · dsimp only at q ⊢
      rw [if_pos e] at q ⊢
      obtain ⟨G0, H0, G, s0, E, P⟩ := q
      refine ⟨G0, H0, G, s0, E, ?_⟩
      rw [PM.bind_def] at P ⊢
      cases e2 : m s0 with
      | ok a s2 =>
        rw [e2] at P
        have h := hn a s0 s2
        show SPost X.K W X.mg pa G0 H0 _ (.ok (out a) s2)
        have P : SPost X.K W X.mg pa G0 H0 Dn (.ok (out a) s2) := P
        cases q : out a with
        | fall Γ' => exact absurd q (h Γ' e2)
        | ret d => rw [q] at P; exact P
        | brk Γ' => rw [q] at P; exact P
        | cnt Γ' => rw [q] at P; exact P
      | exc z => rw [e2] at P; exact P
      | bad => rw [e2] at P; exact P.elim
    · dsimp only at q ⊢
      rw [if_neg e] at q ⊢
      exact i a b Dn σ H q
theorem sv_match {e1 e2 : Expr} {x1} {p pos : Pos} {ml : PM (List D)} {cs : List MatchCase} {f : Str → Int → PM α} {kk : PM α} (C : Cok X W k) (he : EL X W pa Γ [e1, e2] ml) (h : SMs X W pa Γ out kk cs f) (hr : SV X W pa Γ out rest kk) :
    SV X W pa Γ out (.Match (.Tuple [e1, e2] x1 p) cs pos :: rest) (ml >>= matK f) := by
  obtain ⟨F, hF, i⟩ := sms_mcs h
  unfold SV
  rw [bind_assoc]
  refine pss_imp (pss_cons (ps_match2 C.room C.calm (L2.pe_tup he) hF) hr) fun Dn σ H ⟨G0, H0, G, s, E, P⟩ => ⟨G0, H0, G, s, E, (P.bind E).imp fun G1 H1 ds s1 x1 p1 P1 vs r => ?_⟩
  have two : ∃ a b, ds = [.str a, .int b] ∧ SPost X.K W X.mg pa G0 H0 Dn ((f a b >>= fun a => pure (out a)) s1) := by
    unfold matK at P1
    split at P1
    · exact ⟨_, _, rfl, P1⟩
    · exact P1.elim
  obtain ⟨a, b, rfl, P2⟩ := two
  obtain ⟨v, w, rfl, r1, r2⟩ := rp2 r
  cases r1
  cases r2
  refine ⟨small64 (by show 2 < 64; omega), fun q np => ⟨q, a, b, rfl, .inl (.inl upd_same), i a b Dn σ _ ?_⟩⟩
  have E1 := E.step x1 p1
  have xn := Ext.new (K := X.K) (pa := pa) x1.sub np (.tup [.str a, .int b])
  exact ⟨G0, H0, _, s1, E1.step xn (p1.upd np _), P2⟩
end
end EV

section
set_option maxHeartbeats 4000000
/-! EV 26: a tuple, several times. -/
namespace EV
open PySem PySem.Spec PyProof.Rows L2
theorem tuple_mul1 (l : Addr) (items : Array Value) (n : Nat) (dd : Option Addr) (sl : Array (Option Value)) (x : Int) (u : Tok) (c0 : (decide (x < -(2 ^ 63)) || decide (x ≥ 2 ^ 63)) = false) (c1 : (items.isEmpty || x == 1) = true) :
    Meets (Builtin.«tuple.__mul__» ⟨[.ref l, .int x u], []⟩) (fun _ R s => s.heap.get? l = some { cls := .type "tuple", dict := dd, data := .seq items n, slots := sl } ∧ R (.ok (.ret (Value.ref l))) s) :=
  .of_wp fun prog w A R s h => by
    obtain ⟨hp, g, d, tk, os⟩ := s
    obtain ⟨hl, h⟩ := h
    have f1 := AutoSeq1.idx_int
    wp_walk using wpAny_loadPart' hl
    repeat (first
      | (refine wpAny_ite_false (decide_eq_false (by rw [c0]; exact Bool.false_ne_true)) ?_; wp_walk using wpAny_loadPart' hl)
      | (refine wpAny_ite_true (decide_eq_true c1) ?_; wp_walk using wpAny_loadPart' hl))
    exact ⟨_, rfl, h⟩
def rRep1 (K : PySem.W.Frag) : R2 := fun x y H Q => ∃ l xs, x = .ref l ∧ y = .int 1 ∧ SqT K H l xs ∧ Q (.ref l) H
section
variable {X : Cx}
theorem op_rep1 : OpR X (binaryOp .Mult) (rRep1 X.K) := by
  intro pins s σ H x y v u Q I rx ry h
  obtain ⟨l, xs, rfl, rfl, hT, q⟩ := h
  cases rx
  obtain ⟨t, rfl⟩ := ry
  obtain ⟨its, r, ⟨⟨cls, dd, data, sl⟩, ho, hc, n, hd⟩, hs⟩ := I.tuple hT
  simp only at hc hd
  subst hc hd
  have c0 : (decide ((1 : Int) < -(2 ^ 63)) || decide ((1 : Int) ≥ 2 ^ 63)) = false := by
    rw [decide_eq_false (by omega), decide_eq_false (by omega)] <;> rfl
  have c1 : (its.toArray.isEmpty || (1 : Int) == 1) = true := by
    rw [beq_self_eq_true, Bool.or_true]
  refine wpAny_binaryOp_repeat_ref (T := "tuple") (U := "int") (by decide) ⟨_, ho, rfl⟩ (fun s' => typeIs_int s' 1 t) noFill_tuple_mul F.fills_int_mul F.slot_int_rmul repeat_tuple F.slot_int_index.lookup
    (call_meets F.slot_int_rmul (typeIs_int s 1 t) F.entry_int_rmul (F.args_int_rmul_2 _ _) (int_rmul_tuple 1 t l its.toArray n dd sl)
      ⟨ho, rfl, ⟨_, ho, rfl⟩, call_meets F.slot_tuple_mul ⟨_, ho, rfl⟩ F.entry_tuple_mul (F.args_tuple_mul_2 _ _) (tuple_mul1 l its.toArray n dd sl 1 t c0 c1) ⟨ho, ?_⟩⟩)
  exact ⟨.ref l, H, I, rfl, q⟩
end
def repD (k : Int) (xs : List D) : List D := (List.replicate k.toNat xs).flatten
def mulG : D → D → PM D
  | .tup xs, .int k => if k = 1 then pure (.tup xs) else if xs ≠ [] ∧ 2 ≤ k ∧ k ≤ 1000 ∧ xs.length ≤ 1000 then mkT (repD k xs) else bad
  | a, b => mulD a b
theorem rep_rp {K : PySem.W.Frag} {G : Hp} {vs : List V} {ds : List D} (r : RpL K G vs ds) : ∀ n : Nat, RpL K G (List.replicate n vs).flatten (List.replicate n ds).flatten
  | 0 => .nil
  | n + 1 => by
    rw [List.replicate_succ, List.replicate_succ, List.flatten_cons, List.flatten_cons]
    exact r.app (rep_rp r n)
section
variable {X : Cx}
theorem od_mulG : OpD X (binaryOp .Mult) mulG := by
  obtain ⟨r, h1, h2⟩ := od_mul (X := X)
  refine ⟨_, (h1.or op_repT).or op_rep1, fun W pa σ G H s x y a b Q hs hp ra rb P => ?_⟩
  by_cases ht : ∃ xs k, a = .tup xs ∧ b = .int k
  · obtain ⟨xs, k, rfl, rfl⟩ := ht
    cases rb
    have P : Pst X.K W X.mg pa σ (FD X.K Q) G H ((if k = 1 then pure (.tup xs) else if xs ≠ [] ∧ 2 ≤ k ∧ k ≤ 1000 ∧ xs.length ≤ 1000 then mkT (repD k xs) else bad : PM D) s) := P
    cases ra with
    | @tup l vs ds h n rr =>
      by_cases k1 : k = 1
      · subst k1
        rw [if_pos rfl] at P
        exact .inr ⟨l, vs, rfl, rfl, sameT hs h, P.now hs hp _ (.tup h n rr)⟩
      · rw [if_neg k1] at P
        by_cases g : xs ≠ [] ∧ 2 ≤ k ∧ k ≤ 1000 ∧ xs.length ≤ 1000
        · rw [if_pos g] at P
          have rl : RpL X.K G vs xs := ⟨n, rr⟩
          have rp := rep_rp rl k.toNat
          exact .inl (.inr ⟨l, k, vs, rfl, rfl, sameT hs h, fun e => g.1 (by rw [e] at n; exact List.eq_nil_of_length_eq_zero n.symm), g.2.1, g.2.2.1, by rw [n]; exact g.2.2.2, fun p np => mkT_use P rp hs hp np⟩)
        · rw [if_neg g] at P
          exact P.elim
  · have e : mulG a b = mulD a b := by
      cases a <;> cases b <;> first | rfl | exact absurd ⟨_, _, rfl, rfl⟩ ht
    rw [e] at P
    exact .inl (.inl (h2 W pa σ G H s x y a b Q hs hp ra rb P))
end
end EV

end
/-! EV 27: f(maker(..), n): a def with a pen that is made at the call. -/
namespace EV
open PySem PySem.Spec PyProof.Rows L2
theorem Ext.unpen {K : PySem.W.Frag} {q : Addr} {G H G' H' : Hp} (x : Ext K (some q) G H G' H') (h : H q = none) : Ext K none G H G' H' := ⟨x.g, fun a o e _ nt => x.h a o e (fun z => by
    cases z
    rw [h] at e
    cases e) nt, x.t, x.n, x.sub, x.tk, x.gt⟩
section
variable {X : Cx} {W : WX} {Γ : List Sl} {k : Nat} {pos pos2 p p2 p3 : Pos}
theorem callMk {x y : Str} {n : Nat} {F : List D → PM D} {Mk : List D → PM (List Int)} {ps ps' : List Str} {j j' j0 : Nat} {e : Expr} {es : List Expr} {ml : PM (List D)} {c : Int} (C : Cok X W k) (FC : Cal X.prog X.w X.K X.mg X.base j x ps (spF X.K X.mg true 1 F)) (MC : Cal X.prog X.w X.K X.mg X.base j' y ps' (spM X.K X.mg n Mk))
    (arM : ∀ ds s, ds.length ≠ n → Mk ds s = .bad) (ha : EL X W none Γ (e :: es) ml) (hj : j ≤ k := by decide) (hj' : j' ≤ k := by decide) (hg : Gl X x := by rfl) (hg' : Gl X y := by rfl) (hdb : (x == ("__debug__" : Str)) = false := by decide) (hdb' : (y == ("__debug__" : Str)) = false := by decide)
    (he : starEach (e :: es) X.env = (false, eval e X.env) :: starEach es X.env := by rfl) (hpl : (backTo pos2 (starEach es X.env)).any (·.1) = false := by rfl)
    (he2 : starEach (Expr.Call (.Name y p2) (e :: es) [] pos2 :: [.Constant (.int c) j0 p3]) X.env = (false, eval (Expr.Call (.Name y p2) (e :: es) [] pos2) X.env) :: starEach [.Constant (.int c) j0 p3] X.env := by rfl)
    (he3 : starEach [Expr.Constant (.int c) j0 p3] X.env = (false, eval (Expr.Constant (.int c) j0 p3) X.env) :: starEach [] X.env := by rfl)
    (hpl2 : (backTo pos (starEach [Expr.Constant (.int c) j0 p3] X.env)).any (·.1) = false := by rfl) :
    EV X W none Γ (.Call (.Name x p) (.Call (.Name y p2) (e :: es) [] pos2 :: [.Constant (.int c) j0 p3]) [] pos) (ml >>= fun ds => run0 (Mk ds) >>= fun ns => withPen ns (F [.int c])) := by
  obtain ⟨f, fd, h1, h2, h3, h4⟩ := FC.ex
  obtain ⟨f', fd', m1, m2, m3, m4⟩ := MC.ex
  have pm := pe_callG (p := p2) (pos := pos2) C (m1.mono hj') hg' m2 m3 m4 ha hdb' he hpl
  refine pe_imp (pe_callG (p := p) (pos := pos) C (h1.mono hj) hg h2 h3 h4 (pa_cons pm (pa_cons pe_int pa_nil he3) he2) hdb he2 hpl2) fun σ H Q ⟨G0, H0, G, s, E, P⟩ => ⟨G0, H0, G, s, E, P.bind.imp fun G1 H1 ds s1 x1 p1 P1 vs r => ?_⟩
  rw [PM.bind_def] at P1
  unfold run0 at P1
  have hlen : ds.length = n := by
    by_cases h : ds.length = n
    · exact h
    · rw [arM ds [] h] at P1
      exact P1.elim
  refine ⟨G1, ds, ⟨x1.sub, x1.tk E.tk, x1.gt E.x.nt⟩, r, hlen, ?_⟩
  cases q : Mk ds [] with
  | exc z =>
    rw [q] at P1
    exact fun cls dx G' H' y q' => P1 cls dx G' H' y q'
  | bad => rw [q] at P1; exact P1.elim
  | ok ns s2 =>
    rw [q] at P1
    have P1 : Pst X.K W X.mg none σ (FD X.K Q) G1 H1 (withPen ns (F [.int c]) s1) := P1
    intro G' H' y yp p' np hp' gp'
    refine ⟨some p', G', ns, [.int c], [.int c], rfl, rfl, ⟨y.sub, y.tk (x1.tk E.tk), y.gt (x1.gt E.x.nt)⟩, fun a e => by cases e; exact ⟨gp', hp'⟩, .cons (.int c) .nil, rfl, ?_⟩
    unfold withPen at P1
    cases q2 : F [.int c] ns with
    | ok d s3 =>
      rw [q2] at P1
      exact fun G2 H2 z zp v rv => P1 G2 H2 (Ext.unpen (y.any.trans z) np) PenOk.none v rv
    | exc w =>
      rw [q2] at P1
      exact fun cls dx G2 H2 z zw => P1 cls dx G2 H2 (Ext.unpen (y.any.trans z) np) zw
    | bad => rw [q2] at P1; exact P1.elim
end
end EV

/-! EV 28: is True, is not True. -/
namespace EV
open PySem PySem.Spec PyProof.Rows L2
def isBD : D → D → PM D
  | .bl a, .bl b => pure (.bl (decide (a = b)))
  | _, _ => bad
def notBD : D → D → PM D
  | .bl a, .bl b => pure (.bl (!decide (a = b)))
  | _, _ => bad
section
variable {X : Cx}
theorem od_isB : OpD X (compareOp .Is) isBD := by
  refine ⟨_, op_is_bl, fun W pa σ G H s x y a b Q hs hp ra rb P => ?_⟩
  cases rb with
  | bl j =>
    cases ra with
    | bl i => exact ⟨i, j, rfl, rfl, P G H (Ext.refl hs) hp _ (.bl _)⟩
    | _ => exact P.elim
  | _ => cases ra <;> exact P.elim
theorem od_notB : OpD X (compareOp .IsNot) notBD := by
  refine ⟨_, op_isnot_bl, fun W pa σ G H s x y a b Q hs hp ra rb P => ?_⟩
  cases rb with
  | bl j =>
    cases ra with
    | bl i => exact ⟨i, j, rfl, rfl, P G H (Ext.refl hs) hp _ (.bl _)⟩
    | _ => exact P.elim
  | _ => cases ra <;> exact P.elim
end
end EV

/-! EV 29: len(set(..)) of a list of truth values. -/
namespace L2
open PySem PySem.Spec PyProof.Rows PpSet
theorem setB_new_at {w : World} {h : Heap} {a : Addr} (e : h.get? a = some (nset w)) : SetB w h a (fun k => decide (k ∈ ([] : List Bool).take 0)) 0 :=
  ⟨_, #[], 0, _, e, ⟨rfl, rfl, rfl⟩, rfl, (fun e he => by simp at he), (by simp), (fun k => by simp), (by decide), (by rfl), rfl, List.Pairwise.nil, by
    show _ ∨ (!w.params.followText "set-order") = true
    cases w.params.followText "set-order"
    · exact .inr rfl
    · exact .inl rfl⟩
theorem setB_len {w : World} {h : Heap} {a : Addr} {bs : List Bool} {n : Nat} (R : SetB w h a (fun k => decide (k ∈ bs)) n) : n = (if true ∈ bs then 1 else 0) + (if false ∈ bs then 1 else 0) := by
  obtain ⟨o, es, ep, t, _, _, _, _, nd, hm, _, _, hn, _⟩ := R
  have hl : (es.toList.map keyB).length = n := by rw [List.length_map, Array.length_toList]; exact hn
  have h1 := hm true
  have h2 := hm false
  rw [decide_eq_true_eq] at h1 h2
  generalize es.toList.map keyB = L at nd h1 h2 hl
  subst hl
  match L, nd with
  | [], _ => simp [h1, h2]
  | [x], _ => cases x <;> simp [h1, h2]
  | [x, y], nd => cases x <;> cases y <;> simp at nd <;> simp [h1, h2]
  | x :: y :: z :: L, nd => cases x <;> cases y <;> cases z <;> simp at nd
section
variable {prog : Program} {w : World} {A : Around} {R : Result → Shared → Prop} {I : Addr} {fp wr : List Addr} {G : Array GenState → Array GenState → Prop} {n : Nat} {P : Nat → Value → Prop} {St : Nat → Shared → Prop}
theorem set_update_bools (W : WalksS prog w A.in1 I fp wr G n P St) (S : Addr) (hSf : S ∉ fp) (bs : List Bool) (hn : n = bs.length) (hb : bs.length + 1 < scanBound) (hval : ∀ i v, P i v → ∃ k, bs[i]? = some k ∧ v = .bool k) :
    ∀ (k i : Nat) (s : Shared), n - i = k → i ≤ n → St i s → (∃ m, m ≤ i ∧ SetB w s.heap S (fun k => decide (k ∈ bs.take i)) m) →
      (∀ s' m, Moved (S :: wr) G s s' → m ≤ n → SetB w s'.heap S (fun k => decide (k ∈ bs)) m → R (.ok (.ret .none)) s') →
      codeAny (model prog w) A (.builtin "set.update.loop" ⟨[.ref S, .ref I], []⟩) R s := by
  have out : S ∉ wr := fun h => hSf (W.sub _ h)
  have inc : ∀ b ∈ wr, b ∈ S :: wr := fun b hb => List.mem_cons_of_mem _ hb
  intro k
  induction k with
  | zero =>
    intro i s hk hi hst ⟨m, hm, hS⟩ hR
    have hin : i = bs.length := by omega
    refine codeAny_builtin F.entry_set_update_loop ?_
    rw [Around.under_plainId F.plain_set_update_loop _]
    show wpAny _ A.in1 (pyNext (.ref I) >>= _) _ _ s
    have hst : St n s := by rw [hn, ← hin]; exact hst
    refine wpAny_bind (W.done s _ _ hst fun s' mv => ?_)
    show wpAny _ A.in1 (ret Value.none) _ _ s'
    have hS' := hS.at (h' := s'.heap) fun o e => mv.heap S o out e
    rw [hin, List.take_length] at hS'
    exact wpAny_pure (hR s' m (mv.mono inc) (by omega) hS')
  | succ k ih =>
    intro i s hk hi hst ⟨m, hm, hS⟩ hR
    have hlt : i < n := by omega
    refine codeAny_builtin F.entry_set_update_loop ?_
    rw [Around.under_plainId F.plain_set_update_loop _]
    show wpAny _ A.in1 (pyNext (.ref I) >>= _) _ _ s
    refine wpAny_bind (W.item i s _ _ hlt hst fun v s' hP hst' mv => ?_)
    obtain ⟨b, hbi, rfl⟩ := hval i v hP
    have hS' := hS.at (h' := s'.heap) fun o e => mv.heap S o out e
    show wpAny _ A.in1 (holding [Value.bool b] (setAdd S (.bool b)) >>= _) _ _ s'
    refine wpAny_bind (wpAny_holding ?_)
    unfold setAdd
    refine wpAny_holding ?_
    refine wpAny_bind ((boolK prog w).pyHash (boolK_is prog w b) ?_)
    refine setB_add_hashed (P := prog) (s := { s' with toks := s'.toks + 1 }) hS' (by omega) fun h' sb r => ?_
    have r' : SetB w h' S (fun k => decide (k ∈ bs.take (i + 1))) (if decide (b ∈ bs.take i) = true then m else m + 1) := r.congr fun k => by
      have hil := (List.getElem?_eq_some_iff.mp hbi)
      have e : bs.take (i + 1) = bs.take i ++ [b] := by
        rw [List.take_add_one, hbi]
        rfl
      rw [e]
      by_cases q : k ∈ bs.take i <;> simp [q]
    refine wpAny_pure ⟨plainId_quiet F.plain_set_update_loop _, ih (i + 1) _ (by omega) hlt (W.frame _ s' _ _ hst' (Nat.le_succ _) fun b hb o e => ?_) ⟨_, by split <;> omega, r'⟩ fun s'' m' mv' hm' hS'' => ?_⟩
    · rw [sb.2 b (fun h : b = S => hSf (by rw [← h]; exact hb))]; exact e
    · refine hR s'' m' (Moved.trans W.gtrans ((mv.mono inc).then_heap (Nat.le_succ _) fun b o hb e => ?_) mv') hm' hS''
      rw [sb.2 b (fun h : b = S => hb (by rw [h]; exact List.mem_cons_self))]; exact e
end
section
variable {P : Program} {w : World} {A : Around} {E : Value → Shared → Prop} {s : Shared}
set_option maxHeartbeats 3000000 in
theorem call_set_lsB {l : Addr} {items0 : Array Value} (bs0 : List Bool) {Q : Value → Shared → Prop} (hh0 : A.handled = none) (hl0 : s.heap.IsList l items0) (hit0 : items0.toList = bs0.map Value.bool) (hb0 : bs0.length + 1 < scanBound)
    (h0 : ∀ (h' : Heap) (tk y62 : Nat), SetB w h' s.heap.objs.size (fun j => decide (j ∈ bs0)) y62 → y62 ≤ bs0.length → (∀ y54 y55, s.heap.get? y54 = some y55 → h'.get? y54 = some y55) → Q (.ref s.heap.objs.size) { s with heap := h', toks := tk }) :
    wpAny (model P w) A (call (.type "set") [Value.ref l]) Q E s := by
  have y5 : items0.size = bs0.length := by
    have y6 := congrArg List.length hit0
    rw [Array.length_toList, List.length_map] at y6
    exact y6
  obtain ⟨y62, y63, y7⟩ := F.called_set.mro
  have y8 := F.called_set.made
  have y9 := F.called_set.sub
  refine wpAny_call (codeAny_of_tree (show wpAny _ _ (callAny (.type "set") _) _ _ _ from ?_))
  refine wpAny_pure (And.intro (Code.quiet_builtin _ (by decide +kernel)) (codeAny_builtin F.entry_type_call ?_))
  rw [Around.under_plain (weight_type_call_type "set" [Value.ref l] []) rfl]
  have y10 := F.called_set.notType
  have y11 := F.called_set.canCreate
  have y12 := F.typeCall_set_1 (.ref l)
  repeat (any_goals first | assumption | wp_step)

  refine codeAny_mono (code_set_led1 (.ref l) (E := E) (Q₁ := fun y69 y64 => y69 = .ref s.heap.objs.size ∧ y64 = { s with heap := s.heap.push (nset w) }) ⟨rfl, rfl⟩) fun y70 y64 y13 => ?_
  cases y70 with
  | error y61 => exact y13
  | ok y68 =>
    cases y68 with
    | ret y69 =>
      obtain ⟨rfl, rfl⟩ := y13
      have y14 : (s.heap.push (nset w)).get? s.heap.objs.size = some (nset w) := Heap.get?_push_size _ rfl
      have y15 : Shared.TypeIs { s with heap := s.heap.push (nset w) } (.ref s.heap.objs.size) "set" := ⟨_, y14, rfl⟩
      have y16 := F.called_set.init.lookup
      have y17 := F.called_set.init.bind (.ref s.heap.objs.size)
      repeat (any_goals first | assumption | wp_step)

      refine codeAny_mono (codeAny_call_builtin (R := wants (fun y70 y65 => y70 = .none ∧ ∃ h' tk y62, y65 = { s with heap := h', toks := tk } ∧ SetB w h' s.heap.objs.size (fun j => decide (j ∈ bs0)) y62 ∧ y62 ≤ bs0.length ∧
          (∀ y54 y55, s.heap.get? y54 = some y55 → h'.get? y54 = some y55)) E) F.called_set.init.plain F.entry_set_init (check_set_init_1 y15 ?_)) fun y66 y65 y18 => ?_
      · obtain ⟨y19, y20, y21, y22, y23⟩ := hl0
        obtain ⟨y24, y25, y26, y27⟩ := y19
        simp only at y21 y23
        subst y21; subst y23
        have y28 : (s.heap.push (nset w)).get? l = some { cls := .type "list", dict := y25, data := .seq items0 y22, slots := y27 } := Heap.get?_push_of_some _ y20
        have y29 := F.sub_list_set
        have y30 := F.sub_list_frozenset
        have y31 : (Value.type "list" == Value.type "dict") = false := by decide
        have y32 : (s.heap.push (nset w)).IsList l items0 := ⟨_, y28, rfl, y22, rfl⟩
        unfold Builtin.«set.__init__» Builtin.Frozenset.updateFrom noKeywords
        generalize y34 : pyIter = y33
        wp_walk
        subst y34

        refine wpAny_pyIter_list y32 ?_
        refine wpAny_bind (wpAny_runValue (?_ : _))
        have y35 : l < s.heap.objs.size := Heap.lt_size y20
        have y36 : A.in1.in1.in1.handled = none := by simp [hh0]
        have y37 : (s.heap.push (nset w)).objs.size = s.heap.objs.size + 1 := Heap.size_push ..
        have y38 : l ≠ (s.heap.push (nset w)).objs.size := by
          rw [Heap.size_push]; exact Nat.ne_of_lt (Nat.lt_succ_of_lt y35)
        have y39 : s.heap.objs.size ∉ [(s.heap.push (nset w)).objs.size, l] := by
          simp only [Heap.size_push, List.mem_cons, List.mem_singleton, List.not_mem_nil, or_false, not_or]
          exact ⟨Nat.ne_of_lt (Nat.lt_succ_self _), Nat.ne_of_gt y35⟩
        have y40 : ∀ (i : Nat) (v : Value), items0[i]? = some v → ∃ k, bs0[i]? = some k ∧ v = .bool k := fun i v y41 => by
          have y42 : items0.toList[i]? = some v := by rw [Array.getElem?_toList]; exact y41
          rw [hit0, List.getElem?_map] at y42
          cases y43 : bs0[i]? with
          | none => rw [y43] at y42; cases y42
          | some k =>
            rw [y43] at y42
            exact ⟨k, rfl, (Option.some.inj y42).symm⟩
        refine set_update_bools ((Walks.list y36 _ l y38 items0).toS) s.heap.objs.size
          y39 bs0 y5 hb0 y40 (items0.size - 0) 0 _ (by omega) (Nat.zero_le _)
          ⟨⟨_, Heap.get?_push_size _ rfl, rfl, rfl⟩, (y32.push _)⟩ ?hS0 ?hR
        case hS0 =>
          have y43 : ((s.heap.push (nset w)).push { cls := .type "list_iterator", data := .fields #[.ref l, .int 0 0] }).get? s.heap.objs.size
              = some (nset w) := Heap.get?_push_of_some _ y14
          exact ⟨0, Nat.le_refl 0, setB_new_at y43⟩
        case hR =>
          intro y73 y60 y44 y46 y45
          obtain ⟨h', y47, y48, y49, y50⟩ := y73
          have y51 : y47 = s.gens := y44.gens
          have y52 : y48 = s.drawn := y44.drawn
          have y53 : y50 = s.os := y44.os
          subst y51; subst y52; subst y53
          show wpAny _ _ _ _ _ _
          refine wpAny_pure ?_
          show wpAny _ _ (ret (.none : Value)) _ _ _
          rw [y5] at y46
          refine wpAny_pure ⟨rfl, h', y49, y60, rfl, y45, y46, fun y54 y55 y61 => ?_⟩
          have y56 : y54 < s.heap.objs.size := Heap.lt_size y61
          have y57 : y54 ≠ s.heap.objs.size := Nat.ne_of_lt y56
          have y58 : y54 ≠ (s.heap.push (nset w)).objs.size := by
            rw [Heap.size_push]; exact Nat.ne_of_lt (Nat.lt_succ_of_lt y56)
          exact y44.heap y54 y55 (by simp only [List.mem_cons, List.mem_singleton, List.not_mem_nil, or_false, not_or]; exact ⟨y57, y58⟩) (Heap.get?_push_of_some _ (Heap.get?_push_of_some _ y61))

      · cases y66 with
        | error y61 => exact y18
        | ok y67 =>
          cases y67 with
          | ret y70 =>
            obtain ⟨rfl, h', tk, y60, rfl, y45, y46, y59⟩ := y18
            repeat (any_goals first | assumption | wp_step)
            exact h0 _ _ _ y45 y46 y59
          | _ => exact y18.elim
    | _ => exact y13.elim

end
section
variable {X : Cx}
def tLenSetB (K : PySem.W.Frag) (ta : TE) : TE := fun σ H Q => ta σ H fun x H1 => ∃ (l : Addr) (bs : List Bool), x = V.ref l ∧ SqL K H1 l (bs.map V.bl) ∧ bs.length < 64 ∧ Q (.int ((if true ∈ bs then 1 else 0) + (if false ∈ bs then 1 else 0) : Nat)) H1
theorem pe_lenSetB {a : Expr} {ta : TE} {p p2 q pos : Pos} (hc : X.calm = true) (hg : Gl X "len") (hm : X.mg "len" = none) (hg2 : Gl X "set") (hm2 : X.mg "set" = none) (ha : PE X a ta)
    (na : starEach [a] X.env = (false, eval a X.env) :: starEach [] X.env := by rfl) : PE X (.Call (.Name "len" p) [.Call (.Name "set" p2) [a] [] q] [] pos) (tLenSetB X.K ta) := by
  refine ⟨fun pins s σ H Q I h => ?_⟩
  refine Call_ (ld_blt I hg hm PySem.boot_len ?_)
  refine PyProof.Rows.callWith_builtin1 (PyProof.Rows.args_cons ?_ rfl) rfl rfl
  refine Call_ (ld_blt I hg2 hm2 PyProof.Rows.boot_set ?_)
  refine PyProof.Rows.callWith_type1 (PyProof.Rows.args_cons (thn (ha.run pins s σ H _ I h) fun v s1 ⟨x, H1, I1, r1, q1⟩ => PyProof.Rows.args_nil ?_) na) na rfl
  obtain ⟨l, bs, rfl, hq, h1, q1⟩ := q1
  cases r1
  obtain ⟨its, r, pl, hz⟩ := I1.list hq
  refine call_set_lsB (P := X.prog) (w := X.w) bs (I1.ok.hd hc) pl.isList (by simpa using Vals.bls r) (by unfold scanBound; omega) fun h' tk m R hm hk => ?_
  refine PyProof.Rows.args_nil ?_
  have hl := setB_len R
  have I2 : Inv X pins σ H1 { s1 with heap := h', toks := tk } := I1.kept hk
  obtain ⟨o, es, ep, t, ho, hex, hd, _, _, _, _, hf, hn, _⟩ := R
  refine call_len_set ho hex hd hf (by rw [hn] <;> omega) ⟨.int m, H1, I2.tok _, ⟨_, by rw [hn]⟩, by rw [hl]; exact q1⟩
end
end L2
namespace EV
open PySem PySem.Spec PyProof.Rows L2
def blsOfD : List D → Option (List Bool)
  | [] => some []
  | .bl b :: ds => match blsOfD ds with | some bs => some (b :: bs) | none => none
  | _ :: _ => none
theorem blsOfD_eq : ∀ {ds : List D} {bs : List Bool}, blsOfD ds = some bs → ds = bs.map D.bl
  | [], bs, h => by
    cases h
    rfl
  | d :: ds, bs, h => by
    cases d with
    | bl b =>
      have h : (match blsOfD ds with | some bs => some (b :: bs) | none => none) = some bs := h
      cases q : blsOfD ds with
      | none => rw [q] at h; cases h
      | some cs =>
        rw [q] at h
        cases h
        rw [blsOfD_eq q]
        rfl
    | _ => cases h
theorem blsOfD_map : ∀ bs : List Bool, blsOfD (bs.map D.bl) = some bs
  | [] => rfl
  | b :: bs => by
    rw [List.map_cons]
    unfold blsOfD
    rw [blsOfD_map bs]
/-- len(set(..)) of a list of truth values -/
def lenSetB : D → PM D
  | .lst xs => match blsOfD xs with
    | some bs => if bs.length < 64 then pure (.int ((if true ∈ bs then 1 else 0) + (if false ∈ bs then 1 else 0) : Nat)) else bad
    | none => bad
  | _ => bad
section
variable {X : Cx} {W : WX} {pa : Option Addr} {Γ : List Sl}
theorem rpl_bls {K : PySem.W.Frag} {G : Hp} : ∀ {bs : List Bool} {vs : List V}, RpL K G vs (bs.map D.bl) → vs = bs.map V.bl
  | [], vs, r => List.eq_nil_of_length_eq_zero (by rw [r.1]; rfl)
  | b :: bs, vs, r => by
    cases vs with
    | nil => have := r.1; simp at this
    | cons v vs =>
      rw [List.map_cons] at r
      obtain ⟨r1, r2⟩ := r.tail
      cases r1
      rw [rpl_bls r2]
      rfl
theorem ev_lenSetB {a : Expr} {m : PM D} {p p2 q pos : Pos} (hc : X.calm = true) (hg : Gl X "len") (hm : X.mg "len" = none) (hg2 : Gl X "set") (hm2 : X.mg "set" = none) (ha : EV X W pa Γ a m)
    (na : starEach [a] X.env = (false, eval a X.env) :: starEach [] X.env := by rfl) : EV X W pa Γ (.Call (.Name "len" p) [.Call (.Name "set" p2) [a] [] q] [] pos) (m >>= lenSetB) :=
  pe_imp (pe_lenSetB hc hg hm hg2 hm2 ha na) fun σ H Q ⟨G0, H0, G, s, E, P⟩ => ⟨G0, H0, G, s, E, P.bind.imp fun G1 H1 d s1 x1 p1 P1 v r => by
    cases r with
    | @lst b zs ds h n rr =>
      have P1 : Pst X.K W X.mg pa σ (FD X.K Q) G1 H1 ((match blsOfD ds with | some bs => if bs.length < 64 then pure (.int ((if true ∈ bs then 1 else 0) + (if false ∈ bs then 1 else 0) : Nat)) else bad | none => bad : PM D) s1) := P1
      cases e : blsOfD ds with
      | none => rw [e] at P1; exact P1.elim
      | some bs =>
        rw [e] at P1
        have P1 : Pst X.K W X.mg pa σ (FD X.K Q) G1 H1 ((if bs.length < 64 then pure (.int ((if true ∈ bs then 1 else 0) + (if false ∈ bs then 1 else 0) : Nat)) else bad : PM D) s1) := P1
        by_cases hb : bs.length < 64
        · rw [if_pos hb] at P1
          have rr : RpL X.K G1 zs ds := ⟨n, rr⟩
          rw [blsOfD_eq e] at rr
          have ez := rpl_bls rr
          subst ez
          exact ⟨b, bs, rfl, SqL.of (x1.sub _ _ h), hb, P1.now x1.sub p1 _ (.int _)⟩
        · rw [if_neg hb] at P1
          exact P1.elim
    | _ => exact P1.elim⟩
end
end EV

/-! EV 30: a list extended by a tuple; sorted of a tuple. -/
namespace EV
open PySem PySem.Spec PyProof.Rows L2 PySem.W
open AutoSeq1 (wpAny_loadPart')
theorem list_extend_tupG (l : Addr) (items : Array Value) (n : Nat) (b : Addr) (items2 : Array Value) (n2 : Nat) (dd : Option Addr) (sl : Array (Option Value)) (hs0 : ¬(!items.isEmpty && Builtin.List.listTooLong (items.size + items2.size)) = true) (hs1 : items.size ≤ sizeLine) (hs2 : items.size + items2.size ≤ sizeLine + 1) :
    Meets (Builtin.«list.extend» ⟨[.ref l, .ref b], []⟩) (fun _ R s => s.heap.get? l = some { cls := .type "list", dict := none, data := .seq items n, slots := #[] } ∧ s.heap.get? b = some { cls := .type "tuple", dict := dd, data := .seq items2 n2, slots := sl } ∧ R (.ok (.ret Value.none)) { s with heap := s.heap.update l (Obj.mapSeq fun x => x ++ items2), toks := s.toks }) :=
  .of_wp fun prog w A R s h => by
    obtain ⟨hp, g, d, tk, os⟩ := s
    obtain ⟨hl, hb, h⟩ := h
    have f1 := AutoSeq1.idx_int
    have f2 := AutoSeq1.sub_tuple_tuple
    have f3 := AutoSeq1.sub_list_list
    have f4 := AutoSeq1.sub_tuple_list
    have f5 := AutoSeq1.sub_list_tuple
    have hz' : (items ++ items2).size ≤ sizeLine + 1 := by rw [Array.size_append]; exact hs2
    wp_walk using (wpAny_updateSeq hl rfl (hz := hs1) (_hz' := hz')), wpAny_loadPart' hl, wpAny_loadPart' hb
    exact ⟨_, rfl, h⟩
def rExtendT (K : PySem.W.Frag) : V → List V → Hp → VK → Prop := fun x vs H Q => ∃ l b xs zs, x = .ref l ∧ vs = [.ref b] ∧ H l = some (.lst xs) ∧ SqT K H b zs ∧ xs.length + zs.length ≤ sizeLine ∧ Q .non (upd H l (.lst (xs ++ zs)))
section
variable {X : Cx}
theorem mt_extendT : MtM X "list.extend" (rExtendT X.K) := by
  intro pins s σ H x vs v us Q I rx rv h
  obtain ⟨l, b, xs, zs, rfl, rfl, hH, hB, hz, q⟩ := h
  cases rx
  obtain ⟨u, rfl, ru⟩ := rv.one
  cases ru
  obtain ⟨z, its, n, r, hl, e⟩ := I.lstM hH
  obtain ⟨its2, r2, ⟨⟨cls, dd, data, sl⟩, e2, hc, n2, hd⟩, hz2⟩ := I.tuple hB
  simp only at hc hd
  subst hc hd
  have hl2 : its2.length = zs.length := r2.length.symm
  have hsz : its.toArray.size + its2.toArray.size ≤ sizeLine := by rw [List.size_toArray, List.size_toArray]; omega
  have hlong : ¬ (!its.toArray.isEmpty && Builtin.List.listTooLong (its.toArray.size + its2.toArray.size)) = true := by
    rw [notLongL hsz, Bool.and_false]
    exact Bool.false_ne_true
  refine call_meets F.slot_list_extend ⟨_, e, rfl⟩ F.entry_list_extend (F.args_list_extend_2 _ _)
    (list_extend_tupG l its.toArray n b its2.toArray n2 dd sl hlong (by rw [List.size_toArray]; omega) (by omega)) ⟨e, e2, ?_⟩
  refine ⟨.non, _, I.lset (its' := its ++ its2) hH e (by simp) (r.append r2) ?_, rfl, q⟩
  rw [List.length_append]
  omega
end
def tupOf : D → PM (List D)
  | .tup ys => pure ys
  | _ => bad
section
variable {X : Cx} {W : WX} {pa : Option Addr} {Γ : List Sl} {pos : Pos} {α : Type} {out : α → Out} {rest : List Stmt}
/-- x.extend(e), e a tuple -/
theorem sv_extT (i : Nat) {x : Str} {e : Expr} {xs : List D} {me : PM D} {kk : List D → PM α} {p1 apos cpos : Pos} (h : Γ[i]? = some (.own xs)) (he : EV X W pa Γ e me) (hr : ∀ ys, SV X W pa (Γ.set i (.own (xs ++ ys))) out rest (kk ys))
    (hN : X.N[i]? = some x := by rfl) (hv : Vis X.env.scope x := by first | exact Or.inl rfl | exact Or.inr (Or.inl rfl) | exact Or.inr (Or.inr rfl)) (hd : (x == ("__debug__" : Str)) = false := by decide) (hcd : (x == ("__classdict__" : Str)) = false := by decide)
    (hbase : attributeBase (.Name x p1) "extend" X.env (eval (.Name x p1) X.env) = eval (.Name x p1) X.env := by rfl)
    (hfew : ((backTo cpos (starEach [e] X.env)).all (fun x => !x.1) && (backToKw cpos (keywordEach [] X.env)).all (fun x => x.1.isSome)
      && decide ([e].length + ([] : List Keyword).length + (if ([] : List Keyword).isEmpty then 0 else 1) < 30)) = true := by rfl)
    (hline : (apos.endLine == cpos.line) = true := by rfl) (hs : starEach [e] X.env = (false, eval e X.env) :: starEach [] X.env := by rfl) (hplain : (backTo cpos (starEach [] X.env)).any (·.1) = false := by rfl)
    (hsw : swapsWith (.Call (.Attribute (.Name x p1) "extend" apos) [e] [] cpos) none pos.line X.env = pure false := by rfl) :
    SV X W pa Γ out (.Expr (.Call (.Attribute (.Name x p1) "extend" apos) [e] [] cpos) pos :: rest) (me >>= tupOf >>= fun ys => okLen (xs ++ ys) >>= fun _ => kk ys) := by
  unfold SV
  refine pss_imp (pss_cons (ps_expr (pe_bm PySem.F.plainAttrs_list PySem.F.slot_list_extend PySem.F.type_list_extend mt_extendT (pe_var hN hv hd hcd) (pa_cons he pa_nil hs) hbase hfew hline hs hplain) hsw) (pss_ex hr)) fun Dn σ H ⟨G0, H0, G, s, E, P⟩ => ?_
  obtain ⟨p, vs, h1, h2, h3, h4, h5, h6⟩ := E.own i xs h
  rw [bind_assoc, bind_assoc] at P
  refine ⟨.ref p, h1, .inl ⟨rfl, vs, SqL.of h2⟩, G0, H0, G, s, E, (P.bind E).imp fun G1 H1 d s1 x1 p1 P1 v r => ?_⟩
  cases r with
  | @tup b zs ys hb n rr =>
    have P1 : SPost X.K W X.mg pa G0 H0 Dn ((((okLen (xs ++ ys) >>= fun _ => kk ys)) >>= fun a => pure (out a)) s1) := P1
    rw [bind_assoc] at P1
    have h2' := x1.h _ _ h2 h6
    by_cases hl : (xs ++ ys).length ≤ lim
    · rw [okLen_ok hl, pure_bind] at P1
      have E1 := E.step x1 p1
      refine ⟨p, b, vs, zs, rfl, rfl, h2', sameT x1.sub hb, ?_, ys, G0, H0, G1, s1, E1.mut h h1 ((h4.mono x1.g).app ⟨n, rr⟩), P1⟩
      rw [h4.1, n]
      rw [List.length_append] at hl
      exact lim_le hl
    · unfold okLen at P1
      rw [if_neg hl] at P1
      exact P1.elim
  | _ => exact P1.elim
end
/-! sorted of a tuple -/
theorem size_upd (h : Heap) (a : Addr) (f : Obj → Obj) : (h.update a f).objs.size = h.objs.size := by
  cases h
  show (Array.modify _ _ _).size = _
  rw [Array.size_modify]
section
variable {P : Program} {w : World} {A : Around} {E : Value → Shared → Prop} {s : Shared}
/-- collect of a tuple: the heap is no smaller -/
theorem collect_tup {Q : List Value → Shared → Prop} {t : Addr} {o : Obj} {items : Array Value} {n : Nat} (ho : s.heap.get? t = some o) (hc : o.cls = .type "tuple") (hd : o.data = .seq items n) (hsz : items.size ≤ sizeLine)
    (hQ : ∀ h', (∀ b o', s.heap.get? b = some o' → h'.get? b = some o') → s.heap.objs.size ≤ h'.objs.size → Q items.toList { s with heap := h' }) : wpAny (model P w) A (collect (.ref t)) Q E s := by
  have hS : (s.heap.push { cls := .type "list", data := .seq ([] : List Value).toArray }).get? s.heap.objs.size = some { cls := .type "list", data := .seq #[] 0 } := Heap.get?_push_size _ rfl
  have hS2 := Heap.get?_update_self (Obj.mapSeq (· ++ items)) hS rfl
  have last : wpAny (model P w) A (load s.heap.objs.size >>= fun o => match o.data with | Data.seq xs _ => pure xs.toList | _ => unsupported "internal:collect") Q E { s with heap := (s.heap.push { cls := .type "list", data := .seq ([] : List Value).toArray }).update s.heap.objs.size (Obj.mapSeq (· ++ items)) } := by
    refine wpAny_bind (wpAny_load hS2 (wpAny_pure ?_))
    have e : ((#[] : Array Value) ++ items).toList = items.toList := by simp
    show Q ((#[] : Array Value) ++ items).toList _
    rw [e]
    refine hQ _ (fun b o' hb => (Heap.get?_update_other _ _ (Nat.ne_of_gt (Heap.lt_size hb))).trans (Heap.get?_push_of_some _ hb)) ?_
    rw [size_upd, Heap.size_push]
    exact Nat.le_succ _
  unfold collect
  refine wpAny_bind (wpAny_runValue (codeAny_builtin F.entry_proto_collect ?_))
  rw [Around.under_plainId F.plain_proto_collect _]
  show wpAny _ A.in1 (newList [] >>= fun l => again (.builtin "list.__iadd__" ⟨[l, .ref t], []⟩)) _ _ s
  refine wpAny_bind (wpAny_newObj_type (wpAny_pure ⟨plainId_quiet F.plain_list_iadd _, codeAny_builtin F.entry_list_iadd ?_⟩))
  rw [Around.under_plainId F.plain_list_iadd _]
  show wpAny _ A.in1 (Builtin.List.listExtendWith (.ref s.heap.objs.size) (.ref t) (.ref s.heap.objs.size)) _ _ _
  refine wpAny_mono (wpAny_extend_seq (hsz := hsz) (A := A) (R := fun r s' => r = .ok (.ret (.ref s.heap.objs.size)) ∧ s' = { s with heap := (s.heap.push { cls := .type "list", data := .seq ([] : List Value).toArray }).update s.heap.objs.size (Obj.mapSeq (· ++ items)) })
    (s := { s with heap := s.heap.push { cls := .type "list", data := .seq ([] : List Value).toArray } }) _ t _ 0 (.inr rfl) hS (Heap.get?_push_of_some _ ho) hc hd ⟨rfl, rfl⟩) (fun fin s' h => ?_) (fun e s' h => absurd h.1 (by simp))
  cases fin with
  | done f =>
    obtain ⟨e, rfl⟩ := h
    cases e
    exact last
  | again c' => exact ⟨h.1, codeAny_mono h.2 fun r s'' hr => by obtain ⟨rfl, rfl⟩ := hr; exact last⟩
theorem sorted_tupA {β : Type} {a : Addr} {vs : List Value} {bs : List β} {enc : β → PyData} {R : Value → β → Prop} {Q : Value → Shared → Prop} (ht : IsTup s.heap a vs.toArray) (e : EachIs R vs bs) (er : EachIs (fun v b => ∃ as, Reads s.heap v (enc b) as) vs bs)
    (hal : AllAlike (bs.map enc)) (hk : Sortable (bs.map enc)) (hL : vs.length ≤ sizeLine) (hu : ∀ b, b ∈ bs → A.units + 2 + (enc b).depth < cLine)
    (hQ : ∀ (s' : Shared) (p : Addr) (out : List Value) (c : Nat), (∀ b o, s.heap.get? b = some o → s'.heap.get? b = some o) → s'.gens = s.gens → s'.os = s.os → s.heap.objs.size ≤ p → s'.heap.get? p = some (seqObj "list" out.toArray c) →
      EachIs R out (bs.mergeSort (dataLe false enc)) → Q (.ref p) s') : wpAny (model P w) A (PySem.call (.builtin "sorted") [.ref a]) Q E s := by
  obtain ⟨o, ho, hc, n, hd⟩ := ht
  refine Calls.call_function_entry (prog := P) (w := w) kind_sorted plain_sorted entry_sorted (args_sorted1 (.ref a)) ?_
  unfold Builtin.«sorted»
  refine wpAny_bind (m := checkCount "sorted" 1 1 (1 : Nat)) (wpAny_pure ?_)
  refine wpAny_bind (collect_tup (A := A.in1) ho hc hd (by rw [List.size_toArray]; exact hL) fun h' kp sz => ?_)
  rw [List.toList_toArray]
  refine wpAny_bind (wpAny_newList ?_ hL)
  have hoL : (h'.push (seqObj "list" vs.toArray 0)).get? h'.objs.size = some (seqObj "list" vs.toArray 0) := Heap.get?_push_size h' rfl
  have keepP : ∀ b o, s.heap.get? b = some o → (sortingHeap (h'.push (seqObj "list" vs.toArray 0)) h'.objs.size vs).get? b = some o := fun b o e =>
    sortingHeap_old (Nat.ne_of_lt (Heap.lt_size (kp b o e))) (Heap.get?_push_of_some _ (kp b o e))
  have er2 : EachIs (fun v b => ∃ as, Reads (sortingHeap (h'.push (seqObj "list" vs.toArray 0)) h'.objs.size vs) v (enc b) as) vs bs := er.mono fun v b ⟨as, rd⟩ => ⟨as, PyProof.Rows.Reads.keeps keepP rd⟩
  refine wpAny_bind (wpAny_holding (call_sort_data (s := { s with heap := h'.push (seqObj "list" vs.toArray 0) }) hoL e er2 hal hk hL (fun b hb => ?_) fun out eo => ?_))
  · have := hu b hb
    show A.units + 1 + 1 + (enc b).depth < cLine
    omega
  · obtain ⟨c, hcc⟩ := sortedHeap_at (vs := vs) (out := out.toArray) hoL
    refine wpAny_pure ⟨_, rfl, hQ _ h'.objs.size out c (fun b u e => ?_) rfl rfl sz hcc eo⟩
    have q := kp b u e
    have lt := Heap.lt_size q
    show (sortedHeap (h'.push (seqObj "list" vs.toArray 0)) h'.objs.size vs out.toArray).get? b = some u
    rw [sortedHeap_old (Nat.ne_of_lt lt) (by rw [size_push']; exact Nat.lt_succ_of_lt lt)]
    exact Heap.get?_push_of_some _ q
end
def sortQ (xs : List D) : Bool := sortP xs && (match xs with | .tup [] :: _ => false | _ => true)
theorem sortQ_use {xs : List D} (h : sortQ xs = true) : AllAlike (xs.map toPy) ∧ (∀ d ∈ xs, (toPy d).depth ≤ 60) ∧ Sortable (xs.map toPy) := by
  unfold sortQ at h
  rw [Bool.and_eq_true] at h
  obtain ⟨h1, h2⟩ := h
  obtain ⟨a, b, c⟩ := sortP_use h1
  refine ⟨a, b, c.resolve_right fun z => ?_⟩
  obtain ⟨_, r, e⟩ := z
  cases xs with
  | nil => cases e
  | cons d xs =>
    rw [List.map_cons] at e
    injection e with e1 e2
    cases d with
    | tup ys =>
      cases ys with
      | nil => cases h2
      | cons y ys => simp [toPy, toPyL] at e1
    | _ => simp [toPy] at e1
/-- sorted(..) of a tuple -/
def sortedT : List D → PM D
  | [.tup xs] => if sortQ xs = true then mkL (xs.mergeSort leD2) else bad
  | _ => bad
section
variable {X : Cx} {k : Nat}
def rSortT (K : PySem.W.Frag) : List V → Hp → VK → Prop := fun vs H Q => ∃ (G : Hp) (a : Addr) (xs : List V) (ds : List D), Same G H ∧ vs = [V.ref a] ∧ SqT K H a xs ∧ RpL K G xs ds ∧ sortQ ds = true ∧
  ∀ (ys : List V) (p : Addr), RpL K G ys (ds.mergeSort leD2) → H p = none → Q (.ref p) (upd H p (.lst ys))
theorem cr_sortT (hr : Room k X.A) : CallR X (.builtin "sorted") (rSortT X.K) := by
  intro pins s σ H vs us Q I r h
  obtain ⟨G, a, xs, ds, hs, rfl, hq, rr, hp, q⟩ := h
  obtain ⟨h1, h2, h3⟩ := sortQ_use hp
  obtain ⟨its, rv, hl, hz⟩ := I.tuple hq
  rw [Vals.ref1 r]
  have e := each_of rv rr
  have u := hr.units
  have il : its.length = xs.length := rv.length.symm
  refine sorted_tupA (bs := ds) (enc := toPy) hl e ((each_ofN rv rr (allAlike_nd h1)).mono fun v d ⟨x, z1, z2, z3⟩ => Dp.reads I _ x v ((z2.mono hs).dp z3) z1) h1 h3 (by omega) (fun b hb => by have := h2 b hb; omega) fun s' p out c kp g1 o1 sz hc ho2 => ?_
  obtain ⟨ys, y1, y2⟩ := of_each ho2
  have hn : H p = none := I.hok.fresh sz
  have hlen : ys.length ≤ sizeLine := by
    rw [y2.1, List.length_mergeSort, ← rr.1]
    exact hz
  have J : Inv X pins σ (upd H p (.lst ys)) { s with heap := s'.heap, gens := s'.gens, drawn := s'.drawn, toks := s'.toks } :=
    Inv.call (s := s) I (ch := []) (Un.laid kp sz hn) (I.hok.laid kp sz ⟨hlen, out, c, y1, hc⟩) (by rw [g1]; exact I.bare) (fun _ z => nomatch z)
  have es : s' = { s with heap := s'.heap, gens := s'.gens, drawn := s'.drawn, toks := s'.toks } := by
    cases s'
    cases s
    cases o1
    rfl
  rw [es]
  exact ⟨.ref p, _, J, rfl, q ys p y2 hn⟩
theorem cd_sortedT (hr : Room k X.A) : CallD X (.builtin "sorted") sortedT := by
  refine ⟨_, cr_sortT hr, fun W pa σ G H s xs ds Q hs hp rs P => ?_⟩
  match ds, rs, P with
  | [d], rs, P =>
    obtain ⟨v, rfl, r⟩ := rp1 rs
    cases r with
    | @tup a vs es h n r =>
      have P : Pst X.K W X.mg pa σ (FD X.K Q) G H ((if sortQ es = true then mkL (es.mergeSort leD2) else bad : PM D) s) := P
      by_cases hc : sortQ es = true
      · rw [if_pos hc] at P
        exact ⟨G, a, vs, es, hs, rfl, sameT hs h, ⟨n, r⟩, hc, fun ys p ry np => mkL_use P ry hs hp np⟩
      · rw [if_neg hc] at P
        exact P.elim
    | _ => exact P.elim
  | [], _, P => exact P.elim
  | a :: _ :: _, _, P => cases a <;> exact P.elim
end
end EV

/-! EV 31: dicts of one's own, whose keys are tuples of ints. -/
namespace EV
open PySem PySem.Spec PyProof.Rows L2
def keyT (r : List Int) : List Key := r.map Sum.inl
theorem keyT_inj {a b : List Int} (h : keyT a = keyT b) : a = b := List.map_inj_right (fun x y e => by injection e) |>.mp h
theorem keyT_eq (a b : List Int) : decide (keyT a = keyT b) = decide (a = b) := by
  by_cases h : a = b
  · rw [h, decide_eq_true rfl, decide_eq_true rfl]
  · rw [decide_eq_false h, decide_eq_false fun z => h (keyT_inj z)]
theorem keyT_V (r : List Int) : (keyT r).map kV = r.map V.int := by
  unfold keyT
  rw [List.map_map]
  rfl
def dicT (kvs : List (List Int × D)) : Sl := .dic (.t (kvs.map (·.1))) (kvs.map (·.2))
def roTu (xs : List D) : Sl := .ro (.tu xs.length) xs
def findT (kvs : List (List Int × D)) (k : List Int) : Option D := (kvs.find? fun kv => decide (kv.1 = k)).map (·.2)
def putT (kvs : List (List Int × D)) (k : List Int) (d : D) : List (List Int × D) :=
  if (kvs.any fun kv => decide (kv.1 = k)) = true then kvs.map (fun (kv : List Int × D) => if kv.1 = k then (kv.1, d) else kv) else kvs ++ [(k, d)]
def kvT (kvs : List (List Int × D)) (vs : List V) : List (List Key × V) := ((kvs.map (·.1)).map keyT).zip vs
theorem kvT_cons (x : List Int × D) (kvs : List (List Int × D)) (v : V) (vs : List V) : kvT (x :: kvs) (v :: vs) = (keyT x.1, v) :: kvT kvs vs := rfl
section
variable {K : PySem.W.Frag} {G : Hp}
theorem kvT_ind {kvs : List (List Int × D)} {vs : List V} (r : RpL K G vs (kvs.map (·.2))) {C : List (List Int × D) → List V → Prop} (h0 : C [] []) (hs : ∀ x v kvs vs, Rp K G v x.2 → RpL K G vs (kvs.map (·.2)) → C kvs vs → C (x :: kvs) (v :: vs)) : C kvs vs := by
  induction kvs generalizing vs with
  | nil =>
    have e : vs = [] := List.eq_nil_of_length_eq_zero (by rw [r.1]; rfl)
    rw [e]
    exact h0
  | cons x kvs ih =>
    cases vs with
    | nil => have := r.1; simp at this
    | cons v vs =>
      rw [List.map_cons] at r
      exact hs x v kvs vs r.tail.1 r.tail.2 (ih r.tail.2)
theorem valV_kvT (k : List Int) {kvs : List (List Int × D)} {vs : List V} (r : RpL K G vs (kvs.map (·.2))) : (∃ v d, valV (kvT kvs vs) (keyT k) = some v ∧ findT kvs k = some d ∧ Rp K G v d) ∨ (valV (kvT kvs vs) (keyT k) = none ∧ findT kvs k = none) := by
  refine kvT_ind r (C := fun kvs vs => (∃ v d, valV (kvT kvs vs) (keyT k) = some v ∧ findT kvs k = some d ∧ Rp K G v d) ∨ (valV (kvT kvs vs) (keyT k) = none ∧ findT kvs k = none)) (.inr ⟨rfl, rfl⟩) fun x v kvs vs h _ ih => ?_
  rw [kvT_cons]
  unfold valV findT at ih ⊢
  rw [List.find?_cons, List.find?_cons]
  dsimp only
  rw [keyT_eq]
  by_cases e : x.1 = k
  · rw [decide_eq_true e]
    exact .inl ⟨v, x.2, rfl, rfl, h⟩
  · rw [decide_eq_false e]
    exact ih
theorem any_kvT (k : List Int) {kvs : List (List Int × D)} {vs : List V} (r : RpL K G vs (kvs.map (·.2))) : ((kvT kvs vs).any fun kv => decide (kv.1 = keyT k)) = (kvs.any fun kv => decide (kv.1 = k)) := by
  refine kvT_ind r (C := fun kvs vs => ((kvT kvs vs).any fun kv => decide (kv.1 = keyT k)) = (kvs.any fun kv => decide (kv.1 = k))) rfl fun x v kvs vs h _ ih => ?_
  rw [kvT_cons, List.any_cons, List.any_cons, ih]
  dsimp only
  rw [keyT_eq]
theorem repl_kvT (k : List Int) {w : V} {d : D} (hw : Rp K G w d) {kvs : List (List Int × D)} {vs : List V} (r : RpL K G vs (kvs.map (·.2))) :
    ∃ ws, (kvT kvs vs).map (fun (kv : List Key × V) => if kv.1 = keyT k then (kv.1, w) else kv) = kvT (kvs.map fun (kv : List Int × D) => if kv.1 = k then (kv.1, d) else kv) ws ∧ RpL K G ws ((kvs.map fun (kv : List Int × D) => if kv.1 = k then (kv.1, d) else kv).map (·.2)) := by
  refine kvT_ind r (C := fun kvs vs => ∃ ws, (kvT kvs vs).map (fun (kv : List Key × V) => if kv.1 = keyT k then (kv.1, w) else kv) = kvT (kvs.map fun (kv : List Int × D) => if kv.1 = k then (kv.1, d) else kv) ws ∧ RpL K G ws ((kvs.map fun (kv : List Int × D) => if kv.1 = k then (kv.1, d) else kv).map (·.2))) ⟨[], rfl, .nil⟩ fun x v kvs vs h _ ⟨ws, e, q⟩ => ?_
  rw [kvT_cons, List.map_cons, List.map_cons, e]
  by_cases g : x.1 = k
  · refine ⟨w :: ws, ?_, ?_⟩
    · rw [if_pos g, if_pos (by rw [g]), kvT_cons]
    · rw [if_pos g, List.map_cons]
      exact .cons hw q
  · refine ⟨v :: ws, ?_, ?_⟩
    · rw [if_neg g, if_neg (fun z => g (keyT_inj z)), kvT_cons]
    · rw [if_neg g, List.map_cons]
      exact .cons h q
theorem snoc_kvT (k : List Int) {w : V} {d : D} (hw : Rp K G w d) {kvs : List (List Int × D)} {vs : List V} (r : RpL K G vs (kvs.map (·.2))) : kvT kvs vs ++ [(keyT k, w)] = kvT (kvs ++ [(k, d)]) (vs ++ [w]) := by
  refine kvT_ind r (C := fun kvs vs => kvT kvs vs ++ [(keyT k, w)] = kvT (kvs ++ [(k, d)]) (vs ++ [w])) rfl fun x v kvs vs _ _ ih => ?_
  rw [kvT_cons, List.cons_append, ih]
  rfl
theorem put_kvT (k : List Int) {w : V} {d : D} (hw : Rp K G w d) {kvs : List (List Int × D)} {vs : List V} (r : RpL K G vs (kvs.map (·.2))) : ∃ ws, putK (kvT kvs vs) (keyT k) w = kvT (putT kvs k d) ws ∧ RpL K G ws ((putT kvs k d).map (·.2)) := by
  unfold putK putT
  rw [any_kvT k r]
  by_cases g : (kvs.any fun kv => decide (kv.1 = k)) = true
  · rw [if_pos g, if_pos g]
    exact repl_kvT k hw r
  · rw [if_neg g, if_neg g]
    refine ⟨vs ++ [w], snoc_kvT k hw r, ?_⟩
    rw [List.map_append]
    exact r.app (.cons hw .nil)
end
section
variable {K : PySem.W.Frag} {pa : Option Addr} {G0 H0 G H : Hp} {σ : L2.St} {Γ : List Sl} {s : List Int}
/-- a slot holds a dict of its own -/
theorem Nv.setDic (E : Nv K pa G0 H0 G H σ Γ s) {p : Addr} {vs : List V} {xs : List D} {sh : DSh} (i : Nat) (hp : H p = some (sh.ho vs)) (hg : G p = none) (r : RpL K G vs xs) (hl : sh.len = xs.length) (h0 : H0 p = none)
    (hn : ∀ (j : Nat) sh' ys, j ≠ i → Γ[j]? = some (.dic sh' ys) → σ[j]? ≠ some (some (.ref p))) (hat : sh.at p := by exact True.intro) : Nv K pa G0 H0 G H (σ.set i (some (.ref p))) (Γ.set i (.dic sh xs)) s := by
  have back : ∀ {j : Nat} {z : Sl}, plainS z = true → (Γ.set i (.dic sh xs))[j]? = some z → i ≠ j ∧ Γ[j]? = some z := fun {j z} hz e => by
    by_cases hj : i = j
    · subst hj
      have hi := (List.getElem?_eq_some_iff.mp e).1
      rw [List.getElem?_set_self (by simpa using hi)] at e
      rw [← Option.some.inj e] at hz
      cases hz
    · rw [List.getElem?_set_ne hj] at e
      exact ⟨hj, e⟩
  refine ⟨by simp [E.len], fun j d e => ?_, fun j ys e => ?_, fun j l q ys zs e1 e2 => ?_, fun j e => ?_, fun j ns e => ?_, E.ps, E.ext, ⟨fun j sh' ys e => ?_, fun j l q sh1 ys sh2 zs e1 e2 e3 e4 => ?_, fun j sh' ys e => ?_, E.x.t0, E.x.nt⟩⟩
  · obtain ⟨ne, e⟩ := back rfl e
    rw [List.getElem?_set_ne ne]
    exact E.val j d e
  · obtain ⟨ne, e⟩ := back rfl e
    rw [List.getElem?_set_ne ne]
    exact E.own j ys e
  · obtain ⟨n1, e1⟩ := back rfl e1
    obtain ⟨n2, e2⟩ := back rfl e2
    rw [List.getElem?_set_ne n1, List.getElem?_set_ne n2]
    exact E.inj j l q ys zs e1 e2
  · obtain ⟨ne, e⟩ := back rfl e
    rw [List.getElem?_set_ne ne]
    exact E.pen j e
  · obtain ⟨ne, e⟩ := back rfl e
    rw [List.getElem?_set_ne ne]
    exact E.scr j ns e
  · by_cases hj : i = j
    · subst hj
      have hi := (List.getElem?_eq_some_iff.mp e).1
      have hi : i < Γ.length := by simpa using hi
      rw [List.getElem?_set_self hi] at e
      cases e
      exact ⟨p, vs, List.getElem?_set_self (by rw [← E.len]; exact hi), hp, hg, r, hl, h0, hat⟩
    · rw [List.getElem?_set_ne hj] at e ⊢
      exact E.x.dic j sh' ys e
  · by_cases hj : i = j
    · by_cases hk : i = l
      · exact hj.symm.trans hk
      · subst hj
        rw [List.getElem?_set_ne hk] at e2 e4
        have hi := (List.getElem?_eq_some_iff.mp e3).1
        rw [List.getElem?_set_self (by simpa using hi)] at e3
        cases e3
        exact absurd e4 (hn l sh2 zs (fun z => hk z.symm) e2)
    · by_cases hk : i = l
      · subst hk
        rw [List.getElem?_set_ne hj] at e1 e3
        have hi := (List.getElem?_eq_some_iff.mp e4).1
        rw [List.getElem?_set_self (by simpa using hi)] at e4
        cases e4
        exact absurd e3 (hn j sh1 ys (fun z => hj z.symm) e1)
      · rw [List.getElem?_set_ne hj] at e1 e3
        rw [List.getElem?_set_ne hk] at e2 e4
        exact E.x.inj j l q sh1 ys sh2 zs e1 e2 e3 e4
  · by_cases hj : i = j
    · subst hj
      have hi := (List.getElem?_eq_some_iff.mp e).1
      rw [List.getElem?_set_self (by simpa using hi)] at e
      cases e
    · rw [List.getElem?_set_ne hj] at e ⊢
      exact E.x.ro j sh' ys e
/-- a dict of one's own is changed -/
theorem Nv.mutDic (E : Nv K pa G0 H0 G H σ Γ s) {i : Nat} {sh sh' : DSh} {xs ys : List D} {p : Addr} {vs : List V} (h : Γ[i]? = some (.dic sh xs)) (hp : σ[i]? = some (some (.ref p))) (r : RpL K G vs ys) (hl : sh'.len = ys.length) (hat : sh.at p → sh'.at p := by exact fun _ => True.intro) :
    Nv K pa G0 H0 G (upd H p (sh'.ho vs)) σ (Γ.set i (.dic sh' ys)) s := by
  obtain ⟨p', vs', h1, h2, h3, h4, h5, h6⟩ := E.x.dic i sh xs h
  rw [hp] at h1
  cases h1
  have hlt : i < Γ.length := (List.getElem?_eq_some_iff.mp h).1
  have lst : ∀ {q : Addr} {ws : List V}, H q = some (.lst ws) → q ≠ p := fun {q ws} e z => by
    rw [z, h2] at e
    exact DSh.notLst (Option.some.inj e)
  have back : ∀ {j : Nat} {z : Sl}, plainS z = true → (Γ.set i (.dic sh' ys))[j]? = some z → Γ[j]? = some z := fun {j z} hz e => by
    by_cases hj : i = j
    · subst hj
      rw [List.getElem?_set_self hlt] at e
      rw [← Option.some.inj e] at hz
      cases hz
    · rw [List.getElem?_set_ne hj] at e
      exact e
  have old : ∀ {j : Nat} {s2 : DSh} {zs : List D}, (Γ.set i (.dic sh' ys))[j]? = some (.dic s2 zs) → ∃ s3 ws, Γ[j]? = some (.dic s3 ws) := fun {j s2 zs} e => by
    by_cases hj : i = j
    · subst hj
      exact ⟨sh, xs, h⟩
    · rw [List.getElem?_set_ne hj] at e
      exact ⟨s2, zs, e⟩
  refine ⟨by simp [E.len], fun j d e => E.val j d (back rfl e), fun j zs e => ?_, fun j l q ys' zs e1 e2 => E.inj j l q ys' zs (back rfl e1) (back rfl e2), fun j e => E.pen j (back rfl e), fun j ns e => E.scr j ns (back rfl e), fun q e => ?_, ?_, ⟨fun j s2 zs e => ?_, fun j l q s1 y1 s2 z2 e1 e2 => ?_, fun j s2 zs e => ?_, E.x.t0, E.x.nt⟩⟩
  · obtain ⟨q, ws, q1, q2, q3⟩ := E.own j zs (back rfl e)
    exact ⟨q, ws, q1, by rw [upd_ne (lst q2)]; exact q2, q3⟩
  · obtain ⟨q1, q2⟩ := E.ps q e
    rw [upd_ne (lst q2)]
    exact ⟨q1, q2⟩
  · refine ⟨E.ext.g, fun a o e n nt => ?_, fun a o e => ?_, E.ext.n, fun a o e => ?_, fun hK => (E.ext.tk hK).upd (fun _ z => DSh.notTbl z) (fun φ z => by rw [h2] at z; exact DSh.notExt (Option.some.inj z)) (fun φ z => by rw [h2] at z; exact DSh.notTbl (Option.some.inj z)), E.ext.gt⟩
    · rw [upd_ne (ne_of_none e h6.1)]
      exact E.ext.h a o e n nt
    · rw [upd_ne (ne_of_none e h6.1)]
      exact E.ext.t a o e
    · rw [upd_ne (ne_of_none e h3)]
      exact E.sub a o e
  · by_cases hj : i = j
    · subst hj
      rw [List.getElem?_set_self hlt] at e
      cases e
      exact ⟨p, vs, hp, upd_same, h3, r, hl, h6.1, hat h6.2⟩
    · rw [List.getElem?_set_ne hj] at e
      obtain ⟨q, ws, q1, q2, q3⟩ := E.x.dic j s2 zs e
      have ne : q ≠ p := fun z => by
        rw [z] at q1
        exact hj (E.x.inj i j p _ _ _ _ h e hp q1)
      exact ⟨q, ws, q1, by rw [upd_ne ne]; exact q2, q3⟩
  · obtain ⟨_, _, f1⟩ := old e1
    obtain ⟨_, _, f2⟩ := old e2
    exact E.x.inj j l q _ _ _ _ f1 f2
  · by_cases hj : i = j
    · subst hj
      rw [List.getElem?_set_self hlt] at e
      cases e
    · rw [List.getElem?_set_ne hj] at e
      exact E.x.ro j s2 zs e
end
section
variable {K : PySem.W.Frag} {pa : Option Addr} {G0 H0 G H : Hp} {σ : L2.St} {Γ : List Sl} {s : List Int}
/-- a slot holds what stays -/
theorem Nv.setRo (E : Nv K pa G0 H0 G H σ Γ s) {p : Addr} {vs : List V} {xs : List D} {sh : DSh} (i : Nat) (hp : G p = some (sh.ho vs)) (r : RpL K G vs xs) (hl : sh.len = xs.length) : Nv K pa G0 H0 G H (σ.set i (some (.ref p))) (Γ.set i (.ro sh xs)) s := by
  have back : ∀ {j : Nat} {z : Sl}, (∀ sh ys, z ≠ .ro sh ys) → (Γ.set i (.ro sh xs))[j]? = some z → i ≠ j ∧ Γ[j]? = some z := fun {j z} hz e => by
    by_cases hj : i = j
    · subst hj
      have hi := (List.getElem?_eq_some_iff.mp e).1
      rw [List.getElem?_set_self (by simpa using hi)] at e
      exact absurd (Option.some.inj e).symm (hz _ _)
    · rw [List.getElem?_set_ne hj] at e
      exact ⟨hj, e⟩
  refine ⟨by simp [E.len], fun j d e => ?_, fun j ys e => ?_, fun j l q ys zs e1 e2 => ?_, fun j e => ?_, fun j ns e => ?_, E.ps, E.ext, ⟨fun j sh' ys e => ?_, fun j l q sh1 ys sh2 zs e1 e2 => ?_, fun j sh' ys e => ?_, E.x.t0, E.x.nt⟩⟩
  · obtain ⟨ne, e⟩ := back (fun _ _ z => by cases z) e
    rw [List.getElem?_set_ne ne]
    exact E.val j d e
  · obtain ⟨ne, e⟩ := back (fun _ _ z => by cases z) e
    rw [List.getElem?_set_ne ne]
    exact E.own j ys e
  · obtain ⟨n1, e1⟩ := back (fun _ _ z => by cases z) e1
    obtain ⟨n2, e2⟩ := back (fun _ _ z => by cases z) e2
    rw [List.getElem?_set_ne n1, List.getElem?_set_ne n2]
    exact E.inj j l q ys zs e1 e2
  · obtain ⟨ne, e⟩ := back (fun _ _ z => by cases z) e
    rw [List.getElem?_set_ne ne]
    exact E.pen j e
  · obtain ⟨ne, e⟩ := back (fun _ _ z => by cases z) e
    rw [List.getElem?_set_ne ne]
    exact E.scr j ns e
  · obtain ⟨ne, e⟩ := back (fun _ _ z => by cases z) e
    rw [List.getElem?_set_ne ne]
    exact E.x.dic j sh' ys e
  · obtain ⟨n1, e1⟩ := back (fun _ _ z => by cases z) e1
    obtain ⟨n2, e2⟩ := back (fun _ _ z => by cases z) e2
    rw [List.getElem?_set_ne n1, List.getElem?_set_ne n2]
    exact E.x.inj j l q sh1 ys sh2 zs e1 e2
  · by_cases hj : i = j
    · subst hj
      have hi := (List.getElem?_eq_some_iff.mp e).1
      have hi : i < Γ.length := by simpa using hi
      rw [List.getElem?_set_self hi] at e
      cases e
      exact ⟨p, vs, List.getElem?_set_self (by rw [← E.len]; exact hi), hp, r, hl⟩
    · rw [List.getElem?_set_ne hj] at e ⊢
      exact E.x.ro j sh' ys e
end
section
variable {X : Cx} {W : WX} {pa : Option Addr} {Γ : List Sl} {k : Nat} {pos : Pos} {α : Type} {out : α → Out} {rest : List Stmt}
/-- x = {} -/
theorem sv_dnewT (i : Nat) {y : Str} {p0 dp : Pos} {kk : PM α} (C : Cok X W k) (hr : SV X W pa (Γ.set i (dicT [])) out rest kk) (hi : X.N[i]? = some y := by rfl) (hx : Loc X.env.scope y := by first | exact Or.inl rfl | exact Or.inr rfl)
    (hs : swapsWith (.Dict [] [] dp) (some (.Name y p0)) pos.line X.env = pure false := by rfl) (hf : X.fn y = true ∨ X.env.scope.names.lookup y = some .local := by first | exact .inl rfl | exact .inr rfl) :
    SV X W pa Γ out (.Assign [.Name y p0] (.Dict [] [] dp) pos :: rest) kk := by
  unfold SV
  refine pss_imp (pss_cons (ps_set (i := i) C.nd hi hx pe_dnewT hs hf) hr) fun Dn σ H ⟨G0, H0, G, s, E, P⟩ p np => ?_
  have x := Ext.newH (K := X.K) (pa := pa) E.sub np (.dT [])
  have E1 := E.step (s' := s) x (E.ps.updH np _)
  have h0 : H0 p = none := by
    cases z : H0 p with
    | none => rfl
    | some o =>
      obtain ⟨o', z'⟩ := E.ext.t p o z
      rw [np] at z'
      cases z'
  refine ⟨G0, H0, G, s, E1.setDic (sh := .t []) (vs := []) (xs := []) i upd_same (E.sub.free np) .nil rfl h0 (fun j sh' ys _ e q => ?_), P⟩
  obtain ⟨p', vs', h1, h2, _⟩ := E.x.dic j sh' ys e
  rw [q] at h1
  cases h1
  rw [np] at h2
  cases h2
/-- x[y] = e, y a tuple that was made here -/
theorem sv_dputT (i j : Nat) {x y : Str} {e : Expr} {kvs : List (List Int × D)} {row : List Int} {me : PM D} {kk : D → PM α} {p1 p2 tp : Pos} (C : Cok X W k) (hΓ : Γ[i]? = some (dicT kvs)) (hk : Γ[j]? = some (roTu (row.map D.int))) (he : EV X W pa Γ e me) (hr : ∀ d, SV X W pa (Γ.set i (dicT (putT kvs row d))) out rest (kk d))
    (hN : X.N[i]? = some x := by rfl) (hv : Vis X.env.scope x := by first | exact Or.inl rfl | exact Or.inr (Or.inl rfl) | exact Or.inr (Or.inr rfl)) (hd : (x == ("__debug__" : Str)) = false := by decide) (hcd : (x == ("__classdict__" : Str)) = false := by decide)
    (hN2 : X.N[j]? = some y := by rfl) (hv2 : Vis X.env.scope y := by first | exact Or.inl rfl | exact Or.inr (Or.inl rfl) | exact Or.inr (Or.inr rfl)) (hd2 : (y == ("__debug__" : Str)) = false := by decide) (hcd2 : (y == ("__classdict__" : Str)) = false := by decide)
    (hs : swapsWith e (some (.Subscript (.Name x p1) (.Name y p2) tp)) pos.line X.env = pure false := by rfl) :
    SV X W pa Γ out (.Assign [.Subscript (.Name x p1) (.Name y p2) tp] e pos :: rest) (me >>= fun d => okLen (d :: kvs.map (·.2)) >>= fun _ => kk d) := by
  unfold SV
  rw [bind_assoc]
  refine pss_imp (pss_cons (ps_dput (by have := C.room.units; omega) (pe_var hN hv hd hcd) (pe_var hN2 hv2 hd2 hcd2) he hs) (pss_ex hr)) fun Dn σ H ⟨G0, H0, G, s, E, P⟩ => ⟨G0, H0, G, s, E, (P.bind E).imp fun G1 H1 d s1 x1 p1 P1 v r => ?_⟩
  have E1 := E.step x1 p1
  obtain ⟨p, vs, q1, q2, q3, q4, q5, q6⟩ := E1.x.dic i _ _ hΓ
  obtain ⟨b, ws, b1, b2, b3, b4⟩ := E1.x.ro j _ _ hk
  have ew := intsOf_rp b3 (intsOf_map row)
  have hb : H1 b = some (.tup ((keyT row).map kV)) := by
    rw [keyT_V, ← ew]
    exact E1.sub _ _ b2
  have q2 : H1 p = some (.dT (kvT kvs vs)) := q2
  rw [bind_assoc] at P1
  by_cases hl : (d :: kvs.map (·.2)).length ≤ lim
  · rw [okLen_ok hl, pure_bind] at P1
    obtain ⟨us, e1, e2⟩ := put_kvT row r q4
    have lk : (kvT kvs vs).length < sizeLine := by
      have h2 : (kvT kvs vs).length ≤ kvs.length := by
        unfold kvT
        rw [List.length_zip, List.length_map, List.length_map]
        exact Nat.min_le_left _ _
      rw [List.length_cons, List.length_map] at hl
      exact Nat.lt_of_le_of_lt h2 (Nat.lt_of_lt_of_le (Nat.lt_succ_self _) (lim_le hl))
    refine ⟨.ref p, q1, .ref b, b1, p, _, rfl, DPut.t q2 hb lk, d, G0, H0, G1, s1, ?_, P1⟩
    rw [e1]
    exact E1.mutDic (sh' := .t ((putT kvs row d).map (·.1))) hΓ q1 e2 (by show List.length _ = _; rw [List.length_map, List.length_map])
  · unfold okLen at P1
    rw [if_neg hl] at P1
    exact P1.elim
/-- x.get(y, f) -/
theorem ev_dgetT (i j : Nat) {x y : Str} {f : Expr} {kvs : List (List Int × D)} {row : List Int} {mf : PM D} {p1 p2 apos cpos : Pos} (C : Cok X W k) (hΓ : Γ[i]? = some (dicT kvs)) (hk : Γ[j]? = some (roTu (row.map D.int))) (hf : EV X W pa Γ f mf)
    (hN : X.N[i]? = some x := by rfl) (hv : Vis X.env.scope x := by first | exact Or.inl rfl | exact Or.inr (Or.inl rfl) | exact Or.inr (Or.inr rfl)) (hd : (x == ("__debug__" : Str)) = false := by decide) (hcd : (x == ("__classdict__" : Str)) = false := by decide)
    (hN2 : X.N[j]? = some y := by rfl) (hv2 : Vis X.env.scope y := by first | exact Or.inl rfl | exact Or.inr (Or.inl rfl) | exact Or.inr (Or.inr rfl)) (hd2 : (y == ("__debug__" : Str)) = false := by decide) (hcd2 : (y == ("__classdict__" : Str)) = false := by decide)
    (m : M2 X (.Name x p1) "get" apos (.Name y p2) f cpos := by exact ⟨by rfl, by rfl, by rfl, by rfl⟩) :
    EV X W pa Γ (.Call (.Attribute (.Name x p1) "get" apos) [.Name y p2, f] [] cpos) (mf >>= fun d => pure ((findT kvs row).getD d)) :=
  pe_imp (pe_dget2 (by have := C.room.units; omega) (pe_var hN hv hd hcd) (pe_var hN2 hv2 hd2 hcd2) hf m) fun σ H Q ⟨G0, H0, G, s, E, P⟩ => by
    obtain ⟨p, vs, q1, q2, q3, q4, q5, q6⟩ := E.x.dic i _ _ hΓ
    obtain ⟨b, ws, b1, b2, b3, b4⟩ := E.x.ro j _ _ hk
    have q2 : H p = some (.dT (kvT kvs vs)) := q2
    refine ⟨.ref p, q1, p, rfl, .inr ⟨_, .inl q2⟩, .ref b, b1, G0, H0, G, s, E, P.bind.imp fun G1 H1 d s1 x1 p1 P1 v r => ?_⟩
    have E1 := E.step x1 p1
    obtain ⟨p', vs', r1, r2, r3, r4, r5, r6⟩ := E1.x.dic i _ _ hΓ
    obtain ⟨b', ws', c1, c2, c3, c4⟩ := E1.x.ro j _ _ hk
    rw [q1] at r1
    cases r1
    rw [b1] at c1
    cases c1
    have ew := intsOf_rp c3 (intsOf_map row)
    have hb : H1 b = some (.tup ((keyT row).map kV)) := by
      rw [keyT_V, ← ew]
      exact E1.sub _ _ c2
    have r2 : H1 p = some (.dT (kvT kvs vs')) := r2
    refine ⟨valV (kvT kvs vs') (keyT row), DGet.t r2 hb, ?_⟩
    rcases valV_kvT row r4 with ⟨w, d2, e1, e2, rw2⟩ | ⟨e1, e2⟩
    · rw [e1]
      rw [e2] at P1
      exact P1.now x1.sub p1 _ rw2
    · rw [e1]
      rw [e2] at P1
      exact P1.now x1.sub p1 _ r
/-- x = tuple(e), e a list: the tuple is made here -/
theorem sv_setTu (i : Nat) {y : Str} {e : Expr} {me : PM D} {kk : List D → PM α} {p0 p cpos : Pos} (C : Cok X W k) (hg : Gl X "tuple") (hm : X.mg "tuple" = none) (hb : bootBuiltins "tuple" = some (.type "tuple")) (he : EV X W pa Γ e me) (hr : ∀ xs, SV X W pa (Γ.set i (roTu xs)) out rest (kk xs))
    (hi : X.N[i]? = some y := by rfl) (hx : Loc X.env.scope y := by first | exact Or.inl rfl | exact Or.inr rfl) (ha : starEach [e] X.env = (false, eval e X.env) :: starEach [] X.env := by rfl) (hpl : (backTo cpos (starEach [] X.env)).any (·.1) = false := by rfl)
    (hs : swapsWith (.Call (.Name "tuple" p) [e] [] cpos) (some (.Name y p0)) pos.line X.env = pure false := by rfl) (hf : X.fn y = true ∨ X.env.scope.names.lookup y = some .local := by first | exact .inl rfl | exact .inr rfl) :
    SV X W pa Γ out (.Assign [.Name y p0] (.Call (.Name "tuple" p) [e] [] cpos) pos :: rest) (me >>= lstOf >>= fun xs => okLen xs >>= fun _ => kk xs) := by
  unfold SV
  rw [bind_assoc, bind_assoc]
  refine pss_imp (pss_cons (ps_set (i := i) C.nd hi hx (pe_callTy call_tuple_of hg hm hb (pa_cons he pa_nil ha) (by decide) (by decide) ha hpl) hs hf) (pss_ex hr)) fun Dn σ H ⟨G0, H0, G, s, E, P⟩ => ⟨G0, H0, G, s, E, (P.bind E).imp fun G1 H1 d s1 x1 p1 P1 v r => ?_⟩
  have E1 := E.step x1 p1
  cases r with
  | @lst a vs xs h n rr =>
    have P1 : SPost X.K W X.mg pa G0 H0 Dn (((okLen xs >>= fun _ => kk xs) >>= fun a => pure (out a)) s1) := P1
    rw [bind_assoc] at P1
    by_cases hl : xs.length ≤ lim
    · rw [okLen_ok hl, pure_bind] at P1
      refine ⟨_, _, rfl, .inl ⟨SqL.of (x1.sub _ _ h), fun q np => ?_⟩⟩
      have x := Ext.new (K := X.K) (pa := pa) x1.sub np (.tup vs)
      have E2 := E1.step (s' := s1) x (p1.upd np _)
      exact ⟨xs, G0, H0, _, s1, E2.setRo (sh := .tu xs.length) i upd_same (RpL.mono x.g ⟨n, rr⟩) rfl, P1⟩
    · unfold okLen at P1
      rw [if_neg hl] at P1
      exact P1.elim
  | _ => exact P1.elim
/-- its value -/
theorem ev_varTu (i : Nat) {x : Str} {xs : List D} {p : Pos} (hΓ : Γ[i]? = some (roTu xs)) (hN : X.N[i]? = some x := by rfl) (hv : Vis X.env.scope x := by first | exact Or.inl rfl | exact Or.inr (Or.inl rfl) | exact Or.inr (Or.inr rfl)) (hd : (x == ("__debug__" : Str)) = false := by decide) (hcd : (x == ("__classdict__" : Str)) = false := by decide) :
    EV X W pa Γ (.Name x p) (pure (.tup xs)) := pe_imp (pe_var hN hv hd hcd) fun σ H Q ⟨G0, H0, G, s, E, P⟩ => by
  obtain ⟨b, ws, b1, b2, b3, b4⟩ := E.x.ro i _ _ hΓ
  exact ⟨.ref b, b1, P.now E.sub E.ps _ (.mkT (.inl (.inl b2)) b3)⟩
end
end EV

/-! EV 32: dicts of one's own, further rules. -/
namespace EV
open PySem PySem.Spec PyProof.Rows L2
section
variable {X : Cx} {W : WX} {pa : Option Addr} {Γ : List Sl} {k : Nat} {pos : Pos} {α : Type} {out : α → Out} {rest : List Stmt}
/-- x, y = e, {}, plain locals -/
theorem sv_parDic (i j : Nat) {y z : Str} {a : Expr} {px py pt dp : Pos} {kt k2 pt2} {me : PM D} {kk : D → PM α} (hc : X.calm = true) (hN : X.N.Nodup) (ha : EV X W pa Γ a me) (hij : i ≠ j)
    (hr : ∀ u, SV X W pa ((Γ.set i (.val u)).set j (dicT [])) out rest (kk u)) (hi : X.N[i]? = some y := by rfl) (hj : X.N[j]? = some z := by rfl)
    (hx : X.env.scope.names.lookup y = some .local := by rfl) (hy : X.env.scope.names.lookup z = some .local := by rfl)
    (hw : swappedStores [.Tuple [.Name y px, .Name z py] kt pt] (.Tuple [a, .Dict [] [] dp] k2 pt2) X.env = pure (some [y, z]) := by rfl)
    (hs : swapsWithSole [.Tuple [.Name y px, .Name z py] kt pt] (.Tuple [a, .Dict [] [] dp] k2 pt2) pos.line X.env = pure false := by rfl)
    (h1 : starEach [a, .Dict [] [] dp] X.env = (false, eval a X.env) :: starEach [.Dict [] [] dp] X.env := by rfl)
    (h2 : starEach [.Dict [] [] dp] X.env = (false, eval (.Dict [] [] dp) X.env) :: starEach [] X.env := by rfl) :
    SV X W pa Γ out (.Assign [.Tuple [.Name y px, .Name z py] kt pt] (.Tuple [a, .Dict [] [] dp] k2 pt2) pos :: rest) (me >>= kk) := by
  unfold SV
  rw [bind_assoc]
  refine pss_imp (pss_cons (ps_par (i := i) (j := j) hc hN hi hj hij hx hy (pa_cons ha (pa_cons pe_dnewT pa_nil h2) h1) hw hs) (pss_ex hr)) fun Dn σ H ⟨G0, H0, G, s, E, P⟩ => ⟨G0, H0, G, s, E, (P.bind E).imp fun G1 H1 d s1 x1 p1 P1 v r => ?_⟩
  intro p np
  have E1 := E.step x1 p1
  have x := Ext.newH (K := X.K) (pa := pa) x1.sub np (.dT [])
  have E2 := E1.step (s' := s1) x (p1.updH np _)
  have h0 : H0 p = none := by
    cases q : H0 p with
    | none => rfl
    | some o =>
      obtain ⟨o', q'⟩ := E1.ext.t p o q
      rw [np] at q'
      cases q'
  refine ⟨v, .ref p, rfl, d, G0, H0, G1, s1, (E2.set i r).setDic (sh := .t []) (vs := []) (xs := []) j upd_same (x1.sub.free np) .nil rfl h0 (fun l sh' ys _ e q => ?_), P1⟩
  obtain ⟨p', vs', f1, f2, _⟩ := (E1.set i r).x.dic l sh' ys e
  rw [q] at f1
  cases f1
  rw [np] at f2
  cases f2
end
end EV

/-! EV 33: sorted(x.values()), [x[k] for k in x]; a tuple of ints made here. -/
namespace EV
open PySem PySem.Spec PyProof.Rows L2 PySem.W
section
variable {prog : Program} {w : World} {A : Around} {E : Value → Shared → Prop} {s : Shared} {T : String} {r d : Addr} {n : Nat} {P : Nat → Value → Prop} {OK : Heap → Prop}
theorem kdl_collect {R : List Value → Shared → Prop} (K : KdlSrc prog w T r d n P OK) (hh : A.handled = none) (hok : OK s.heap) (hn : n ≤ sizeLine)
    (h : ∀ (h' : Heap) (tk : Nat) (vs : List Value), (∀ b o, s.heap.get? b = some o → h'.get? b = some o) → s.heap.objs.size < h'.objs.size → vs.length = n → (∀ j v, vs[j]? = some v → P j v) → R vs { s with heap := h', toks := tk }) :
    wpAny (model prog w) A (collect (.ref r)) R E s := by
  obtain ⟨hr, hd⟩ := K.there _ hok
  unfold collect
  refine wpAny_bind (wpAny_runValue (codeAny_builtin entry_proto_collect' ?_))
  rw [Around.under_plainId PySem.F.plain_proto_collect _]
  show wpAny _ A.in1 (newList [] >>= fun l => again (.builtin "list.__iadd__" ⟨[l, .ref r], []⟩)) _ _ s
  refine wpAny_bind (wpAny_newObj_type ?_)
  refine wpAny_pure ⟨plainId_quiet PySem.F.plain_list_iadd _, codeAny_builtin entry_list_iadd' ?_⟩
  rw [Around.under_plainId PySem.F.plain_list_iadd _]
  have hS₁ : (s.heap.push { cls := .type "list", data := .seq ([] : List Value).toArray }).get? s.heap.objs.size = some { cls := .type "list", data := .seq #[] } := Heap.get?_push_size _ rfl
  show wpAny _ A.in1 (Builtin.List.listExtendWith (.ref s.heap.objs.size) (.ref r) (.ref s.heap.objs.size)) _ _ _
  have key := kdl_extend (prog := prog) (w := w) (A := A) (s := { s with heap := s.heap.push { cls := .type "list", data := .seq ([] : List Value).toArray } }) K
    (R := fun (q : Result) (s' : Shared) => ∃ (h' : Heap) (tk : Nat) (acc' : Array Value) (c' : Nat), q = .ok (.ret (.ref s.heap.objs.size)) ∧ s' = { s with heap := h', toks := tk } ∧
      (∀ b o, s.heap.get? b = some o → h'.get? b = some o) ∧ h'.get? s.heap.objs.size = some { cls := .type "list", dict := none, data := .seq acc' c', slots := #[] } ∧ ItemsOf P acc' n)
    hh (K.keep _ _ hok fun b _ o e => Heap.get?_push_of_some _ e) s.heap.objs.size (Nat.ne_of_gt hr) (Nat.ne_of_gt hd) (.ref s.heap.objs.size) 0 hS₁
    (fun h' tk acc' c' hk hS' hacc => ⟨h', tk, acc', c', rfl, rfl, fun b o e => hk b o (Nat.ne_of_lt (Heap.lt_size e)) (Heap.get?_push_of_some _ e), hS', hacc⟩) hn
  have fin : ∀ (h' : Heap) (tk : Nat) (acc' : Array Value) (c' : Nat), (∀ b o, s.heap.get? b = some o → h'.get? b = some o) → h'.get? s.heap.objs.size = some { cls := .type "list", dict := none, data := .seq acc' c', slots := #[] } → ItemsOf P acc' n → R acc'.toList { s with heap := h', toks := tk } :=
    fun h' tk acc' c' hk hS' hacc => h h' tk _ hk (Heap.lt_size hS') (by rw [Array.length_toList]; exact hacc.1) fun j v e => hacc.2 j v (by rw [← Array.getElem?_toList]; exact e)
  refine wpAny_mono key (fun f s' x => ?_) fun e s' x => ?_
  · cases f with
    | done f =>
      obtain ⟨h', tk, acc', c', e, rfl, hk, hS', hacc⟩ := x
      cases e
      show wpAny _ A (load s.heap.objs.size >>= _) _ _ _
      refine wpAny_bind (wpAny_load hS' ?_)
      refine wpAny_pure ?_
      exact fin h' tk acc' c' hk hS' hacc
    | again c₁ =>
      refine ⟨x.1, codeAny_mono x.2 fun q s₂ y => ?_⟩
      obtain ⟨h', tk, acc', c', rfl, rfl, hk, hS', hacc⟩ := y
      show wpAny _ A (load s.heap.objs.size >>= _) _ _ _
      refine wpAny_bind (wpAny_load hS' ?_)
      refine wpAny_pure ?_
      exact fin h' tk acc' c' hk hS' hacc
  · obtain ⟨_, _, _, _, e', _⟩ := x
    cases e'
end
section
variable {P : Program} {w : World} {A : Around} {E : Value → Shared → Prop} {s : Shared}
/-- the sort behind a collect: nonempty tuples of ints -/
theorem sort_tail {vs : List Value} {L : List (Addr × List Int)} {Q : Value → Shared → Prop} (evs : vs = L.map fun q => Value.ref q.1) (hLs : vs.length ≤ sizeLine) (hne : ∀ p ∈ L, p.2 ≠ [])
    (hrd : ∀ p ∈ L, ∃ as, Reads s.heap (.ref p.1) (encR p.2) as) (hu : A.units + 20 < cLine)
    (hQ : ∀ (h' : Heap) (out : List Value) (c : Nat), (∀ b o, s.heap.get? b = some o → h'.get? b = some o) → h'.get? s.heap.objs.size = some (seqObj "list" out.toArray c) →
      EachIs (fun v b => ∃ q ∈ L, v = Value.ref q.1 ∧ b = q.2) out ((L.map (·.2)).mergeSort leR) → Q (.ref s.heap.objs.size) { s with heap := h' }) :
    wpAny (model P w) A (PySem.call (.builtin "list.sort") [.ref s.heap.objs.size]) (fun _ s' => Q (.ref s.heap.objs.size) s') E { s with heap := s.heap.push (seqObj "list" vs.toArray 0) } := by
  have hoL : (s.heap.push (seqObj "list" vs.toArray 0)).get? s.heap.objs.size = some (seqObj "list" vs.toArray 0) := Heap.get?_push_size s.heap rfl
  have keepP : ∀ b o, s.heap.get? b = some o → (sortingHeap (s.heap.push (seqObj "list" vs.toArray 0)) s.heap.objs.size vs).get? b = some o := fun b o e =>
    sortingHeap_old (Nat.ne_of_lt (Heap.lt_size e)) (Heap.get?_push_of_some _ e)
  have e0 : EachIs (fun v b => ∃ q ∈ L, v = Value.ref q.1 ∧ b = q.2) vs (L.map (·.2)) := by
    rw [evs]
    exact each_refs L fun q m => m
  have er : EachIs (fun v b => ∃ as, Reads (sortingHeap (s.heap.push (seqObj "list" vs.toArray 0)) s.heap.objs.size vs) v (encR b) as) vs (L.map (·.2)) := e0.mono fun v b ⟨q, hq, e1, e2⟩ => by
    obtain ⟨as, rd⟩ := hrd q hq
    rw [e1, e2]
    exact ⟨as, PyProof.Rows.Reads.keeps keepP rd⟩
  have hal : AllAlike ((L.map (·.2)).map encR) := fun d hd d' hd' => by
    obtain ⟨x, _, rfl⟩ := List.mem_map.mp hd
    obtain ⟨y, _, rfl⟩ := List.mem_map.mp hd'
    simp only [encR, alike]
    exact alike_ints x y
  have hks : Sortable ((L.map (·.2)).map encR) := by
    refine .inl fun d hd => ?_
    obtain ⟨x, hx, rfl⟩ := List.mem_map.mp hd
    obtain ⟨q, hq, ex⟩ := List.mem_map.mp hx
    rw [← ex]
    have z := hne q hq
    cases e : q.2 with
    | nil => exact absurd e z
    | cons y r => exact ⟨.int y, r.map PyData.int, rfl⟩
  refine call_sort_data (s := { s with heap := s.heap.push (seqObj "list" vs.toArray 0) }) hoL e0 er hal hks hLs (fun b _ => ?_) fun out eo => ?_
  · have e : (encR b).depth = 1 := by
      simp only [encR, PyData.depth, depth_ints]
    rw [e]
    show A.units + 1 + 1 < cLine
    omega
  · obtain ⟨c, hc⟩ := sortedHeap_at (vs := vs) (out := out.toArray) hoL
    refine hQ _ out c (fun b u e => ?_) hc ?_
    · have lt := Heap.lt_size e
      show (sortedHeap (s.heap.push (seqObj "list" vs.toArray 0)) s.heap.objs.size vs out.toArray).get? b = some u
      rw [sortedHeap_old (Nat.ne_of_lt lt) (by rw [size_push']; exact Nat.lt_succ_of_lt lt)]
      exact Heap.get?_push_of_some _ e
    · rw [show (dataLe false encR) = leR from funext fun x => funext fun y => encR_le x y] at eo
      exact eo
end
section
variable {X : Cx} {W : WX} {pa : Option Addr} {Γ : List Sl} {k : Nat} {pos : Pos}
def sortR (rows : List (List Int)) : List (List Int) := rows.mergeSort leR
def tSortVals (K : PySem.W.Frag) (td : TE) : TE := fun σ H Q => td σ H fun x H1 => ∃ (G : Hp) (a : Addr) (kvs : List (List Key × V)) (rows : List (List Int)), Same G H1 ∧ x = V.ref a ∧ H1 a = some (.dT kvs) ∧ RpL K G (kvs.map (·.2)) (rows.map tR) ∧ rows.length ≤ lim ∧ (∀ r ∈ rows, r ≠ []) ∧
  ∀ (ys : List V) (p : Addr), RpL K G ys ((sortR rows).map tR) → H1 p = none → Q (.ref p) (upd H1 p (.lst ys))
theorem kt_vals {H : Hp} {K : PySem.W.Frag} {ks : List (Addr × List Int)} : ∀ {kvs : List (List Key × V)} {xs : List (List Key × Addr × Value)}, KT H kvs xs → ∀ {ks : List (Addr × List Int)}, kvs.map (·.2) = ks.map (fun p => V.ref p.1) → xs.map (fun y => y.2.2) = ks.map fun q => Value.ref q.1
  | _, _, .nil, ks, e => by
    cases ks with
    | nil => rfl
    | cons _ _ => cases e
  | _, _, .cons h t, ks, e => by
    cases ks with
    | nil => cases e
    | cons q ks =>
      rw [List.map_cons, List.map_cons] at e
      injection e with e1 e2
      rw [List.map_cons, List.map_cons, kt_vals (K := K) (ks := ks) t e2]
      have h3 := h.2.2
      rw [e1] at h3
      have h3 : _ = Value.ref q.1 := h3
      rw [h3]
theorem pe_sortVals {o : Expr} {p apos mpos : Pos} {td : TE} (hr : Room k X.A) (hc : X.calm = true) (hg : Gl X "sorted") (hm : X.mg "sorted" = none) (hd : PE X o td) (hbase : attributeBase o "values" X.env (eval o X.env) = eval o X.env := by rfl) (hline : (apos.endLine == mpos.line) = true := by rfl)
    (hse : starEach [Expr.Call (.Attribute o "values" apos) [] [] mpos] X.env = [(false, eval (Expr.Call (.Attribute o "values" apos) [] [] mpos) X.env)] := by rfl) :
    PE X (.Call (.Name "sorted" p) [.Call (.Attribute o "values" apos) [] [] mpos] [] pos) (tSortVals X.K td) := by
  refine ⟨fun pins s σ H Q I h => ?_⟩
  refine wpAny_Call_Name_kw (ld_blt I hg hm (u := .builtin "sorted") (by decide +kernel) ?_ (by first | decide +kernel | decide) (by first | decide +kernel | decide))
  rw [hse]
  refine PySem.callWith_builtin1 (wpAny_Call_method0_late hbase hline (thn (hd.run pins s σ H _ I h) fun v s1 ⟨x, H1, I1, r1, G, a, kvs, rows, hs, ex, ha, rr, hl, hne, q⟩ => ?_))
  subst ex
  obtain rfl : v = Value.ref a := r1
  obtain ⟨_, hsys, xs, rel, dof⟩ := dt_of I1.hok ha
  obtain ⟨es, ep, raw, hsz, hes⟩ := dof.raw
  obtain ⟨ob, ho, hx, hdat⟩ := id raw
  obtain ⟨ks, ek, er, hk⟩ := ks_of rr
  have evs := kt_vals (K := X.K) (ks := ks) rel ek
  have lks : ks.length = es.size := by
    rw [hsz]
    have := congrArg List.length evs
    simpa using this.symm
  have lkr : ks.length = rows.length := by
    rw [← er, List.length_map]
  refine ⟨"dict", "dict.values", F.plainAttrs_dict, F.slot_dict_values, F.type_dict_values, ⟨ob, ho, hx.1⟩, fun b e => ?_, Calls.callWith_builtin rfl (PySem.evalArgs_none ?_)⟩
  · cases e
    exact ⟨ob, ho, hx.2.1⟩
  refine call_meetsIn F.slot_dict_values ⟨ob, ho, hx.1⟩ F.entry_dict_values (F.args_dict_values_1 _) (meets_dict_values_raw a hsys) ⟨⟨es, ep, raw⟩, ?_⟩
  have k1 : ∀ b u, s1.heap.get? b = some u → (s1.heap.push { cls := .type "dict_values", data := .fields #[.ref a] }).get? b = some u := fun b u e => Heap.get?_push_of_some _ e
  have I2 : Inv X pins σ H1 { s1 with heap := s1.heap.push { cls := .type "dict_values", data := .fields #[.ref a] } } := I1.kept (t' := s1.toks) k1
  refine Calls.call_function_entry (prog := X.prog) (w := X.w) kind_sorted plain_sorted entry_sorted (args_sorted1 _) ?_
  unfold Builtin.«sorted»
  refine wpAny_bind (m := checkCount "sorted" 1 1 (1 : Nat)) (wpAny_pure ?_)
  have u := hr.units
  have hlim := lim_le hl
  refine wpAny_bind (kdl_collect (A := X.A.in1) (KdlSrc.rawValues (r := s1.heap.objs.size) (d := a) (es := es) (ep := ep)) (I.ok.hd hc) ⟨⟨_, Heap.get?_push_size _ rfl, rfl, rfl⟩, raw.at fun o e => k1 a o e⟩ (by omega) fun h' tk vs hkp hgt lvs hvs => ?_)
  have I3 := I2.kept (t' := tk) hkp
  have evs2 : vs = ks.map fun q => Value.ref q.1 := by
    refine List.ext_getElem? fun j => ?_
    by_cases hj : j < es.size
    · obtain ⟨_, e⟩ := hvs j _ (List.getElem?_eq_getElem (by omega))
      obtain ⟨y, hy, _, e2, _⟩ := hes j hj
      rw [List.getElem?_eq_getElem (by omega), e, e2, ← evs, List.getElem?_map, hy]
      rfl
    · rw [List.getElem?_eq_none (by omega), List.getElem?_eq_none (by rw [List.length_map]; omega)]
  refine wpAny_bind (wpAny_newList ?_ (by omega))
  refine wpAny_bind (wpAny_holding ?_)
  refine wpAny_mono (sort_tail (s := { s1 with heap := h', toks := tk }) (L := ks) (Q := EP X pins σ Q) evs2 (by omega) (fun p m => hne _ (by rw [← er]; exact List.mem_map.mpr ⟨p, m, rfl⟩)) (fun p m => ?_) (by show X.A.units + 1 + 20 < cLine; omega) fun h2 out c k2 hp eo => ?_) (fun _ s' x => wpAny_pure ⟨_, rfl, x⟩) fun _ _ e => e
  · exact Dp.reads I3 (encR p.2) (.ref p.1) (.ref p.1) (.tup (sameT hs (hk p m)) (dpAll_ints p.2)) rfl
  · rw [er] at eo
    obtain ⟨ys, v1, v2⟩ := of_eachT hk eo
    have hlen : ys.length ≤ sizeLine := by
      rw [v2.1, List.length_map, List.length_mergeSort]
      omega
    have hn : H1 h'.objs.size = none := I3.hok.fresh (Nat.le_refl _)
    have J : Inv X pins σ (upd H1 h'.objs.size (.lst ys)) { s1 with heap := h2, toks := tk } :=
      Inv.call (s := { s1 with heap := h', toks := tk }) I3 (ch := []) (Un.laid k2 (Nat.le_refl _) hn) (I3.hok.laid k2 (Nat.le_refl _) ⟨hlen, out, c, v1, hp⟩) I3.bare (fun _ z => nomatch z)
    exact ⟨.ref h'.objs.size, _, J, rfl, q ys _ v2 hn⟩

theorem kvT_snd {K : PySem.W.Frag} {G : Hp} {kvs : List (List Int × D)} {vs : List V} (r : RpL K G vs (kvs.map (·.2))) : (kvT kvs vs).map (·.2) = vs :=
  kvT_ind r (C := fun kvs vs => (kvT kvs vs).map (·.2) = vs) rfl fun x v kvs vs _ _ ih => by rw [kvT_cons, List.map_cons, ih]
theorem kvT_fst {K : PySem.W.Frag} {G : Hp} {kvs : List (List Int × D)} {vs : List V} (r : RpL K G vs (kvs.map (·.2))) : (kvT kvs vs).map (·.1) = (kvs.map (·.1)).map keyT :=
  kvT_ind r (C := fun kvs vs => (kvT kvs vs).map (·.1) = (kvs.map (·.1)).map keyT) rfl fun x v kvs vs _ _ ih => by rw [kvT_cons, List.map_cons, ih]; rfl
def sortedVals (kvs : List (List Int × D)) : PM D := match rowsOfD (kvs.map (·.2)) with
  | some rs => if rs.length ≤ lim ∧ rs.all (fun r => !r.isEmpty) = true then pure (.lst ((sortR rs).map tR)) else bad
  | none => bad
/-- sorted(x.values()) -/
theorem ev_sortVals (i : Nat) {x : Str} {kvs : List (List Int × D)} {p p1 apos mpos : Pos} (C : Cok X W k) (hg : Gl X "sorted") (hm : X.mg "sorted" = none) (hΓ : Γ[i]? = some (dicT kvs))
    (hN : X.N[i]? = some x := by rfl) (hv : Vis X.env.scope x := by first | exact Or.inl rfl | exact Or.inr (Or.inl rfl) | exact Or.inr (Or.inr rfl)) (hd : (x == ("__debug__" : Str)) = false := by decide) (hcd : (x == ("__classdict__" : Str)) = false := by decide)
    (hbase : attributeBase (.Name x p1) "values" X.env (eval (.Name x p1) X.env) = eval (.Name x p1) X.env := by rfl) (hline : (apos.endLine == mpos.line) = true := by rfl)
    (hse : starEach [Expr.Call (.Attribute (.Name x p1) "values" apos) [] [] mpos] X.env = [(false, eval (Expr.Call (.Attribute (.Name x p1) "values" apos) [] [] mpos) X.env)] := by rfl) :
    EV X W pa Γ (.Call (.Name "sorted" p) [.Call (.Attribute (.Name x p1) "values" apos) [] [] mpos] [] pos) (sortedVals kvs) :=
  pe_imp (pe_sortVals C.room C.calm hg hm (pe_var hN hv hd hcd) hbase hline hse) fun σ H Q ⟨G0, H0, G, s, E, P⟩ => by
    obtain ⟨p, vs, q1, q2, q3, q4, q5, q6⟩ := E.x.dic i _ _ hΓ
    have q2 : H p = some (.dT (kvT kvs vs)) := q2
    unfold sortedVals at P
    cases e : rowsOfD (kvs.map (·.2)) with
    | none => rw [e] at P; exact P.elim
    | some rs =>
      rw [e] at P
      dsimp only at P
      split at P
      · rename_i hc
        rw [rowsOfD_eq e] at q4
        refine ⟨.ref p, q1, G, p, kvT kvs vs, rs, E.sub, rfl, q2, ?_, hc.1, fun r m => ?_, fun ys l ry nl => ?_⟩
        · rw [kvT_snd (K := X.K) (G := G) (by rw [rowsOfD_eq e]; exact q4)]
          exact q4
        · have z := List.all_eq_true.mp hc.2 r m
          intro e2
          rw [e2] at z
          cases z
        · have x := Ext.new (K := X.K) (pa := pa) E.sub nl (.lst ys)
          exact P _ _ x (E.ps.upd nl _) _ (.mkL upd_same (ry.mono x.g))
      · exact P.elim
def valsT (kvs : List (List Int × D)) : PM D := if (kvs.map (·.1)).Nodup ∧ kvs.length ≤ lim then pure (.lst (kvs.map (·.2))) else bad
theorem valV_at {κ : Type} [DecidableEq κ] : ∀ {l : List (κ × V)} {n : Nat} {k : κ} {v : V}, (l.map (·.1)).Nodup → l[n]? = some (k, v) → valV l k = some v
  | [], n, k, v, _, h => by simp at h
  | p :: l, 0, k, v, _, h => by
    have e : p = (k, v) := by simpa using h
    rw [e]
    exact valV_pos rfl
  | p :: l, n + 1, k, v, hn, h => by
    rw [List.map_cons, List.nodup_cons] at hn
    have h2 : l[n]? = some (k, v) := by simpa using h
    have ne : ¬ p.1 = k := fun z => hn.1 (by rw [z]; exact List.mem_map.mpr ⟨(k, v), List.mem_of_getElem? h2, rfl⟩)
    rw [valV_neg ne]
    exact valV_at hn.2 h2
theorem upd_back {H : Hp} {p D : Addr} {u f o : HO} (h : H p = some u) (ne : D ≠ p) : upd (upd (upd H p f) D o) p u = upd H D o := by
  funext a
  by_cases e : a = p
  · rw [e, upd_same, upd_ne (Ne.symm ne), h]
  · rw [upd_ne e]
    by_cases e2 : a = D
    · rw [e2, upd_same, upd_same]
    · rw [upd_ne e2, upd_ne e2, upd_ne e]
/-- [x[k] for k in x] -/
theorem ev_lcVals (i j : Nat) {x kx : Str} {kvs : List (List Int × D)} {scope : Scope} {p1 p2 p3 p4 p5 : Pos} (C : Cok X W k) (hΓ : Γ[i]? = some (dicT kvs)) (hij : i ≠ j) (hj : j < Γ.length) (ok : BlkOk X.N X.env.scope scope [(kx, j)])
    (hp : ∀ (s : Shared) (H : Hp) (C : Addr) (cl : List (Str × Addr)) (fp : List Addr), PG (X.blk s H scope (compEnvC scope cl C X.env) fp) (.Name kx p3) (gName j))
    (h1 : ∀ (s : Shared) (H : Hp) (C : Addr) (cl : List (Str × Addr)) (fp : List Addr), PE (X.blk s H scope (compEnvC scope cl C X.env) fp) (.Name x p4) (tVar i))
    (h2 : ∀ (s : Shared) (H : Hp) (C : Addr) (cl : List (Str × Addr)) (fp : List Addr), PE (X.blk s H scope (compEnvC scope cl C X.env) fp) (.Name kx p5) (tVar j))
    (hN : X.N[i]? = some x := by rfl) (hv : Vis X.env.scope x := by first | exact Or.inl rfl | exact Or.inr (Or.inl rfl) | exact Or.inr (Or.inr rfl)) (hd : (x == ("__debug__" : Str)) = false := by decide) (hcd : (x == ("__classdict__" : Str)) = false := by decide)
    (hs : ∀ y, foldedSetIterable (.Name x p2) X.env y = pure y := by intro _; rfl) :
    EV X W pa Γ (.ListComp (.Subscript (.Name x p4) (.Name kx p5) p1) [⟨.Name kx p3, .Name x p2, [], 0⟩] scope pos) (valsT kvs) :=
  pe_imp (pe_lock (pe_lc C.calm C.nd (pi_keys (pe_var hN hv hd hcd)) ok hp (fun _ _ _ _ _ => pts_nil) (fun s H Cc cl fp => pe_dget (by have := C.room.units; exact Nat.lt_of_le_of_lt (Nat.le_refl _) (by show X.A.units + 1 < cLine; omega)) (h1 s H Cc cl fp) (h2 s H Cc cl fp) (fun _ _ => rfl)) hs)) fun σ H Q ⟨G0, H0, G, s, E, P⟩ => by
    obtain ⟨p, vs, q1, q2, q3, q4, q5, q6⟩ := E.x.dic i _ _ hΓ
    have q2 : H p = some (.dT (kvT kvs vs)) := q2
    unfold valsT at P
    split at P
    · rename_i hc
      have el : vs.length = kvs.length := by rw [q4.1, List.length_map]
      have ek : (kvT kvs vs).length = kvs.length := by
        unfold kvT
        rw [List.length_zip, List.length_map, List.length_map, el, Nat.min_self]
      have nd : ((kvT kvs vs).map (·.1)).Nodup := by
        rw [kvT_fst q4]
        exact List.pairwise_map.mpr (hc.1.imp fun h e => h (keyT_inj e))
      refine ⟨p, _, q2, trivial, fun od => ⟨.ref p, q1, p, od, rfl, .inr ⟨_, upd_same, fun D0 nD => ?_⟩⟩⟩
      have ne : D0 ≠ p := fun z => by
        rw [z, upd_same] at nD
        cases nD
      have nD2 : H D0 = none := by
        rw [upd_ne ne] at nD
        exact nD
      refine lc_it walk_keysT (fun n H' => H' = upd (upd H p (.frz od (.dT (kvT kvs vs)))) D0 (.lst (vs.take n))) rfl (fun n H' _ e => ?_) (fun n y H1 H2 hn e hy => ?_) (fun H' e => ?_)
      · rw [e, upd_ne (Ne.symm ne), upd_same]
      · obtain ⟨rfl, kk, v, q, hk, rfl, hq⟩ := hy
        have lj : j < σ.length := by
          rw [← E.len]
          exact hj
        have f1 : (((σ.set j none).set j (some (V.ref q)))[i]? : Option (Option V)) = some (some (.ref p)) := by
          rw [List.getElem?_set_ne (Ne.symm hij), List.getElem?_set_ne (Ne.symm hij)]
          exact q1
        have f2 : (((σ.set j none).set j (some (V.ref q)))[j]? : Option (Option V)) = some (some (.ref q)) := List.getElem?_set_self (by simpa using lj)
        refine ⟨?_, .ref p, f1, .ref q, f2, p, v, rfl, .inr ⟨kvT kvs vs, kk, q, .inr ⟨od, ?_⟩, rfl, hq, (valV_at nd hk).symm⟩, vs.take n, ?_, ?_, ?_⟩
        · show (((σ.set j none).set j (some (V.ref q))).set j none) = (σ.set j none)
          rw [List.set_set, List.set_set]
        · rw [e, upd_ne (Ne.symm ne), upd_same]
        · rw [e, upd_same]
        · rw [List.length_take]
          have := lim_le hc.2
          omega
        · have ev : vs[n]? = some v := by
            have z := congrArg (fun l : List V => l[n]?) (kvT_snd q4)
            rw [List.getElem?_map, hk] at z
            exact z.symm
          rw [e, upd_upd, List.take_add_one, ev]
          rfl
      · subst e
        rw [ek, ← el, List.take_length]
        refine ⟨by rw [upd_ne (Ne.symm ne), upd_same], ?_⟩
        rw [upd_back q2 ne]
        have x := Ext.new (K := X.K) (pa := pa) E.sub nD2 (.lst vs)
        exact P _ _ x (E.ps.upd nD2 _) _ (.mkL upd_same (q4.mono x.g))
    · exact P.elim
end
section
variable {X : Cx} {W : WX} {pa : Option Addr} {Γ : List Sl} {k : Nat} {pos : Pos} {α : Type} {out : α → Out} {rest : List Stmt}
def asRow (xs : List D) : PM (List Int) := match intsOf xs with
  | some ns => pure ns
  | none => bad
theorem asRow_map (ns : List Int) : asRow (ns.map D.int) = pure ns := by
  unfold asRow
  rw [intsOf_map]
/-- x = tuple(e), e a list of ints: the tuple is made here -/
theorem sv_setTuI (i : Nat) {y : Str} {e : Expr} {me : PM D} {kk : List Int → PM α} {p0 p cpos : Pos} (C : Cok X W k) (hg : Gl X "tuple") (hm : X.mg "tuple" = none) (he : EV X W pa Γ e me) (hr : ∀ ns : List Int, SV X W pa (Γ.set i (roTu (ns.map D.int))) out rest (kk ns))
    (hi : X.N[i]? = some y := by rfl) (hx : Loc X.env.scope y := by first | exact Or.inl rfl | exact Or.inr rfl) (ha : starEach [e] X.env = (false, eval e X.env) :: starEach [] X.env := by rfl) (hpl : (backTo cpos (starEach [] X.env)).any (·.1) = false := by rfl)
    (hs : swapsWith (.Call (.Name "tuple" p) [e] [] cpos) (some (.Name y p0)) pos.line X.env = pure false := by rfl) (hf : X.fn y = true ∨ X.env.scope.names.lookup y = some .local := by first | exact .inl rfl | exact .inr rfl) :
    SV X W pa Γ out (.Assign [.Name y p0] (.Call (.Name "tuple" p) [e] [] cpos) pos :: rest) (me >>= lstOf >>= fun xs => okLen xs >>= fun _ => asRow xs >>= kk) :=
  sv_setTu i (kk := fun xs => asRow xs >>= kk) C hg hm (by decide +kernel) he (fun xs => by
    unfold asRow
    cases e : intsOf xs with
    | none => exact sv_bad
    | some ns =>
      dsimp only
      rw [pure_bind, intsOf_eq e]
      exact hr ns) hi hx ha hpl hs hf
/-- x, y = e, {}, by a tuple -/
theorem sv_unpDic (i j : Nat) {y z : Str} {a : Expr} {px py pt dp : Pos} {kt k2 pt2} {me : PM D} {kk : D → PM α} (C : Cok X W k) (ha : EV X W pa Γ a me)
    (hr : ∀ u, SV X W pa ((Γ.set i (.val u)).set j (dicT [])) out rest (kk u)) (hp : PG X (.Tuple [.Name y px, .Name z py] kt pt) (gTup X.K 2 (gCons (gName i) (gCons (gName j) gNil))))
    (hs : swapsWithSole [.Tuple [.Name y px, .Name z py] kt pt] (.Tuple [a, .Dict [] [] dp] k2 pt2) pos.line X.env = pure false := by rfl) (hw : swappedStores [.Tuple [.Name y px, .Name z py] kt pt] (.Tuple [a, .Dict [] [] dp] k2 pt2) X.env = pure none := by rfl)
    (h3 : (assignEach [.Tuple [.Name y px, .Name z py] kt pt] X.env).map (·.2) = [assign (.Tuple [.Name y px, .Name z py] kt pt) X.env] := by rfl)
    (h1 : starEach [a, .Dict [] [] dp] X.env = (false, eval a X.env) :: starEach [.Dict [] [] dp] X.env := by rfl)
    (h2 : starEach [.Dict [] [] dp] X.env = (false, eval (.Dict [] [] dp) X.env) :: starEach [] X.env := by rfl) :
    SV X W pa Γ out (.Assign [.Tuple [.Name y px, .Name z py] kt pt] (.Tuple [a, .Dict [] [] dp] k2 pt2) pos :: rest) (me >>= kk) := by
  unfold SV
  rw [bind_assoc]
  refine pss_imp (pss_cons (ps_asg (L2.pe_tup (pa_cons ha (pa_cons pe_dnewT pa_nil h2) h1)) hp hs hw h3) (pss_ex hr)) fun Dn σ H ⟨G0, H0, G, s, E, P⟩ => ⟨G0, H0, G, s, E, (P.bind E).imp fun G1 H1 d s1 x1 p1 P1 v r => ?_⟩
  intro p np
  have E1 := E.step x1 p1
  have x := Ext.newH (K := X.K) (pa := pa) x1.sub np (.dT [])
  have E2 := E1.step (s' := s1) x (p1.updH np _)
  have h0 : H0 p = none := by
    cases q : H0 p with
    | none => rfl
    | some o =>
      obtain ⟨o', q'⟩ := E1.ext.t p o q
      rw [np] at q'
      cases q'
  have E3 := (E2.set i r).setDic (sh := .t []) (vs := []) (xs := []) j upd_same (x1.sub.free np) .nil rfl h0 (fun l sh' ys _ e q => by
    obtain ⟨p', vs', f1, f2, _⟩ := (E1.set i r).x.dic l sh' ys e
    rw [q] at f1
    cases f1
    rw [np] at f2
    cases f2)
  refine ⟨by show 2 ≤ sizeLine; decide, fun q nq => ⟨q, [v, .ref p], rfl, .inl (.inl upd_same), rfl, v, [.ref p], rfl, .ref p, [], rfl, rfl, d, G0, H0, G1, s1, ?_, P1⟩⟩
  exact E3.step (Ext.newH E2.sub nq _) (E2.ps.updH nq _)
end
end EV

/-! EV 34: sorts that the kernel can compute. -/
namespace EV
open PySem PyProof.Rows L2
section
variable {α : Type} (le : α → α → Bool)
def mgK : Nat → List α → List α → List α
  | 0, _, _ => []
  | _ + 1, [], ys => ys
  | _ + 1, x :: xs, [] => x :: xs
  | n + 1, x :: xs, y :: ys => if le x y = true then x :: mgK n xs (y :: ys) else y :: mgK n (x :: xs) ys
theorem mgK_eq : ∀ (n : Nat) (xs ys : List α), xs.length + ys.length < n → mgK le n xs ys = List.merge xs ys le
  | 0, _, _, h => absurd h (Nat.not_lt_zero _)
  | _ + 1, [], ys, _ => by rw [List.nil_merge]; rfl
  | _ + 1, x :: xs, [], _ => by rw [List.merge_right]; rfl
  | n + 1, x :: xs, y :: ys, h => by
    rw [List.length_cons, List.length_cons] at h
    rw [List.cons_merge_cons, ← mgK_eq n xs (y :: ys) (by rw [List.length_cons]; omega), ← mgK_eq n (x :: xs) ys (by rw [List.length_cons]; omega)]
    rfl
def msK : Nat → List α → List α
  | 0, l => l
  | _ + 1, [] => []
  | _ + 1, [a] => [a]
  | n + 1, a :: b :: xs => mgK le (xs.length + 3) (msK n ((a :: b :: xs).take ((xs.length + 3) / 2))) (msK n ((a :: b :: xs).drop ((xs.length + 3) / 2)))
theorem msK_eq : ∀ (n : Nat) (l : List α), l.length ≤ n → msK le n l = l.mergeSort le
  | 0, l, h => by
    rw [List.eq_nil_of_length_eq_zero (Nat.le_zero.mp h), List.mergeSort_nil]
    rfl
  | _ + 1, [], _ => by rw [List.mergeSort_nil]; rfl
  | _ + 1, [a], _ => by rw [List.mergeSort_singleton]; rfl
  | n + 1, a :: b :: xs, h => by
    rw [List.length_cons, List.length_cons] at h
    have e : (a :: b :: xs).mergeSort le = List.merge (((a :: b :: xs).take ((xs.length + 3) / 2)).mergeSort le) (((a :: b :: xs).drop ((xs.length + 3) / 2)).mergeSort le) le := by
      conv => lhs; unfold List.mergeSort
      simp only [List.MergeSort.Internal.splitInTwo_fst, List.MergeSort.Internal.splitInTwo_snd, List.length_cons]
    have l1 : ((a :: b :: xs).take ((xs.length + 3) / 2)).length ≤ n := by
      rw [List.length_take, List.length_cons, List.length_cons]
      omega
    have l2 : ((a :: b :: xs).drop ((xs.length + 3) / 2)).length ≤ n := by
      rw [List.length_drop, List.length_cons, List.length_cons]
      omega
    rw [e, ← msK_eq n _ l1, ← msK_eq n _ l2]
    refine mgK_eq le _ _ _ ?_
    rw [msK_eq n _ l1, msK_eq n _ l2, List.length_mergeSort, List.length_mergeSort, List.length_take, List.length_drop, List.length_cons, List.length_cons]
    omega
end
def sortK {α : Type} (le : α → α → Bool) (l : List α) : List α := msK le l.length l
theorem sortK_eq {α : Type} (l : List α) (le : α → α → Bool) : l.mergeSort le = sortK le l := (msK_eq le _ l (Nat.le_refl _)).symm
/-! the built-ins -/
def sortedAK : List D → PM D
  | [.lst xs] => if sortP xs = true then mkL (sortK leD2 xs) else bad
  | _ => bad
theorem sortedA_k : sortedA = sortedAK := by
  funext a
  unfold sortedA sortedAK
  split <;> simp only [sortK_eq]
def sortedGK (a : List D) : PM D := if intsQ a = true then sortedF a else sortedAK a
theorem sortedG_k : sortedG = sortedGK := by
  funext a
  unfold sortedG sortedGK
  rw [sortedA_k]
def setTK (l : List (List Int)) : List (List Int) := sortK leR (ddR l)
theorem setT_k (l : List (List Int)) : setT l = setTK l := sortK_eq _ _
def sortSetRK : D → PM D
  | .lst xs => match rowsOfD xs with
    | some rs => if rs.length < 64 ∧ rs.all (fun r => !r.isEmpty) = true then mkL ((setTK rs).map tR) else bad
    | none => bad
  | _ => bad
theorem sortSetR_k : sortSetR = sortSetRK := by
  have e : setT = setTK := funext setT_k
  funext d
  cases d with
  | lst xs =>
    show (match rowsOfD xs with | some rs => if rs.length < 64 ∧ rs.all (fun r => !r.isEmpty) = true then mkL ((setT rs).map tR) else bad | none => bad : PM D) = _
    rw [e]
    show _ = (match rowsOfD xs with | some rs => if rs.length < 64 ∧ rs.all (fun r => !r.isEmpty) = true then mkL ((setTK rs).map tR) else bad | none => bad : PM D)
    all_goals (cases rowsOfD xs <;> rfl)
  | _ => rfl
def sortedTK : List D → PM D
  | [.tup xs] => if sortQ xs = true then mkL (sortK leD2 xs) else bad
  | _ => bad
theorem sortedT_k : sortedT = sortedTK := by
  funext a
  unfold sortedT sortedTK
  split <;> simp only [sortK_eq]
def sortedValsK (kvs : List (List Int × D)) : PM D := match rowsOfD (kvs.map (·.2)) with
  | some rs => if rs.length ≤ lim ∧ rs.all (fun r => !r.isEmpty) = true then pure (.lst ((sortK leR rs).map tR)) else bad
  | none => bad
theorem sortedVals_k : sortedVals = sortedValsK := by
  have e : sortR = sortK leR := funext fun l => sortK_eq l leR
  funext kvs
  unfold sortedVals sortedValsK
  rw [e]
  all_goals (cases rowsOfD (kvs.map (·.2)) <;> rfl)
end EV

/-! EV 35: dict(zip(a, b)), a a tuple, b a list. -/
namespace EV
open PySem PySem.Spec PyProof.Rows L2 PySem.W
/-- the heap behind zip(t, l), made from h -/
def zpH (h : Heap) (t l : Addr) : Heap := (((((h.push { cls := .type "tuple_iterator", data := .fields #[.ref t, .int 0 0] }).push { cls := .type "list_iterator", data := .fields #[.ref l, .int 0 0] }).push { cls := .type "tuple", data := .seq #[.ref h.objs.size, .ref (h.objs.size + 1)] }).push
  { cls := .type "tuple", data := .seq #[.none, .none] }).push { cls := .type "zip", data := .fields #[.none, .bool false, .bool false, .ref (h.objs.size + 2), .ref (h.objs.size + 3)] })
theorem zp_meets (t l : Addr) (xs ys : Array Value) : Meets (Builtin.«zip.__new__» ⟨[.type "zip", .ref t, .ref l], []⟩) (fun _ R s => s.heap.IsTuple t xs ∧ s.heap.IsList l ys ∧ R (.ok (.ret (.ref (s.heap.objs.size + 4)))) { s with heap := zpH s.heap t l }) :=
  .of_wp fun prog w A R s h => by
    obtain ⟨hp, g, d, tk, os⟩ := s
    obtain ⟨ht, hl, h⟩ := h
    have hsub := sub_zip
    have hT : Heap.IsTuple (Shared.heap ⟨hp, g, d, tk, os⟩) t xs := ht
    have hL : Heap.IsList (Shared.heap ⟨hp.push { cls := .type "tuple_iterator", data := .fields #[.ref t, .int 0 0] }, g, d, tk, os⟩) l ys := Heap.IsList.push hl _
    wp_walk using wpAny_pyIter_tuple hT, wpAny_pyIter_list hL
    refine ⟨_, rfl, ?_⟩
    have e1 : ∀ (o : Obj), (hp.push o).objs.size = hp.objs.size + 1 := fun o => Heap.size_push ..
    unfold zpH at h
    simp only [Heap.size_push] at h ⊢
    exact h
section
variable {prog : Program} {w : World} {A : Around} {E : Value → Shared → Prop} {s : Shared}
theorem zp_call {t l : Addr} {xs ys : Array Value} {Q : Value → Shared → Prop} (ht : s.heap.IsTuple t xs) (hl : s.heap.IsList l ys)
    (h : ∀ h', IsZip h' (s.heap.objs.size + 4) (s.heap.objs.size + 2) (s.heap.objs.size + 3) .none → IsTupOf2 h' (s.heap.objs.size + 2) (.ref s.heap.objs.size) (.ref (s.heap.objs.size + 1)) → IsTupOf2 h' (s.heap.objs.size + 3) .none .none →
      h'.IsTupleIter s.heap.objs.size t 0 → h'.IsListIter (s.heap.objs.size + 1) l 0 → (∀ c o, s.heap.get? c = some o → h'.get? c = some o) → Q (.ref (s.heap.objs.size + 4)) { s with heap := h' }) :
    wpAny (model prog w) A (PySem.call (.type "zip") [.ref t, .ref l]) Q E s := by
  refine callType_new F.called_zip (by decide) (F.typeCall_zip_2 _ _) (F.newCall_zip_2 _ _) (fun obj => F.args_object_init_3 obj _ _) F.entry_zip_new (zp_meets t l xs ys) ⟨ht, hl, ?_⟩
  have at_ : ∀ (h : Heap) (o : Obj) (n : Nat), o.isFreed = false → h.objs.size = n → (h.push o).get? n = some o := fun h o n f e => by
    rw [← e]
    exact Heap.get?_push_size _ f
  have g5 : IsZip (zpH s.heap t l) (s.heap.objs.size + 4) (s.heap.objs.size + 2) (s.heap.objs.size + 3) .none := at_ _ _ _ rfl (by simp only [Heap.size_push])
  have g4 : IsTupOf2 (zpH s.heap t l) (s.heap.objs.size + 3) .none .none := Heap.get?_push_of_some _ (at_ _ _ _ rfl (by simp only [Heap.size_push]))
  have g3 : IsTupOf2 (zpH s.heap t l) (s.heap.objs.size + 2) (.ref s.heap.objs.size) (.ref (s.heap.objs.size + 1)) := Heap.get?_push_of_some _ (Heap.get?_push_of_some _ (at_ _ _ _ rfl (by simp only [Heap.size_push])))
  have g2 : (zpH s.heap t l).IsListIter (s.heap.objs.size + 1) l 0 := ⟨_, Heap.get?_push_of_some _ (Heap.get?_push_of_some _ (Heap.get?_push_of_some _ (at_ _ _ _ rfl (by simp only [Heap.size_push])))), rfl, rfl⟩
  have g1 : (zpH s.heap t l).IsTupleIter s.heap.objs.size t 0 := ⟨_, Heap.get?_push_of_some _ (Heap.get?_push_of_some _ (Heap.get?_push_of_some _ (Heap.get?_push_of_some _ (at_ _ _ _ rfl rfl)))), rfl, rfl⟩
  exact ⟨⟨_, g5, rfl⟩, h _ g5 g3 g4 g1 g2 fun c o x => Heap.get?_push_of_some _ (Heap.get?_push_of_some _ (Heap.get?_push_of_some _ (Heap.get?_push_of_some _ (Heap.get?_push_of_some _ x))))⟩
section
variable {z TI TO i1 i2 T : Addr} {fp1 fp2 : List Addr} {n1 n2 i : Nat} {P1 P2 : Nat → Value → Prop} {St1 St2 : Nat → Heap → Prop} {f : Bool} {oT : Obj}
theorem zp_item {Q : Value → Shared → Prop} (S : ZipSep2 z TI TO i1 i2 fp1 fp2) (D1 : Draws prog w A i1 fp1 n1 P1 St1) (D2 : Draws prog w A i2 fp2 n2 P2 St2) (hz : IsZipHeld s.heap z TI TO T f) (hT : s.heap.get? T = some oT) (hTI : IsTupOf2 s.heap TI (.ref i1) (.ref i2))
    (st1 : St1 i s.heap) (st2 : St2 i s.heap) (hlt1 : i < n1) (hlt2 : i < n2)
    (hQ : ∀ x1 x2 h' tk, P1 i x1 → P2 i x2 → IsZipHeld h' z TI TO T true → St1 (i + 1) h' → St2 (i + 1) h' → IsTupOf2 h' s.heap.objs.size x1 x2 → (∀ c o, c ≠ z → c ≠ i1 → c ≠ i2 → s.heap.get? c = some o → h'.get? c = some o) → Q (.ref s.heap.objs.size) { s with heap := h', toks := tk }) :
    wpAny (model prog w) A (Builtin.«zip.__next__» ⟨[.ref z], []⟩) (fun fin s' => ∃ v, fin = .done (.ret v) ∧ Q v s') E s := by
  obtain ⟨hp, g, d, tk0, os⟩ := s
  refine wpAny_bind (m := field (.ref z) 2) (wpAny_field hz rfl (x := .bool false) rfl ?_)
  refine wpAny_bind (m := field (.ref z) 3) (wpAny_field hz rfl (x := .ref TI) rfl ?_)
  refine wpAny_bind (wpAny_seqItems hTI rfl ?_)
  refine wpAny_bind (m := Builtin.SmallTypes.ownedTupleIsFree (.ref z)) (wpAny_tupleHeld_zip hz hT fun g0 hz0 hs0 => ?_)
  replace hs0 : Heap.SameBut z hp g0 := hs0
  rw [if_neg (by decide)]
  refine wpAny_bind ?_
  rw [← Array.forIn_toList]
  simp only [List.forIn_cons, List.forIn_nil]
  refine wpAny_bind (wpAny_bind (wpAny_holding ?_))
  show wpAny _ _ (Builtin.SmallTypes.nextOf (.ref i1) >>= _) _ _ ⟨g0, g, d, tk0, os⟩
  refine wpAny_bind (D1.item i ⟨g0, g, d, tk0, os⟩ _ _ hlt1 (D1.over st1 hs0 S.zf1) fun x1 p1 tk1 hx1 sn1 hp1 => wpAny_pure (wpAny_pure ?_))
  replace hp1 : Heap.SameBut i1 g0 p1 := hp1
  refine wpAny_bind (wpAny_bind (wpAny_holding ?_))
  show wpAny _ _ (Builtin.SmallTypes.nextOf (.ref i2) >>= _) _ _ ⟨p1, g, d, tk1, os⟩
  refine wpAny_bind (D2.item i ⟨p1, g, d, tk1, os⟩ _ _ hlt2 (D2.over (D2.over st2 hs0 S.zf2) hp1 S.sep1_2) fun x2 p2 tk2 hx2 sn2 hp2 => wpAny_pure (wpAny_pure (wpAny_pure ?_)))
  replace hp2 : Heap.SameBut i2 p1 p2 := hp2
  refine wpAny_bind (m := newTuple [x1, x2]) (wpAny_newTuple ?_)
  have hsz : p2.objs.size = hp.objs.size := by rw [hp2.1, hp1.1, hs0.1]
  have hk : ∀ c o, c ≠ z → c ≠ i1 → c ≠ i2 → hp.get? c = some o → p2.get? c = some o := fun c o c1 c2 c3 e => hp2.extBut _ _ c3 (hp1.extBut _ _ c2 (hs0.extBut _ _ c1 e))
  have hz2 : IsZipHeld p2 z TI TO T true := hp2.extBut _ _ S.zi2 (hp1.extBut _ _ S.zi1 hz0)
  refine wpAny_pure ⟨_, rfl, ?_⟩
  show Q (.ref p2.objs.size) _
  have ht : IsTupOf2 (p2.push { cls := .type "tuple", data := .seq #[x1, x2] }) p2.objs.size x1 x2 := Heap.get?_push_size _ rfl
  rw [hsz] at ht ⊢
  exact hQ x1 x2 _ tk2 hx1 hx2 (Heap.get?_push_of_some _ hz2) (D1.frame _ _ _ (D1.over sn1 hp2 S.sep2_1) fun b _ o e => Heap.get?_push_of_some _ e) (D2.frame _ _ _ sn2 fun b _ o e => Heap.get?_push_of_some _ e) ht fun c o c1 c2 c3 e => Heap.get?_push_of_some _ (hk c o c1 c2 c3 e)
theorem zp_end {Q : Fin → Shared → Prop} (S : ZipSep2 z TI TO i1 i2 fp1 fp2) (D1 : Draws prog w A i1 fp1 n1 P1 St1) (D2 : Draws prog w A i2 fp2 n2 P2 St2) (hz : IsZipHeld s.heap z TI TO T f) (hT : s.heap.get? T = some oT) (hTI : IsTupOf2 s.heap TI (.ref i1) (.ref i2))
    (st1 : St1 i s.heap) (st2 : St2 i s.heap) (hle1 : i ≤ n1) (hle2 : i ≤ n2) (hend : i = n1 ∨ i = n2)
    (hE : ∀ h' tk e, (∀ c o, c ≠ z → c ≠ i1 → c ≠ i2 → s.heap.get? c = some o → h'.get? c = some o) → (∃ o, h'.get? e = some o ∧ o.cls = .type "StopIteration") → E (.ref e) { s with heap := h', toks := tk }) :
    wpAny (model prog w) A (Builtin.«zip.__next__» ⟨[.ref z], []⟩) Q E s := by
  obtain ⟨hp, g, d, tk0, os⟩ := s
  refine wpAny_bind (m := field (.ref z) 2) (wpAny_field hz rfl (x := .bool false) rfl ?_)
  refine wpAny_bind (m := field (.ref z) 3) (wpAny_field hz rfl (x := .ref TI) rfl ?_)
  refine wpAny_bind (wpAny_seqItems hTI rfl ?_)
  refine wpAny_bind (m := Builtin.SmallTypes.ownedTupleIsFree (.ref z)) (wpAny_tupleHeld_zip hz hT fun g0 hz0 hs0 => ?_)
  replace hs0 : Heap.SameBut z hp g0 := hs0
  rw [if_neg (by decide)]
  refine wpAny_bind ?_
  rw [← Array.forIn_toList]
  simp only [List.forIn_cons, List.forIn_nil]
  refine wpAny_bind (wpAny_bind (wpAny_holding ?_))
  show wpAny _ _ (Builtin.SmallTypes.nextOf (.ref i1) >>= _) _ _ ⟨g0, g, d, tk0, os⟩
  by_cases hlt1 : i < n1
  · refine wpAny_bind (D1.item i ⟨g0, g, d, tk0, os⟩ _ _ hlt1 (D1.over st1 hs0 S.zf1) fun x1 p1 tk1 hx1 sn1 hp1 => wpAny_pure (wpAny_pure ?_))
    replace hp1 : Heap.SameBut i1 g0 p1 := hp1
    have hi2 : i = n2 := by omega
    refine wpAny_bind (wpAny_bind (wpAny_holding ?_))
    show wpAny _ _ (Builtin.SmallTypes.nextOf (.ref i2) >>= _) _ _ ⟨p1, g, d, tk1, os⟩
    refine wpAny_bind (D2.done ⟨p1, g, d, tk1, os⟩ _ _ (by rw [← hi2]; exact D2.over (D2.over st2 hs0 S.zf2) hp1 S.sep1_2) fun q e hq he => ?_)
    replace hq : Heap.ExtBut i2 p1 q := hq
    exact hE q tk1 e (fun c o c1 c2 c3 x => hq _ _ c3 (hp1.extBut _ _ c2 (hs0.extBut _ _ c1 x))) he
  · have hi1 : i = n1 := by omega
    refine wpAny_bind (D1.done ⟨g0, g, d, tk0, os⟩ _ _ (by rw [← hi1]; exact D1.over st1 hs0 S.zf1) fun q e hq he => ?_)
    replace hq : Heap.ExtBut i1 g0 q := hq
    exact hE q tk0 e (fun c o c1 c2 _ x => hq _ _ c2 (hs0.extBut _ _ c1 x)) he
theorem zp_next {Q : Option Value → Shared → Prop} (S : ZipSep2 z TI TO i1 i2 fp1 fp2) (D1 : Draws prog w A.in1 i1 fp1 n1 P1 St1) (D2 : Draws prog w A.in1 i2 fp2 n2 P2 St2) (hz : IsZipHeld s.heap z TI TO T f) (hT : s.heap.get? T = some oT) (hTI : IsTupOf2 s.heap TI (.ref i1) (.ref i2))
    (st1 : St1 i s.heap) (st2 : St2 i s.heap) (hlt1 : i < n1) (hlt2 : i < n2)
    (hQ : ∀ x1 x2 h' tk, P1 i x1 → P2 i x2 → IsZipHeld h' z TI TO T true → St1 (i + 1) h' → St2 (i + 1) h' → IsTupOf2 h' s.heap.objs.size x1 x2 → (∀ c o, c ≠ z → c ≠ i1 → c ≠ i2 → s.heap.get? c = some o → h'.get? c = some o) → Q (some (.ref s.heap.objs.size)) { s with heap := h', toks := tk }) :
    wpAny (model prog w) A (pyNext (.ref z)) Q E s := by
  have hTy : s.TypeIs (.ref z) "zip" := ⟨_, hz, rfl⟩
  unfold pyNext
  exact wpAny_bind (wpAny_attempt (wpAny_callSpecial?_slot (name := Str.ofString "__next__") hTy F.slot_zip_next (wpAny_call_entry F.slot_zip_next hTy F.entry_zip_next
    (zp_item S D1 D2 hz hT hTI st1 st2 hlt1 hlt2 fun x1 x2 h' tk y1 y2 b1 b2 b3 b4 b5 => wpAny_pure (hQ x1 x2 h' tk y1 y2 b1 b2 b3 b4 b5)) (F.args_zip_next_1 _))))
theorem zp_stop {Q : Option Value → Shared → Prop} (S : ZipSep2 z TI TO i1 i2 fp1 fp2) (D1 : Draws prog w A.in1 i1 fp1 n1 P1 St1) (D2 : Draws prog w A.in1 i2 fp2 n2 P2 St2) (hz : IsZipHeld s.heap z TI TO T f) (hT : s.heap.get? T = some oT) (hTI : IsTupOf2 s.heap TI (.ref i1) (.ref i2))
    (st1 : St1 i s.heap) (st2 : St2 i s.heap) (hle1 : i ≤ n1) (hle2 : i ≤ n2) (hend : i = n1 ∨ i = n2)
    (hQ : ∀ h' tk, (∀ c o, c ≠ z → c ≠ i1 → c ≠ i2 → s.heap.get? c = some o → h'.get? c = some o) → Q none { s with heap := h', toks := tk }) : wpAny (model prog w) A (pyNext (.ref z)) Q E s := by
  have hTy : s.TypeIs (.ref z) "zip" := ⟨_, hz, rfl⟩
  unfold pyNext
  refine wpAny_bind (wpAny_attempt (wpAny_callSpecial?_slot (name := Str.ofString "__next__") hTy F.slot_zip_next (wpAny_call_entry F.slot_zip_next hTy F.entry_zip_next (zp_end S D1 D2 hz hT hTI st1 st2 hle1 hle2 hend fun h' tk e hk he => ?_) (F.args_zip_next_1 _))))
  obtain ⟨o, ho, hc⟩ := he
  exact wpAny_bind (wpAny_isInstance (T := "StopIteration") (b := true) ⟨o, ho, hc⟩ isSubtype_stop (wpAny_pure (hQ _ _ hk)))
end
/-- zip(t, l) as what dict takes -/
theorem zp_arg (z TI TO i1 i2 t l : Addr) (xs ys : Array Value) (hx : xs.size = ys.size) (D : [TI, TO, z, i1, i2, t, l].Pairwise (· ≠ ·) ∨ ([TI, TO, z, i1, i2, t].Pairwise (· ≠ ·) ∧ [TI, TO, z, i1, i2, l].Pairwise (· ≠ ·))) :
    PairArg prog w "zip" z [z, TI, TO, i1, i2, t, l] [z, TO, i1, i2] xs.size (fun i k v => xs[i]? = some k ∧ ys[i]? = some v)
      (fun h => IsZip h z TI TO .none ∧ IsTupOf2 h TI (.ref i1) (.ref i2) ∧ (∃ a b, IsTupOf2 h TO a b) ∧ (h.IsTupleIter i1 t 0 ∧ h.IsTuple t xs) ∧ (h.IsListIter i2 l 0 ∧ h.IsList l ys)) := by
  have D' : [TI, TO, z, i1, i2, t].Pairwise (· ≠ ·) ∧ [TI, TO, z, i1, i2, l].Pairwise (· ≠ ·) := by
    rcases D with D | D
    · simp only [List.pairwise_cons, List.mem_cons, List.not_mem_nil, or_false, forall_eq_or_imp, forall_eq] at D ⊢
      simp_all
    · exact D
  simp only [List.pairwise_cons, List.mem_cons, List.not_mem_nil, or_false, forall_eq_or_imp, forall_eq, List.Pairwise.nil, and_true, false_imp_iff, implies_true] at D'
  obtain ⟨⟨⟨a1, a2, a3, a4, a5⟩, ⟨b2, b3, b4, b5⟩, ⟨c3, c4, c5⟩, ⟨d4, d5⟩, e5⟩, ⟨⟨_, _, _, _, a6⟩, ⟨_, _, _, b6⟩, ⟨_, _, c6⟩, ⟨_, d6⟩, e6⟩⟩ := D'
  have S : ZipSep2 z TI TO i1 i2 [i1, t] [i2, l] := ⟨a2, b2, a1, a3, by simp, by simp [c3, c5], by simp [b3, b5], a4, by simp, by simp [c4, c6], by simp [b4, b6], by simp [d4, d6], by simp [Ne.symm d4, e5]⟩
  exact {
    type := fun s ok => ⟨_, ok.1, rfl⟩
    notDict := by decide
    keep := fun h h' ok hk => by
      obtain ⟨hz, hTI, ⟨a, b, hTO⟩, ⟨h1, h1'⟩, h2, h2'⟩ := ok
      refine ⟨hk _ _ hz, hk _ _ hTI, ⟨a, b, hk _ _ hTO⟩, ⟨?_, ?_⟩, h2.at fun o e => hk _ o e, h2'.at fun o e => hk _ o e⟩
      · obtain ⟨o, ho, r⟩ := h1
        exact ⟨o, hk _ _ ho, r⟩
      · obtain ⟨o, ho, r⟩ := h1'
        exact ⟨o, hk _ _ ho, r⟩
    there := fun h ok b hb => by
      obtain ⟨hz, hTI, ⟨a, c, hTO⟩, ⟨⟨o1, h1, _⟩, o2, h2, _⟩, ⟨o3, h3, _⟩, o4, h4, _⟩ := ok
      simp only [List.mem_cons, List.not_mem_nil, or_false] at hb
      rcases hb with rfl | rfl | rfl | rfl | rfl | rfl | rfl
      · exact ⟨_, hz⟩
      · exact ⟨_, hTI⟩
      · exact ⟨_, hTO⟩
      · exact ⟨_, h1⟩
      · exact ⟨_, h3⟩
      · exact ⟨_, h2⟩
      · exact ⟨_, h4⟩
    sub := fun b hb => by
      simp only [List.mem_cons, List.not_mem_nil, or_false] at hb ⊢
      rcases hb with rfl | rfl | rfl | rfl <;> simp
    noKeys := fun A s Q E hA ok h => getAttrOr_miss_zip ok.1 rfl rfl rfl zip_no_keys (by decide +kernel) hA h
    iter := fun A s d Q E hA ok hd hdf h => by
      obtain ⟨hz, hTI, ⟨a, b, hTO⟩, q1, q2⟩ := ok
      simp only [List.mem_cons, List.not_mem_nil, or_false, not_or] at hdf
      obtain ⟨dz, dTI, dTO, di1, di2, dt, dl⟩ := hdf
      have D1 : Draws prog w A.in1 i1 [i1, t] xs.size (fun i v => xs[i]? = some v) (fun i h => h.IsTupleIter i1 t i ∧ h.IsTuple t xs) := Draws.tuple (A := A.in1) hA i1 t (Ne.symm d5) xs
      have D2 : Draws prog w A.in1 i2 [i2, l] ys.size (fun i v => ys[i]? = some v) (fun i h => h.IsListIter i2 l i ∧ h.IsList l ys) := Draws.list (A := A.in1) hA i2 l (Ne.symm e6) ys
      have lt : ∀ {s : Shared} {c o}, s.heap.get? c = some o → s.heap.objs.size ≠ c := fun e => Nat.ne_of_gt (Heap.lt_size e)
      refine wpAny_pyIter_zip hz (h z [z, TO, i1, i2] (fun i h => IsTupOf2 h TI (.ref i1) (.ref i2) ∧ (h.IsTupleIter i1 t i ∧ h.IsTuple t xs) ∧ (h.IsListIter i2 l i ∧ h.IsList l ys) ∧
        ((IsZip h z TI TO .none ∧ ∃ a b, IsTupOf2 h TO a b) ∨ ∃ T f oT, IsZipHeld h z TI TO T f ∧ h.get? T = some oT ∧ T ≠ z ∧ T ≠ i1 ∧ T ≠ i2 ∧ T ≠ d)) s.heap s.toks ?_ ⟨hTI, q1, q2, .inl ⟨hz, a, b, hTO⟩⟩ (fun _ _ e => e) fun b hb => .inl hb)
      exact {
        off := by
          simp only [List.mem_cons, List.not_mem_nil, or_false, not_or]
          exact ⟨dz, dTO, di1, di2⟩
        frame := fun i h₁ h₂ st hk => by
          obtain ⟨hTI, q1, q2, hz⟩ := st
          refine ⟨hk _ _ (Ne.symm dTI) hTI, D1.frame _ _ _ q1 fun b hb o e => hk b o (fun z => ?_) e, D2.frame _ _ _ q2 fun b hb o e => hk b o (fun z => ?_) e, ?_⟩
          · simp only [List.mem_cons, List.not_mem_nil, or_false] at hb
            rcases hb with rfl | rfl
            · exact di1 z.symm
            · exact dt z.symm
          · simp only [List.mem_cons, List.not_mem_nil, or_false] at hb
            rcases hb with rfl | rfl
            · exact di2 z.symm
            · exact dl z.symm
          · rcases hz with ⟨hz, a, b, hTO⟩ | ⟨T, f, oT, hz, hT, r1, r2, r3, r4⟩
            · exact .inl ⟨hk _ _ (Ne.symm dz) hz, a, b, hk _ _ (Ne.symm dTO) hTO⟩
            · exact .inr ⟨T, f, oT, hk _ _ (Ne.symm dz) hz, hk _ _ r4 hT, r1, r2, r3, r4⟩
        item := fun i s₁ Q₁ E₁ hi st hds hQ => by
          obtain ⟨hTI, q1, q2, hz⟩ := st
          have n1 : s₁.heap.objs.size ≠ i1 := let ⟨_, e, _⟩ := q1.1; lt e
          have n2 : s₁.heap.objs.size ≠ i2 := let ⟨_, e, _⟩ := q2.1; lt e
          rcases hz with ⟨hz, a, b, hTO⟩ | ⟨T, f, oT, hz, hT, r1, r2, r3, r4⟩
          · refine wpAny_pyNext_zipD2_item S D1 D2 hz hTI hTO q1 q2 hi (by omega) fun x1 x2 h' tk y1 y2 z1 z2 s1 s2 ht _ hk => ?_
            exact hQ s₁.heap.objs.size _ _ h' tk ⟨y1, y2⟩ (.inl ⟨_, ht, rfl, _, rfl⟩) ⟨hk _ _ a2 a1 a3 a4 hTI, s1, s2, .inr ⟨s₁.heap.objs.size, false, _, z1, ht, lt hz, n1, n2, Nat.ne_of_gt hds⟩⟩
              fun c o hc e => hk c o (fun x => hc (by simp [x])) (fun x => hc (by simp [x])) (fun x => hc (by simp [x])) (fun x => hc (by simp [x])) e
          · refine zp_next S D1 D2 hz hT hTI q1 q2 hi (by omega) fun x1 x2 h' tk y1 y2 z1 s1 s2 ht hk => ?_
            exact hQ s₁.heap.objs.size _ _ h' tk ⟨y1, y2⟩ (.inl ⟨_, ht, rfl, _, rfl⟩) ⟨hk _ _ a2 a3 a4 hTI, s1, s2, .inr ⟨T, true, oT, z1, hk _ _ r1 r2 r3 hT, r1, r2, r3, r4⟩⟩
              fun c o hc e => hk c o (fun x => hc (by simp [x])) (fun x => hc (by simp [x])) (fun x => hc (by simp [x])) e
        done := fun s₁ Q₁ E₁ st hQ => by
          obtain ⟨hTI, q1, q2, hz⟩ := st
          rcases hz with ⟨hz, a, b, hTO⟩ | ⟨T, f, oT, hz, hT, r1, r2, r3, r4⟩
          · exact wpAny_pyNext_zipD2_end S D1 D2 hz hTI hTO q1 q2 (Nat.le_refl _) (by omega) (.inl rfl) fun h' tk hk => hQ h' tk fun c o hc e => hk c o (fun x => hc (by simp [x])) (fun x => hc (by simp [x])) (fun x => hc (by simp [x])) (fun x => hc (by simp [x])) e
          · exact zp_stop S D1 D2 hz hT hTI q1 q2 (Nat.le_refl _) (by omega) (.inl rfl) fun h' tk hk => hQ h' tk fun c o hc e => hk c o (fun x => hc (by simp [x])) (fun x => hc (by simp [x])) (fun x => hc (by simp [x])) e } }
end
end EV

/-! EV 36: dicts keyed by ints, of one's own and public. -/
namespace EV
open PySem PySem.Spec PyProof.Rows L2
def keyI (ks : List Int) : List Key := ks.map Sum.inl
def dicK (kvs : List (Int × D)) : Sl := .dic (.k (kvs.map (·.1))) (kvs.map (·.2))
def dctI (kvs : List (Int × D)) : D := .dct (kvs.map fun p => (.int p.1, p.2))
section
variable {K : PySem.W.Frag} {pa : Option Addr} {G0 H0 G H : Hp} {σ : L2.St} {Γ : List Sl} {s : List Int}
/-- a dict of one's own is shown -/
theorem Nv.pubDic (E : Nv K pa G0 H0 G H σ Γ s) {i : Nat} {sh : DSh} {xs : List D} {kvs : List (D × D)} (h : Γ[i]? = some (.dic sh xs)) (hk : sh.keysD = some (kvs.map (·.1))) (hx : xs = kvs.map (·.2)) :
    ∃ p vs, Nv K pa G0 H0 (upd G p (sh.ho vs)) H σ (Γ.set i (.val (.dct kvs))) s := by
  obtain ⟨p, vs, h1, h2, h3, h4, h5, h6⟩ := E.x.dic i sh xs h
  have sg : Same G (upd G p (sh.ho vs)) := fun a o e => by
    rw [upd_ne (ne_of_none e h3)]
    exact e
  have hlt : i < Γ.length := (List.getElem?_eq_some_iff.mp h).1
  have lst : ∀ {q : Addr} {ws : List V}, H q = some (.lst ws) → q ≠ p := fun {q ws} e z => by
    rw [z, h2] at e
    exact DSh.notLst (Option.some.inj e)
  have back : ∀ {j : Nat} {z : Sl}, (∀ d, z ≠ .val d) → (Γ.set i (.val (.dct kvs)))[j]? = some z → i ≠ j ∧ Γ[j]? = some z := fun {j z} hz e => by
    by_cases hj : i = j
    · subst hj
      rw [List.getElem?_set_self hlt] at e
      exact absurd (Option.some.inj e).symm (hz _)
    · rw [List.getElem?_set_ne hj] at e
      exact ⟨hj, e⟩
  refine ⟨p, vs, by simp [E.len], fun j d e => ?_, fun j ys e => ?_, fun j l q ys zs e1 e2 => ?_, fun j e => ?_, fun j ns e => ?_, fun q e => ?_, ?_, ⟨fun j s2 zs e => ?_, fun j l q s1 y1 s2 z2 e1 e2 => ?_, fun j s2 zs e => ?_, E.x.t0, E.x.nt.upd (fun _ z => DSh.notTbl z)⟩⟩
  · by_cases hj : i = j
    · subst hj
      rw [List.getElem?_set_self hlt] at e
      cases e
      refine ⟨_, h1, .dct (sh := sh) (vs := vs) upd_same hk (by rw [h4.1, hx, List.length_map]) fun n v d e1 e2 => ?_⟩
      refine (h4.2 n v d.2 e1 ?_).mono sg
      rw [hx, List.getElem?_map, e2]
      rfl
    · rw [List.getElem?_set_ne hj] at e
      obtain ⟨v, q1, q2⟩ := E.val j d e
      exact ⟨v, q1, q2.mono sg⟩
  · obtain ⟨_, e⟩ := back (fun _ z => by cases z) e
    obtain ⟨q, ws, q1, q2, q3, q4, q5⟩ := E.own j ys e
    exact ⟨q, ws, q1, q2, by rw [upd_ne (lst q2)]; exact q3, q4.mono sg, q5⟩
  · obtain ⟨_, e1⟩ := back (fun _ z => by cases z) e1
    obtain ⟨_, e2⟩ := back (fun _ z => by cases z) e2
    exact E.inj j l q ys zs e1 e2
  · obtain ⟨_, e⟩ := back (fun _ z => by cases z) e
    exact E.pen j e
  · obtain ⟨_, e⟩ := back (fun _ z => by cases z) e
    obtain ⟨a, q1, q2⟩ := E.scr j ns e
    exact ⟨a, q1, sg.seq q2⟩
  · obtain ⟨q1, q2⟩ := E.ps q e
    rw [upd_ne (lst q2)]
    exact ⟨q1, q2⟩
  · refine ⟨E.ext.g.trans sg, E.ext.hh, E.ext.t, fun a o e n => ?_, fun a o e => ?_, E.ext.tk, fun h => (E.ext.gt h).upd (fun _ z => DSh.notTbl z)⟩
    · rw [upd_ne (ne_of_none e h6.1)]
      exact E.ext.n a o e n
    · by_cases z : a = p
      · rw [z, upd_same] at e
        rw [z, ← e]
        exact h2
      · rw [upd_ne z] at e
        exact E.sub a o e
  · obtain ⟨ne, e⟩ := back (fun _ z => by cases z) e
    obtain ⟨q, ws, q1, q2, q3, q4, q5⟩ := E.x.dic j s2 zs e
    have nq : q ≠ p := fun z => by
      rw [z] at q1
      exact ne (E.x.inj i j p _ _ _ _ h e h1 q1)
    exact ⟨q, ws, q1, q2, by rw [upd_ne nq]; exact q3, q4.mono sg, q5⟩
  · obtain ⟨_, e1⟩ := back (fun _ z => by cases z) e1
    obtain ⟨_, e2⟩ := back (fun _ z => by cases z) e2
    exact E.x.inj j l q _ _ _ _ e1 e2
  · obtain ⟨_, e⟩ := back (fun _ z => by cases z) e
    obtain ⟨q, ws, q1, q2, q3, q4⟩ := E.x.ro j s2 zs e
    exact ⟨q, ws, q1, sg _ _ q2, q3.mono sg, q4⟩
end
section
variable {X : Cx} {W : WX} {pa : Option Addr} {Γ : List Sl} {k : Nat} {pos : Pos} {α : Type} {out : α → Out} {rest : List Stmt}
theorem sv_pubK (i : Nat) {kvs : List (Int × D)} {sts : List Stmt} {m : PM α} (h : Γ[i]? = some (dicK kvs)) (hr : SV X W pa (Γ.set i (.val (dctI kvs))) out sts m) : SV X W pa Γ out sts m :=
  pss_imp hr fun Dn σ H ⟨G0, H0, G, s, E, P⟩ => by
    obtain ⟨p, vs, E'⟩ := E.pubDic (kvs := kvs.map fun p => (D.int p.1, p.2)) h (by rw [List.map_map]; show some ((kvs.map (·.1)).map D.int) = _; rw [List.map_map]; rfl) (by rw [List.map_map]; rfl)
    exact ⟨G0, H0, _, s, E', P⟩
theorem sv_dnewK (i : Nat) {y : Str} {p0 dp : Pos} {kk : PM α} (C : Cok X W k) (hr : SV X W pa (Γ.set i (dicK [])) out rest kk) (hi : X.N[i]? = some y := by rfl) (hx : Loc X.env.scope y := by first | exact Or.inl rfl | exact Or.inr rfl)
    (hs : swapsWith (.Dict [] [] dp) (some (.Name y p0)) pos.line X.env = pure false := by rfl) (hf : X.fn y = true ∨ X.env.scope.names.lookup y = some .local := by first | exact .inl rfl | exact .inr rfl) :
    SV X W pa Γ out (.Assign [.Name y p0] (.Dict [] [] dp) pos :: rest) kk := by
  unfold SV
  refine pss_imp (pss_cons (ps_set (i := i) C.nd hi hx pe_dnewK hs hf) hr) fun Dn σ H ⟨G0, H0, G, s, E, P⟩ p np => ?_
  have x := Ext.newH (K := X.K) (pa := pa) E.sub np (.dK [])
  have E1 := E.step (s' := s) x (E.ps.updH np _)
  have h0 : H0 p = none := by
    cases z : H0 p with
    | none => rfl
    | some o =>
      obtain ⟨o', z'⟩ := E.ext.t p o z
      rw [np] at z'
      cases z'
  refine ⟨G0, H0, G, s, E1.setDic (sh := .k []) (vs := []) (xs := []) i upd_same (E.sub.free np) .nil rfl h0 (fun j sh' ys _ e q => ?_), P⟩
  obtain ⟨p', vs', h1, h2, _⟩ := E.x.dic j sh' ys e
  rw [q] at h1
  cases h1
  rw [np] at h2
  cases h2
def newKey (kvs : List (Int × D)) : D → PM Int
  | .int n => if (kvs.all fun p => !decide (p.1 = n)) = true ∧ kvs.length < lim then pure n else bad
  | _ => bad
def kvK (kvs : List (Int × D)) (vs : List V) : List (Key × V) := (keyI (kvs.map (·.1))).zip vs
theorem kvK_put {K : PySem.W.Frag} {G : Hp} {n : Int} {w : V} : ∀ {kvs : List (Int × D)} {vs : List V}, vs.length = kvs.length → (kvs.all fun p => !decide (p.1 = n)) = true → putK (kvK kvs vs) (Sum.inl n) w = (keyI (kvs.map (·.1) ++ [n])).zip (vs ++ [w]) := by
  intro kvs vs hl ha
  have hn : ((kvK kvs vs).any fun kv => decide (kv.1 = Sum.inl n)) = false := by
    rw [List.any_eq_false]
    intro kv m e
    have e := of_decide_eq_true e
    have mk : kv.1 ∈ keyI (kvs.map (·.1)) := (List.of_mem_zip m).1
    rw [e] at mk
    obtain ⟨y, my, ey⟩ := List.mem_map.mp mk
    obtain ⟨p, mp, ep⟩ := List.mem_map.mp my
    have z := List.all_eq_true.mp ha p mp
    injection ey with ey
    rw [ep, ey, decide_eq_true rfl] at z
    cases z
  unfold putK
  rw [hn, if_neg Bool.false_ne_true]
  unfold kvK keyI
  rw [List.map_append, List.zip_append (by rw [List.length_map, List.length_map, hl])]
  rfl
/-- x[key] = e, a new key -/
theorem sv_dputK (i : Nat) {x : Str} {ke e : Expr} {kvs : List (Int × D)} {me mk : PM D} {kk : Int → D → PM α} {p1 tp : Pos} (C : Cok X W k) (hΓ : Γ[i]? = some (dicK kvs)) (he : EV X W pa Γ e me) (hk : EV X W pa Γ ke mk) (hr : ∀ n d, SV X W pa (Γ.set i (dicK (kvs ++ [(n, d)]))) out rest (kk n d))
    (hN : X.N[i]? = some x := by rfl) (hv : Vis X.env.scope x := by first | exact Or.inl rfl | exact Or.inr (Or.inl rfl) | exact Or.inr (Or.inr rfl)) (hd : (x == ("__debug__" : Str)) = false := by decide) (hcd : (x == ("__classdict__" : Str)) = false := by decide)
    (hs : swapsWith e (some (.Subscript (.Name x p1) ke tp)) pos.line X.env = pure false := by rfl) :
    SV X W pa Γ out (.Assign [.Subscript (.Name x p1) ke tp] e pos :: rest) (me >>= fun d => mk >>= fun y => newKey kvs y >>= fun n => kk n d) := by
  unfold SV
  rw [bind_assoc]
  have hrest : PSs X rest (fun Dn σ H => ∃ q : Int × D, svT X W pa (Γ.set i (dicK (kvs ++ [(q.1, q.2)]))) (kk q.1 q.2 >>= fun a => pure (out a)) Dn σ H) := pss_ex (ι := Int × D) fun q => hr q.1 q.2
  refine pss_imp (pss_cons (ps_dput (by have := C.room.units; omega) (pe_var hN hv hd hcd) hk he hs) hrest) fun Dn σ H ⟨G0, H0, G, s, E, P⟩ => ⟨G0, H0, G, s, E, (P.bind E).imp fun G1 H1 d s1 x1 p1 P1 v r => ?_⟩
  have E1 := E.step x1 p1
  obtain ⟨p, vs, q1, q2, q3, q4, q5, q6⟩ := E1.x.dic i _ _ hΓ
  rw [bind_assoc] at P1
  refine ⟨.ref p, q1, G0, H0, G1, s1, E1, (P1.bind E1).imp fun G2 H2 y s2 x2 p2 P2 w rw2 => ?_⟩
  have E2 := E1.step x2 p2
  obtain ⟨p', us, r1, r2, r3, r4, r5, r6⟩ := E2.x.dic i _ _ hΓ
  rw [q1] at r1
  cases r1
  have r2 : H2 p = some (.dK (kvK kvs us)) := r2
  rw [bind_assoc] at P2
  cases rw2 with
  | int n =>
    have P2 : SPost X.K W X.mg pa G0 H0 Dn (((if (kvs.all fun p => !decide (p.1 = n)) = true ∧ kvs.length < lim then pure n else bad : PM Int) >>= fun n => kk n d >>= fun a => pure (out a)) s2) := P2
    by_cases hc : (kvs.all fun p => !decide (p.1 = n)) = true ∧ kvs.length < lim
    · rw [if_pos hc, pure_bind] at P2
      have lk : (kvK kvs us).length < sizeLine := by
        unfold kvK keyI
        rw [List.length_zip, List.length_map, List.length_map]
        exact Nat.lt_of_le_of_lt (Nat.min_le_left _ _) (Nat.lt_of_lt_of_le hc.2 (lim_le (Nat.le_refl _)))
      have lu : us.length = kvs.length := by rw [r4.1, List.length_map]
      refine ⟨p, _, rfl, DPut.k (k := Sum.inl n) r2 lk, (n, d), G0, H0, G2, s2, ?_, P2⟩
      rw [kvK_put (K := X.K) (G := G2) lu hc.1]
      have rv : RpL X.K G2 (us ++ [v]) ((kvs ++ [(n, d)]).map (·.2)) := by
        rw [List.map_append]
        exact r4.app (.cons (r.mono x2.g) .nil)
      have z := E2.mutDic (sh' := .k ((kvs ++ [(n, d)]).map (·.1))) (ys := (kvs ++ [(n, d)]).map (·.2)) hΓ q1 rv (by show List.length _ = _; rw [List.length_map, List.length_map])
      have e1 : (DSh.k ((kvs ++ [(n, d)]).map (·.1))).ho (us ++ [v]) = .dK ((keyI (kvs.map (·.1) ++ [n])).zip (us ++ [v])) := by
        rw [List.map_append]
        rfl
      rw [e1] at z
      exact z
    · rw [if_neg hc] at P2
      exact P2.elim
  | _ => exact P2.elim
/-! public dicts -/
def dgetD : D → D → PM D
  | .dct kvs, .int i => match kvs.find? (fun p => match p.1 with | .int j => decide (j = i) | _ => false) with
    | some p => pure p.2
    | none => bad
  | _, _ => bad
theorem dget_at {K : PySem.W.Frag} {G : Hp} {i : Int} : ∀ {ks : List Int} {vs : List V} {kvs : List (D × D)}, ks.map D.int = kvs.map (·.1) → vs.length = kvs.length → (∀ (n : Nat) v d, vs[n]? = some v → kvs[n]? = some d → Rp K G v d.2) → ∀ {p : D × D},
    kvs.find? (fun p => match p.1 with | .int j => decide (j = i) | _ => false) = some p → ∃ v, valV ((keyI ks).zip vs) (Sum.inl i) = some v ∧ Rp K G v p.2
  | [], _, [], _, _, _, p, e => by cases e
  | [], _, _ :: _, h, _, _, _, _ => by cases h
  | _ :: _, _, [], h, _, _, _, _ => by cases h
  | j :: ks, [], _ :: _, _, h, _, _, _ => by simp at h
  | j :: ks, v :: vs, q :: kvs, h, hl, hr, p, e => by
    rw [List.map_cons, List.map_cons] at h
    injection h with h1 h2
    rw [List.find?_cons, ← h1] at e
    have e2 : (keyI (j :: ks)).zip (v :: vs) = (Sum.inl j, v) :: (keyI ks).zip vs := rfl
    rw [e2]
    by_cases hj : j = i
    · have e : (match decide (j = i) with | true => some q | false => kvs.find? _) = some p := e
      rw [decide_eq_true hj] at e
      have e := Option.some.inj e
      refine ⟨v, valV_pos (by rw [hj]), ?_⟩
      rw [← e]
      exact hr 0 v q rfl rfl
    · have e : (match decide (j = i) with | true => some q | false => kvs.find? _) = some p := e
      rw [decide_eq_false hj] at e
      obtain ⟨w, w1, w2⟩ := dget_at (ks := ks) (vs := vs) (kvs := kvs) h2 (by simpa using hl) (fun n v d e1 e2 => hr (n + 1) v d (by simpa using e1) (by simpa using e2)) e
      exact ⟨w, by rw [valV_neg (fun z => hj (by injection z))]; exact w1, w2⟩
theorem ev_dgetK {a b : Expr} {ma mb : PM D} (C : Cok X W k) (ha : EV X W pa Γ a ma) (hb : EV X W pa Γ b mb) (hs : NoSl b) : EV X W pa Γ (.Subscript a b pos) (ma >>= fun x => mb >>= fun y => dgetD x y) :=
  pe_imp (pe_dget (by have := C.room.units; omega) ha hb hs) fun σ H Q ⟨G0, H0, G, s, E, P⟩ => ⟨G0, H0, G, s, E, P.bind.imp fun G1 H1 x s1 x1 p1 P1 v r => ⟨G0, H0, G1, s1, E.step x1 p1, P1.bind.imp fun G2 H2 y s2 x2 p2 P2 w rw2 => by
    cases r with
    | @dct a sh vs kvs h hk n rr =>
      cases rw2 with
      | int i =>
        cases sh with
        | k ks =>
          have hk : ks.map D.int = kvs.map (·.1) := Option.some.inj hk
          cases e : kvs.find? (fun p => match p.1 with | .int j => decide (j = i) | _ => false) with
          | none =>
            have P2 : Pst X.K W X.mg pa σ (FD X.K Q) G2 H2 ((match kvs.find? (fun p => match p.1 with | .int j => decide (j = i) | _ => false) with | some p => pure p.2 | none => bad : PM D) s2) := P2
            rw [e] at P2
            exact P2.elim
          | some p =>
            have P2 : Pst X.K W X.mg pa σ (FD X.K Q) G2 H2 ((match kvs.find? (fun p => match p.1 with | .int j => decide (j = i) | _ => false) with | some p => pure p.2 | none => bad : PM D) s2) := P2
            rw [e] at P2
            obtain ⟨u, u1, u2⟩ := dget_at (G := G1) hk n rr e
            exact ⟨a, u, rfl, .inl ⟨_, Sum.inl i, .inl (x2.sub _ _ (x2.g _ _ h)), rfl, u1.symm⟩, P2.now x2.sub p2 _ (u2.mono x2.g)⟩
        | t ks =>
          have hk : (ks.map fun r => D.tup (r.map .int)) = kvs.map (·.1) := Option.some.inj hk
          have P2 : Pst X.K W X.mg pa σ (FD X.K Q) G2 H2 ((match kvs.find? (fun p => match p.1 with | .int j => decide (j = i) | _ => false) with | some p => pure p.2 | none => bad : PM D) s2) := P2
          have e : kvs.find? (fun p => match p.1 with | .int j => decide (j = i) | _ => false) = none := List.find?_eq_none.mpr fun p m => by
            have m2 : p.1 ∈ (ks.map fun r => D.tup (r.map .int)) := by
              rw [hk]
              exact List.mem_map.mpr ⟨p, m, rfl⟩
            obtain ⟨r, _, e⟩ := List.mem_map.mp m2
            rw [← e]
            exact Bool.false_ne_true
          rw [e] at P2
          exact P2.elim
        | tu m => cases hk
        | tn o m => cases hk
        | ins _ _ _ _ => cases hk
      | _ => exact P2.elim
    | _ => exact P2.elim⟩⟩
/-- list(d), a public dict keyed by ints -/
def keysL : D → PM D
  | .dct kvs => match intsOf (kvs.map (·.1)) with
    | some ns => mkL (ns.map D.int)
    | none => bad
  | _ => bad
theorem keys_eq : ∀ {ks : List Int} {vs : List V}, vs.length = ks.length → ((keyI ks).zip vs).map (fun kv => kV kv.1) = ks.map V.int
  | [], [], _ => rfl
  | [], _ :: _, h => by simp at h
  | _ :: _, [], h => by simp at h
  | k :: ks, v :: vs, h => by
    show V.int k :: ((keyI ks).zip vs).map (fun kv => kV kv.1) = _
    rw [keys_eq (by simpa using h)]
    rfl
theorem ev_keysL {e : Expr} {m : PM D} {p : Pos} (C : Cok X W k) (hg : Gl X "list") (hm : X.mg "list" = none) (he : EV X W pa Γ e m) (ha : starEach [e] X.env = (false, eval e X.env) :: starEach [] X.env := by rfl) (hpl : (backTo pos (starEach [] X.env)).any (·.1) = false := by rfl) :
    EV X W pa Γ (.Call (.Name "list" p) [e] [] pos) (m >>= keysL) :=
  pe_imp (pe_callTy ((call_list_dK C.calm).or (call_list_dT C.calm)) hg hm (by decide +kernel) (pa_cons he pa_nil ha) (by decide) (by decide) ha hpl) fun σ H Q ⟨G0, H0, G, s, E, P⟩ => ⟨G0, H0, G, s, E, P.bind.imp fun G1 H1 x s1 x1 p1 P1 v r => by
    cases r with
    | @dct a sh vs kvs h hk n rr =>
      have P1 : Pst X.K W X.mg pa σ (FD X.K Q) G1 H1 ((match intsOf (kvs.map (·.1)) with | some ns => mkL (ns.map D.int) | none => bad : PM D) s1) := P1
      cases sh with
      | k ks =>
        have hk : ks.map D.int = kvs.map (·.1) := Option.some.inj hk
        rw [← hk, intsOf_map] at P1
        have P1 : Pst X.K W X.mg pa σ (FD X.K Q) G1 H1 (mkL (ks.map D.int) s1) := P1
        refine .inl ⟨a, _, rfl, x1.sub _ _ h, fun q nq => ?_⟩
        have e := keys_eq (ks := ks) (vs := vs) (by
          have z := congrArg List.length hk
          rw [List.length_map, List.length_map] at z
          omega)
        show Q (.ref q) (upd H1 q (.lst (((keyI ks).zip vs).map fun kv => kV kv.1)))
        rw [e]
        exact mkL_use P1 (rpl_ints _) x1.sub p1 nq
      | t ks =>
        have hk : (ks.map fun r => D.tup (r.map .int)) = kvs.map (·.1) := Option.some.inj hk
        rw [← hk] at P1
        cases ks with
        | nil =>
          have P1 : Pst X.K W X.mg pa σ (FD X.K Q) G1 H1 (mkL [] s1) := P1
          refine .inr ⟨a, [], rfl, .inl (x1.sub _ _ h), fun q bs nq hb => ?_⟩
          cases hb
          exact mkL_use P1 .nil x1.sub p1 nq
        | cons r ks => exact P1.elim
      | tu m => cases hk
      | tn o m => cases hk
      | ins _ _ _ _ => cases hk
    | _ => exact P1.elim⟩
end
end EV

/-! EV 37: dict(zip(a, b)); comprehensions of two generators. -/
namespace EV
open PySem PySem.Spec PyProof.Rows L2 PySem.W
section
variable {X : Cx} {W : WX} {pa : Option Addr} {Γ : List Sl} {k : Nat} {pos : Pos}
theorem merge_app : ∀ {l acc : List (Key × V)}, (l.map (·.1)).Nodup → (∀ p ∈ l, ∀ q ∈ acc, q.1 ≠ p.1) → mergeK acc l = acc ++ l
  | [], acc, _, _ => by rw [List.append_nil]; rfl
  | p :: l, acc, nd, h => by
    rw [List.map_cons, List.nodup_cons] at nd
    have e : putK acc p.1 p.2 = acc ++ [p] := by
      unfold putK
      rw [if_neg]
      intro z
      obtain ⟨q, mq, e⟩ := List.any_eq_true.mp z
      exact h p List.mem_cons_self q mq (of_decide_eq_true e)
    show mergeK (putK acc p.1 p.2) l = _
    rw [e, merge_app nd.2 fun a ma q mq => ?_, List.append_assoc]
    · rfl
    · rcases List.mem_append.mp mq with mq | mq
      · exact h a (List.mem_cons_of_mem _ ma) q mq
      · rw [List.mem_singleton.mp mq]
        intro e2
        exact nd.1 (by rw [e2]; exact List.mem_map.mpr ⟨a, ma, rfl⟩)
def tDictZip (K : PySem.W.Frag) (ta : TA) : TE := fun σ H Q => ta σ H fun vs H1 => ∃ (t l : Addr) (ks : List Int) (ys : List V), vs = [V.ref t, V.ref l] ∧ SqT K H1 t (ks.map V.int) ∧ SqL K H1 l ys ∧ ks.length = ys.length ∧ ks.Nodup ∧
  ∀ p, H1 p = none → Q (.ref p) (upd H1 p (.dK ((keyI ks).zip ys)))
theorem kv_zip : ∀ {ks : List Int} {ys : List V} {vs : List Value}, Vals ys vs → KV ((keyI ks).zip ys) ((keyI ks).zip vs)
  | [], _, _, _ => .nil
  | _ :: _, _, _, .nil => .nil
  | k :: ks, _, _, .cons h t => .cons ⟨rfl, h⟩ (kv_zip (ks := ks) t)
theorem zp_apart (n t l : Nat) (ht : t < n) (hl : l < n) : ([n + 2, n + 3, n + 4, n, n + 1, t] : List Nat).Pairwise (· ≠ ·) ∧ ([n + 2, n + 3, n + 4, n, n + 1, l] : List Nat).Pairwise (· ≠ ·) := by
  simp
  omega
theorem zp_old (n b : Nat) (h : b < n) (m : b ∈ [n + 4, n + 3, n, n + 1]) : False := by
  simp at m
  omega
theorem pe_dictZip {a b : Expr} {ta : TA} {p p2 q : Pos} (hc : X.calm = true) (hg : Gl X "dict") (hm : X.mg "dict" = none) (hg2 : Gl X "zip") (hm2 : X.mg "zip" = none) (ha : PA X [a, b] ta)
    (hs : starEach [a, b] X.env = (false, eval a X.env) :: starEach [b] X.env := by rfl) (hpl : (backTo q (starEach [b] X.env)).any (·.1) = false := by rfl) :
    PE X (.Call (.Name "dict" p) [.Call (.Name "zip" p2) [a, b] [] q] [] pos) (tDictZip X.K ta) := by
  refine ⟨fun pins s σ H Q I h => ?_⟩
  refine Call_ (ld_blt I hg hm PyProof.Rows.boot_dict ?_)
  refine callWith_type1 (args_cons ?_ rfl) rfl rfl
  refine Call_ (ld_blt I hg2 hm2 PyProof.Rows.boot_zip (PyProof.Rows.callWith_type1 (thn (ha.run q pins s σ H _ I h) fun us s1 ⟨vs, H1, I1, r1, q1⟩ => ?_) hs hpl))
  obtain ⟨t, l, ks, ys, ex, hqt, hql, hlen, nd, q1⟩ := q1
  subst ex
  cases r1 with
  | cons r rr =>
    cases rr with
    | cons r' rr =>
      cases rr
      cases r
      cases r'
      obtain ⟨its, rv, pt, zt⟩ := I1.tuple hqt
      obtain ⟨its2, rv2, pl, zl⟩ := I1.list hql
      have l1 := rv.length
      have l2 := rv2.length
      rw [List.length_map] at l1 zt
      have lt : t < s1.heap.objs.size := let ⟨_, e, _⟩ := (show s1.heap.IsTuple t its.toArray from pt); Heap.lt_size e
      have ll : l < s1.heap.objs.size := pl.lt
      refine zp_call (show s1.heap.IsTuple t its.toArray from pt) pl.isList fun h' hz hTI hTO h1 h2 hk => args_nil ?_
      refine PySem.call_dict_pairs (knd := mixKind X.prog X.w) (kvs := (keyI ks).zip its2)
        (zp_arg (s1.heap.objs.size + 4) (s1.heap.objs.size + 2) (s1.heap.objs.size + 3) s1.heap.objs.size (s1.heap.objs.size + 1) t l its.toArray its2.toArray (by simp; omega) (.inr (zp_apart _ _ _ lt ll))) (I1.ok.hd hc)
        ⟨hz, hTI, ⟨_, _, hTO⟩, ⟨h1, let ⟨o, e, r⟩ := (show s1.heap.IsTuple t its.toArray from pt); ⟨o, hk _ _ e, r⟩⟩, h2, pl.isList.at fun o e => hk _ o e⟩ ⟨?_, fun i key v hr => ?_⟩ (by simp; omega) fun h2 tk hd hk2 => ?_
      · unfold keyI
        rw [List.length_zip, List.length_map, List.size_toArray]
        omega
      · obtain ⟨e1, e2⟩ := hr
        have e1 : its[i]? = some key := by simpa using e1
        have e2 : its2[i]? = some v := by simpa using e2
        have hi : i < ks.length := by
          have := (List.getElem?_eq_some_iff.mp e1).1
          omega
        refine ⟨Sum.inl ks[i], ?_, ?_⟩
        · unfold keyI
          rw [List.getElem?_zip_eq_some]
          exact ⟨by rw [List.getElem?_map, List.getElem?_eq_getElem hi]; rfl, e2⟩
        · obtain ⟨u, hu, ru⟩ := rv.get (i := i) (x := V.int ks[i]) (by rw [List.getElem?_map, List.getElem?_eq_getElem hi]; rfl)
          rw [e1] at hu
          rw [Option.some.inj hu]
          exact kV_is (k := Sum.inl ks[i]) ru
      · have hkk : ∀ b o, s1.heap.get? b = some o → h2.get? b = some o := fun b o e => hk2 b o (fun m => zp_old _ _ (Heap.lt_size e) m) (hk b o e)
        have hge : s1.heap.objs.size ≤ h'.objs.size := Nat.le_trans (Nat.le_add_right _ 4) (Nat.le_of_lt (Heap.lt_size hz))
        have ndk : (((keyI ks).zip ys).map (·.1)).Nodup := by
          rw [List.map_fst_zip (by unfold keyI; rw [List.length_map]; omega)]
          exact List.pairwise_map.mpr (nd.imp fun h e => h (by injection e))
        have em : mergeK [] ((keyI ks).zip ys) = (keyI ks).zip ys := by
          rw [merge_app ndk (fun _ _ _ m => by cases m)]
          rfl
        have hm : (h'.objs.size == sysModules) = false := beq_eq_false_iff_ne.mpr (Nat.ne_of_gt (Nat.lt_of_lt_of_le I1.big hge))
        have hl : ((keyI ks).zip ys).length ≤ sizeLine := by
          rw [List.length_zip]
          exact Nat.le_trans (Nat.min_le_right _ _) zl
        exact ⟨.ref h'.objs.size, upd H1 h'.objs.size (.dK ((keyI ks).zip ys)), I1.laid (t' := tk) hkk hge (show ObjOk X.prog X.w _ _ _ (.dK ((keyI ks).zip ys)) from ⟨hl, hm, merged [] ((keyI ks).zip its2), by rw [← em]; exact KV.merge (kv_zip rv2) .nil, hd⟩), rfl,
          q1 _ (I1.hok.fresh hge)⟩
def dictZF : List D → PM D
  | [.tup xs, .lst ys] => match intsOf xs with
    | some ns => if ns.length = ys.length ∧ ns.Nodup ∧ ns.length ≤ lim then pure (dctI (ns.zip ys)) else bad
    | none => bad
  | _ => bad
theorem ev_dictZip {a b : Expr} {ml : PM (List D)} {p p2 q : Pos} (C : Cok X W k) (hg : Gl X "dict") (hm : X.mg "dict" = none) (hg2 : Gl X "zip") (hm2 : X.mg "zip" = none) (ha : EL X W pa Γ [a, b] ml)
    (hs : starEach [a, b] X.env = (false, eval a X.env) :: starEach [b] X.env := by rfl) (hpl : (backTo q (starEach [b] X.env)).any (·.1) = false := by rfl) :
    EV X W pa Γ (.Call (.Name "dict" p) [.Call (.Name "zip" p2) [a, b] [] q] [] pos) (ml >>= dictZF) :=
  pe_imp (pe_dictZip C.calm hg hm hg2 hm2 ha hs hpl) fun σ H Q ⟨G0, H0, G, s, E, P⟩ => ⟨G0, H0, G, s, E, P.bind.imp fun G1 H1 ds s1 x1 p1 P1 vs r => by
    match ds, r, P1 with
    | [d, e], r, P1 =>
      obtain ⟨v, w, rfl, r1, r2⟩ := rp2 r
      cases r1 with
      | @tup t us xs ht n rr =>
        cases r2 with
        | @lst l ws ys hl n2 rr2 =>
          cases ei : intsOf xs with
          | none =>
            have P1 : Pst X.K W X.mg pa σ (FD X.K Q) G1 H1 ((match intsOf xs with | some ns => if ns.length = ys.length ∧ ns.Nodup ∧ ns.length ≤ lim then pure (dctI (ns.zip ys)) else bad | none => bad : PM D) s1) := P1
            rw [ei] at P1
            exact P1.elim
          | some ns =>
            have P1 : Pst X.K W X.mg pa σ (FD X.K Q) G1 H1 ((match intsOf xs with | some ns => if ns.length = ys.length ∧ ns.Nodup ∧ ns.length ≤ lim then pure (dctI (ns.zip ys)) else bad | none => bad : PM D) s1) := P1
            rw [ei] at P1
            have P1 : Pst X.K W X.mg pa σ (FD X.K Q) G1 H1 ((if ns.length = ys.length ∧ ns.Nodup ∧ ns.length ≤ lim then pure (dctI (ns.zip ys)) else bad : PM D) s1) := P1
            split at P1
            · rename_i hc
              have eu := intsOf_rp (vs := us) ⟨n, rr⟩ ei
              subst eu
              refine ⟨t, l, ns, ws, rfl, sameT x1.sub ht, SqL.of (x1.sub _ _ hl), by rw [n2]; exact hc.1, hc.2.1, fun p np => ?_⟩
              have x := Ext.new (K := X.K) (pa := pa) x1.sub np (.dK ((keyI ns).zip ws))
              refine P1 _ _ x (p1.upd np _) _ (.dct (sh := .k ns) (vs := ws) upd_same ?_ ?_ fun i v d e1 e2 => ?_)
              · show some (ns.map D.int) = _
                rw [List.map_map]
                congr 1
                rw [show ((fun p : D × D => p.1) ∘ fun p : Int × D => (D.int p.1, p.2)) = (fun z => D.int z) ∘ fun p : Int × D => p.1 from rfl, ← List.map_map, List.map_fst_zip (by omega)]
              · rw [List.length_map, List.length_zip, n2]
                omega
              · rw [List.getElem?_map] at e2
                obtain ⟨z, e3, rfl⟩ := Option.map_eq_some_iff.mp e2
                rw [List.getElem?_zip_eq_some] at e3
                exact (rr2 i v z.2 e1 e3.2).mono x.g
            · exact P1.elim
        | _ => cases h : intsOf xs <;> exact P1.elim
      | _ => exact P1.elim
    | [], _, P1 => exact P1.elim
    | [a], _, P1 => cases a <;> exact P1.elim
    | a :: b :: c :: ds, _, P1 => cases a <;> first | exact P1.elim | (cases b <;> exact P1.elim)⟩
end
/-! two generators -/
section
variable {ι κ : Type}
def compH (dec : D → Option κ) (me : κ → PM D) : List D → PM (List D)
  | [] => pure []
  | y :: ys => match dec y with
    | none => bad
    | some z => noExc (me z) >>= fun d => compH dec me ys >>= fun r => pure (d :: r)
def compO (dec : D → Option ι) (mi : ι → PM (List D)) (dec' : D → Option κ) (me : ι → κ → PM D) : List D → PM (List D)
  | [] => pure []
  | x :: xs => match dec x with
    | none => bad
    | some z => noExc (mi z) >>= fun ys => (if ys.length ≤ 1000 then compH dec' (me z) ys else bad) >>= fun r1 => compO dec mi dec' me xs >>= fun r => pure (r1 ++ r)
def compL2 (dec : D → Option ι) (mi : ι → PM (List D)) (dec' : D → Option κ) (me : ι → κ → PM D) (xs : List D) : PM (List D) := if xs.length ≤ 1000 then compO dec mi dec' me xs else bad
theorem wipe_wipe {σ : L2.St} {vs : List Nat} : L2.wipe (L2.wipe σ vs) vs = L2.wipe σ vs := by
  have : ∀ us : List Nat, (∀ u ∈ us, u ∈ vs) → L2.wipe (L2.wipe σ us) vs = L2.wipe σ vs := by
    intro us
    induction us with
    | nil => intro _; rfl
    | cons u us ih =>
      intro hu
      show L2.wipe ((L2.wipe σ us).set u none) vs = _
      rw [wipe_set (hu u List.mem_cons_self)]
      exact ih fun w hw => hu w (List.mem_cons_of_mem _ hw)
  exact this vs fun _ h => h
def calmS : Sl → Bool
  | .own _ => false
  | .dic _ _ => false
  | _ => true
def calmAll : List Sl → Bool
  | [] => true
  | z :: zs => calmS z && calmAll zs
theorem calm_at : ∀ {Γ : List Sl} {i : Nat} {z : Sl}, calmAll Γ = true → Γ[i]? = some z → calmS z = true
  | [], i, z, _, e => by simp at e
  | x :: Γ, 0, z, h, e => by
    have e : x = z := by simpa using e
    rw [← e]
    exact ((Bool.and_eq_true _ _).mp h).1
  | x :: Γ, i + 1, z, h, e => calm_at ((Bool.and_eq_true _ _).mp h).2 (by simpa using e)
theorem calm_own {Γ : List Sl} {i : Nat} {xs : List D} (h : calmAll Γ = true) (e : Γ[i]? = some (.own xs)) : False := by
  have z := calm_at h e
  cases z
theorem calm_dic {Γ : List Sl} {i : Nat} {sh : DSh} {xs : List D} (h : calmAll Γ = true) (e : Γ[i]? = some (.dic sh xs)) : False := by
  have z := calm_at h e
  cases z
theorem pi_ex {X : Cx} {τ : Type} {tg e : Expr} {t : τ → TI} (h : ∀ z, PI X tg e (t z)) : PI X tg e (fun σ H R => ∃ z, t z σ H R) := ⟨fun pins s σ H R I ⟨z, q⟩ => (h z).run pins s σ H R I q⟩
theorem lc2Core {X : Cx} {W : WX} {pa : Option Addr} {Γ : List Sl} {dec : D → Option ι} {mi : ι → PM (List D)} {dec' : D → Option κ} {me : ι → κ → PM D} {g g1 : TG} {vs vs1 : List Nat} {Γz : ι → List Sl} {Γy : ι → κ → List Sl} {σ : L2.St} {J : It} {xs : List D} {D0 : Addr}
    {G0 H0 G1 H1 : Hp} {s1 : List Int} {F : Hp → Hp → D → List Int → Prop} {cont : List D → PM D} {Qd : Hp → Prop}
    (hg : TgOk X pa dec g vs (wipeG Γ vs) Γz) (hg1 : ∀ z, TgOk X pa dec' g1 vs1 (wipeG (Γz z) vs1) (Γy z)) (hno : ∀ z, calmAll (Γz z) = true) (E : Nv X.K pa G0 H0 G1 H1 σ Γ s1) (hJ : IterOk X.K J G1 xs) (nD : H1 D0 = none)
    (P : Pst X.K W X.mg pa σ F G1 H1 ((compL2 dec mi dec' me xs >>= cont) s1))
    (fin : ∀ G H accV accD s', Ext X.K pa G1 H1 G H → PenOk pa G H s' → H D0 = some (.lst accV) → G D0 = none → RpL X.K G accV accD → Pst X.K W X.mg pa σ F G1 H1 (cont accD s') → Qd H) :
    ∃ Wv : Nat → Nat → Hp → Prop, (∃ m, Wv 0 m (upd H1 D0 (.lst []))) ∧ ∀ i m H, Wv i m H →
      (J.stop i H ∧ Qd H) ∨ (J.go i H ∧ ∃ Nx : Hp → Prop, (∀ H', Nx H' → ∃ m', m' < m ∧ Wv (i + 1) m' H') ∧ ∀ x H', J.yld i H x H' → g x (L2.wipe σ vs) H' fun σ2 H2 => L2.wipe σ2 vs = L2.wipe σ vs ∧
        tYes σ2 H2 fun b H3 =>
          if b = true then (fun σ H R => ∃ z, evI X W0 pa (Γz z) (mi z) σ H R : TI) σ2 H3 fun J1 H4 => ∃ W1 : Nat → Nat → Hp → Prop, (∃ m, W1 0 m H4) ∧ ∀ j k H, W1 j k H →
            (J1.stop j H ∧ Nx H) ∨ (J1.go j H ∧ ∃ Nx1 : Hp → Prop, (∀ H', Nx1 H' → ∃ k', k' < k ∧ W1 (j + 1) k' H') ∧ ∀ x H', J1.yld j H x H' → g1 x (L2.wipe σ2 vs1) H' fun σ3 H5 => L2.wipe σ3 vs1 = L2.wipe σ2 vs1 ∧ tYes σ3 H5 fun b H6 =>
              if b = true then (fun σ H Q => ∃ q : ι × κ, evT X W0 pa (Γy q.1 q.2) (me q.1 q.2) σ H Q : TE) σ3 H6 fun y H7 => ∃ acc, H7 D0 = some (.lst acc) ∧ acc.length < sizeLine ∧ Nx1 (upd H7 D0 (.lst (acc ++ [y]))) else Nx1 H6)
          else Nx H3) := by
  have hlen : xs.length ≤ 1000 := by
    by_cases h : xs.length ≤ 1000
    · exact h
    · unfold compL2 at P
      rw [if_neg h] at P
      exact P.elim
  unfold compL2 at P
  rw [if_pos hlen] at P
  have npa : ∀ s, PenOk pa G1 H1 s → pa ≠ some D0 := fun s p e => by
    have := (p D0 e).2
    rw [nD] at this
    cases this
  have npa := npa s1 E.ps
  let Wv : Nat → Nat → Hp → Prop := fun i m H => m = xs.length - i ∧ i ≤ xs.length ∧ ∃ G accV accD s', Ext X.K pa G1 H1 G H ∧ PenOk pa G H s' ∧ H D0 = some (.lst accV) ∧ G D0 = none ∧ RpL X.K G accV accD ∧ accD.length ≤ i * 1000 ∧
    Pst X.K W X.mg pa σ F G1 H1 ((compO dec mi dec' me (xs.drop i) >>= fun r => cont (accD ++ r)) s')
  refine ⟨Wv, ⟨xs.length, by simp, Nat.zero_le _, G1, [], [], s1, Ext.newH E.sub nD _, E.ps.updH nD _, upd_same, E.sub.free nD, .nil, Nat.zero_le _, by simpa using P⟩, ?_⟩
  rintro i m H ⟨rfl, hi, G, accV, accD, s', x1, p1, hD, gD, racc, hacc, P⟩
  by_cases hlt : i < xs.length
  · obtain ⟨x, hx⟩ : ∃ x, xs[i]? = some x := ⟨_, List.getElem?_eq_getElem hlt⟩
    obtain ⟨hgo, hyld⟩ := (hJ G H x1.g x1.sub).1 i x hx
    have hdrop : xs.drop i = x :: xs.drop (i + 1) := by
      rw [List.drop_eq_getElem_cons hlt]
      congr 1
      rw [List.getElem?_eq_getElem hlt] at hx
      exact Option.some.inj hx
    rw [hdrop] at P
    refine .inr ⟨hgo, fun H' => Wv (i + 1) (xs.length - (i + 1)) H', fun H' w => ⟨_, by omega, w⟩, fun v H2 hy => ?_⟩
    obtain ⟨G2, x2', rv⟩ := hyld v H2 hy
    have x2 : Ext X.K pa G H G2 H2 := x2'.any
    have hD2 : H2 D0 = some (.lst accV) := x2'.h _ _ hD (fun z => by cases z)
    have gD2 : G2 D0 = none := x2.n _ _ hD gD
    have p2 : PenOk pa G2 H2 s' := p1.ext x2'
    have E2 : Nv X.K pa G0 H0 G2 H2 σ Γ s' := E.step (x1.trans x2) p2
    unfold compO at P
    cases hd : dec x with
    | none => rw [hd] at P; exact P.elim
    | some z =>
      rw [hd] at P
      have P : Pst X.K W X.mg pa σ F G1 H1 ((noExc (mi z) >>= fun ys => (if ys.length ≤ 1000 then compH dec' (me z) ys else bad) >>= fun r1 => compO dec mi dec' me (xs.drop (i + 1)) >>= fun r => cont (accD ++ (r1 ++ r))) s') := by
        simp only [bind_assoc, pure_bind] at P
        exact P
      refine hg G0 H0 G2 H2 (L2.wipe σ vs) s' v x z _ (E2.wipe vs) rv hd fun σ3 E3 hw => ⟨by rw [hw, wipe_wipe], ?_⟩
      unfold tYes
      dsimp only
      rw [if_pos rfl]
      have Q1 := P.bind0 (x1.trans x2)
      refine ⟨z, G0, H0, G2, s', E3, (Pst.noExc Q1).imp fun G3 H3 ys s3 x3 p3 P3 J1 hJ1 => ?_⟩
      have hD3 : H3 D0 = some (.lst accV) := x3.h _ _ hD2 npa
      have gD3 : G3 D0 = none := x3.n _ _ hD2 gD2
      have X3 := (x1.trans x2).trans x3
      have hys : ys.length ≤ 1000 := by
        by_cases h : ys.length ≤ 1000
        · exact h
        · rw [if_neg h] at P3
          exact P3.elim
      rw [if_pos hys] at P3
      let W2 : Nat → Nat → Hp → Prop := fun j k H => k = ys.length - j ∧ j ≤ ys.length ∧ ∃ G accV accD s', Ext X.K pa G1 H1 G H ∧ Same G3 G ∧ PenOk pa G H s' ∧ H D0 = some (.lst accV) ∧ G D0 = none ∧ RpL X.K G accV accD ∧ accD.length ≤ i * 1000 + j ∧
        Pst X.K W X.mg pa σ F G1 H1 ((compH dec' (me z) (ys.drop j) >>= fun r1 => compO dec mi dec' me (xs.drop (i + 1)) >>= fun r => cont (accD ++ (r1 ++ r))) s')
      refine ⟨W2, ⟨ys.length, by simp, Nat.zero_le _, G3, accV, accD, s3, X3, Same.refl _, p3, hD3, gD3, racc.mono (x2.g.trans x3.g), by omega, by simpa using P3⟩, ?_⟩
      rintro j k H ⟨rfl, hj, G4, accV, accD, s4, x4, sg4, p4, hD4, gD4, racc, hacc, P4⟩
      by_cases hlt2 : j < ys.length
      · obtain ⟨y, hy2⟩ : ∃ y, ys[j]? = some y := ⟨_, List.getElem?_eq_getElem hlt2⟩
        obtain ⟨hgo1, hyld1⟩ := (hJ1 G4 H sg4 x4.sub).1 j y hy2
        have hdrop2 : ys.drop j = y :: ys.drop (j + 1) := by
          rw [List.drop_eq_getElem_cons hlt2]
          congr 1
          rw [List.getElem?_eq_getElem hlt2] at hy2
          exact Option.some.inj hy2
        rw [hdrop2] at P4
        refine .inr ⟨hgo1, fun H' => W2 (j + 1) (ys.length - (j + 1)) H', fun H' w => ⟨_, by omega, w⟩, fun v2 H5 hyy => ?_⟩
        obtain ⟨G5, x5', rv2⟩ := hyld1 v2 H5 hyy
        have x5 : Ext X.K pa G4 H G5 H5 := x5'.any
        have hD5 : H5 D0 = some (.lst accV) := x5'.h _ _ hD4 (fun z => by cases z)
        have gD5 : G5 D0 = none := x5.n _ _ hD4 gD4
        have p5 : PenOk pa G5 H5 s4 := p4.ext x5'
        have sg := (x3.g.trans sg4).trans x5.g
        have E5 : Nv X.K pa G0 H0 G5 H5 σ3 (Γz z) s4 := by
          refine ⟨E3.len, fun n d e => ?_, fun n ws e => (calm_own (hno z) e).elim, E3.inj, E3.pen, fun n ns e => ?_, p5, E.ext.trans (x4.trans x5), ⟨fun n sh ws e => (calm_dic (hno z) e).elim, E3.x.inj, fun n sh ws e => ?_, E3.x.t0, x5.gt (x4.gt E.x.nt)⟩⟩
          · obtain ⟨u, u1, u2⟩ := E3.val n d e
            exact ⟨u, u1, u2.mono sg⟩
          · obtain ⟨a, a1, a2⟩ := E3.scr n ns e
            exact ⟨a, a1, sg.seq a2⟩
          · obtain ⟨q, us, q1, q2, q3, q4⟩ := E3.x.ro n sh ws e
            exact ⟨q, us, q1, sg _ _ q2, q3.mono sg, q4⟩
        unfold compH at P4
        cases hd2 : dec' y with
        | none => rw [hd2] at P4; exact P4.elim
        | some z2 =>
          rw [hd2] at P4
          have P4 : Pst X.K W X.mg pa σ F G1 H1 ((noExc (me z z2) >>= fun d => compH dec' (me z) (ys.drop (j + 1)) >>= fun r1 => compO dec mi dec' me (xs.drop (i + 1)) >>= fun r => cont (accD ++ [d] ++ (r1 ++ r))) s4) := by
            simp only [bind_assoc, pure_bind] at P4
            simp only [List.append_assoc, List.singleton_append]
            simpa only [List.cons_append] using P4
          refine hg1 z G0 H0 G5 H5 (L2.wipe σ3 vs1) s4 v2 y z2 _ (E5.wipe vs1) rv2 hd2 fun σ4 E6 hw2 => ⟨by rw [hw2, wipe_wipe], ?_⟩
          rw [if_pos rfl]
          have Q2 := P4.bind0 (x4.trans x5)
          refine ⟨(z, z2), G0, H0, G5, s4, E6, (Pst.noExc Q2).imp fun G6 H6 d s6 x6 p6 P6 => fun w rw6 => ?_⟩
          have hD6 : H6 D0 = some (.lst accV) := x6.h _ _ hD5 npa
          have gD6 : G6 D0 = none := x6.n _ _ hD5 gD5
          have xx := (x4.trans x5).trans x6
          have racc6 := racc.mono (x5.g.trans x6.g)
          have hl : accV.length < sizeLine := by
            rw [racc.1]
            refine lim_lt ?_
            have : i * 1000 ≤ 999 * 1000 := Nat.mul_le_mul_right _ (by omega)
            show _ ≤ 1000000
            omega
          refine ⟨accV, hD6, hl, rfl, hlt2, G6, accV ++ [w], accD ++ [d], s6, ?_, (sg4.trans x5.g).trans x6.g, ?_, upd_same, gD6, racc6.app (.cons rw6 .nil), by simp; omega, P6⟩
          · refine ⟨xx.g, fun a o e np nt => ?_, fun a o e => ?_, xx.n, fun a o e => ?_, fun h => (xx.tk h).updL hD6, xx.gt⟩
            · rw [upd_ne (ne_of_none e nD)]
              exact xx.h a o e np nt
            · rw [upd_ne (ne_of_none e nD)]
              exact xx.t a o e
            · have : a ≠ D0 := ne_of_none e gD6
              rw [upd_ne this]
              exact xx.sub a o e
          · intro q e
            obtain ⟨q1, q2⟩ := p6 q e
            have : q ≠ D0 := fun z => npa (by rw [← z]; exact e)
            rw [upd_ne this]
            exact ⟨q1, q2⟩
      · have e : j = ys.length := by omega
        subst e
        refine .inl ⟨(hJ1 G4 H sg4 x4.sub).2 _ (Nat.le_refl _), rfl, hlt, G4, accV, accD, s4, x4, p4, hD4, gD4, racc, by omega, ?_⟩
        rw [List.drop_length] at P4
        have P4 : Pst X.K W X.mg pa σ F G1 H1 (((pure [] : PM (List D)) >>= fun r1 => compO dec mi dec' me (xs.drop (i + 1)) >>= fun r => cont (accD ++ (r1 ++ r))) s4) := P4
        rw [pure_bind] at P4
        exact P4
  · have e : i = xs.length := by omega
    subst e
    refine .inl ⟨(hJ G H x1.g x1.sub).2 _ (Nat.le_refl _), fin G H accV accD s' x1 p1 hD gD racc ?_⟩
    rw [List.drop_length] at P
    have P : Pst X.K W X.mg pa σ F G1 H1 (((pure [] : PM (List D)) >>= fun r => cont (accD ++ r)) s') := P
    rw [pure_bind, List.append_nil] at P
    exact P
end
section
variable {X : Cx} {W : WX} {pa : Option Addr} {Γ : List Sl} {k : Nat} {pos : Pos} {ι κ : Type}
/-- [elt for tg in iter for tg1 in iter1] -/
theorem ev_lc2 {elt tg iter tg1 iter1 : Expr} {scope : Scope} {own : List (Str × Nat)} {vs1 : List Nat} {dec : D → Option ι} {dec' : D → Option κ} {m0 : PM (List D)} {mi : ι → PM (List D)} {me : ι → κ → PM D} {g g1 : TG} {Γz : ι → List Sl} {Γy : ι → κ → List Sl} (C : Cok X W k) (hi : EI X W pa Γ tg iter m0) (ok : BlkOk X.N X.env.scope scope own)
    (hv : ∀ i ∈ vs1, i ∈ own.map (·.2)) (hg : TgOk X pa dec g (own.map (·.2)) (wipeG Γ (own.map (·.2))) Γz) (hg1 : ∀ z, TgOk X pa dec' g1 vs1 (wipeG (Γz z) vs1) (Γy z)) (hno : ∀ z, calmAll (Γz z) = true)
    (hp : ∀ (s : Shared) (H : Hp) (C : Addr) (cl : List (Str × Addr)) (fp : List Addr), PG (X.blk s H scope (compEnvC scope cl C X.env) fp) tg g)
    (hi1 : ∀ (z : ι) (s : Shared) (H : Hp) (C : Addr) (cl : List (Str × Addr)) (fp : List Addr), EI (X.blk s H scope (compEnvC scope cl C X.env) fp) W0 pa (Γz z) tg1 iter1 (mi z))
    (hp1 : ∀ (s : Shared) (H : Hp) (C : Addr) (cl : List (Str × Addr)) (fp : List Addr), PG (X.blk s H scope (compEnvC scope cl C X.env) fp) tg1 g1)
    (he : ∀ (z : ι) (y : κ) (s : Shared) (H : Hp) (C : Addr) (cl : List (Str × Addr)) (fp : List Addr), EV (X.blk s H scope (compEnvC scope cl C X.env) fp) W0 pa (Γy z y) elt (me z y))
    (hs : ∀ x, foldedSetIterable iter X.env x = pure x := by intro _; rfl) (hs1 : ∀ env x, foldedSetIterable iter1 env x = pure x := by intro _ _; rfl) :
    EV X W pa Γ (.ListComp elt [⟨tg, iter, [], 0⟩, ⟨tg1, iter1, [], 0⟩] scope pos) (m0 >>= fun xs => compL2 dec mi dec' me xs >>= fun r => pure (.lst r)) :=
  pe_imp (pe_lc2 C.calm C.nd hi ok hv hp (fun _ _ _ _ _ => pts_nil) (fun s H C cl fp => pi_ex fun z => hi1 z s H C cl fp) hp1 (fun _ _ _ _ _ => pts_nil) (fun s H C cl fp => pe_ex fun (q : ι × κ) => he q.1 q.2 s H C cl fp) hs hs1) fun σ H Q ⟨G0, H0, G, s, E, P⟩ =>
    ⟨G0, H0, G, s, E, P.bind.imp fun G1 H1 xs s1 x1 p1 P1 J hJ D0 nD => lc2Core hg hg1 hno (E.step x1 p1) hJ nD P1 fun G H accV accD s' x p hD gD r P => lc_pub nD x1.sub p1 G H accV accD s' x p hD gD r P⟩
end
section
variable {X : Cx} {W : WX} {pa : Option Addr} {Γ : List Sl} {k : Nat} {pos : Pos} {α : Type} {out : α → Out} {rest : List Stmt}
/-- x, y = {}, e, plain locals, x keyed by ints -/
theorem sv_parDicK (i j : Nat) {y z : Str} {a : Expr} {px py pt dp : Pos} {kt k2 pt2} {me : PM D} {kk : D → PM α} (hc : X.calm = true) (hN : X.N.Nodup) (ha : EV X W pa Γ a me) (hij : i ≠ j)
    (hr : ∀ u, SV X W pa ((Γ.set j (.val u)).set i (dicK [])) out rest (kk u)) (hi : X.N[i]? = some y := by rfl) (hj : X.N[j]? = some z := by rfl)
    (hx : X.env.scope.names.lookup y = some .local := by rfl) (hy : X.env.scope.names.lookup z = some .local := by rfl)
    (hw : swappedStores [.Tuple [.Name y px, .Name z py] kt pt] (.Tuple [.Dict [] [] dp, a] k2 pt2) X.env = pure (some [y, z]) := by rfl)
    (hs : swapsWithSole [.Tuple [.Name y px, .Name z py] kt pt] (.Tuple [.Dict [] [] dp, a] k2 pt2) pos.line X.env = pure false := by rfl)
    (h1 : starEach [.Dict [] [] dp, a] X.env = (false, eval (.Dict [] [] dp) X.env) :: starEach [a] X.env := by rfl)
    (h2 : starEach [a] X.env = (false, eval a X.env) :: starEach [] X.env := by rfl) :
    SV X W pa Γ out (.Assign [.Tuple [.Name y px, .Name z py] kt pt] (.Tuple [.Dict [] [] dp, a] k2 pt2) pos :: rest) (me >>= kk) := by
  unfold SV
  rw [bind_assoc]
  refine pss_imp (pss_cons (ps_par (i := i) (j := j) hc hN hi hj hij hx hy (pa_cons pe_dnewK (pa_cons ha pa_nil h2) h1) hw hs) (pss_ex hr)) fun Dn σ H ⟨G0, H0, G, s, E, P⟩ p np => ?_
  have x := Ext.newH (K := X.K) (pa := pa) E.sub np (.dK [])
  have E1 := E.step (s' := s) x (E.ps.updH np _)
  have h0 : H0 p = none := by
    cases q : H0 p with
    | none => rfl
    | some o =>
      obtain ⟨o', q'⟩ := E.ext.t p o q
      rw [np] at q'
      cases q'
  refine ⟨G0, H0, G, s, E1, ((P.bind E).mono x).imp fun G2 H2 d s2 x2 p2 P2 v r => ?_⟩
  have E2 := E1.step x2 p2
  have hpa : pa ≠ some p := fun e => by
    have := (E.ps p e).2
    rw [np] at this
    cases this
  have hp2 : H2 p = some (.dK []) := x2.h _ _ upd_same hpa
  have gp2 : G2 p = none := x2.n _ _ upd_same (E.sub.free np)
  have old : ∀ (l : Nat) sh' ys, Γ[l]? = some (.dic sh' ys) → σ[l]? ≠ some (some (.ref p)) := fun l sh' ys e q => by
    obtain ⟨p', vs', f1, f2, _⟩ := E.x.dic l sh' ys e
    rw [q] at f1
    cases f1
    rw [np] at f2
    cases f2
  have E3 := (E2.set j r).setDic (sh := .k []) (vs := []) (xs := []) i hp2 gp2 .nil rfl h0 (fun l sh' ys nl e q => by
    by_cases hl : j = l
    · subst hl
      have hlt := (List.getElem?_eq_some_iff.mp e).1
      rw [List.getElem?_set_self (by simpa using hlt)] at e
      cases e
    · rw [List.getElem?_set_ne hl] at e q
      exact old l sh' ys e q)
  refine ⟨.ref p, v, rfl, d, G0, H0, G2, s2, ?_, P2⟩
  rw [List.set_comm _ _ hij]
  exact E3
end
end EV

/-! EV 38: index of a tuple. -/
namespace EV
open PySem PySem.Spec PyProof.Rows L2
section
variable {X : Cx} {k : Nat}
/-- t.index(x): the first place of an equal one -/
def rIndexT (K : PySem.W.Frag) : V → List V → Hp → VK → Prop := fun x xs H Q => ∃ (a : Addr) (y : V) (d : PyData) (ds : List PyData) (j : Nat) (z : PyData), x = V.ref a ∧ xs = [y] ∧ Dp K H (V.ref a) (.tuple ds) ∧ Dp K H y d ∧
  SeqAt.shaped (.tuple ds) = true ∧ SeqAt.shaped d = true ∧ ds[j]? = some z ∧ PyData.eqv z d = true ∧ (∀ (m : Nat) (z' : PyData), m < j → ds[m]? = some z' → PyData.eqv z' d = false) ∧ Q (.int (j : Nat)) H
theorem mt_indexT (hu : X.A.units + 65 < cLine) : MtR X "tuple.index" (rIndexT X.K) := by
  intro pins s σ H x xs v us Q I rx rxs h
  obtain ⟨a, y, d, ds, j, z, rfl, rfl, hl, hy, sl, sd, hz, hzj, hno, q⟩ := h
  cases rx
  cases rxs with
  | cons ry rt =>
    rename_i uy ut
    cases rt
    obtain ⟨bs, r1⟩ := Dp.reads I d y uy hy ry
    have hxs : PyData.canLayAll0 ds = true := SeqAt.canLay_of_shaped sl
    have hroom : X.A.units + 1 + min (PyData.depthAll ds) d.depth < cLine := room_in_shaped sd hu
    cases hl with
    | tup hs ha =>
      obtain ⟨its, rv, ⟨⟨cls, dd, data, sls⟩, ho, hc, n, hdt⟩, hlen⟩ := I.tuple hs
      simp only at hc hdt
      subst hc hdt
      obtain ⟨as, h4⟩ := Dp.readsAll I ds _ its ha rv
      have hn : its.length = ds.length := SeqAt.ReadsAll.length ds its as h4
      have hmap : its.map (SeqAt.readOf s.heap) = ds := SeqAt.readsAll_map ds its as hxs h4
      obtain ⟨hjd, _⟩ := List.getElem?_eq_some_iff.mp hz
      have hjl : j < its.length := by omega
      have hj : j < its.toArray.size := by simpa using hjl
      have at_ : ∀ (m : Nat) (hm : m < its.toArray.size) (z' : PyData), ds[m]? = some z' → SeqAt.readOf s.heap its.toArray[m] = z' := by
        intro m hm z' hz'
        have hml : m < its.length := by simpa using hm
        rw [← hmap, List.getElem?_map, List.getElem?_eq_getElem hml] at hz'
        have e1 : SeqAt.readOf s.heap its[m] = z' := Option.some.inj (show some (SeqAt.readOf s.heap its[m]) = some z' from hz')
        simpa using e1
      refine call_meets PySem.F.slot_tuple_index ⟨_, ho, rfl⟩ PySem.F.entry_tuple_index (PySem.F.args_tuple_index_2 _ _)
        (TI.tuple_indexAt a its.toArray n dd sls uy (fun u => PyData.eqv (SeqAt.readOf s.heap u) d) j hj ?_ ?_) ⟨ho, SeqAt.items_eqAt (vs := its.toArray) (show ReadsAll s.heap its.toArray.toList ds as from h4) r1 hxs (SeqAt.canLay_of_shaped sd) hroom, ?_⟩
      · show PyData.eqv (SeqAt.readOf s.heap its.toArray[j]) d = true
        rw [at_ j hj z hz]
        exact hzj
      · intro m hm hmj
        have hmd : m < ds.length := by omega
        have hz' : ds[m]? = some ds[m] := List.getElem?_eq_getElem hmd
        show PyData.eqv (SeqAt.readOf s.heap its.toArray[m]) d = false
        rw [at_ m hm _ hz']
        exact hno m _ hmj hz'
      · exact ⟨.int (j : Nat), H, I.tok _, ⟨_, rfl⟩, q⟩
end
def indexT (xs : List D) (y : D) : PM D := if shp (.tup xs) = true ∧ shp y = true then (match xs.findIdx? fun z => eqvD z y with | some j => pure (.int (j : Nat)) | none => bad) else bad
/-- tuple(e), e a list: the object is known -/
theorem call_tuple_frz {X : Cx} : CallR X (.type "tuple") (fun xs H Q => ∃ p ys, xs = [.ref p] ∧ SqL X.K H p ys ∧ ∀ l (o : TupO), H l = none → Q (.ref l) (upd H l (.frz o.ob (.tup ys)))) := by
  intro pins s σ H xs us Q I r h
  obtain ⟨p, ys, rfl, hq, q⟩ := h
  obtain ⟨u, rfl, rx⟩ := vals1 r
  cases rx
  obtain ⟨its, r', pl, hz⟩ := I.list hq
  have hlen := r'.length
  have hn := line63
  refine call_tuple_list pl.isList (fun h' kp => ?_) (by simp only [List.size_toArray] <;> omega)
  have I1 : Inv X pins σ H { s with heap := h' } := I.kept (t' := s.toks) kp
  have I2 : Inv X pins σ (upd H h'.objs.size (.frz { cls := .type "tuple", data := .seq its.toArray } (.tup ys))) { s with heap := h'.push { cls := .type "tuple", data := .seq its.toArray } } :=
    I1.laid (t' := s.toks) (fun b o e => Heap.get?_push_of_some _ e) (Nat.le_refl _) (show ObjOk X.prog X.w _ _ _ (.frz _ (.tup ys)) from ⟨Heap.get?_push_size _ rfl, hz, its, r', IsTup.new _ _⟩)
  exact ⟨.ref h'.objs.size, _, I2, rfl, q _ ⟨_, rfl, rfl⟩ (I1.hok.fresh (Nat.le_refl _))⟩
/-- the call of a method of a tuple whose object is known -/
def tBMT (r : V → List V → Hp → VK → Prop) (to : TE) (t : TA) : TE := fun σ H Q => to σ H fun x H1 => (∃ (p : Addr) (o : TupO) (u : HO), x = .ref p ∧ H1 p = some (.frz o.ob u)) ∧ t σ H1 fun xs H2 => r x xs H2 Q
theorem pe_bmT {X : Cx} {o e : Expr} {es : List Expr} {to : TE} {t : TA} {name : Str} {apos cpos : Pos} {id : String} {r : V → List V → Hp → VK → Prop} (slot : Slot "tuple" name id) (hty : typeOf (.builtin id) = pure (.type "method_descriptor")) (hm : MtR X id r) (ho : PE X o to) (ha : PA X (e :: es) t)
    (hbase : attributeBase o name X.env (eval o X.env) = eval o X.env := by rfl)
    (hfew : ((backTo cpos (starEach (e :: es) X.env)).all (fun x => !x.1) && (backToKw cpos (keywordEach [] X.env)).all (fun x => x.1.isSome)
      && decide ((e :: es).length + ([] : List Keyword).length + (if ([] : List Keyword).isEmpty then 0 else 1) < 30)) = true := by rfl)
    (hline : (apos.endLine == cpos.line) = true := by rfl) (hs : starEach (e :: es) X.env = (false, eval e X.env) :: starEach es X.env := by rfl) (hplain : (backTo cpos (starEach es X.env)).any (·.1) = false := by rfl) :
    PE X (.Call (.Attribute o name apos) (e :: es) [] cpos) (tBMT r to t) := by
  refine ⟨fun pins s σ H Q I h => ?_⟩
  refine wpAny_Call_method_late hbase hfew hline rfl (thn (ho.run pins s σ H _ I h) fun v s1 ⟨x, H1, I1, r1, ty, q1⟩ => ?_)
  obtain ⟨p, ob, u, rfl, hp⟩ := ty
  cases r1
  obtain ⟨e1, _⟩ := I1.hok p _ hp
  have h1 : s1.TypeIs (.ref p) "tuple" := ⟨_, e1, ob.cls⟩
  have h2 : ∀ a, Value.ref p = .ref a → ∃ ob, s1.heap.get? a = some ob ∧ ob.dict = none := fun a z => by
    cases z
    exact ⟨_, e1, ob.dict⟩
  refine ⟨"tuple", id, PySem.F.plainAttrs_tuple, slot, hty, h1, h2, ?_⟩
  have hA := ha.run cpos pins s1 σ H1 _ I1 q1
  rw [hs] at hA ⊢
  refine Calls.callWith_builtin (by show (false || (backTo cpos (starEach es X.env)).any (·.1)) = false; rw [hplain] <;> rfl) (Calls.evalArgs_plain ?_)
  exact thn hA fun us s2 ⟨vs, H2, I2, r2, q2⟩ => hm pins s2 σ H2 (.ref p) vs (.ref p) us Q I2 rfl r2 q2
def roTn (o : TupO) (xs : List D) : Sl := .ro (.tn (fun _ => o) xs.length) xs
def spT (K : PySem.W.Frag) (mg : Str → Option Value) (n : Nat) (f : List D → PM (List D)) : Sp := fun vs H Q E => ∃ (G : Hp) (ds : List D), (Same G H ∧ TabK K H ∧ NoT G) ∧ RpL K G vs ds ∧ ds.length = n ∧
  Pst K (fun cls dx _ H' => E cls dx H') mg none [] (fun G' H' xs _ => ∀ p (o : TupO) us, G' p = some (.frz o.ob (.tup us)) → RpL K G' us xs → Q (.ref p) H') G H (f ds [])
def tfn2 (g : D → D → PM (List D)) : List D → PM (List D)
  | [a, b] => g a b
  | _ => bad
theorem tar2 {g} : ∀ ds s, ds.length ≠ 2 → tfn2 g ds s = .bad := fun ds s h => by
  match ds, h with
  | [_, _], h => exact absurd rfl h
  | [], _ => rfl
  | [_], _ => rfl
  | _ :: _ :: _ :: _, _ => rfl
def asTu (d : D) : PM (List D) := lstOf d >>= fun xs => okLen xs >>= fun _ => pure xs
section
variable {P : Program} {w : World} {K : PySem.W.Frag} {mg : Str → Option Value} {base : Heap} {k : Nat} {x qual : Str} {st : Stmt} {f : Addr} {fd : FuncData} {N ps : List Str} {n : Nat}
theorem fn_tu {F : List D → PM (List D)} {e : Expr} {p p2 cpos : Pos} (FU : Fun K x qual st f fd) (S : FnScope N ps (defScope st)) (hps : ps.length = n) (hst : defBody st = [.Return (some (.Call (.Name "tuple" p) [e] [] cpos)) p2])
    (hm : mg "tuple" = none)
    (hb : ∀ (cdv : Value) (A : Around) (outer : List PySem.Env) (s : Shared) (H : Hp) (E : XK), Cok (cxOf (L2.CX P w) P w K mg base N qual (defScope st) f cdv A outer s H E) (fun cls d _ H => E cls d H) k → ∀ ds : List D, ds.length = n →
      ∃ m, EV (cxOf (L2.CX P w) P w K mg base N qual (defScope st) f cdv A outer s H E) (fun cls d _ H => E cls d H) none (slots0 N ds) e m ∧ F ds = (m >>= asTu) ∧
        Gl (cxOf (L2.CX P w) P w K mg base N qual (defScope st) f cdv A outer s H E) "tuple" ∧ starEach [e] (cxOf (L2.CX P w) P w K mg base N qual (defScope st) f cdv A outer s H E).env = (false, eval e (cxOf (L2.CX P w) P w K mg base N qual (defScope st) f cdv A outer s H E).env) :: starEach [] (cxOf (L2.CX P w) P w K mg base N qual (defScope st) f cdv A outer s H E).env ∧
        (backTo cpos (starEach [] (cxOf (L2.CX P w) P w K mg base N qual (defScope st) f cdv A outer s H E).env)).any (·.1) = false) :
    FnG P w K mg base (k + 1) f fd ps (spT K mg n F) := by
  refine fnG_of FU S (fun vs H Q E h => ?_) fun cdv _ A outer s H vs Q E hg hr h => ?_
  · obtain ⟨G, ds, _, r, hn, _⟩ := h
    rw [r.1, hn, hps]
  · obtain ⟨G, ds, hs, r, hn, hP⟩ := h
    obtain ⟨m, el, e, hgl, ha, hpl⟩ := hb cdv A outer s H E (cok_fn S.nd hg hr) ds hn
    rw [e] at hP
    rw [hst]
    refine ⟨_, pss_one (ps_ret (pe_callTy call_tuple_frz hgl hm (by decide +kernel) (pa_cons el pa_nil ha) (by decide) (by decide) ha hpl)), G, H, G, [], nv_start0 hs r (by rw [r.1, hn, ← hps]; exact scope_le S), ?_⟩
    have hP : Pst K (fun cls d _ H => E cls d H) mg none (L2.start N vs) (fun G' H' xs _ => ∀ p (o : TupO) us, G' p = some (.frz o.ob (.tup us)) → RpL K G' us xs → Q (.ref p) H') G H ((m >>= asTu) []) := by
      cases q : (m >>= asTu) [] with
      | ok a s => rw [q] at hP; exact hP
      | exc z => rw [q] at hP; exact hP
      | bad => rw [q] at hP; exact hP.elim
    refine hP.bind.imp fun G1 H1 d s1 x1 p1 P1 v r1 => ?_
    unfold asTu at P1
    cases r1 with
    | @lst a vs1 xs h n1 rr =>
      have P1 : Pst K (fun cls d _ H => E cls d H) mg none (L2.start N vs) (fun G' H' xs _ => ∀ p (o : TupO) us, G' p = some (.frz o.ob (.tup us)) → RpL K G' us xs → Q (.ref p) H') G1 H1 ((okLen xs >>= fun _ => pure xs : PM (List D)) s1) := P1
      by_cases hl : xs.length ≤ lim
      · rw [okLen_ok hl, pure_bind] at P1
        refine ⟨_, _, rfl, SqL.of (x1.sub _ _ h), fun q o np => ?_⟩
        have x := Ext.new (K := K) (pa := none) x1.sub np (.frz o.ob (.tup vs1))
        exact P1 _ _ x PenOk.none q o vs1 upd_same (RpL.mono x.g ⟨n1, rr⟩)
      · unfold okLen at P1
        rw [if_neg hl] at P1
        exact P1.elim
    | _ => exact P1.elim
end
theorem mk_tu {P : Program} {w : World} {K : PySem.W.Frag} {mg : Str → Option Value} {base : Heap} {k : Nat} {x : Str} {st : Stmt} {N ps : List Str} {n : Nat} {F : List D → PM (List D)} {e : Expr} {p p2 cpos : Pos} (FA : FunAt K mg x st) (S : FnScope N ps (defScope st)) (hps : ps.length = n)
    (hbd : ∀ (kV doc pm : Value) (an : Option Addr) (cdv ct : Value) (us : List Value), us.length = ps.length → bindArgs (PySem.W.fnOf x x (defArgs st) (defBody st) (defScope st) .none kV doc pm an cdv ct) ⟨us, []⟩ = pure (ps.zip us)) (hst : defBody st = [.Return (some (.Call (.Name "tuple" p) [e] [] cpos)) p2])
    (hm : mg "tuple" = none)
    (hb : ∀ (f : Addr) (cdv : Value) (A : Around) (outer : List PySem.Env) (s : Shared) (H : Hp) (E : XK), Cok (cxOf (L2.CX P w) P w K mg base N x (defScope st) f cdv A outer s H E) (fun cls d _ H => E cls d H) k → ∀ ds : List D, ds.length = n →
      ∃ m, EV (cxOf (L2.CX P w) P w K mg base N x (defScope st) f cdv A outer s H E) (fun cls d _ H => E cls d H) none (slots0 N ds) e m ∧ F ds = (m >>= asTu) ∧
        Gl (cxOf (L2.CX P w) P w K mg base N x (defScope st) f cdv A outer s H E) "tuple" ∧ starEach [e] (cxOf (L2.CX P w) P w K mg base N x (defScope st) f cdv A outer s H E).env = (false, eval e (cxOf (L2.CX P w) P w K mg base N x (defScope st) f cdv A outer s H E).env) :: starEach [] (cxOf (L2.CX P w) P w K mg base N x (defScope st) f cdv A outer s H E).env ∧
        (backTo cpos (starEach [] (cxOf (L2.CX P w) P w K mg base N x (defScope st) f cdv A outer s H E).env)).any (·.1) = false) :
    Cal P w K mg base (k + 1) x ps (spT K mg n F) := by
  obtain ⟨f, fd, FU, hm'⟩ := FA.ex
  exact ⟨f, fd, fn_tu FU S hps hst hm (hb f), hm', FU.kp, FU.binds hbd⟩
section
variable {X : Cx} {W : WX} {pa : Option Addr} {Γ : List Sl} {k : Nat} {pos : Pos} {α : Type} {out : α → Out} {rest : List Stmt}
/-- x = f(..), the tuple is made there -/
theorem sv_setTn (i : Nat) {F : List D → PM (List D)} {x y : Str} {p p0 : Pos} {e : Expr} {es : List Expr} {ml : PM (List D)} {kk : List D → PM α} {j n : Nat} {ps : List Str} (C : Cok X W k) (FC : Cal X.prog X.w X.K X.mg X.base j x ps (spT X.K X.mg n F)) (ar : ∀ ds s, ds.length ≠ n → F ds s = .bad)
    (ha : EL X W pa Γ (e :: es) ml) (hr : ∀ o xs, SV X W pa (Γ.set i (roTn o xs)) out rest (kk xs))
    (hj : j ≤ k := by decide) (hg : Gl X x := by rfl) (hi : X.N[i]? = some y := by rfl) (hx : Loc X.env.scope y := by first | exact Or.inl rfl | exact Or.inr rfl) (hdb : (x == ("__debug__" : Str)) = false := by decide) (he : starEach (e :: es) X.env = (false, eval e X.env) :: starEach es X.env := by rfl) (hpl : (backTo pos (starEach es X.env)).any (·.1) = false := by rfl)
    {spos : Pos} (hs : swapsWith (.Call (.Name x p) (e :: es) [] pos) (some (.Name y p0)) spos.line X.env = pure false := by rfl) (hf : X.fn y = true ∨ X.env.scope.names.lookup y = some .local := by first | exact .inl rfl | exact .inr rfl) :
    SV X W pa Γ out (.Assign [.Name y p0] (.Call (.Name x p) (e :: es) [] pos) spos :: rest) (ml >>= fun ds => run0 (F ds) >>= kk) := by
  obtain ⟨f, fd, h1, h2, h3, h4⟩ := FC.ex
  unfold SV
  rw [bind_assoc]
  refine pss_imp (pss_cons (ps_set (i := i) C.nd hi hx (pe_callG C (h1.mono hj) hg h2 h3 h4 ha hdb he hpl) hs hf) (pss_ex fun o => pss_ex (hr o))) fun Dn σ H ⟨G0, H0, G, s, E, P⟩ => ⟨G0, H0, G, s, E, (P.bind E).imp fun G1 H1 ds s1 x1 p1 P1 vs r => ?_⟩
  have E1 := E.step x1 p1
  rw [bind_assoc, PM.bind_def] at P1
  unfold run0 at P1
  have hlen : ds.length = n := by
    by_cases h : ds.length = n
    · exact h
    · rw [ar ds [] h] at P1
      exact P1.elim
  refine ⟨G1, ds, ⟨x1.sub, x1.tk E.tk, x1.gt E.x.nt⟩, r, hlen, ?_⟩
  cases q : F ds [] with
  | exc z =>
    rw [q] at P1
    exact fun cls dx G' H' y q' => P1 cls dx σ G' H' (E1.ext.trans y.any) q'
  | bad => rw [q] at P1; exact P1.elim
  | ok xs s2 =>
    rw [q] at P1
    have P1 : SPost X.K W X.mg pa G0 H0 Dn ((kk xs >>= fun a => pure (out a)) s1) := P1
    intro G' H' y yp p' o us gp' ru
    have E2 := E1.step (s' := s1) y.any (p1.ext y)
    exact ⟨o, xs, G0, H0, G', s1, E2.setRo (sh := .tn (fun _ => o) xs.length) i gp' ru rfl, P1⟩
theorem ev_varTn (i : Nat) {x : Str} {o : TupO} {xs : List D} {p : Pos} (hΓ : Γ[i]? = some (roTn o xs)) (hN : X.N[i]? = some x := by rfl) (hv : Vis X.env.scope x := by first | exact Or.inl rfl | exact Or.inr (Or.inl rfl) | exact Or.inr (Or.inr rfl)) (hd : (x == ("__debug__" : Str)) = false := by decide) (hcd : (x == ("__classdict__" : Str)) = false := by decide) :
    EV X W pa Γ (.Name x p) (pure (.tup xs)) := pe_imp (pe_var hN hv hd hcd) fun σ H Q ⟨G0, H0, G, s, E, P⟩ => by
  obtain ⟨b, ws, b1, b2, b3, b4⟩ := E.x.ro i _ _ hΓ
  exact ⟨.ref b, b1, P.now E.sub E.ps _ (.mkT (.inl (.inr ⟨_, b2⟩)) b3)⟩
theorem dp_tup {K : PySem.W.Frag} {H : Hp} {a : Addr} {vs : List V} {ds : List D} (h : SqT K H a vs) (r : RpL K H vs ds) (hs : shp (.tup ds) = true) : Dp K H (.ref a) (.tuple (ds.map toPy)) := by
  have z := (Rp.mkT h r).dpS hs
  simp only [toPy, toPyL_map] at z
  exact z
theorem shp_tup {ds : List D} (h : shp (.tup ds) = true) : SeqAt.shaped (.tuple (ds.map toPy)) = true := by
  unfold shp at h
  simp only [toPy, toPyL_map] at h
  exact h
/-- x.index(e), x a tuple whose object is known -/
theorem ev_idxTn (i : Nat) {x : Str} {o : TupO} {xs : List D} {e : Expr} {me : PM D} {p1 apos cpos : Pos} (C : Cok X W k) (hΓ : Γ[i]? = some (roTn o xs)) (he : EV X W pa Γ e me)
    (hN : X.N[i]? = some x := by rfl) (hv : Vis X.env.scope x := by first | exact Or.inl rfl | exact Or.inr (Or.inl rfl) | exact Or.inr (Or.inr rfl)) (hd : (x == ("__debug__" : Str)) = false := by decide) (hcd : (x == ("__classdict__" : Str)) = false := by decide)
    (hbase : attributeBase (.Name x p1) "index" X.env (eval (.Name x p1) X.env) = eval (.Name x p1) X.env := by rfl)
    (hfew : ((backTo cpos (starEach [e] X.env)).all (fun x => !x.1) && (backToKw cpos (keywordEach [] X.env)).all (fun x => x.1.isSome)
      && decide ([e].length + ([] : List Keyword).length + (if ([] : List Keyword).isEmpty then 0 else 1) < 30)) = true := by rfl)
    (hline : (apos.endLine == cpos.line) = true := by rfl) (hs : starEach [e] X.env = (false, eval e X.env) :: starEach [] X.env := by rfl) (hplain : (backTo cpos (starEach [] X.env)).any (·.1) = false := by rfl) :
    EV X W pa Γ (.Call (.Attribute (.Name x p1) "index" apos) [e] [] cpos) (me >>= fun y => indexT xs y) :=
  pe_imp (pe_bmT PySem.F.slot_tuple_index PySem.F.type_tuple_index (mt_indexT (room65 C.room)) (pe_var hN hv hd hcd) (pa_cons he pa_nil hs) hbase hfew hline hs hplain) fun σ H Q ⟨G0, H0, G, s, E, P⟩ => by
    obtain ⟨b, ws, b1, b2, b3, b4⟩ := E.x.ro i _ _ hΓ
    have b2 : G b = some (.frz o.ob (.tup ws)) := b2
    refine ⟨.ref b, b1, ⟨b, o, _, rfl, E.sub _ _ b2⟩, G0, H0, G, s, E, P.bind.imp fun G1 H1 y s1 x1 p1 P1 w rw => ?_⟩
    have hb : SqT X.K G1 b ws := .inl (.inr ⟨_, x1.g _ _ b2⟩)
    have hbH : SqT X.K H1 b ws := .inl (.inr ⟨_, x1.sub _ _ (x1.g _ _ b2)⟩)
    unfold indexT at P1
    by_cases hc : shp (.tup xs) = true ∧ shp y = true
    · rw [if_pos hc] at P1
      cases e : xs.findIdx? fun z => eqvD z y with
      | none => rw [e] at P1; exact P1.elim
      | some j =>
        rw [e] at P1
        obtain ⟨hj, h1, h2⟩ := List.findIdx?_eq_some_iff_getElem.mp e
        refine ⟨b, w, toPy y, xs.map toPy, j, toPy xs[j], rfl, rfl, dp_tup hbH ((RpL.mono x1.g b3).mono x1.sub) hc.1, (rw.mono x1.sub).dpS hc.2, shp_tup hc.1, hc.2, by rw [List.getElem?_map, List.getElem?_eq_getElem hj]; rfl, h1, fun m z' hm hz => ?_, P1.now x1.sub p1 _ (.int _)⟩
        rw [List.getElem?_map, List.getElem?_eq_getElem (by omega)] at hz
        have hz := Option.some.inj hz
        subst hz
        have := h2 m hm
        simpa [eqvD] using this
    · rw [if_neg hc] at P1
      exact P1.elim
end
/-! a list times an int -/
def mulL : D → D → PM D
  | .lst xs, .int k => if -(2 ^ 63) ≤ k ∧ k < 2 ^ 63 ∧ xs.length * k.toNat ≤ lim then mkL (repD k xs) else bad
  | _, _ => bad
theorem od_mulL {X : Cx} : OpD X (binaryOp .Mult) mulL := by
  refine ⟨_, op_rep, fun W pa σ G H s x y a b Q hs hp ra rb P => ?_⟩
  cases ra with
  | @lst l vs ds h n rr =>
    cases rb with
    | int k =>
      have P : Pst X.K W X.mg pa σ (FD X.K Q) G H ((if -(2 ^ 63) ≤ k ∧ k < 2 ^ 63 ∧ ds.length * k.toNat ≤ lim then mkL (repD k ds) else bad : PM D) s) := P
      by_cases hc : -(2 ^ 63) ≤ k ∧ k < 2 ^ 63 ∧ ds.length * k.toNat ≤ lim
      · rw [if_pos hc] at P
        exact ⟨l, k, vs, rfl, rfl, hs _ _ h, hc.1, hc.2.1, by rw [n]; exact lim_le hc.2.2, fun p np => mkL_use P (rep_rp ⟨n, rr⟩ _) hs hp np⟩
      · rw [if_neg hc] at P
        exact P.elim
    | _ => exact P.elim
  | _ => exact P.elim
end EV

/-! EV 39: raise X("..") of an own exception class. -/
namespace EV
open PySem PySem.Spec PyProof.Rows L2
/-- the module's x is an own exception class below ValueError, without an own __init__ -/
structure ErrC (K : PySem.W.Frag) (mg : Str → Option Value) (x : Str) : Prop where
  ex : ∃ C : Addr, mg x = some (.ref C) ∧ PySem.W.excIn K C [.type "ValueError", .type "Exception", .type "BaseException", .type "object"] "ValueError.__new__" = true ∧ PySem.W.keepIn K (.ref C) = true ∧
    PySem.W.subIn K (.ref C) (.type "BaseException") = some true ∧ PySem.W.typeIn K (.ref C) = some (.type "type")
theorem nf_raise {α : Type} {out : α → Out} {e : Ex} : NF out (raiseP e : PM α) := fun a s s' Γ' q => by cases q
section
variable {X : Cx} {W : WX} {pa : Option Addr} {Γ : List Sl} {k : Nat} {pos : Pos} {α : Type} {out : α → Out} {rest : List Stmt}
/-- raise X("..") -/
theorem sv_raise {x m : Str} {j : Nat} {p p2 p3 : Pos} (C : Cok X W k) (E : ErrC X.K X.mg x) (hg : Gl X x := by rfl) (hdb : (x == ("__debug__" : Str)) = false := by decide) :
    SV X W pa Γ out (.Raise (some (.Call (.Name x p) [.Constant (.str m) j p2] [] p3)) none pos :: rest) (raiseP ⟨x, []⟩) := by
  obtain ⟨c, h1, h2, h3, h4, h5⟩ := E.ex
  refine pss_imp (pss_cons (ps_raise C.calm C.takes (pmk_own PySem.F.excBase_ValueError h2 h1 h3 (raises_own h4 h5) hg hdb)) pss_never) fun Dn σ H ⟨G0, H0, G, s, N, P⟩ => ?_
  have P : ∀ cls dx σ' G' H', Ext X.K pa G0 H0 G' H' → ExcIs X.K X.mg G' H' ⟨x, []⟩ cls dx → W cls dx σ' H' := P
  exact P (.ref c) none σ G H N.ext ⟨h1, fun _ => rfl, fun z => absurd rfl z⟩
end
end EV

set_option maxHeartbeats 2000000
/-! EV 40: a def called within an except suite that raises nothing; isinstance of the handled exception. -/
namespace EV
open PySem PySem.Spec PyProof.Rows L2
/-- what such a def promises; p is the handled exception -/
structure FnQ (P : Program) (w : World) (K : PySem.W.Frag) (mg : Str → Option Value) (base : Heap) (k : Nat) (f : Addr) (fd : FuncData) (ps : List Str) (sp : Addr × Obj → List V → Hp → VK → Prop) : Prop where
  len : ∀ p vs H Q, sp p vs H Q → vs.length = ps.length
  run : ∀ (A : Around) (outer : List Env) (s : Shared) (H : Hp) (args : Args) (us : List Value) (vs : List V) (Q : VK) (p : Addr × Obj), L2H.RoomH k A → L2H.PinOk outer H s p → Env0 P w K mg base A outer s H → BindsTo s fd args (ps.zip us) → Vals vs us → sp p vs H Q →
    codeAny (model P w) A (.call (.ref f) args) (CR (L2.CX P w) outer P w H s Q fun _ _ _ => False) s
section
variable {P : Program} {w : World} {K : PySem.W.Frag} {mg : Str → Option Value} {base : Heap} {k : Nat} {f : Addr} {x qual : Str} {st : Stmt} {fd : FuncData} {N ps : List Str} {sp : Addr × Obj → List V → Hp → VK → Prop}
abbrev cxQ (P : Program) (w : World) (K : PySem.W.Frag) (mg : Str → Option Value) (base : Heap) (N : List Str) (qual : Str) (scope : Scope) (f : Addr) (cd : Value) (A : Around) (outer : List Env) (s : Shared) (H : Hp) (p : Addr × Obj) : Cx :=
  L2H.cxH (L2.CX P w) P w K mg base N qual scope f cd A outer s H (fun _ _ _ => False) p
theorem fn_q (FU : Fun K x qual st f fd) (S : FnScope N ps (defScope st)) (len : ∀ p vs H Q, sp p vs H Q → vs.length = ps.length)
    (hbody : ∀ (cdv : Value) (A : Around) (outer : List Env) (s : Shared) (H : Hp) (vs : List V) (Q : VK) (p : Addr × Obj), L2H.RoomH k (A.deeper (envOfC qual (defScope st) s.heap.objs.size f cdv)) → sp p vs H Q →
      ∃ t, PSs (cxQ P w K mg base N qual (defScope st) f cdv A outer s H p) (defBody st) t ∧ t { nx := fun _ H' => Q .non H', rt := Q } (L2.start N vs) H) :
    FnQ P w K mg base (k + 1) f fd ps sp := by
  obtain ⟨oc, od, kV, doc, pm, an, cdv, ct, osl, rfl, lk, hcd⟩ := FU.ex
  refine ⟨len, fun A outer s H args us vs Q p hr hpin e0 hb r hsp => ?_⟩
  have hl := len _ _ _ _ hsp
  have KX : K.In s.heap := e0.mod.kin.keeps fun b o e => (e0.bs b o e).1
  have lim : s.heap.NoLimit := e0.mod.nolimit.keeps fun b o e => (e0.bs b o e).1
  have hkind : ∀ y ∈ ps.zip us, (defScope st).names.lookup y.1 = some .local ∨ ((defScope st).names.lookup y.1 = some .cell ∧ ((cellsFrom (s.heap.objs.size + 1) (defScope st).names []).lookup y.1).isSome = true) := fun ⟨n, v⟩ hy =>
    (S.par n (List.of_mem_zip hy).1).imp id fun q => ⟨q, PySem.W.cellsFrom_some _ _ _ (.inl q)⟩
  refine codeAny_call_function hr.depth (KX _ _ lk) rfl S.co S.gen rfl (PySem.W.codeRec_of KX hcd) (hb _ _ _ _ (wpAny_newFunctionEnv_cells S.kind hkind fun env he s1 z => ?_))
  subst he
  refine ⟨lim.keeps z.toInCall.keep, codeAny_func ?_⟩
  obtain ⟨t, ht, hq⟩ := hbody cdv A outer s H vs Q p (hr.deeper _) hsp
  refine wpAny_mono (ht.run [] s1 (L2.start N vs) H _ (L2H.inv_startH S hpin e0 hl r z) hq) (fun fl s' hs => ?_) fun _ _ hs => hs
  cases fl with
  | ret u =>
    obtain ⟨v, σ', H', J, rv, q⟩ := hs
    exact ⟨v, H', J.os, J.bare, J.base, J.hok, rv, q⟩
  | next =>
    obtain ⟨σ', H', J, q⟩ := hs
    exact ⟨.non, H', J.os, J.bare, J.base, J.hok, rfl, q⟩
  | brk => exact hs.choose_spec.choose_spec.2.elim
  | cont => exact hs.choose_spec.choose_spec.2.elim
end
section
variable {X : Cx} {k : Nat} {f : Addr} {fd : FuncData} {ps : List Str} {sp : Addr × Obj → List V → Hp → VK → Prop} {x : Str} {q pos : Pos} {e : Expr} {es : List Expr} {t : TA}
/-- f(e, ..) in the suite -/
theorem pe_callQ {p : Addr × Obj} (F : FnQ X.prog X.w X.K X.mg X.base k f fd ps sp) (hr : L2H.RoomH k X.A) (hp : p ∈ X.pn) (hg : Gl X x) (hm : X.mg x = some (.ref f)) (hk : PySem.W.keepIn X.K (.ref f) = true) (hb : Binds X.K fd ps [])
    (ha : PA X (e :: es) t) (hdb : (x == ("__debug__" : Str)) = false := by decide) (he : starEach (e :: es) X.env = (false, eval e X.env) :: starEach es X.env := by rfl) (hpl : (backTo pos (starEach es X.env)).any (·.1) = false := by rfl) :
    PE X (.Call (.Name x q) (e :: es) [] pos) (fun σ H Q => t σ H fun vs H1 => sp p vs H1 Q) := by
  refine ⟨fun pins s σ H Q I h => ?_⟩
  refine wpAny_Call_Name_kw (ld_glob I hg hm ?_ hdb)
  refine PySem.W.callWith_K (h₀ := X.base) I.ok.mod.kin hk (thn (ha.run pos pins s σ H _ I h) fun us s1 ⟨vs, H1, I1, r, z⟩ => ⟨I1.kIn, ?_⟩) he hpl
  have hl : us.length = ps.length := by rw [← r.length]; exact F.len _ _ _ _ z
  have b := hb s1 us I1.kIn (by rw [List.append_nil]; exact hl)
  rw [List.append_nil] at b
  have P1 := I1.pin p (List.mem_append_left _ hp)
  have hpin : L2H.PinOk X.stack H1 s1 p := ⟨P1.1, P1.2.1, fun hm => (List.mem_cons.mp (I1.stkSub p.1 hm)).elim P1.2.2.1 P1.2.2.2.1, P1.2.2.2.2⟩
  refine wpAny_call (codeAny_mono (F.run X.A X.stack s1 H1 ⟨us, []⟩ us vs Q p hr hpin I1.env0 b r z) fun r s' hq => ?_)
  cases r with
  | error e =>
    obtain ⟨_, _, _, _, _, _, _, _, _, _, _, _, y⟩ := hq
    exact y.elim
  | ok fl =>
    cases fl with
    | ret u => exact I1.after hq
    | next => exact False.elim hq
    | brk => exact False.elim hq
    | cont => exact False.elim hq
/-- isinstance(e, c), e the handled exception -/
theorem call_isP {a D : Addr} {oe : Obj} (hp : (a, oe) ∈ X.pn) (C : ExcC X.K D) (hz : Zc (.ref D) none oe) (hf : ∃ vs, oe.data = .fields vs) : CallR X (.builtin "isinstance") (rIsE X.K D a) := by
  intro pins s σ H xs us Q I r ⟨c, cv, b, e1, hcv, e, y⟩
  subst e1
  obtain ⟨u1, u2, rfl, rx, rt⟩ := vals2 r
  cases rx
  cases hcv _ rt
  obtain ⟨hget, _⟩ := I.pin (a, oe) (List.mem_append_left _ hp)
  obtain ⟨vs, hv⟩ := hf
  have J : PySem.W.InstAt s.heap a oe D none := by
    obtain ⟨oc, od, oda, osl⟩ := oe
    obtain ⟨h1, h2⟩ := hz
    dsimp only at h1 h2 hv
    subst h1 h2 hv
    exact ⟨hget, rfl, rfl, trivial⟩
  exact PySem.W.kia_one (PySem.W.handS_kitx_exc C.hg C.hk C.hs C.hd C.ha C.hn C.ht C.hm) I.kIn J e (fun z => nomatch z) fun tk => ⟨.bl b, H, I.kept (t' := tk) fun _ _ z => z, rfl, y⟩
end
end EV

set_option maxHeartbeats 2000000
/-! EV 41: the word of a handled exception (_law_kind). -/
namespace EV
open PySem PySem.Spec PyProof.Rows L2
/-- new things alone, no tables -/
def News (H H' : Hp) : Prop := (∀ b o, H b = some o → H' b = some o) ∧ ∀ P ps, H' P = some (.tbl ps) → H P = some (.tbl ps)
theorem News.refl (H : Hp) : News H H := ⟨fun _ _ h => h, fun _ _ h => h⟩
theorem News.upd {H H' : Hp} (n : News H H') {p : Addr} {o : HO} (np : H' p = none) (ho : ∀ ps, o ≠ .tbl ps) : News H (L2.upd H' p o) := ⟨fun b u e => by
  have e' := n.1 b u e
  rw [upd_ne (ne_of_none e' np)]
  exact e', fun P ps e => by
  by_cases z : P = p
  · subst z
    rw [upd_same] at e
    exact absurd (Option.some.inj e) (ho ps)
  · rw [upd_ne z] at e
    exact n.2 P ps e⟩
theorem News.mut {H H' : Hp} (n : News H H') {p : Addr} {o : HO} (np : H p = none) (ho : ∀ ps, o ≠ .tbl ps) : News H (L2.upd H' p o) := ⟨fun b u e => by
  rw [upd_ne (ne_of_none e np)]
  exact n.1 b u e, fun P ps e => by
  by_cases z : P = p
  · subst z
    rw [upd_same] at e
    exact absurd (Option.some.inj e) (ho ps)
  · rw [upd_ne z] at e
    exact n.2 P ps e⟩
theorem News.free {H H' : Hp} (n : News H H') {p : Addr} (h : H' p = none) : H p = none := by
  cases q : H p with
  | none => rfl
  | some o =>
    rw [n.1 p o q] at h
    cases h
section
variable {X : Cx} {a D : Addr} {oe : Obj}
/-- isinstance of it, as told by the class -/
def tIs (a : Addr) (b : Bool) : TE := fun σ H Q => σ[0]? = some (some (.ref a)) ∧ Q (.bl b) H
structure HotE (X : Cx) (a D : Addr) (oe : Obj) : Prop where
  pin : (a, oe) ∈ X.pn
  cls : ExcC X.K D
  zc : Zc (.ref D) none oe
  fld : ∃ vs, oe.data = .fields vs
  var : ∃ e, X.N[0]? = some e ∧ Vis X.env.scope e
theorem pe_isi {e c : Str} {C : Addr} {b : Bool} {p p1 p2 p3 : Pos} (h : HotE X a D oe) (hN : X.N[0]? = some e) (hv : Vis X.env.scope e) (hgi : Gl X "isinstance") (hmi : X.mg "isinstance" = none) (hg : Gl X c) (hm : X.mg c = some (.ref C)) (hk : PySem.W.kitOne X.K (.ref D) (.ref C) = some b)
    (hd : (e == ("__debug__" : Str)) = false := by decide) (hcd : (e == ("__classdict__" : Str)) = false := by decide) (hdc : (c == ("__debug__" : Str)) = false := by decide)
    (h1 : starEach [.Name e p1, .Name c p2] X.env = (false, eval (.Name e p1) X.env) :: starEach [.Name c p2] X.env := by rfl) (h2 : starEach [.Name c p2] X.env = (false, eval (.Name c p2) X.env) :: starEach [] X.env := by rfl)
    (hpl : (backTo p3 (starEach [.Name c p2] X.env)).any (·.1) = false := by rfl) : PE X (.Call (.Name "isinstance" p) [.Name e p1, .Name c p2] [] p3) (tIs a b) :=
  pe_imp (pe_callB (call_isP h.pin h.cls h.zc h.fld) hgi hmi (by decide +kernel) (pa_cons (pe_var hN hv hd hcd) (pa_cons (pe_glob (v := .ref C) hg hm rfl hdc) pa_nil h2) h1) (by decide) (by decide) h1 hpl) fun σ H Q ⟨s, q⟩ =>
    ⟨.ref a, s, ⟨.ref C, .ref C, b, rfl, fun u r => r, hk, q⟩⟩
theorem pe_isiT {e c : Str} {T : String} {b : Bool} {p p1 p2 p3 : Pos} (h : HotE X a D oe) (hN : X.N[0]? = some e) (hv : Vis X.env.scope e) (hgi : Gl X "isinstance") (hmi : X.mg "isinstance" = none) (hg : Gl X c) (hm : X.mg c = none) (hb : bootBuiltins c = some (.type T)) (hk : PySem.W.kitOne X.K (.ref D) (.type T) = some b)
    (hn : c ≠ "__name__" := by decide) (hd : (e == ("__debug__" : Str)) = false := by decide) (hcd : (e == ("__classdict__" : Str)) = false := by decide) (hdc : (c == ("__debug__" : Str)) = false := by decide)
    (h1 : starEach [.Name e p1, .Name c p2] X.env = (false, eval (.Name e p1) X.env) :: starEach [.Name c p2] X.env := by rfl) (h2 : starEach [.Name c p2] X.env = (false, eval (.Name c p2) X.env) :: starEach [] X.env := by rfl)
    (hpl : (backTo p3 (starEach [.Name c p2] X.env)).any (·.1) = false := by rfl) : PE X (.Call (.Name "isinstance" p) [.Name e p1, .Name c p2] [] p3) (tIs a b) :=
  pe_imp (pe_callB (call_isP h.pin h.cls h.zc h.fld) hgi hmi (by decide +kernel) (pa_cons (pe_var hN hv hd hcd) (pa_cons (pe_bltn (v := .ty T) hg hm hb rfl hn hdc) pa_nil h2) h1) (by decide) (by decide) h1 hpl) fun σ H Q ⟨s, q⟩ =>
    ⟨.ref a, s, ⟨.ty T, .type T, b, rfl, fun u r => r, hk, q⟩⟩
/-- a display of three of them -/
theorem pe_isi3 {i1 i2 i3 : Expr} {b1 b2 b3 : Bool} {p : Pos} (h1 : PE X i1 (tIs a b1)) (h2 : PE X i2 (tIs a b2)) (h3 : PE X i3 (tIs a b3))
    (e1 : starEach [i1, i2, i3] X.env = (false, eval i1 X.env) :: starEach [i2, i3] X.env := by rfl) (e2 : starEach [i2, i3] X.env = (false, eval i2 X.env) :: starEach [i3] X.env := by rfl) (e3 : starEach [i3] X.env = (false, eval i3 X.env) :: starEach [] X.env := by rfl) :
    PE X (.List [i1, i2, i3] p) (fun σ H Q => σ[0]? = some (some (.ref a)) ∧ ∀ l, H l = none → Q (.ref l) (upd H l (.lst [.bl b1, .bl b2, .bl b3]))) :=
  pe_imp (L2.pe_lst (pa_cons h1 (pa_cons h2 (pa_cons h3 pa_nil e3) e2) e1)) fun σ H Q ⟨s, q⟩ => ⟨s, s, s, by show 3 ≤ sizeLine; rw [sizeLine_eq]; omega, fun p np => q p np⟩
end
theorem dp_bls {K : PySem.W.Frag} {H : Hp} {l : Addr} (bs : List Bool) (h : H l = some (.lst (bs.map V.bl))) : Dp K H (.ref l) (.list (bs.map PyData.bool)) := by
  refine .lst (SqL.of h) ?_
  induction bs with
  | nil => exact .nil
  | cons b bs ih => exact .cons (.bl b) (by
      clear h
      clear ih
      induction bs with
      | nil => exact .nil
      | cons c bs ih => exact .cons (.bl c) ih)
/-- the marks for the class of number j -/
def markL (j : Nat) : List Bool := (List.range 10).map fun i => i == j
def wordsL (w8 : Str) : List Str := ["net", "component", "set", "report", "word", "number", "text", w8, "unexplained", "limit"]
section
variable {X : Cx} {a D : Addr} {oe : Obj}
/-- _law_kind -/
theorem pss_kind {w8 e m w : Str} {j : Nat} (hj : j < 10) {i0 i1 i2 i3 i4 i5 i6 i7 i8 i9 iv : Expr} {q1 q2 q3 q4 q5 q6 q7 q8 q9 q10 q11 q12 q13 q14 q15 q16 q17 q18 q19 q20 q21 q22 q23 q24 q25 q26 q27 q28 q29 q30 q31 q32 q33 q34 q35 q36 q37 q38 q39 q40 : Pos}
    {k1 k2 k3 k4 k5 k6 k7 k8 k9 k10 k11 k12 k13 k14 : Nat} (hu : X.A.units + 65 < cLine) (nd : X.N.Nodup)
    (hm : X.N[1]? = some m) (hw : X.N[2]? = some w) (lm : Loc X.env.scope m) (lw : Loc X.env.scope w) (vm : Vis X.env.scope m) (vw : Vis X.env.scope w)
    (h0 : PE X i0 (tIs a (0 == j))) (h1 : PE X i1 (tIs a (1 == j))) (h2 : PE X i2 (tIs a (2 == j))) (h3 : PE X i3 (tIs a (3 == j))) (h4 : PE X i4 (tIs a (4 == j))) (h5 : PE X i5 (tIs a (5 == j))) (h6 : PE X i6 (tIs a (6 == j))) (h7 : PE X i7 (tIs a (7 == j))) (h8 : PE X i8 (tIs a (8 == j))) (h9 : PE X i9 (tIs a (9 == j))) (hv : PT X iv (tB (tIs a true)))
    (s0 : starEach [i0, i1, i2] X.env = (false, eval i0 X.env) :: starEach [i1, i2] X.env := by rfl) (s1 : starEach [i1, i2] X.env = (false, eval i1 X.env) :: starEach [i2] X.env := by rfl) (s2 : starEach [i2] X.env = (false, eval i2 X.env) :: starEach [] X.env := by rfl)
    (s3 : starEach [i3, i4, i5] X.env = (false, eval i3 X.env) :: starEach [i4, i5] X.env := by rfl) (s4 : starEach [i4, i5] X.env = (false, eval i4 X.env) :: starEach [i5] X.env := by rfl) (s5 : starEach [i5] X.env = (false, eval i5 X.env) :: starEach [] X.env := by rfl)
    (s6 : starEach [i6, i7, i8] X.env = (false, eval i6 X.env) :: starEach [i7, i8] X.env := by rfl) (s7 : starEach [i7, i8] X.env = (false, eval i7 X.env) :: starEach [i8] X.env := by rfl) (s8 : starEach [i8] X.env = (false, eval i8 X.env) :: starEach [] X.env := by rfl)
    (s9 : starEach [i9] X.env = (false, eval i9 X.env) :: starEach [] X.env := by rfl)
    (w1 : swapsWith (.List [i0, i1, i2] q1) (some (.Name m q2)) q3.line X.env = pure false := by rfl)
    (w2 : swapsWith (.BinOp (.Name m q4) .Add (.List [i3, i4, i5] q5) q6) (some (.Name m q7)) q8.line X.env = pure false := by rfl)
    (w3 : swapsWith (.BinOp (.Name m q9) .Add (.List [i6, i7, i8] q10) q11) (some (.Name m q12)) q13.line X.env = pure false := by rfl)
    (w4 : swapsWith (.Call (.Attribute (.Name m q14) "append" q15) [i9] [] q16) none q17.line X.env = pure false := by rfl)
    (w5 : swapsWith (.List [.Constant (.str "net") k1 q18, .Constant (.str "component") k2 q19, .Constant (.str "set") k3 q20, .Constant (.str "report") k4 q21, .Constant (.str "word") k5 q22, .Constant (.str "number") k6 q23, .Constant (.str "text") k7 q24, .Constant (.str w8) k8 q25, .Constant (.str "unexplained") k9 q26, .Constant (.str "limit") k10 q27] q28) (some (.Name w q29)) q30.line X.env = pure false := by rfl)
    (b1 : attributeBase (.Name m q14) "append" X.env (eval (.Name m q14) X.env) = eval (.Name m q14) X.env := by rfl) (b2 : attributeBase (.Name m q31) "count" X.env (eval (.Name m q31) X.env) = eval (.Name m q31) X.env := by rfl) (b3 : attributeBase (.Name m q38) "index" X.env (eval (.Name m q38) X.env) = eval (.Name m q38) X.env := by rfl)
    (f1 : ((backTo q16 (starEach [i9] X.env)).all (fun x => !x.1) && (backToKw q16 (keywordEach [] X.env)).all (fun x => x.1.isSome) && decide ([i9].length + ([] : List Keyword).length + (if ([] : List Keyword).isEmpty then 0 else 1) < 30)) = true := by rfl)
    (l1 : (q15.endLine == q16.line) = true := by rfl) (p1 : (backTo q16 (starEach [] X.env)).any (·.1) = false := by rfl)
    (l2 : (q32.endLine == q34.line) = true := by rfl) (l3 : (q39.endLine == q40.line) = true := by rfl)
    (dm : (m == ("__debug__" : Str)) = false := by decide) (cm : (m == ("__classdict__" : Str)) = false := by decide) (dw : (w == ("__debug__" : Str)) = false := by decide) (cw : (w == ("__classdict__" : Str)) = false := by decide)
    (lo1 : X.fn m = true ∨ X.env.scope.names.lookup m = some .local := by first | exact .inl rfl | exact .inr rfl) (lo2 : X.fn w = true ∨ X.env.scope.names.lookup w = some .local := by first | exact .inl rfl | exact .inr rfl)
    {c1 c2 c3 : Nat} {z1 z2 z3 z4 z5 z6 z7 z8 z9 : Pos} :
    PSs X [.Assign [.Name m q2] (.List [i0, i1, i2] q1) q3,
      .Assign [.Name m q7] (.BinOp (.Name m q4) .Add (.List [i3, i4, i5] q5) q6) q8,
      .Assign [.Name m q12] (.BinOp (.Name m q9) .Add (.List [i6, i7, i8] q10) q11) q13,
      .Expr (.Call (.Attribute (.Name m q14) "append" q15) [i9] [] q16) q17,
      .Assign [.Name w q29] (.List [.Constant (.str "net") k1 q18, .Constant (.str "component") k2 q19, .Constant (.str "set") k3 q20, .Constant (.str "report") k4 q21, .Constant (.str "word") k5 q22, .Constant (.str "number") k6 q23, .Constant (.str "text") k7 q24, .Constant (.str w8) k8 q25, .Constant (.str "unexplained") k9 q26, .Constant (.str "limit") k10 q27] q28) q30,
      .If (.BoolOp .Or [.Compare (.Call (.Attribute (.Name m q31) "count" q32) [.Constant (.bool true) c1 q33] [] q34) [.NotEq] [.Constant (.int 1) c2 z1] z2, .UnaryOp .Not iv z3] z4) [.Return (some (.Constant (.str "other") k11 z5)) z6] [] z7,
      .Return (some (.Subscript (.Name w q37) (.Call (.Attribute (.Name m q38) "index" q39) [.Constant (.bool true) c3 z8] [] q40) z9)) q36]
      (fun Dn σ H => σ = [some (.ref a), none, none] ∧ ∀ H', News H H' → Dn.rt (.str ((wordsL w8).getD j "")) H') := by
  have hl : ∀ n, n ≤ 100 → n ≤ sizeLine := fun n h => by rw [sizeLine_eq]; omega
  have st : ∀ (c : Nat) (z : Pos), starEach [.Constant (.bool true) c z] X.env = (false, eval (.Constant (.bool true) c z) X.env) :: starEach [] X.env := fun _ _ => rfl
  have wl := L2.pe_lst (X := X) (pos := q28) (pa_cons (pe_str (x := "net") (j := k1) (pos := q18)) (pa_cons (pe_str (x := "component") (j := k2) (pos := q19)) (pa_cons (pe_str (x := "set") (j := k3) (pos := q20)) (pa_cons (pe_str (x := "report") (j := k4) (pos := q21)) (pa_cons (pe_str (x := "word") (j := k5) (pos := q22)) (pa_cons (pe_str (x := "number") (j := k6) (pos := q23)) (pa_cons (pe_str (x := "text") (j := k7) (pos := q24)) (pa_cons (pe_str (x := w8) (j := k8) (pos := q25)) (pa_cons (pe_str (x := "unexplained") (j := k9) (pos := q26)) (pa_cons (pe_str (x := "limit") (j := k10) (pos := q27)) pa_nil rfl) rfl) rfl) rfl) rfl) rfl) rfl) rfl) rfl) rfl)
  refine pss_imp (pss_cons (ps_set (i := 1) nd hm lm (pe_isi3 h0 h1 h2 s0 s1 s2) w1 lo1) (pss_cons (ps_set (i := 1) nd hm lm (pe_op op_cat (pe_var hm vm dm cm) (pe_isi3 h3 h4 h5 s3 s4 s5)) w2 lo1) (pss_cons (ps_set (i := 1) nd hm lm (pe_op op_cat (pe_var hm vm dm cm) (pe_isi3 h6 h7 h8 s6 s7 s8)) w3 lo1)
    (pss_cons (ps_expr (pe_bm PySem.F.plainAttrs_list PySem.F.slot_list_append PySem.F.type_list_append mt_append (pe_var hm vm dm cm) (pa_cons h9 pa_nil s9) b1 f1 l1 s9 p1) w4) (pss_cons (ps_set (i := 2) nd hw lw wl w5 lo2)
    (pss_cons (ps_if (pw_or (pt_cmp (pc_neI (pe_bm PySem.F.plainAttrs_list PySem.F.slot_list_count PySem.F.type_list_count (mt_countD hu) (pe_var hm vm dm cm) (pa_cons pe_bl pa_nil rfl) b2 rfl l2 rfl rfl) pe_int)) (pw_or1 (pt_not hv))).pt (pss_one (ps_ret pe_str)) pss_nil)
    (pss_one (ps_ret (pe_ix ix_list (pe_var hw vw dw cw) (pe_bm PySem.F.plainAttrs_list PySem.F.slot_list_index PySem.F.type_list_index (mt_indexD hu) (pe_var hm vm dm cm) (pa_cons pe_bl pa_nil rfl) b3 rfl l3 rfl rfl) (fun _ _ => rfl)))))))))) fun Dn σ H ⟨es, q⟩ => ?_
  subst es
  have ty : ∀ {H : Hp} {l : Addr} {xs : List V}, H l = some (.lst xs) → tyV X.K "list" (.ref l) H := fun h => .inl ⟨rfl, _, SqL.of h⟩
  have nt : ∀ xs : List V, ∀ ps, HO.lst xs ≠ .tbl ps := fun _ _ z => by cases z
  refine ⟨rfl, fun l1 n1 => ?_⟩
  have N1 := (News.refl H).upd n1 (nt ([V.bl (0 == j), V.bl (1 == j), V.bl (2 == j)] : List V))
  refine ⟨.ref l1, rfl, rfl, fun l2 n2 => ?_⟩
  have N2 := N1.upd n2 (nt ([V.bl (3 == j), V.bl (4 == j), V.bl (5 == j)] : List V))
  refine ⟨l1, l2, ([V.bl (0 == j), V.bl (1 == j), V.bl (2 == j)] : List V), ([V.bl (3 == j), V.bl (4 == j), V.bl (5 == j)] : List V), rfl, rfl, by rw [upd_ne (ne_of_none upd_same n2), upd_same], upd_same, hl 6 (by decide), fun l3 n3 => ?_⟩
  have N3 := N2.upd n3 (nt ([V.bl (0 == j), V.bl (1 == j), V.bl (2 == j), V.bl (3 == j), V.bl (4 == j), V.bl (5 == j)] : List V))
  refine ⟨.ref l3, rfl, rfl, fun l4 n4 => ?_⟩
  have N4 := N3.upd n4 (nt ([V.bl (6 == j), V.bl (7 == j), V.bl (8 == j)] : List V))
  refine ⟨l3, l4, ([V.bl (0 == j), V.bl (1 == j), V.bl (2 == j), V.bl (3 == j), V.bl (4 == j), V.bl (5 == j)] : List V), ([V.bl (6 == j), V.bl (7 == j), V.bl (8 == j)] : List V), rfl, rfl, by rw [upd_ne (ne_of_none upd_same n4)]; exact upd_same, upd_same, hl 9 (by decide), fun l5 n5 => ?_⟩
  have N5 := N4.upd n5 (nt ([V.bl (0 == j), V.bl (1 == j), V.bl (2 == j), V.bl (3 == j), V.bl (4 == j), V.bl (5 == j), V.bl (6 == j), V.bl (7 == j), V.bl (8 == j)] : List V))
  refine ⟨.ref l5, rfl, ty upd_same, rfl, l5, ([V.bl (0 == j), V.bl (1 == j), V.bl (2 == j), V.bl (3 == j), V.bl (4 == j), V.bl (5 == j), V.bl (6 == j), V.bl (7 == j), V.bl (8 == j)] : List V), .bl (9 == j), rfl, rfl, upd_same, by show 9 < sizeLine; rw [sizeLine_eq]; omega, ?_⟩
  have N6 := N5.mut (N4.free n5) (nt ([V.bl (0 == j), V.bl (1 == j), V.bl (2 == j), V.bl (3 == j), V.bl (4 == j), V.bl (5 == j), V.bl (6 == j), V.bl (7 == j), V.bl (8 == j), V.bl (9 == j)] : List V))
  refine ⟨hl 10 (by decide), fun l6 n6 => ?_⟩
  have N7 := N6.upd n6 (nt ((wordsL w8).map V.str))
  have g5 : upd (upd (upd (upd (upd (upd (upd H l1 (.lst ([V.bl (0 == j), V.bl (1 == j), V.bl (2 == j)] : List V))) l2 (.lst ([V.bl (3 == j), V.bl (4 == j), V.bl (5 == j)] : List V))) l3 (.lst ([V.bl (0 == j), V.bl (1 == j), V.bl (2 == j), V.bl (3 == j), V.bl (4 == j), V.bl (5 == j)] : List V))) l4 (.lst ([V.bl (6 == j), V.bl (7 == j), V.bl (8 == j)] : List V))) l5 (.lst ([V.bl (0 == j), V.bl (1 == j), V.bl (2 == j), V.bl (3 == j), V.bl (4 == j), V.bl (5 == j), V.bl (6 == j), V.bl (7 == j), V.bl (8 == j)] : List V))) l5 (.lst ([V.bl (0 == j), V.bl (1 == j), V.bl (2 == j), V.bl (3 == j), V.bl (4 == j), V.bl (5 == j), V.bl (6 == j), V.bl (7 == j), V.bl (8 == j), V.bl (9 == j)] : List V))) l6 (.lst ((wordsL w8).map V.str)) l5 = some (.lst ([V.bl (0 == j), V.bl (1 == j), V.bl (2 == j), V.bl (3 == j), V.bl (4 == j), V.bl (5 == j), V.bl (6 == j), V.bl (7 == j), V.bl (8 == j), V.bl (9 == j)] : List V)) := by
    rw [upd_ne (ne_of_none upd_same n6)]
    exact upd_same
  have dp := dp_bls (K := X.K) [0 == j, 1 == j, 2 == j, 3 == j, 4 == j, 5 == j, 6 == j, 7 == j, 8 == j, 9 == j] g5
  have hj' : j = 0 ∨ j = 1 ∨ j = 2 ∨ j = 3 ∨ j = 4 ∨ j = 5 ∨ j = 6 ∨ j = 7 ∨ j = 8 ∨ j = 9 := by omega
  have hc : ([0 == j, 1 == j, 2 == j, 3 == j, 4 == j, 5 == j, 6 == j, 7 == j, 8 == j, 9 == j].map PyData.bool).countP (fun z => PyData.eqv z (.bool true)) = 1 := by
    rcases hj' with rfl | rfl | rfl | rfl | rfl | rfl | rfl | rfl | rfl | rfl <;> rfl
  refine ⟨.ref l5, rfl, ty g5, l5, .bl true, .bool true, _, rfl, rfl, dp, .bl true, by rfl, by rfl, ?_⟩
  refine ⟨1, 1, by rw [hc]; rfl, rfl, ?_⟩
  refine ⟨false, rfl, ?_⟩
  refine ⟨rfl, true, rfl, ?_⟩
  refine ⟨.ref l6, rfl, .ref l5, rfl, ty g5, l5, .bl true, .bool true, _, j, .bool true, rfl, rfl, dp, .bl true, by rfl, by rfl, ?_, rfl, ?_, ?_⟩
  · rcases hj' with rfl | rfl | rfl | rfl | rfl | rfl | rfl | rfl | rfl | rfl <;> rfl
  · intro m z' hm hz
    rcases hj' with rfl | rfl | rfl | rfl | rfl | rfl | rfl | rfl | rfl | rfl <;> (have : m = 0 ∨ m = 1 ∨ m = 2 ∨ m = 3 ∨ m = 4 ∨ m = 5 ∨ m = 6 ∨ m = 7 ∨ m = 8 ∨ m = 9 := by omega) <;> rcases this with rfl | rfl | rfl | rfl | rfl | rfl | rfl | rfl | rfl | rfl <;> first | omega | (cases hz; rfl)
  · refine ⟨l6, (wordsL w8).map V.str, j, .str ((wordsL w8).getD j ""), rfl, rfl, SqL.of upd_same, ?_, q _ N7⟩
    rcases hj' with rfl | rfl | rfl | rfl | rfl | rfl | rfl | rfl | rfl | rfl <;> rfl
end
end EV

set_option maxHeartbeats 2000000
/-! EV 42: _law_said: try: return repr(f()) / except E as e: return "! " + kind(e). -/
namespace EV
open PySem PySem.Spec PyProof.Rows L2
/-- the names of the exceptions, in the order of the words -/
def errsL : List Str := ["NetError", "ComponentError", "SetError", "ReportError", "WordError", "NumberError", "TextError", "NothingDone", "Unexplained", "LimitError"]
/-- the class at D is number j; CA is the class of them all -/
structure ErrJ (K : PySem.W.Frag) (mg : Str → Option Value) (CA : Addr) (D : Addr) (j : Nat) : Prop where
  cls : ExcC K D
  all : PySem.W.exmOne K (.ref D) (.ref CA) = some true
  val : PySem.W.kitOne K (.ref D) (.type "ValueError") = some true
  is : ∀ (i : Nat) (x : Str), errsL[i]? = some x → ∃ C, mg x = some (.ref C) ∧ PySem.W.kitOne K (.ref D) (.ref C) = some (i == j)
/-- what kind(e) promises -/
def spK (w8 : Str) (K : PySem.W.Frag) (mg : Str → Option Value) (CA : Addr) : Addr × Obj → List V → Hp → VK → Prop := fun p vs H Q => ∃ (D : Addr) (j : Nat), j < 10 ∧ vs = [.ref p.1] ∧ Zc (.ref D) none p.2 ∧ (∃ us, p.2.data = .fields us) ∧ ErrJ K mg CA D j ∧
  ∀ H', News H H' → Q (.str ((wordsL w8).getD j "")) H'
theorem pss_and {X : Cx} {sts : List Stmt} {t : TS} {p : Prop} (h : p → PSs X sts t) : PSs X sts (fun D σ H => p ∧ t D σ H) := ⟨fun pins s σ H D I ⟨z, q⟩ => (h z).run pins s σ H D I q⟩
theorem pss_len {X : Cx} {sts : List Stmt} {t : TS} (h : PSs X sts t) : PSs X sts (fun D σ H => σ.length = X.N.length → t D σ H) := ⟨fun pins s σ H D I q => h.run pins s σ H D I (q I.len)⟩
theorem words_len {w8 : Str} (h8 : w8.length ≤ 20) (j : Nat) (h : j < 10) : ((wordsL w8).getD j "").length ≤ 20 := by
  have hj : j = 0 ∨ j = 1 ∨ j = 2 ∨ j = 3 ∨ j = 4 ∨ j = 5 ∨ j = 6 ∨ j = 7 ∨ j = 8 ∨ j = 9 := by omega
  rcases hj with rfl | rfl | rfl | rfl | rfl | rfl | rfl | rfl | rfl | rfl
  · exact (by decide +kernel : ("net" : Str).length ≤ 20)
  · exact (by decide +kernel : ("component" : Str).length ≤ 20)
  · exact (by decide +kernel : ("set" : Str).length ≤ 20)
  · exact (by decide +kernel : ("report" : Str).length ≤ 20)
  · exact (by decide +kernel : ("word" : Str).length ≤ 20)
  · exact (by decide +kernel : ("number" : Str).length ≤ 20)
  · exact (by decide +kernel : ("text" : Str).length ≤ 20)
  · exact h8
  · exact (by decide +kernel : ("unexplained" : Str).length ≤ 20)
  · exact (by decide +kernel : ("limit" : Str).length ≤ 20)
/-- what said makes of what the lambda does -/
def TSaid (w8 : Str) (K : PySem.W.Frag) (mg : Str → Option Value) (CA : Addr) : (XK → Hp → VK → Prop) → Hp → VK → Prop := fun tl H Q =>
  tl (fun cls d H' => ∃ (D : Addr) (j : Nat), j < 10 ∧ cls = .ref D ∧ d = none ∧ ErrJ K mg CA D j ∧ ∀ H'', News H' H'' → Q (.str ("! " ++ (wordsL w8).getD j "")) H'') H fun v H' => rRepr K [v] H' Q
theorem said_gives {w8 : Str} (h8 : w8.length ≤ 20) {X : Cx} {k : Nat} {x a e kn q er : Str} {sg : Scope} {g CA fk : Addr} {fkd : FuncData} {cdg : Value} {j1 : Nat} {p1 p2 p3 p4 p5 p6 p7 p8 p9 p10 p11 p12 p13 p14 : Pos} {pe : Str}
    (FQ : FnQ X.prog X.w X.K X.mg X.base k fk fkd [pe] (spK w8 X.K X.mg CA)) (hmk : X.mg kn = some (.ref fk)) (hkk : PySem.W.keepIn X.K (.ref fk) = true) (hbk : Binds X.K fkd [pe] [])
    (hr : Room (k + 1) X.A) (hg : X.A.guards = some []) (gr : sg.names.lookup ("repr" : Str) = some .globalImplicit) (mr : X.mg "repr" = none) (gk : sg.names.lookup kn = some .globalImplicit) (ge : sg.names.lookup er = some .globalImplicit) (me : X.mg er = some (.ref CA))
    (le : sg.names.lookup e = some .local) (nd : [a, e].Nodup) (hde : (er == ("__debug__" : Str)) = false) (hdk : (kn == ("__debug__" : Str)) = false) (hd : (e == ("__debug__" : Str)) = false) (hcd : (e == ("__classdict__" : Str)) = false) :
    LamX.GivesTo X [a, e] x sg g cdg [.Try [.Return (some (.Call (.Name "repr" p1) [.Call (.Name a p2) [] [] p3] [] p4)) p5]
      [.ExceptHandler (some (.Name er p6)) (some e) [.Return (some (.BinOp (.Constant (.str "! ") j1 p7) .Add (.Call (.Name kn p8) [.Name e p9] [] p10) p11)) p12] p13] [] [] p14] a q (TSaid w8 X.K X.mg CA) := by
  intro f c' s H Q tl act hc h
  have hr' : Room k (X.A.deeper (envOfC x sg s.heap.objs.size g cdg)) := hr.deeper _
  refine ⟨_, pss_one (ps_try_as (X := (cxOf C8.CX0 X.prog X.w X.K X.mg X.base [a, e] x sg g cdg X.A X.stack s H C8.E0).nox) (c := .ref CA) (i := 1)
      (tb := fun W D σ H => ∃ Ech : XK, (∀ cls d σ' H', Ech cls d H' → W cls d σ' H') ∧ σ[0]? = some (some (.ref f)) ∧ H c' = some (LamX.CodeO c' q) ∧ tl Ech H fun v H' => rRepr X.K [v] H' D.rt)
      (ts := fun a' cls d Dn σ H => ∃ z : Addr × Nat, (z.2 < 10 ∧ cls = .ref z.1 ∧ d = none ∧ ErrJ X.K X.mg CA z.1 z.2) ∧ (σ.length = 2 → σ[1]? = some (some (.ref a')) ∧ ∀ H'', News H H'' → Dn.rt (.str ("! " ++ (wordsL w8).getD z.2 "")) H''))
      rfl rfl nd rfl le ⟨ge, hde, .inl me⟩ takes0 (fun W pn xe tk _ => ?_) (fun a' oe cls d pn hz hf => ?_)), ?_⟩
  · refine ⟨fun pins s' σ H' D I h' => ?_⟩
    obtain ⟨Ech, hW, h1, h2, h3⟩ := h'
    have hp := act W pn xe Ech p2 p3 tk hW
    have hq := pss_one (ps_ret (pos := p5) (pe_callB (p := p1) (pos := p4) (call_reprD (X := (cxOf C8.CX0 X.prog X.w X.K X.mg X.base [a, e] x sg g cdg X.A X.stack s H C8.E0).tr pn xe) (k := k) hr' hg) gr mr (by decide +kernel) (pa_cons hp pa_nil rfl) (by decide) (by decide) rfl rfl))
    exact hq.run pins s' σ H' D I ⟨h1, h2, h3⟩
  · refine pss_ex fun z => pss_and fun ⟨hj, e1, e2, ej⟩ => ?_
    subst e1 e2
    have hv : Vis sg e := .inl le
    refine pss_len (pss_imp (pss_one (ps_ret (pos := p12) (pe_op (op_add_str (X := Cx.suite _ a' _)) pe_str (pe_callQ (p := (a', oe)) (q := p8) (pos := p10) FQ ⟨hr'.dp, hr'.un⟩ List.mem_cons_self gk hmk hkk hbk (pa_cons (pe_var (i := 1) rfl hv hd hcd) pa_nil rfl) hdk rfl rfl)))) fun Dn σ H ⟨hs, y⟩ => ?_)
    refine ⟨.ref a', hs, z.1, z.2, hj, rfl, hz, hf, ej, fun H' n => ?_⟩
    have wl := words_len h8 z.2 hj
    exact ⟨"! ", (wordsL w8).getD z.2 "", rfl, rfl, by
      rw [sizeLine_eq]
      show 2 + _ ≤ _
      omega, y H' n⟩
  · exact ⟨_, fun cls d σ' H' ⟨D, j, hj, e1, e2, ej, y⟩ => by
      subst e1 e2
      exact ⟨true, ej.all, fun _ a' _ => ⟨(D, j), ⟨hj, rfl, rfl, ej⟩, fun hl => ⟨List.getElem?_set_self (by rw [List.length_set] at hl; omega), y⟩⟩, fun z => by cases z⟩, rfl, hc, h⟩
end EV

set_option maxHeartbeats 2000000
/-! EV 43: a lambda made and handed on, with what becomes of the heap told exactly. -/
namespace EV
open PySem PySem.Spec PyProof.Rows L2 LamX
/-- the heap behind the making of a lambda: as it was, or the table at P has grown by the code object c' -/
def LamH (P : Addr) (q : Str) (c' : Addr) (H H1 : Hp) : Prop := H1 = H ∨ ∃ ps more, H P = some (.tbl ps) ∧ H c' = none ∧ H1 = upd (upd H P (.tbl (ps ++ more))) c' (CodeO c' q)
section
variable {X : Cx} {pins : List (Addr × Obj)} {σ : L2.St} {H : Hp} {s : Shared}
theorem lam_make3 {c P : Addr} {params : Arguments} {body : Expr} {scope : Scope} {pos : Pos} {E : Value → Shared → Prop} {Q : Value → Shared → Prop} (I : Inv X pins σ H s) (TB : TabB X.base X.mg c P) (hcode : X.env.code = .ref c)
    (hT : TabS H P (X.env.qual ++ "<lambda>")) (hdef : defaultsOf params X.env = ([], [])) (hfree : ∀ y ∈ scope.names, y.2 = .free → ∃ c, X.env.cells.lookup y.1 = some c)
    (h : ∀ (f c' : Addr) (pm ctv : Value) (H1 : Hp) (s' : Shared), Inv X pins σ H1 s' → LamH P (X.env.qual ++ "<lambda>") c' H H1 → TabS H1 P (X.env.qual ++ "<lambda>") →
      s'.heap.get? f = some (PySem.W.kla_obj "<lambda>" (X.env.qual ++ "<lambda>") params body scope (cloFrom X.env.cells scope.names []) pm c' ctv) → H1 f = none → f ∉ frs X.stack → H1 c' = some (CodeO c' (X.env.qual ++ "<lambda>")) → Q (.ref f) s') :
    wpAny (model X.prog X.w) X.A (eval (.Lambda params body scope pos) X.env) Q E s := by
  obtain ⟨ps, hP, ht, ha⟩ := hT
  have bP : s.heap.BuiltinsAt X.mg P := TB.bm.keeps I.bk
  have hP' : s.heap.get? P = some { cls := .none, data := .fields ps } := I.hok P _ hP
  have nofr : ∀ f, s.heap.objs.size ≤ f → f ∉ frs X.stack := fun f hf z => (List.mem_cons.mp (I.stkSub _ z)).elim
    (fun e => Nat.lt_irrefl _ (Nat.lt_of_lt_of_le (e ▸ I.lt) hf)) fun e => I.nofs hf e
  refine PySem.W.kla_eval hdef ?_
  cases hc : codeAmong pos ps.toList with
  | some cv =>
    obtain ⟨c', rfl, hco⟩ := ha pos cv hc
    refine PySem.W.kla_makeFunctionHit (mg := X.mg) (c := c) (P := P) (ps := ps) (closure_ok hfree) I.ok.glob (I.mod.glob.keeps I.bk) hcode (TB.code.keeps I.bk) hP' ht hc bP fun ctv h' tk hx hsz => ?_
    exact h h'.objs.size c' _ ctv H _ (I.kept (t' := tk) fun b o e => Heap.get?_push_of_some _ (hx b o e)) (.inl rfl) ⟨ps, hP, ht, ha⟩ (Heap.get?_push_size _ rfl) (I.hok.fresh hsz) (nofr _ hsz) hco
  | none =>
    refine PySem.W.kla_makeFunction (mg := X.mg) (c := c) (P := P) (ps := ps) (closure_ok hfree) I.ok.glob (I.mod.glob.keeps I.bk) hcode (TB.code.keeps I.bk) hP' ht hc TB.gP bP fun c' ctv h' tk hx hge hlt hrec htb => ?_
    obtain ⟨c2, oc, vs, t, e2, hoc, hd, hv⟩ := hrec
    cases e2
    have nC : H c' = none := I.hok.fresh hge
    have hsz : s.heap.objs.size ≤ h'.objs.size := Nat.le_trans hge (Nat.le_of_lt hlt)
    have n1 : h'.objs.size ≠ c' := Nat.ne_of_gt hlt
    have n2 : h'.objs.size ≠ P := Nat.ne_of_gt (Nat.lt_of_lt_of_le (Heap.lt_size hP') hsz)
    refine h h'.objs.size c' _ ctv _ _ (inv_table (t' := tk) (more := #[rawInt pos.line, rawInt pos.col, .ref c']) I hP (fun b o hb e => Heap.get?_push_of_some _ (hx b o hb e)) (Heap.get?_push_of_some _ htb) hge ⟨oc, vs, t, Heap.get?_push_of_some _ hoc, hd, hv⟩)
      (.inr ⟨ps, _, hP, nC, rfl⟩) ?_ (Heap.get?_push_size _ rfl) (by rw [upd_ne n1, upd_ne n2]; exact I.hok.fresh hsz) (nofr _ hsz) upd_same
    have eL : (ps ++ #[rawInt pos.line, rawInt pos.col, .ref c']).toList = ps.toList ++ [rawInt pos.line, rawInt pos.col, .ref c'] := by simp
    refine ⟨_, by rw [upd_ne (ne_of_none hP nC), upd_same], by rw [eL]; exact PySem.TriplesOk_snoc _ _ _ _ ht, fun p' cv hcv => ?_⟩
    rw [eL] at hcv
    rcases among_app _ ht hcv with z | z
    · obtain ⟨c0, e1, e2⟩ := ha p' cv z
      refine ⟨c0, e1, ?_⟩
      rw [upd_ne (ne_of_none e2 nC), upd_ne (fun y => by
        rw [y, hP] at e2
        exact codeO_ne ps (Option.some.inj e2).symm)]
      exact e2
    · exact ⟨c', z, upd_same⟩
end
def tLam3 (P : Addr) (q : Str) (TT : (XK → Hp → VK → Prop) → Hp → VK → Prop) (t : XK → TE) : TE := fun σ H Q => TabS H P q ∧ ∀ c' H1, LamH P q c' H H1 → TabS H1 P q → TT (fun E H' Q' => t E σ H' Q') H1 Q
section
variable {X : Cx}
/-- x(lambda: body) -/
theorem pe_lam3 {TT : (XK → Hp → VK → Prop) → Hp → VK → Prop} {x a : Str} {g c P : Addr} {k : Nat} {pg : Arguments} {bg : List Stmt} {sg : Scope} {dV kV doc pm cdv ct oc : Value} {an od : Option Addr} {osl : Array (Option Value)} {Ng : List Str}
    {params : Arguments} {body : Expr} {scope : Scope} {t : XK → TE} {p lpos pos : Pos} (hg : Gl X x) (hm : X.mg x = some (.ref g)) (hk : PySem.W.keepIn X.K (.ref g) = true)
    (lk : X.K.lookup g = some ⟨oc, od, .func (PySem.W.fnOf x x pg bg sg dV kV doc pm an cdv ct), osl⟩) (hcg : PySem.W.codeIn X.K cdv x = true) (hb : L2.Binds X.K (PySem.W.fnOf x x pg bg sg dV kV doc pm an cdv ct) [a] []) (Sg : FnScope Ng [a] sg) (hNg : Ng[0]? = some a) (hva : Vis sg a)
    (hG : GivesTo X Ng x sg g cdv bg a (X.env.qual ++ "<lambda>") TT)
    (TB : TabB X.base X.mg c P) (hcode : X.env.code = .ref c) (hr : Room (k + 2) X.A) (L : LamS X.env.scope scope) (hdef : defaultsOf params X.env = ([], []))
    (hbind : ∀ (q : Str) (cl : List (Str × Addr)) (pm cv ctv : Value), bindArgs (PySem.W.kla_fn "<lambda>" q params body scope cl pm cv ctv) ⟨[], []⟩ = pure [])
    (hbody : ∀ (A : Around) (outer : List Env) (s : Shared) (H : Hp) (E : XK) (f c' : Addr), Room k (A.deeper (lamEnv X scope s.heap.objs.size f c')) → PE (lamCx X A outer s H E scope f c') body (t E))
    (hdb : (x == ("__debug__" : Str)) = false := by decide) (hd : (a == ("__debug__" : Str)) = false := by decide) (hcd : (a == ("__classdict__" : Str)) = false := by decide) :
    PE X (.Call (.Name x p) [.Lambda params body scope lpos] [] pos) (tLam3 P (X.env.qual ++ "<lambda>") TT t) := by
  refine ⟨fun pins s σ H Q I ⟨hT, h⟩ => ?_⟩
  refine wpAny_Call_Name_kw (ld_glob I hg hm ?_ hdb)
  refine PySem.W.callWith_K (h₀ := X.base) I.ok.mod.kin hk ?_ (by rfl) (by rfl)
  show wpAny _ _ (spliced ((false, eval (.Lambda params body scope lpos) X.env) :: backTo pos (starEach [] X.env))) _ _ s
  refine Calls.spliced_cons (lam_make3 I TB hcode hT hdef (L.has I.ok) fun f c' pm' ctv H1 s' I1 eN T1 hf hfn hfr hco => Calls.spliced_nil ⟨I1.kIn, ?_⟩)
  have rc : codeAny (model X.prog X.w) X.A (.call (.ref g) ⟨[.ref f], []⟩) (CR C8.CX0 X.stack X.prog X.w H1 s' Q C8.E0) s' := by
    refine run_ofS (N := Ng) (ps := [a]) (us := [.ref f]) (vs := [.ref f]) lk hcg Sg hr I1.env0 (hb s' [.ref f] I1.kIn rfl) (.cons rfl .nil) rfl fun hr' => ?_
    obtain ⟨t', ht', hq'⟩ := hG f c' s' H1 Q (fun E H' Q' => t E σ H' Q') (fun W pn xe E p1 p2 tk hW => pe_act (i := 0) I1 L hf hfn hfr (hbind _ _ _ _ _) tk hW hr' (fun A outer s H hr2 => hbody A outer s H E f c' hr2) hNg hva hd hcd) hco (h c' H1 eN T1)
    exact ⟨t', ht'.nox, hq'⟩
  refine wpAny_call (codeAny_mono rc fun r s2 hq => ?_)
  cases r with
  | error e => exact (show False from hq).elim
  | ok fl =>
    cases fl with
    | ret u => exact I1.after hq
    | next => exact False.elim hq
    | brk => exact False.elim hq
    | cont => exact False.elim hq
end
end EV

set_option maxHeartbeats 2000000
/-! EV 44: _law_said(lambda: e). -/
namespace EV
open PySem PySem.Spec PyProof.Rows L2 LamX
/-- the number of an exception's name -/
def errIx (x : Str) : Option Nat := (List.range 10).find? fun j => errsL[j]? == some x
theorem errIx_at {x : Str} {j : Nat} (h : errIx x = some j) : j < 10 ∧ errsL[j]? = some x := by
  unfold errIx at h
  have h1 := List.mem_of_find?_eq_some h
  have h2 := List.find?_some h
  exact ⟨List.mem_range.mp h1, by simpa using h2⟩
/-- what is said of what a lambda does -/
def saidM (w8 : Str) (m : PM D) : PM D := fun s => match m [] with
  | .ok d _ => reprF [d] s
  | .exc e => if e.fs = [] then (match errIx e.name with
      | some j => .ok (.str ("! " ++ (wordsL w8).getD j "")) s
      | none => .bad) else .bad
  | .bad => .bad
/-- the def makes lambdas: its code object, the table -/
def LamAt (X : Cx) : Prop := ∃ c P, X.env.code = .ref c ∧ TabB X.base X.mg c P ∧ NeedT X.K P ∧ tauK X.K P = X.env.qual ++ "<lambda>"
/-- the slots of values -/
def valS : Sl → Sl
  | .val d => .val d
  | _ => .junk
theorem valS_val {Γ : List Sl} {i : Nat} {d : D} (h : (Γ.map valS)[i]? = some (.val d)) : Γ[i]? = some (.val d) := by
  rw [List.getElem?_map] at h
  cases e : Γ[i]? with
  | none => rw [e] at h; cases h
  | some z =>
    rw [e] at h
    cases z <;> cases h
    rfl
theorem valS_not {Γ : List Sl} {i : Nat} {z : Sl} (h : (Γ.map valS)[i]? = some z) (n : ∀ d, z ≠ .val d) : z = .junk := by
  rw [List.getElem?_map] at h
  cases e : Γ[i]? with
  | none => rw [e] at h; cases h
  | some y =>
    rw [e] at h
    cases y <;> cases h <;> first | rfl | exact absurd rfl (n _)
section
variable {K : PySem.W.Frag} {pa : Option Addr} {G0 H0 G H H1 : Hp} {σ : L2.St} {Γ : List Sl} {s : List Int} {P c' : Addr} {q : Str}
/-- the heap behind the making -/
theorem lamH_ext (hs : Same G H) (tk : TabK K H) (nt : NoT G) (hL : LamH P q c' H H1) (hT : TabS H1 P q) (ht : tauK K P = q) : Ext K pa G H G H1 ∧ TabK K H1 := by
  rcases hL with rfl | ⟨ps, more, hP, hc, rfl⟩
  · exact ⟨.refl hs, tk⟩
  · have nPc : P ≠ c' := ne_of_none hP hc
    have at_ : ∀ b, b ≠ P → b ≠ c' → upd (upd H P (.tbl (ps ++ more))) c' (CodeO c' q) b = H b := fun b h1 h2 => by rw [upd_ne h2, upd_ne h1]
    have notP : ∀ b o, H b = some o → (∀ ps, o ≠ .tbl ps) → b ≠ P := fun b o e n z => by
      rw [z, hP] at e
      exact n ps (Option.some.inj e).symm
    have tk' : TabK K (upd (upd H P (.tbl (ps ++ more))) c' (CodeO c' q)) := ⟨fun P' ps' e => by
      by_cases z : P' = P
      · rw [z, ht]
        exact hT
      · by_cases z2 : P' = c'
        · rw [z2, upd_same] at e
          exact absurd (Option.some.inj e) (codeO_ne ps')
        · rw [at_ P' z z2] at e
          obtain ⟨ps2, h1, h2, h3⟩ := tk.ok P' ps' e
          refine ⟨ps2, by rw [at_ P' z z2]; exact h1, h2, fun pos cv hcv => ?_⟩
          obtain ⟨c0, e1, e2⟩ := h3 pos cv hcv
          refine ⟨c0, e1, ?_⟩
          rw [at_ c0 (notP c0 _ e2 fun ps => codeO_ne ps) (ne_of_none e2 hc)]
          exact e2, fun P' n => by
      by_cases z : P' = P
      · rw [z, upd_ne nPc, upd_same]
        exact ⟨_, rfl⟩
      · obtain ⟨ps2, e⟩ := tk.on P' n
        rw [at_ P' z (ne_of_none e hc)]
        exact ⟨ps2, e⟩⟩
    refine ⟨⟨Same.refl G, fun a o e _ n => ?_, fun a o e => ?_, fun _ _ _ n => n, fun b o e => ?_, fun _ => tk', fun h => h⟩, tk'⟩
    · rw [at_ a (notP a o e n) (ne_of_none e hc)]
      exact e
    · by_cases z : a = P
      · rw [z, upd_ne nPc, upd_same]
        exact ⟨_, rfl⟩
      · rw [at_ a z (ne_of_none e hc)]
        exact ⟨o, e⟩
    · have e' := hs b o e
      rw [at_ b (fun z => by
        rw [z] at e e'
        rw [hP] at e'
        cases e'
        exact nt P ps e) (ne_of_none e' hc)]
      exact e'
theorem News.ext {G : Hp} {H H' : Hp} (n : News H H') (hs : Same G H) : Ext K pa G H G H' := ⟨Same.refl G, fun a o e _ _ => n.1 a o e, fun a o e => ⟨o, n.1 a o e⟩, fun _ _ _ h => h, fun b o e => n.1 b o (hs b o e),
  fun h => h.keep n.2 (fun c φ e => n.1 c _ e) fun P ps e => n.1 P _ e, fun h => h⟩
/-- what the lambda sees -/
theorem Nv.lam (E : Nv K pa G0 H0 G H σ Γ s) (hs : Same G H1) (tk : TabK K H1) : Nv K Option.none G H1 G H1 σ (Γ.map valS) [] where
  len := by rw [List.length_map]; exact E.len
  val := fun i d e => E.val i d (valS_val e)
  own := fun i xs e => by cases valS_not e (fun d z => by cases z)
  inj := fun i j p xs ys e => by cases valS_not e (fun d z => by cases z)
  pen := fun i e => by cases valS_not e (fun d z => by cases z)
  scr := fun i ns e => by cases valS_not e (fun d z => by cases z)
  ps := PenOk.none
  ext := .refl hs
  x := NvX.none (fun z m => by
    obtain ⟨i, hi, e⟩ := List.getElem_of_mem m
    have e2 : (Γ.map valS)[i]? = some z := by rw [List.getElem?_eq_getElem hi, e]
    cases z with
    | dic sh xs => cases valS_not e2 (fun d z => by cases z)
    | ro sh xs => cases valS_not e2 (fun d z => by cases z)
    | _ => rfl) tk E.x.nt
end
/-- the def said: its promise to what is handed to it -/
structure SaidC (P : Program) (w : World) (K : PySem.W.Frag) (mg : Str → Option Value) (base : Heap) (k : Nat) (x w8 : Str) : Prop where
  ex : ∃ (g CA : Addr) (pg : Arguments) (bg : List Stmt) (sg : Scope) (kV doc pm cdv ct oc : Value) (an od : Option Addr) (osl : Array (Option Value)) (a : Str) (Ng : List Str),
    mg x = some (.ref g) ∧ PySem.W.keepIn K (.ref g) = true ∧ K.lookup g = some ⟨oc, od, .func (PySem.W.fnOf x x pg bg sg .none kV doc pm an cdv ct), osl⟩ ∧ PySem.W.codeIn K cdv x = true ∧
    L2.Binds K (PySem.W.fnOf x x pg bg sg .none kV doc pm an cdv ct) [a] [] ∧ FnScope Ng [a] sg ∧ Ng[0]? = some a ∧ Vis sg a ∧ (a == ("__debug__" : Str)) = false ∧ (a == ("__classdict__" : Str)) = false ∧
    (∀ j y, errsL[j]? = some y → ∃ D, mg y = some (.ref D) ∧ ErrJ K mg CA D j) ∧
    ∀ X : Cx, X.prog = P → X.w = w → X.K = K → X.mg = mg → X.base = base → Room (k + 1) X.A → X.A.guards = some [] → ∀ q, GivesTo X Ng x sg g cdv bg a q (TSaid w8 K mg CA)
section
variable {X : Cx} {W : WX} {pa : Option Addr} {Γ : List Sl} {k : Nat} {pos : Pos}
theorem ev_said {x w8 : Str} {m : PM D} {params : Arguments} {body : Expr} {scope : Scope} {p lpos : Pos} (C : Cok X W (k + 33)) (S : SaidC X.prog X.w X.K X.mg X.base (k + 31) x w8) (LA : LamAt X) (L : LamS X.env.scope scope) (hg : Gl X x) (hdef : defaultsOf params X.env = ([], []))
    (hbind : ∀ (q : Str) (cl : List (Str × Addr)) (pm cv ctv : Value), bindArgs (PySem.W.kla_fn "<lambda>" q params body scope cl pm cv ctv) ⟨[], []⟩ = pure [])
    (hb : ∀ (A : Around) (outer : List Env) (s : Shared) (H : Hp) (E : XK) (f c' : Addr), Cok (lamCx X A outer s H E scope f c') (fun cls d _ H' => E cls d H') 31 → EV (lamCx X A outer s H E scope f c') (fun cls d _ H' => E cls d H') none (Γ.map valS) body m)
    (hdb : (x == ("__debug__" : Str)) = false := by decide) : EV X W pa Γ (.Call (.Name x p) [.Lambda params body scope lpos] [] pos) (saidM w8 m) := by
  obtain ⟨g, CA, pg, bg, sg, kV, doc, pm, cdv, ct, oc, an, od, osl, a, Ng, s1, s2, s3, s4, s5, s6, s7, s8, s9, s10, s11, s12⟩ := S.ex
  obtain ⟨c, P, l1, l2, l3, l4⟩ := LA
  refine pe_imp (pe_lam3 (k := k + 31) (t := fun E => evT X (fun cls d _ H' => E cls d H') none (Γ.map valS) m) hg s1 s2 s3 s4 s5 s6 s7 s8 (s12 X rfl rfl rfl rfl rfl (C.room.mono (by omega)) (C.guards (by omega)) _) l2 l1 C.room L hdef hbind
    (fun A outer s H E f c' hr => hb A outer s H E f c' ⟨rfl, C.nd, takes_of rfl rfl rfl rfl, hr.mono (by omega), fun z => absurd z (by decide), passes_of rfl⟩) hdb s9 s10) fun σ H Q ⟨G0, H0, G, s, E, R⟩ => ?_
  have tk := E.tk
  obtain ⟨ps, hP⟩ := tk.on P l3
  have hTS : TabS H P (X.env.qual ++ "<lambda>") := by
    rw [← l4]
    exact tk.ok P ps hP
  refine ⟨hTS, fun c' H1 hL hT1 => ?_⟩
  obtain ⟨x1, tk1⟩ := lamH_ext (pa := pa) E.sub tk E.x.nt hL hT1 l4
  have p1 : PenOk pa G H1 s := fun q e => by
    obtain ⟨a1, a2⟩ := E.ps q e
    refine ⟨a1, ?_⟩
    rcases hL with rfl | ⟨ps2, more, hP2, hc, rfl⟩
    · exact a2
    · rw [upd_ne (ne_of_none a2 hc), upd_ne (fun z => by rw [z, hP2] at a2; cases a2)]
      exact a2
  refine ⟨G, H1, G, [], E.lam x1.sub tk1, ?_⟩
  have R : Pst X.K W X.mg pa σ (FD X.K Q) G H (saidM w8 m s) := R
  unfold saidM at R
  cases e : m [] with
  | bad => rw [e] at R; exact R.elim
  | ok d s' =>
    rw [e] at R
    intro G2 H2 y _ v rv
    have yx : Ext X.K pa G H1 G2 H2 := y.any
    have R2 := R.mono (x1.trans yx)
    have R2 : Pst X.K W X.mg pa σ (FD X.K Q) G2 H2 (reprF [d] s) := R2
    have R2 : Pst X.K W X.mg pa σ (FD X.K Q) G2 H2 ((if okD d = true ∧ (toPy d).depth ≤ 60 ∧ (shown d).length ≤ lim then pure (.str (shown d)) else bad : PM D) s) := R2
    split at R2
    · rename_i hh
      have z := okD_py d hh.1
      exact ⟨v, toPy d, rfl, (rv.mono yx.sub).dp z.2, z.1, z.2, hh.2.1, lim_le hh.2.2, R2 G2 H2 (Ext.refl yx.sub) (p1.ext y) _ (.str _)⟩
    · exact R2.elim
  | exc ex =>
    rw [e] at R
    intro cls dx G2 H2 y ei
    have R : Pst X.K W X.mg pa σ (FD X.K Q) G H (if ex.fs = [] then (match errIx ex.name with
      | some j => EV.R.ok (D.str ("! " ++ (wordsL w8).getD j "")) s
      | none => EV.R.bad) else EV.R.bad) := R
    by_cases hf : ex.fs = []
    · rw [if_pos hf] at R
      cases hj : errIx ex.name with
      | none => rw [hj] at R; exact R.elim
      | some j =>
        rw [hj] at R
        obtain ⟨hj1, hj2⟩ := errIx_at hj
        obtain ⟨Dc, d1, d2⟩ := s11 j ex.name hj2
        obtain ⟨e1, e2, _⟩ := ei
        rw [d1] at e1
        cases e1
        refine ⟨Dc, j, hj1, rfl, e2 hf, d2, fun H3 nw => ?_⟩
        have yx : Ext X.K pa G H1 G2 H2 := y.any
        have z : Ext X.K pa G H G2 H3 := (x1.trans yx).trans (nw.ext y.sub)
        exact R G2 H3 z ((p1.ext y).ext (nw.ext (K := X.K) y.sub)) _ (.str _)
    · rw [if_neg hf] at R
      exact R.elim
end
end EV

set_option maxHeartbeats 2000000
/-! EV 45: instances of own classes: made, read, asked for their class. -/
namespace EV
open PySem PySem.Spec PyProof.Rows L2
/-- a slot that holds the instance x, being made -/
def insS (x C dx : Addr) (ks : List Str) (xs : List D) : Sl := .dic (.ins x C dx ks) xs
theorem zip_putF {f : Str} {v : V} : ∀ {ks : List Str} {vs : List V}, f ∉ ks → vs.length = ks.length → putF f v (ks.zip vs) = (ks ++ [f]).zip (vs ++ [v])
  | [], [], _, _ => rfl
  | [], _ :: _, _, h => by simp at h
  | _ :: _, [], _, h => by simp at h
  | k :: ks, w :: vs, n, h => by
    have e : (k = f) = False := eq_false fun z => n (by rw [z]; exact List.mem_cons_self)
    show putF f v ((k, w) :: ks.zip vs) = _
    unfold putF
    rw [if_neg (by rw [e]; exact not_false), zip_putF (fun m => n (List.mem_cons_of_mem _ m)) (by simpa using h)]
    rfl
theorem zip_lookup {f : Str} : ∀ {ks : List Str} {vs : List V} {j : Nat} {v : V}, ks[j]? = some f → (∀ i, i < j → ks[i]? ≠ some f) → vs[j]? = some v → (ks.zip vs).lookup f = some v
  | [], _, j, v, h, _, _ => by simp at h
  | _ :: _, [], j, v, _, _, h => by simp at h
  | k :: ks, w :: vs, 0, v, h, _, e => by
    have h : k = f := by simpa using h
    have e : w = v := by simpa using e
    subst h e
    show (match k == k with | true => some w | false => _) = some w
    rw [beq_self_eq_true]
  | k :: ks, w :: vs, j + 1, v, h, n, e => by
    have nk : (f == k) = false := beq_eq_false_iff_ne.mpr fun z => n 0 (Nat.succ_pos _) (by rw [z]; rfl)
    show (match f == k with | true => some w | false => (ks.zip vs).lookup f) = some v
    rw [nk]
    exact zip_lookup (by simpa using h) (fun i hi => by simpa using n (i + 1) (Nat.succ_lt_succ hi)) (by simpa using e)
theorem upd_comm {H : Hp} {a b : Addr} {u v : HO} (h : a ≠ b) : upd (upd H a u) b v = upd (upd H b v) a u := funext fun c => by
  by_cases ha : c = a
  · subst ha
    rw [upd_ne h, upd_same, upd_same]
  · by_cases hb : c = b
    · subst hb
      rw [upd_same, upd_ne ha, upd_same]
    · rw [upd_ne hb, upd_ne ha, upd_ne ha, upd_ne hb]
section
variable {X : Cx} {W : WX} {pa : Option Addr} {Γ : List Sl} {k : Nat} {pos : Pos} {α : Type} {out : α → Out} {rest : List Stmt}
/-- self.f = e, a new attribute -/
theorem sv_fldNew (i : Nat) {x f : Str} {e : Expr} {o Cl dx : Addr} {ks : List Str} {xs : List D} {me : PM D} {kk : D → PM α} {p1 p2 : Pos} (hc : Cls X.K Cl) (hn : NoAttr X.K Cl f) (hΓ : Γ[i]? = some (insS o Cl dx ks xs)) (hf : f ∉ ks) (hl : ks.length < 900) (he : EV X W pa Γ e me)
    (hr : ∀ d, SV X W pa (Γ.set i (insS o Cl dx (ks ++ [f]) (xs ++ [d]))) out rest (kk d))
    (hN : X.N[i]? = some x := by rfl) (hv : Vis X.env.scope x := by first | exact Or.inl rfl | exact Or.inr (Or.inl rfl) | exact Or.inr (Or.inr rfl)) (hd : (x == ("__debug__" : Str)) = false := by decide) (hcd : (x == ("__classdict__" : Str)) = false := by decide)
    (hs : swapsWith e (some (.Attribute (.Name x p1) f p2)) pos.line X.env = pure false := by rfl) :
    SV X W pa Γ out (.Assign [.Attribute (.Name x p1) f p2] e pos :: rest) (me >>= fun d => kk d) := by
  unfold SV
  rw [bind_assoc]
  have hrest : PSs X rest (fun Dn σ H => ∃ d : D, svT X W pa (Γ.set i (insS o Cl dx (ks ++ [f]) (xs ++ [d]))) (kk d >>= fun a => pure (out a)) Dn σ H) := pss_ex (ι := D) fun d => hr d
  refine pss_imp (pss_cons (ps_fld (pe_var hN hv hd hcd) he hs) hrest) fun Dn σ H ⟨G0, H0, G, s, E, P⟩ => ⟨G0, H0, G, s, E, (P.bind E).imp fun G1 H1 d s1 x1 p1 P1 v r => ?_⟩
  have E1 := E.step x1 p1
  obtain ⟨p, vs, q1, q2, q3, q4, q5, q6⟩ := E1.x.dic i _ _ hΓ
  have lk : vs.length = ks.length := by rw [q4.1]; exact q5.symm
  refine ⟨.ref p, q1, p, Cl, dx, ks.zip vs, rfl, q2, hc, hn, by rw [List.length_zip]; omega, d, G0, H0, G1, s1, ?_, P1⟩
  rw [zip_putF hf lk]
  exact E1.mutDic (sh' := .ins o Cl dx (ks ++ [f])) (ys := xs ++ [d]) hΓ q1 (q4.app (.cons r .nil)) (by
    show (ks ++ [f]).length = _
    have q5 : ks.length = xs.length := q5
    simp [q5]) (fun z => z)
/-- self.f, an attribute that is there -/
theorem ev_fldOwn (i j : Nat) {x f : Str} {o Cl dx : Addr} {ks : List Str} {xs : List D} {d : D} {p1 : Pos} (hc : Cls X.K Cl) (hn : NoAttr X.K Cl f) (hΓ : Γ[i]? = some (insS o Cl dx ks xs)) (hj : ks[j]? = some f) (hb : ∀ i, i < j → ks[i]? ≠ some f) (hx : xs[j]? = some d)
    (hN : X.N[i]? = some x := by rfl) (hv : Vis X.env.scope x := by first | exact Or.inl rfl | exact Or.inr (Or.inl rfl) | exact Or.inr (Or.inr rfl)) (hd : (x == ("__debug__" : Str)) = false := by decide) (hcd : (x == ("__classdict__" : Str)) = false := by decide)
    (ha : attributeBase (.Name x p1) f X.env (eval (.Name x p1) X.env) = eval (.Name x p1) X.env := by rfl) : EV X W pa Γ (.Attribute (.Name x p1) f pos) (pure d) :=
  pe_imp (pe_fld (pe_var hN hv hd hcd) ha) fun σ H Q ⟨G0, H0, G, s, E, P⟩ => by
    obtain ⟨p, vs, q1, q2, q3, q4, q5, q6⟩ := E.x.dic i _ _ hΓ
    obtain ⟨v, v1, v2⟩ := q4.get hx
    exact ⟨.ref p, q1, p, Cl, dx, ks.zip vs, v, rfl, q2, hc, hn, zip_lookup hj hb v1, P.now E.sub E.ps v v2⟩
/-- e.f of an instance that stands -/
def fldD (Cl : Addr) (f : Str) : D → PM D
  | .obj C fs => if C = Cl then (match fs.lookup f with
    | some d => pure d
    | none => bad) else bad
  | _ => bad
theorem fvs_lookup {K : PySem.W.Frag} {G : Hp} {f : Str} : ∀ {fvs : List (Str × V)} {fs : List (Str × D)} {d : D}, fvs.map (·.1) = fs.map (·.1) → (∀ (i : Nat) (v : Str × V) (d : Str × D), fvs[i]? = some v → fs[i]? = some d → Rp K G v.2 d.2) → fs.lookup f = some d → ∃ v, fvs.lookup f = some v ∧ Rp K G v d
  | [], [], d, _, _, h => by cases h
  | [], _ :: _, d, h, _, _ => by simp at h
  | _ :: _, [], d, h, _, _ => by simp at h
  | (a, v) :: fvs, (b, e) :: fs, d, h, r, q => by
    have h1 : a = b ∧ fvs.map (·.1) = fs.map (·.1) := by simpa using h
    obtain ⟨rfl, h2⟩ := h1
    have q : (match f == a with | true => some e | false => fs.lookup f) = some d := q
    show ∃ w, (match f == a with | true => some v | false => fvs.lookup f) = some w ∧ _
    cases z : (f == a) with
    | true =>
      rw [z] at q
      cases q
      exact ⟨v, rfl, r 0 _ _ rfl rfl⟩
    | false =>
      rw [z] at q
      exact fvs_lookup h2 (fun i v d e1 e2 => r (i + 1) v d (by simpa using e1) (by simpa using e2)) q
theorem ev_fldO {e : Expr} {f : Str} {Cl : Addr} {m : PM D} (hn : NoAttr X.K Cl f) (he : EV X W pa Γ e m) (ha : attributeBase e f X.env (eval e X.env) = eval e X.env := by rfl) : EV X W pa Γ (.Attribute e f pos) (m >>= fldD Cl f) :=
  pe_imp (pe_fld he ha) fun σ H Q ⟨G0, H0, G, s, E, P⟩ => ⟨G0, H0, G, s, E, P.bind.imp fun G1 H1 d s1 x1 p1 P1 v r => by
    cases r with
    | @obj a C dx fvs fs h hc hk rr =>
      have P1 : Pst X.K W X.mg pa σ (FD X.K Q) G1 H1 ((if C = Cl then (match fs.lookup f with | some d => pure d | none => bad) else bad : PM D) s1) := P1
      by_cases z : C = Cl
      · subst z
        rw [if_pos rfl] at P1
        cases q : fs.lookup f with
        | none => rw [q] at P1; exact P1.elim
        | some d =>
          rw [q] at P1
          obtain ⟨w, w1, w2⟩ := fvs_lookup hk rr q
          exact ⟨a, C, dx, fvs, w, rfl, x1.sub _ _ h, hc.cl, hn, w1, P1.now x1.sub p1 w w2⟩
      · rw [if_neg z] at P1
        exact P1.elim
    | _ => exact P1.elim⟩
/-- isinstance(e, C), C an own class; tab: the classes of the instances that may come, and whether they are below it -/
def isC (tab : List (Addr × Bool)) : D → PM D
  | .obj C _ => match tab.lookup C with
    | some b => pure (.bl b)
    | none => bad
  | _ => pure (.bl false)
structure IsCl (K : PySem.W.Frag) (mg : Str → Option Value) (x : Str) (tab : List (Addr × Bool)) : Prop where
  ex : ∃ C : Addr, mg x = some (.ref C) ∧ (∀ D b, tab.lookup D = some b → PySem.W.kitOne K (.ref D) (.ref C) = some b) ∧ ∀ T ∈ ["NoneType", "bool", "int", "str", "tuple", "list", "dict"], PySem.W.kitOne K (.type T) (.ref C) = some false
  cv : ∀ C : Addr, mg x = some (.ref C) → ClsV (.ref C) (.ref C)
theorem ev_isC {e : Expr} {x : Str} {tab : List (Addr × Bool)} {m : PM D} {p p2 : Pos} (h : EV X W pa Γ e m) (I : IsCl X.K X.mg x tab) (hg : Gl X "isinstance") (hm : X.mg "isinstance" = none) (hg2 : Gl X x) (hdb : (x == ("__debug__" : Str)) = false := by decide)
    (hs : starEach [e, .Name x p2] X.env = (false, eval e X.env) :: starEach [.Name x p2] X.env := by rfl) (hs2 : starEach [.Name x p2] X.env = (false, eval (.Name x p2) X.env) :: starEach [] X.env := by rfl)
    (hpl : (backTo pos (starEach [.Name x p2] X.env)).any (·.1) = false := by rfl) :
    EV X W pa Γ (.Call (.Name "isinstance" p) [e, .Name x p2] [] pos) (m >>= isC tab) := by
  obtain ⟨C, c1, c2, c3⟩ := I.ex
  have hb : PE X (.Name x p2) (tC (.ref C)) := pe_glob hg2 c1 rfl hdb
  refine pe_imp (pe_callB call_isi hg hm (by decide +kernel) (pa_cons h (pa_cons hb pa_nil hs2) hs) (by decide) (by decide) hs hpl) fun σ H Q ⟨G0, H0, G, s, E, P⟩ =>
    ⟨G0, H0, G, s, E, P.bind.imp fun G1 H1 d s1 x1 p1 P1 v r => ?_⟩
  by_cases ho : ∃ c fs, d = .obj c fs
  · obtain ⟨c, fs, rfl⟩ := ho
    cases r with
    | @obj a D dx fvs fs h hc hk rr =>
      have P1 : Pst X.K W X.mg pa σ (FD X.K Q) G1 H1 ((match tab.lookup c with | some b => pure (.bl b) | none => bad : PM D) s1) := P1
      cases q : tab.lookup c with
      | none => rw [q] at P1; exact P1.elim
      | some b =>
        rw [q] at P1
        exact ⟨.ref a, .ref C, _, _, b, rfl, I.cv C c1, .base (.ins (x1.sub _ _ h) hc.cl hc.ha hc.hn hc.htk hc.hm), c2 c b q, P1.now x1.sub p1 _ (.bl _)⟩
  · have e : isC tab d = pure (.bl false) := by
      cases d <;> first | rfl | exact absurd ⟨_, _, rfl⟩ ho
    rw [e] at P1
    exact ⟨v, .ref C, _, _, false, rfl, I.cv C c1, r.ty x1.sub (fun c fs z => ho ⟨c, fs, z⟩), c3 _ (by cases d <;> first | (simp [tyName]; done) | exact absurd ⟨_, _, rfl⟩ ho), P1.now x1.sub p1 _ (.bl _)⟩
end
/-! ### __init__ -/
/-- what an __init__ makes of its arguments: the values of the attributes ks -/
def spI (K : PySem.W.Frag) (mg : Str → Option Value) (Cl : Addr) (ks : List Str) (n : Nat) (F : List D → PM (List D)) : Sp := fun vs H Q E => ∃ (x dx : Addr) (G H1 : Hp) (vs' : List V) (ds : List D),
  vs = .ref x :: vs' ∧ H x = some (.ins Cl dx []) ∧ H1 x = none ∧ G x = none ∧ Ext K none G H1 G H ∧ TabK K H1 ∧ NoT G ∧ RpL K G vs' ds ∧ ds.length = n ∧
    Pst K (fun cls d _ H' => E cls d H') mg none [] (fun G' H' fs _ => ∀ us, H' x = some (.ins Cl dx (ks.zip us)) → G' x = none → RpL K G' us fs → us.length = ks.length → Q .non H') G H1 (F ds [])
def slotsI (N : List Str) (x Cl dx : Addr) (ds : List D) : List Sl := (insS x Cl dx [] [] :: ds.map .val) ++ List.replicate (N.length - (ds.length + 1)) .junk
section
variable {K : PySem.W.Frag} {mg : Str → Option Value} {G H H1 : Hp} {s : List Int} {N : List Str} {vs : List V} {ds : List D} {x Cl dx : Addr}
theorem nv_startI (hx : H x = some (.ins Cl dx [])) (h1 : H1 x = none) (hg : G x = none) (E : Ext K none G H1 G H) (tk : TabK K H1) (nt : NoT G) (r : RpL K G vs ds) (hn : vs.length + 1 ≤ N.length) : Nv K none G H1 G H (start N (.ref x :: vs)) (slotsI N x Cl dx ds) s where
  len := by
    rw [start_len (by simpa using hn)]
    unfold slotsI
    have := r.1
    simp
    omega
  val := fun i d e => by
    have e := get_vals e (fun z => by cases z)
    cases i with
    | zero => cases e
    | succ i =>
      rw [List.getElem?_cons_succ, List.getElem?_map] at e
      cases q : ds[i]? with
      | none => rw [q] at e; cases e
      | some d' =>
        rw [q] at e
        cases e
        obtain ⟨v, h1, h2⟩ := r.get q
        exact ⟨v, start_get (by simpa using h1), h2⟩
  own := fun i xs e => by
    have e := get_vals e (fun z => by cases z)
    cases i with
    | zero => cases e
    | succ i =>
      rw [List.getElem?_cons_succ, List.getElem?_map] at e
      cases q : ds[i]? <;> rw [q] at e <;> cases e
  inj := fun i j p xs ys e => by
    have e := get_vals e (fun z => by cases z)
    cases i with
    | zero => cases e
    | succ i =>
      rw [List.getElem?_cons_succ, List.getElem?_map] at e
      cases q : ds[i]? <;> rw [q] at e <;> cases e
  pen := fun i e => by
    have e := get_vals e (fun z => by cases z)
    cases i with
    | zero => cases e
    | succ i =>
      rw [List.getElem?_cons_succ, List.getElem?_map] at e
      cases q : ds[i]? <;> rw [q] at e <;> cases e
  scr := fun i ns e => by
    have e := get_vals e (fun z => by cases z)
    cases i with
    | zero => cases e
    | succ i =>
      rw [List.getElem?_cons_succ, List.getElem?_map] at e
      cases q : ds[i]? <;> rw [q] at e <;> cases e
  ps := PenOk.none
  ext := E
  x := by
    have only : ∀ {i : Nat} {z : Sl}, (slotsI N x Cl dx ds)[i]? = some z → plainS z = false → i = 0 := fun {i z} e hz => by
      have e := get_vals e (fun y => by rw [y] at hz; cases hz)
      cases i with
      | zero => rfl
      | succ i =>
        rw [List.getElem?_cons_succ, List.getElem?_map] at e
        cases q : ds[i]? with
        | none => rw [q] at e; cases e
        | some d =>
          rw [q] at e
          cases e
          cases hz
    have at0 : ∀ {z : Sl}, (slotsI N x Cl dx ds)[0]? = some z → z = insS x Cl dx [] [] := fun {z} e => (Option.some.inj (show some (insS x Cl dx [] []) = some z from e)).symm
    refine ⟨fun i sh xs e => ?_, fun i j p sh xs sh' ys e1 e2 => ?_, fun i sh xs e => ?_, tk, nt⟩
    · have i0 := only e rfl
      subst i0
      cases at0 e
      exact ⟨x, [], start_get rfl, hx, hg, .nil, rfl, h1, rfl⟩
    · rw [only e1 rfl, only e2 rfl]
      exact fun _ _ => rfl
    · have i0 := only e rfl
      subst i0
      cases at0 e
end
section
variable {P : Program} {w : World} {K : PySem.W.Frag} {mg : Str → Option Value} {base : Heap} {Cl : Addr} {f : Addr} {N ps : List Str} {k n : Nat} {name qual : Str} {params : Arguments} {body : List Stmt} {scope : Scope} {ks : List Str}
/-- the body of an __init__ -/
structure InitB (P : Program) (w : World) (K : PySem.W.Frag) (mg : Str → Option Value) (base : Heap) (Cl : Addr) (f : Addr) (N : List Str) (k n : Nat) (qual : Str) (body : List Stmt) (scope : Scope) (ks : List Str) (F : List D → PM (List D)) : Prop where
  bd : ∀ (cdv : Value) (A : Around) (outer : List PySem.Env) (s : Shared) (H : Hp) (E : XK), Cok (cxOf (L2.CX P w) P w K mg base N qual scope f cdv A outer s H E) (fun cls d _ H => E cls d H) k → ∀ (x dx : Addr) (ds : List D), ds.length = n →
    ∃ Γ' : List D → List Sl, (∀ fs, (Γ' fs)[0]? = some (insS x Cl dx ks fs)) ∧ SV (cxOf (L2.CX P w) P w K mg base N qual scope f cdv A outer s H E) (fun cls d _ H => E cls d H) none (slotsI N x Cl dx ds) (fun fs => Out.fall (Γ' fs)) body (F ds)
theorem InitB.run {F : List D → PM (List D)} (B : InitB P w K mg base Cl f N k n qual body scope ks F) (nd : N.Nodup) (hk : k < 32) (hN : n + 1 ≤ N.length) (cdv : Value) (A : Around) (outer : List PySem.Env) (s : Shared) (H : Hp) (vs : List V) (Q : VK) (E : XK)
    (hr : Room k (A.deeper (envOfC qual scope s.heap.objs.size f cdv))) (h : spI K mg Cl ks n F vs H Q E) :
    ∃ t, PSs (cxOf (L2.CX P w) P w K mg base N qual scope f cdv A outer s H E) body t ∧ t { nx := fun _ H' => Q .non H', rt := Q } (start N vs) H := by
  obtain ⟨x, dx, G, H1, vs', ds, rfl, hx, h1, hg, ext, tk, nt, r, hn, hP⟩ := h
  obtain ⟨Γ', g0, sv⟩ := B.bd cdv A outer s H E (cok_fn nd (fun z => absurd hk (by omega)) hr) x dx ds hn
  refine ⟨_, sv, G, H1, G, [], nv_startI hx h1 hg ext tk nt r (by rw [r.1, hn]; exact hN), ?_⟩
  rw [PM.bind_def]
  cases e : F ds [] with
  | bad => rw [e] at hP; exact hP.elim
  | exc z =>
    rw [e] at hP
    exact fun cls d _ G' H' y q => hP cls d G' H' y q
  | ok fs s' =>
    rw [e] at hP
    show ∀ σ' G' H', Nv K none G H1 G' H' σ' (Γ' fs) s' → Q .non H'
    intro σ' G' H' N'
    obtain ⟨p, us, q1, q2, q3, q4, q5, q6, q7⟩ := N'.x.dic 0 _ _ (g0 fs)
    have q7 : p = x := q7
    subst q7
    exact hP G' H' N'.ext PenOk.none us q2 q3 q4 (by rw [q4.1]; exact q5.symm)
/-- the instance is made, and public -/
theorem made_pub {W : WX} {pa : Option Addr} {σ : L2.St} {G1 H1 G2 H2 : Hp} {s : List Int} {Q : VK} {x dx : Addr} {us : List V} {fs : List D} (oc : ObjC K Cl) (nx : H1 x = none) (hp1 : PenOk pa G1 H1 s) (y : Ext K pa G1 H1 G2 H2) (p2 : PenOk pa G2 H2 s) (hx : H2 x = some (.ins Cl dx (ks.zip us))) (gx : G2 x = none)
    (r : RpL K G2 us fs) (hl : us.length = ks.length) (P : Pst K W mg pa σ (FD K Q) G1 H1 ((pure (.obj Cl (ks.zip fs)) : PM D) s)) : Q (.ref x) H2 := by
  have sg : Same G2 (upd G2 x (.ins Cl dx (ks.zip us))) := fun a o e => by
    rw [upd_ne (ne_of_none e gx)]
    exact e
  have y' : Ext K pa G1 H1 (upd G2 x (.ins Cl dx (ks.zip us))) H2 := by
    refine ⟨y.g.trans sg, y.hh, y.t, fun a o e n => ?_, fun a o e => ?_, y.tk, fun h => (y.gt h).upd (fun _ z => by cases z)⟩
    · rw [upd_ne (ne_of_none e nx)]
      exact y.n a o e n
    · by_cases h : a = x
      · subst h
        rw [upd_same] at e
        rw [← e]
        exact hx
      · rw [upd_ne h] at e
        exact y.sub a o e
  refine P _ _ y' (fun q e => ?_) _ (.obj upd_same oc ?_ fun i v d e1 e2 => ?_)
  · obtain ⟨q1, q2⟩ := p2 q e
    refine ⟨?_, q2⟩
    rw [upd_ne (ne_of_none (hp1 q e).2 nx)]
    exact q1
  · have l2 := r.1
    rw [List.map_fst_zip (by omega), List.map_fst_zip (by omega)]
  · have hz : ∀ {α : Type} {zs : List α} {i : Nat} {v : Str × α}, (ks.zip zs)[i]? = some v → zs[i]? = some v.2 := fun {α zs i v} e => by
      rw [List.getElem?_zip_eq_some] at e
      exact e.2
    exact (r.2 i v.2 d.2 (hz e1) (hz e2)).mono sg
end
section
variable {X : Cx} {W : WX} {pa : Option Addr} {Γ : List Sl} {k j : Nat} {pos : Pos}
/-- what an own class makes -/
def newO (Cl : Addr) (ks : List Str) (F : List D → PM (List D)) (ds : List D) : PM D := run0 (F ds) >>= fun fs => pure (.obj Cl (ks.zip fs))
theorem made_ext {K : PySem.W.Frag} {G H : Hp} {x dx : Addr} {u : HO} (hs : Same G H) (nx : H x = none) (nd : H dx = none) (ne : dx ≠ x) (hu : ∀ ps, u ≠ .tbl ps) : Ext K pa G H G (upd (upd H dx (.own x)) x u) :=
  (Ext.newH hs nd (.own x)).trans (Ext.newH (fun a o e => by rw [upd_ne (ne_of_none (hs a o e) nd)]; exact hs a o e) (by rw [upd_ne ne.symm]; exact nx) u hu)
/-- the promise of an __init__, at the call -/
theorem spI_at {K : PySem.W.Frag} {mg : Str → Option Value} {Cl : Addr} {ks : List Str} {n : Nat} {F : List D → PM (List D)} {σ : L2.St} {G1 H1 H2 : Hp} {s : List Int} {Q : VK} {x dx : Addr} {vs : List V} {ds : List D} (oc : ObjC K Cl) (hs : Same G1 H1) (nx : H1 x = none) (tk : TabK K H1) (nt : NoT G1) (hp : PenOk pa G1 H1 s)
    (hx : H2 x = some (.ins Cl dx [])) (e2 : Ext K none G1 H1 G1 H2) (r : RpL K G1 vs ds) (hn : ds.length = n) (P : Pst K W mg pa σ (FD K Q) G1 H1 (newO Cl ks F ds s)) :
    spI K mg Cl ks n F (.ref x :: vs) H2 (fun v H3 => v = .non ∧ Q (.ref x) H3) fun cls d H' => W cls d σ H' := by
  refine ⟨x, dx, G1, H1, vs, ds, rfl, hx, nx, hs.free nx, e2, tk, nt, r, hn, ?_⟩
  unfold newO at P
  rw [PM.bind_def] at P
  unfold run0 at P
  cases e : F ds [] with
  | bad => rw [e] at P; exact P.elim
  | exc z =>
    rw [e] at P
    exact fun cls d G' H' y q => P cls d G' H' y.any q
  | ok fs s' =>
    rw [e] at P
    exact fun G' H' y _ us hx' gx' r' hl => ⟨rfl, made_pub oc nx hp y.any (hp.ext y) hx' gx' r' hl P⟩
/-- an own class called with values -/
theorem runMk {pins : List (Addr × Obj)} {σ : L2.St} {H : Hp} {s : Shared} {Q : VK} {us : List Value} {vs : List V} {Cl f : Addr} {sp : Sp} (C : Cok X W (j + 1)) (M : Mk X.K Cl f) (F : FnR X.prog X.w X.K X.mg X.base (L2.CX X.prog X.w) j f sp) (I : Inv X pins σ H s) (r : Vals vs us)
    (h : ∀ x dx, H x = none → H dx = none → dx ≠ x → sp (V.ref x :: vs) (upd (upd H dx (.own x)) x (.ins Cl dx [])) (fun v H2 => v = .non ∧ Q (.ref x) H2) fun cls d H' => W cls d σ H') : wpAny (model X.prog X.w) X.A (PySem.call (.ref Cl) us) (EP X pins σ Q) X.xe s := by
  have J := Inv.made (C := Cl) I
  have hq := h _ _ (I.hok.fresh (Nat.le_succ s.heap.objs.size)) (I.hok.fresh (Nat.le_refl _)) (Nat.ne_of_lt (Nat.lt_succ_self _))
  have rr : Vals (V.ref (s.heap.objs.size + 1) :: vs) (Value.ref (s.heap.objs.size + 1) :: us) := .cons rfl r
  have key := F _ X.stack _ _ _ _ _ _ (C.room.make Cl us []) (J.env0.make Cl us []) rr hq
  refine wpAny_call (make_map (f := f) I.kIn M.makes M.init (beq_iff_eq.mp M.fn) (codeAny_mono key fun res s' z => ?_))
  match res, z with
  | .error e, z => exact C.takes e s' (XE.of_call J (fun _ _ _ q => q) z)
  | .ok (.ret u), z =>
    obtain ⟨v, H3, I3, rv, ev, q3⟩ := J.after z
    subst ev
    exact ⟨rv, V.ref (s.heap.objs.size + 1), H3, I3, rfl, q3⟩
theorem pe_mk {x : Str} {Cl f : Addr} {sp : Sp} {e : Expr} {es : List Expr} {t : TA} {p : Pos} (C : Cok X W (j + 1)) (M : Mk X.K Cl f) (F : FnR X.prog X.w X.K X.mg X.base (L2.CX X.prog X.w) j f sp) (hg : Gl X x) (hm : X.mg x = some (.ref Cl)) (ha : PA X (e :: es) t)
    (hdb : (x == ("__debug__" : Str)) = false := by decide) (he : starEach (e :: es) X.env = (false, eval e X.env) :: starEach es X.env := by rfl) (hpl : (backTo pos (starEach es X.env)).any (·.1) = false := by rfl) :
    PE X (.Call (.Name x p) (e :: es) [] pos) (fun σ H Q => t σ H fun vs H1 => ∀ x dx, H1 x = none → H1 dx = none → dx ≠ x → sp (V.ref x :: vs) (upd (upd H1 dx (.own x)) x (.ins Cl dx [])) (fun v H2 => v = .non ∧ Q (.ref x) H2) fun cls d H' => W cls d σ H') :=
  ⟨fun pins s σ H Q I h => wpAny_Call_Name_kw (ld_glob I hg hm (PySem.W.callWith_K (h₀ := X.base) I.ok.mod.kin M.kp (thn (ha.run pos pins s σ H _ I h) fun us s1 ⟨vs, H1, I1, r, q⟩ => ⟨I1.kIn, runMk C M F I1 r q⟩) he hpl) hdb)⟩
/-- C(e, ..), the __init__ takes *needs -/
def spStar (sp : Sp) : Sp := fun vs H Q E => ∃ ws rest, vs = ws ++ rest ∧ ws.length = 1 ∧ rest.length ≤ sizeLine ∧ ∀ p, H p = Option.none → sp (ws ++ [V.ref p]) (upd H p (.tup rest)) Q E
theorem ev_makeS {x : Str} {Cl f : Addr} {ks : List Str} {F : List D → PM (List D)} {e : Expr} {es : List Expr} {ml : PM (List D)} {p : Pos} (C : Cok X W (j + 1)) (M : Mk X.K Cl f) (oc : ObjC X.K Cl) (FR : FnR X.prog X.w X.K X.mg X.base (L2.CX X.prog X.w) j f (spStar (spI X.K X.mg Cl ks 1 F)))
    (hg : Gl X x) (hm : X.mg x = some (.ref Cl)) (ha : EL X W pa Γ (e :: es) ml) (hdb : (x == ("__debug__" : Str)) = false := by decide) (he : starEach (e :: es) X.env = (false, eval e X.env) :: starEach es X.env := by rfl) (hpl : (backTo pos (starEach es X.env)).any (·.1) = false := by rfl) :
    EV X W pa Γ (.Call (.Name x p) (e :: es) [] pos) (ml >>= fun ds => mkT ds >>= fun t => newO Cl ks F [t]) :=
  pe_imp (pe_mk C M FR hg hm ha hdb he hpl) fun σ H Q ⟨G0, H0, G, s, E, R⟩ => ⟨G0, H0, G, s, E, R.bind.imp fun G1 H1 ds s1 x1 p1 P1 vs r x dx nx nd ne => by
    by_cases hl : ds.length ≤ lim
    · rw [mkT_ok hl, pure_bind] at P1
      refine ⟨[V.ref x], vs, rfl, rfl, by rw [r.1]; exact lim_le hl, fun q nq => ?_⟩
      have qx : q ≠ x := fun z => by rw [z, upd_same] at nq; cases nq
      have qd : q ≠ dx := fun z => by rw [z, upd_ne ne, upd_same] at nq; cases nq
      have nq1 : H1 q = none := by rw [upd_ne qx, upd_ne qd] at nq; exact nq
      have y1 := Ext.new (K := X.K) (pa := pa) x1.sub nq1 (.tup vs)
      have hs2 : Same (upd G1 q (.tup vs)) (upd H1 q (.tup vs)) := y1.sub
      have y2 : Ext X.K none (upd G1 q (.tup vs)) (upd H1 q (.tup vs)) (upd G1 q (.tup vs)) (upd (upd (upd H1 q (.tup vs)) dx (.own x)) x (.ins Cl dx [])) :=
        made_ext hs2 (by rw [upd_ne (Ne.symm qx)]; exact nx) (by rw [upd_ne (Ne.symm qd)]; exact nd) ne (fun _ z => by cases z)
      have ec : upd (upd (upd H1 dx (.own x)) x (.ins Cl dx [])) q (.tup vs) = upd (upd (upd H1 q (.tup vs)) dx (.own x)) x (.ins Cl dx []) := by
        rw [upd_comm (H := upd H1 dx (.own x)) (Ne.symm qx), upd_comm (H := H1) (Ne.symm qd)]
      rw [ec]
      refine spI_at oc hs2 (by rw [upd_ne (Ne.symm qx)]; exact nx) (y1.tk (x1.tk E.tk)) (y1.gt (x1.gt E.x.nt)) (p1.upd nq1 _) upd_same y2 (.cons (.mkT (SqT.of upd_same) (r.mono y1.g)) .nil) rfl (P1.mono y1)
    · rw [show mkT ds = bad from if_neg hl] at P1
      exact P1.elim⟩
/-- C(e, ..), the __init__ has defaults -/
theorem ev_makeD {x : Str} {Cl f : Addr} {ks : List Str} {n : Nat} {F : List D → PM (List D)} {dvs : List V} {dd : List D} {e : Expr} {es : List Expr} {ml : PM (List D)} {p : Pos} (C : Cok X W (j + 1)) (M : Mk X.K Cl f) (oc : ObjC X.K Cl) (FR : FnR X.prog X.w X.K X.mg X.base (L2.CX X.prog X.w) j f (fun vs H Q E => spI X.K X.mg Cl ks n F (vs ++ dvs) H Q E))
    (rd : ∀ G, RpL X.K G dvs dd) (ar : ∀ ds, ds.length ≠ n → F ds [] = .bad) (hg : Gl X x) (hm : X.mg x = some (.ref Cl)) (ha : EL X W pa Γ (e :: es) ml) (hdb : (x == ("__debug__" : Str)) = false := by decide) (he : starEach (e :: es) X.env = (false, eval e X.env) :: starEach es X.env := by rfl) (hpl : (backTo pos (starEach es X.env)).any (·.1) = false := by rfl) :
    EV X W pa Γ (.Call (.Name x p) (e :: es) [] pos) (ml >>= fun ds => newO Cl ks F (ds ++ dd)) :=
  pe_imp (pe_mk C M FR hg hm ha hdb he hpl) fun σ H Q ⟨G0, H0, G, s, E, R⟩ => ⟨G0, H0, G, s, E, R.bind.imp fun G1 H1 ds s1 x1 p1 P1 vs r x dx nx nd ne => by
    have hl : (ds ++ dd).length = n := by
      by_cases h : (ds ++ dd).length = n
      · exact h
      · exfalso
        unfold newO at P1
        rw [PM.bind_def] at P1
        unfold run0 at P1
        rw [ar _ h] at P1
        exact P1.elim
    exact spI_at oc x1.sub nx (x1.tk E.tk) (x1.gt E.x.nt) p1 upd_same (made_ext x1.sub nx nd ne (fun _ z => by cases z)) (r.app (rd G1)) hl P1⟩
end
end EV

set_option maxHeartbeats 2000000
/-! EV 46: {} as a value; what the head tells of classes; an __init__'s promise by its body; a method that does nothing. -/
namespace EV
open PySem PySem.Spec PyProof.Rows L2 PySem.W
section
variable {X : Cx} {W : WX} {pa : Option Addr} {Γ : List Sl} {k j : Nat} {pos : Pos} {α : Type} {out : α → Out} {rest : List Stmt}
/-- {} -/
theorem ev_dict0 : EV X W pa Γ (.Dict [] [] pos) (pure (.dct [])) := pe_imp pe_dnewK fun σ H Q ⟨G0, H0, G, s, E, R⟩ d nd => by
  have y := Ext.new (K := X.K) (pa := pa) E.sub nd (.dK [])
  exact R _ _ y (E.ps.upd nd _) _ (.dct (sh := .k []) (vs := []) upd_same rfl rfl fun i v d e => by simp at e)
end
/-! ### what the head tells of classes -/
def btB (K : Frag) (C : Addr) : Bool := ["int", "bool", "tuple", "str", "list"].all fun T => kitOne K (.ref C) (.type T) == some false
structure ClsAt (K : Frag) (mg : Str → Option Value) (x : Str) (Cl : Addr) (q : Str) (st : Stmt) (dvs : List V) : Prop where
  mgx : mg x = some (.ref Cl)
  oc : ObjC K Cl
  ex : ∃ f fd, Mk K Cl f ∧ FunD K "__init__" q (defArgs st) (defBody st) (defScope st) dvs [] f fd
theorem objC_mk {K : Frag} {C : Addr} (h1 : plainGet K C Str.empty = true) (h2 : hasDictIn K C = true) (h3 : plainOver K C = true) (h4 : findIn K (.ref C) "__setattr__" = some (some (.builtin "object.__setattr__")))
    (h5 : findIn K (.ref C) "__class__" = some (some (.builtin "object.__class__"))) (h6 : specialIn K (.builtin "object.__class__") "__get__" = some (some (.builtin "getset_descriptor.__get__")))
    (h7 : takesIn K (.builtin "object.__class__") = some true) (h8 : mroIn K C (.type "object") = some true) (h9 : btB K C = true) : ObjC K C :=
  ⟨⟨h1, h2, h3, h4⟩, h5, h6, h7, h8, fun T m => by simpa using List.all_eq_true.mp h9 T m⟩
theorem clsAt0 {K : Frag} {h : Heap} {mg : Str → Option Value} {x q : Str} {st : Stmt} {Cl f : Addr} {oc : Value} {od an : Option Addr} {osl : Array (Option Value)} {kV doc pm cdv ct : Value} (X : K.In h) (G : h.Ns mainGlobals mg)
    (a : nsIn K mainGlobals x = some (some (.ref Cl))) (o : ObjC K Cl) (m1 : makesIn K Cl = true) (m2 : findIn K (.ref Cl) "__init__" = some (some (.ref f))) (m3 : isFn K (.ref f) = true) (m4 : keepIn K (.ref Cl) = true)
    (l : K.lookup f = some ⟨oc, od, .func (fnOf "__init__" q (defArgs st) (defBody st) (defScope st) .none kV doc pm an cdv ct), osl⟩) (c : codeIn K cdv q = true) (k : keepIn K (.ref f) = true) : ClsAt K mg x Cl q st [] :=
  ⟨mg_of X G a, o, f, _, ⟨m1, m2, m3, m4⟩, ⟨⟨oc, od, .none, kV, doc, pm, an, cdv, ct, osl, rfl, l, c, .inl ⟨rfl, rfl⟩, .inl rfl⟩, k⟩⟩
/-- one default, None -/
theorem clsAt1 {K : Frag} {h : Heap} {mg : Str → Option Value} {x q : Str} {st : Stmt} {Cl f T : Addr} {oc oc2 : Value} {od od2 an : Option Addr} {osl osl2 : Array (Option Value)} {kV doc pm cdv ct : Value} {n : Nat} (X : K.In h) (G : h.Ns mainGlobals mg)
    (a : nsIn K mainGlobals x = some (some (.ref Cl))) (o : ObjC K Cl) (m1 : makesIn K Cl = true) (m2 : findIn K (.ref Cl) "__init__" = some (some (.ref f))) (m3 : isFn K (.ref f) = true) (m4 : keepIn K (.ref Cl) = true)
    (l : K.lookup f = some ⟨oc, od, .func (fnOf "__init__" q (defArgs st) (defBody st) (defScope st) (.ref T) kV doc pm an cdv ct), osl⟩) (c : codeIn K cdv q = true) (k : keepIn K (.ref f) = true)
    (lT : K.lookup T = some ⟨oc2, od2, .seq #[Value.none] n, osl2⟩) : ClsAt K mg x Cl q st [.non] :=
  ⟨mg_of X G a, o, f, _, ⟨m1, m2, m3, m4⟩, ⟨⟨oc, od, .ref T, kV, doc, pm, an, cdv, ct, osl, rfl, l, c, .inr ⟨by simp, T, _, [Value.none], n, rfl, lT, rfl, .cons rfl .nil⟩, .inl rfl⟩, k⟩⟩
theorem tab_mem {a : Addr} {b : Bool} : ∀ {l : List (Addr × Bool)}, l.lookup a = some b → (a, b) ∈ l
  | [], h => by cases h
  | (c, d) :: r, h => by
    have h : (match a == c with | true => some d | false => r.lookup a) = some b := h
    cases q : (a == c) with
    | true =>
      rw [q] at h
      cases h
      rw [beq_iff_eq.mp q]
      exact List.mem_cons_self
    | false =>
      rw [q] at h
      exact List.mem_cons_of_mem _ (tab_mem h)
/-- isinstance of an own class -/
theorem isCl_mk {K : Frag} {h : Heap} {mg : Str → Option Value} {x : Str} {C : Addr} {tab : List (Addr × Bool)} (X : K.In h) (G : h.Ns mainGlobals mg) (a : nsIn K mainGlobals x = some (some (.ref C))) (cv : ClsV (.ref C) (.ref C)) (t : (tab.all fun p => kitOne K (.ref p.1) (.ref C) == some p.2) = true)
    (b : (["NoneType", "bool", "int", "str", "tuple", "list", "dict"].all fun T => kitOne K (.type T) (.ref C) == some false) = true) : IsCl K mg x tab :=
  ⟨⟨C, mg_of X G a, fun D v e => by
    have m : (D, v) ∈ tab := tab_mem e
    simpa using List.all_eq_true.mp t (D, v) m, fun T m => by simpa using List.all_eq_true.mp b T m⟩, fun C' e => by
    rw [mg_of X G a] at e
    cases e
    exact cv⟩
/-! ### promises -/
structure MkC (P : Program) (w : World) (K : Frag) (mg : Str → Option Value) (base : Heap) (j : Nat) (x : Str) (Cl : Addr) (sp : Sp) : Prop where
  ex : ∃ f, mg x = some (.ref Cl) ∧ ObjC K Cl ∧ Mk K Cl f ∧ FnR P w K mg base (L2.CX P w) j f sp
section
variable {P : Program} {w : World} {K : Frag} {mg : Str → Option Value} {base : Heap} {x q : Str} {Cl : Addr} {st : Stmt} {N : List Str} {k : Nat} {ks : List Str}
/-- class C: def __init__(self, *needs) -/
theorem mkS {s pv : Str} {F : List D → PM (List D)} (CA : ClsAt K mg x Cl q st []) (S : FnScope N [s, pv] (defScope st)) (hk : k < 32)
    (hb : ∀ (kV doc pm : Value) (an : Option Addr) (cdv ct : Value) (us rest : List Value), us.length = [s].length → bindArgs (fnOf "__init__" q (defArgs st) (defBody st) (defScope st) .none kV doc pm an cdv ct) ⟨us ++ rest, []⟩ = (newTuple rest >>= fun t => pure ([s].zip us ++ [(pv, t)])))
    (B : ∀ f, InitB P w K mg base Cl f N k 1 q (defBody st) (defScope st) ks F) : MkC P w K mg base (k + 1) x Cl (spStar (spI K mg Cl ks 1 F)) := by
  obtain ⟨f, fd, M, FD⟩ := CA.ex
  obtain ⟨oc, od, dV, kV, doc, pm, an, cdv, ct, osl, rfl, lk, hcd, hD, _⟩ := FD.ex
  have e : dV = .none := by
    rcases hD with ⟨_, e⟩ | ⟨e, _⟩
    · exact e
    · exact absurd rfl e
  subst e
  have hN : 1 + 1 ≤ N.length := scope_le S
  exact ⟨f, CA.mgx, CA.oc, M, StX.fn_star (ps := [s]) lk hcd S StX.cxUp (fun us rest hl => hb kV doc pm an cdv ct us rest hl) fun A outer s H vs Q E hr h => (B f).run S.nd hk hN cdv A outer s H vs Q E hr h⟩
/-- class C: def __init__(self, a, b=None) -/
theorem mkD {s a b : Str} {F : List D → PM (List D)} (CA : ClsAt K mg x Cl q st [.non]) (S : FnScope N [s, a, b] (defScope st)) (hk : k < 32)
    (hb : ∀ (T : Addr) (kV doc pm : Value) (an : Option Addr) (cdv ct : Value) (us its : List Value), us.length = 2 → its.length = [V.non].length →
      ∃ k, bindArgs (fnOf "__init__" q (defArgs st) (defBody st) (defScope st) (.ref T) kV doc pm an cdv ct) ⟨us, []⟩ = seqItems? (.ref T) >>= k ∧ k (some its.toArray) = pure ([s, a, b].zip (us ++ its.drop 0)))
    (B : ∀ f, InitB P w K mg base Cl f N k 2 q (defBody st) (defScope st) ks F) : MkC P w K mg base (k + 1) x Cl (fun vs H Q E => spI K mg Cl ks 2 F (vs ++ [.non]) H Q E) := by
  obtain ⟨f, fd, M, FD⟩ := CA.ex
  obtain ⟨ds, r, bd⟩ := FD.binds1 (ps := [s, a, b]) 2 0 (by simp) rfl hb
  have hN : 2 + 1 ≤ N.length := scope_le S
  have ok : FnOk P w K mg base (L2.CX P w) (k + 1) f fd [s, a, b] (spI K mg Cl ks 2 F) := FD.ok S (fun vs H Q E h => by
    obtain ⟨y, dx, G, H1, vs', ds', rfl, _, _, _, _, _, _, r', hn, _⟩ := h
    show vs'.length + 1 = 3
    rw [r'.1, hn]) fun cdv A outer s H vs Q E hr h => (B f).run S.nd hk hN cdv A outer s H vs Q E hr h
  exact ⟨f, CA.mgx, CA.oc, M, ok.raw bd r⟩
end
section
variable {X : Cx} {W : WX} {pa : Option Addr} {Γ : List Sl} {k j : Nat} {pos : Pos} {α : Type} {out : α → Out} {rest : List Stmt}
theorem newS {x : Str} {Cl : Addr} {ks : List Str} {F : List D → PM (List D)} {e : Expr} {es : List Expr} {ml : PM (List D)} {p : Pos} (C : Cok X W k) (M : MkC X.prog X.w X.K X.mg X.base j x Cl (spStar (spI X.K X.mg Cl ks 1 F))) (ha : EL X W pa Γ (e :: es) ml) (hj : j + 1 ≤ k := by decide) (hg : Gl X x := by rfl)
    (hdb : (x == ("__debug__" : Str)) = false := by decide) (he : starEach (e :: es) X.env = (false, eval e X.env) :: starEach es X.env := by rfl) (hpl : (backTo pos (starEach es X.env)).any (·.1) = false := by rfl) :
    EV X W pa Γ (.Call (.Name x p) (e :: es) [] pos) (ml >>= fun ds => mkT ds >>= fun t => newO Cl ks F [t]) := by
  obtain ⟨f, m1, m2, m3, m4⟩ := M.ex
  exact ev_makeS (C.mono hj) m3 m2 m4 hg m1 ha hdb he hpl
theorem newD1 {x : Str} {Cl : Addr} {ks : List Str} {F : List D → PM (List D)} {e : Expr} {es : List Expr} {ml : PM (List D)} {p : Pos} (C : Cok X W k) (M : MkC X.prog X.w X.K X.mg X.base j x Cl (fun vs H Q E => spI X.K X.mg Cl ks 2 F (vs ++ [.non]) H Q E)) (ar : ∀ ds, ds.length ≠ 2 → F ds [] = .bad) (ha : EL X W pa Γ (e :: es) ml) (hj : j + 1 ≤ k := by decide) (hg : Gl X x := by rfl)
    (hdb : (x == ("__debug__" : Str)) = false := by decide) (he : starEach (e :: es) X.env = (false, eval e X.env) :: starEach es X.env := by rfl) (hpl : (backTo pos (starEach es X.env)).any (·.1) = false := by rfl) :
    EV X W pa Γ (.Call (.Name x p) (e :: es) [] pos) (ml >>= fun ds => newO Cl ks F (ds ++ [.non])) := by
  obtain ⟨f, m1, m2, m3, m4⟩ := M.ex
  exact ev_makeD (C.mono hj) m3 m2 m4 (fun G => .cons .non .nil) ar hg m1 ha hdb he hpl
/-! ### a method that does nothing -/
structure FitC (P : Program) (w : World) (K : Frag) (mg : Str → Option Value) (base : Heap) (j : Nat) (Cl : Addr) (m : Str) : Prop where
  ex : ∃ f fd ps, Meth K Cl m f ∧ FnOk P w K mg base (L2.CX P w) j f fd ps (fun vs H Q _ => vs.length = 2 ∧ Q .non H) ∧ L2.Binds K fd ps []
theorem zip_lookup_none {f : Str} : ∀ {ks : List Str} {vs : List V}, f ∉ ks → (ks.zip vs).lookup f = none
  | [], _, _ => rfl
  | _ :: _, [], _ => rfl
  | k :: ks, v :: vs, n => by
    have nk : (f == k) = false := beq_eq_false_iff_ne.mpr fun z => n (by rw [z]; exact List.mem_cons_self)
    show (match f == k with | true => some v | false => (ks.zip vs).lookup f) = none
    rw [nk]
    exact zip_lookup_none fun m => n (List.mem_cons_of_mem _ m)
theorem sv_fit (i : Nat) {x m : Str} {e : Expr} {o Cl dx : Addr} {ks : List Str} {xs : List D} {me : PM D} {kk : PM α} {p1 p2 p3 : Pos} (C : Cok X W k) (hc : Cls X.K Cl) (F : FitC X.prog X.w X.K X.mg X.base j Cl m) (hΓ : Γ[i]? = some (insS o Cl dx ks xs)) (hm : m ∉ ks) (he : EV X W pa Γ e me) (hr : SV X W pa Γ out rest kk)
    (hj : j ≤ k := by decide) (hN : X.N[i]? = some x := by rfl) (hv : Vis X.env.scope x := by first | exact Or.inl rfl | exact Or.inr (Or.inl rfl) | exact Or.inr (Or.inr rfl)) (hd : (x == ("__debug__" : Str)) = false := by decide) (hcd : (x == ("__classdict__" : Str)) = false := by decide)
    (hs : swapsWith (.Call (.Attribute (.Name x p1) m p2) [e] [] p3) none pos.line X.env = pure false := by rfl) (hst : starEach [e] X.env = (false, eval e X.env) :: starEach [] X.env := by rfl) (hpl : (backTo p3 (starEach [] X.env)).any (·.1) = false := by rfl)
    {pl : Sem Bool} (ht : eval (.Call (.Attribute (.Name x p1) m p2) [e] [] p3) X.env = (do
      let ov ← eval (.Name x p1) X.env
      standAt p2.atName
      let (f, first) ← holding [ov] (getMethod ov m pl)
      callWith p3 f first (backTo p3 (starEach [e] X.env)) (backToKw p3 (keywordEach [] X.env))) := by rfl) :
    SV X W pa Γ out (.Expr (.Call (.Attribute (.Name x p1) m p2) [e] [] p3) pos :: rest) (me >>= fun _ => kk) := by
  obtain ⟨f, fd, ps, f1, f2, f3⟩ := F.ex
  unfold SV
  rw [bind_assoc]
  refine pss_imp (pss_cons (ps_expr (pe_meth (E := fun _ _ _ => False) (pl := pl) (pe_var hN hv hd hcd) hc f1 f2 (C.mono hj).room f3 .nil (passes_call C.takes fun _ _ _ _ z => z.elim) (pa_cons he pa_nil hst) hst hpl ht) hs) hr) fun Dn σ H ⟨G0, H0, G, s, E, R⟩ => ?_
  obtain ⟨p, vs, q1, q2, q3, q4, q5, q6⟩ := E.x.dic i _ _ hΓ
  exact ⟨.ref p, q1, p, dx, ks.zip vs, rfl, q2, zip_lookup_none hm, G0, H0, G, s, E, (R.bind E).imp fun G1 H1 d s1 x1 p1 P1 v r => ⟨rfl, G0, H0, G1, s1, E.step x1 p1, P1⟩⟩
end
section
variable {P : Program} {w : World} {K : Frag} {mg : Str → Option Value} {base : Heap}
/-- the method's promise: its body is «return None» -/
structure MethAt (K : Frag) (Cl : Addr) (m q : Str) (st : Stmt) : Prop where
  ex : ∃ f fd, Meth K Cl m f ∧ Fun K m q st f fd
theorem methAt {Cl f : Addr} {m q : Str} {st : Stmt} {oc : Value} {od an : Option Addr} {osl : Array (Option Value)} {kV doc pm cdv ct : Value} (m2 : findIn K (.ref Cl) m = some (some (.ref f))) (m3 : isFn K (.ref f) = true)
    (l : K.lookup f = some ⟨oc, od, .func (fnOf m q (defArgs st) (defBody st) (defScope st) .none kV doc pm an cdv ct), osl⟩) (c : codeIn K cdv q = true) (k : keepIn K (.ref f) = true) : MethAt K Cl m q st := ⟨f, _, ⟨m2, m3, k⟩, fun_mk l c k⟩
theorem fit_of {Cl : Addr} {m q s r : Str} {st : Stmt} {k : Nat} (MA : MethAt K Cl m q st) (S : FnScope [s, r] [s, r] (defScope st)) (hb : ∀ fd f, Fun K m q st f fd → L2.Binds K fd [s, r] []) {j : Nat} {p1 p2 : Pos} (hB : defBody st = [.Return (some (.Constant .none j p1)) p2]) : FitC P w K mg base (k + 1) Cl m := by
  obtain ⟨f, fd, M, F⟩ := MA.ex
  refine ⟨f, fd, [s, r], M, ?_, hb fd f F⟩
  obtain ⟨oc, od, kV, doc, pm, an, cdv, ct, osl, rfl, lk, hcd⟩ := F.ex
  refine fn_of lk hcd S (fun vs H Q E h => h.1) fun A outer s H vs Q E hr h => ?_
  rw [hB]
  exact ⟨_, pss_one (ps_ret pe_non), h.2⟩
end
end EV

set_option maxHeartbeats 2000000
/-! EV 47: defs that make lambdas; what the head tells of them. -/
namespace EV
open PySem PySem.Spec PyProof.Rows L2 PySem.W LamX
structure FunL (K : Frag) (mg : Str → Option Value) (base : Heap) (x : Str) (st : Stmt) : Prop where
  ex : ∃ f fd c P, Fun K x x st f fd ∧ mg x = some (.ref f) ∧ fd.code = .ref c ∧ TabB base mg c P ∧ NeedT K P ∧ tauK K P = (x ++ ".<locals>.") ++ "<lambda>"
section
variable {P : Program} {w : World} {K : Frag} {mg : Str → Option Value} {base : Heap} {x : Str} {st : Stmt} {N ps : List Str} {k n : Nat}
theorem lamAt_of {fd : FuncData} {c T : Addr} {cdv : Value} {f : Addr} {A : Around} {outer : List PySem.Env} {s : Shared} {H : Hp} {E : XK} (h1 : fd.code = .ref c) (h2 : TabB base mg c T) (h3 : NeedT K T) (h4 : tauK K T = (x ++ ".<locals>.") ++ "<lambda>") (e : fd.code = cdv) :
    LamAt (cxOf (L2.CX P w) P w K mg base N x (defScope st) f cdv A outer s H E) := by
  refine ⟨c, T, ?_, ?_, ?_, ?_⟩
  · exact (show cdv = Value.ref c from e.symm.trans h1)
  · exact h2
  · exact h3
  · exact h4
theorem mk_pureL {F : List D → PM D} (FA : FunL K mg base x st) (S : FnScope N ps (defScope st)) (hps : ps.length = n)
    (hbd : ∀ (kV doc pm : Value) (an : Option Addr) (cdv ct : Value) (us : List Value), us.length = ps.length → bindArgs (PySem.W.fnOf x x (defArgs st) (defBody st) (defScope st) .none kV doc pm an cdv ct) ⟨us, []⟩ = pure (ps.zip us))
    (hb : ∀ (f : Addr) (cdv : Value) (A : Around) (outer : List PySem.Env) (s : Shared) (H : Hp) (E : XK), Cok (cxOf (L2.CX P w) P w K mg base N x (defScope st) f cdv A outer s H E) (fun cls d _ H => E cls d H) k → LamAt (cxOf (L2.CX P w) P w K mg base N x (defScope st) f cdv A outer s H E) → ∀ ds : List D, ds.length = n →
      ∃ (α : Type) (out : α → Out) (m : PM α), SV (cxOf (L2.CX P w) P w K mg base N x (defScope st) f cdv A outer s H E) (fun cls d _ H => E cls d H) none (slots0 N ds) out (defBody st) m ∧ F ds = (m >>= fun a => outD (out a))) :
    Cal P w K mg base (k + 1) x ps (spF K mg false n F) := by
  obtain ⟨f, fd, c, T, FU, hm, l1, l2, l3, l4⟩ := FA.ex
  refine ⟨f, fd, fnG_of FU S (fun vs H Q E h => ?_) fun cdv ec A outer s H vs Q E hg hr h => ?_, hm, FU.kp, FU.binds hbd⟩
  · obtain ⟨pa, G, s, vs', ds, hpa, rfl, _, _, r, hn, _⟩ := h
    cases pa with
    | some _ => cases hpa
    | none =>
      show vs'.length = _
      rw [r.1, hn, hps]
  · obtain ⟨pa, G, s', vs', ds, hpa, rfl, hs, hp, r, hn, hP⟩ := h
    cases pa with
    | some _ => cases hpa
    | none =>
      obtain ⟨α, out, m, sv, e⟩ := hb f cdv A outer s H E (cok_fn S.nd hg hr) (lamAt_of l1 l2 l3 l4 ec) ds hn
      rw [e] at hP
      have hlen : vs'.length ≤ N.length := by
        rw [r.1, hn, ← hps]
        exact scope_le S
      exact ⟨_, sv, G, H, G, s', nv_start0 hs r hlen, spost_fn hP⟩
theorem mk_penL {F : List D → PM D} (FA : FunL K mg base x st) (S : FnScope N ps (defScope st)) (hps : ps.length = n + 1)
    (hbd : ∀ (kV doc pm : Value) (an : Option Addr) (cdv ct : Value) (us : List Value), us.length = ps.length → bindArgs (PySem.W.fnOf x x (defArgs st) (defBody st) (defScope st) .none kV doc pm an cdv ct) ⟨us, []⟩ = pure (ps.zip us))
    (hb : ∀ (f : Addr) (cdv : Value) (A : Around) (outer : List PySem.Env) (s : Shared) (H : Hp) (E : XK), Cok (cxOf (L2.CX P w) P w K mg base N x (defScope st) f cdv A outer s H E) (fun cls d _ H => E cls d H) k → LamAt (cxOf (L2.CX P w) P w K mg base N x (defScope st) f cdv A outer s H E) → ∀ (q : Addr) (ds : List D), ds.length = n →
      ∃ (α : Type) (out : α → Out) (m : PM α), SV (cxOf (L2.CX P w) P w K mg base N x (defScope st) f cdv A outer s H E) (fun cls d _ H => E cls d H) (some q) (slotsP N ds) out (defBody st) m ∧ F ds = (m >>= fun a => outD (out a))) :
    Cal P w K mg base (k + 1) x ps (spF K mg true n F) := by
  obtain ⟨f, fd, c, T, FU, hm, l1, l2, l3, l4⟩ := FA.ex
  refine ⟨f, fd, fnG_of FU S (fun vs H Q E h => ?_) fun cdv ec A outer s H vs Q E hg hr h => ?_, hm, FU.kp, FU.binds hbd⟩
  · obtain ⟨pa, G, s, vs', ds, hpa, rfl, _, _, r, hn, _⟩ := h
    cases pa with
    | none => cases hpa
    | some p =>
      show vs'.length + 1 = ps.length
      rw [r.1, hn, hps]
  · obtain ⟨pa, G, s', vs', ds, hpa, rfl, hs, hp, r, hn, hP⟩ := h
    cases pa with
    | none => cases hpa
    | some p =>
      obtain ⟨α, out, m, sv, e⟩ := hb f cdv A outer s H E (cok_fn S.nd hg hr) (lamAt_of l1 l2 l3 l4 ec) p ds hn
      rw [e] at hP
      have hlen : vs'.length + 1 ≤ N.length := by
        rw [r.1, hn, ← hps]
        exact scope_le S
      exact ⟨_, sv, G, H, G, s', nv_startP hs r hlen hp, spost_fn hP⟩
theorem fn_scrL {F : List Int → List D → PM D} {f : Addr} {fd : FuncData} {c T : Addr} (FU : Fun K x x st f fd) (l1 : fd.code = .ref c) (l2 : TabB base mg c T) (l3 : NeedT K T) (l4 : tauK K T = (x ++ ".<locals>.") ++ "<lambda>") (S : FnScope N ps (defScope st)) (hps : ps.length = n + 1)
    (hb : ∀ (cdv : Value) (A : Around) (outer : List PySem.Env) (s : Shared) (H : Hp) (E : XK), Cok (cxOf (L2.CX P w) P w K mg base N x (defScope st) f cdv A outer s H E) (fun cls d _ H => E cls d H) k → LamAt (cxOf (L2.CX P w) P w K mg base N x (defScope st) f cdv A outer s H E) → ∀ (ns : List Int) (ds : List D), ds.length = n →
      ∃ (α : Type) (out : α → Out) (m : PM α), SV (cxOf (L2.CX P w) P w K mg base N x (defScope st) f cdv A outer s H E) (fun cls d _ H => E cls d H) none (slotsS N ns ds) out (defBody st) m ∧ F ns ds = (m >>= fun a => outD (out a))) :
    FnG P w K mg base (k + 1) f fd ps (spS K mg n F) := by
  refine fnG_of FU S (fun vs H Q E h => ?_) fun cdv ec A outer s H vs Q E hg hr h => ?_
  · obtain ⟨a, ns, G, vs', ds, rfl, _, _, r, hn, _⟩ := h
    show vs'.length + 1 = ps.length
    rw [r.1, hn, hps]
  · obtain ⟨a, ns, G, vs', ds, rfl, hs, hq, r, hn, hP⟩ := h
    obtain ⟨α, out, m, sv, e⟩ := hb cdv A outer s H E (cok_fn S.nd hg hr) (lamAt_of l1 l2 l3 l4 ec) ns ds hn
    rw [e] at hP
    have hlen : vs'.length + 1 ≤ N.length := by
      rw [r.1, hn, ← hps]
      exact scope_le S
    exact ⟨_, sv, G, H, G, [], nv_startS hs hq r hlen, spost_fn hP⟩
end
/-! ### what the head tells of them -/
theorem mem_of_look {K : Frag} {c : Addr} {o : Obj} (h : K.lookup c = some o) : (c, o) ∈ K := by
  induction K with
  | nil => cases h
  | cons p r ih =>
    obtain ⟨b, u⟩ := p
    have h : (match c == b with | true => some u | false => r.lookup c) = some o := h
    cases q : (c == b) with
    | true =>
      rw [q] at h
      cases h
      rw [beq_iff_eq.mp q]
      exact List.mem_cons_self
    | false =>
      rw [q] at h
      exact List.mem_cons_of_mem _ (ih h)
def codeOf : Obj → Option (Str × Addr)
  | ⟨_, _, .fields vs, _⟩ => match (vs[1]? : Option Value), (vs[11]? : Option Value) with
    | some (.str n _), some (.ref P) => some (n, P)
    | _, _ => none
  | _ => none
theorem codeOf_eq {o : Obj} {vs : Array Value} {n : Str} {t : Tok} {P : Addr} (h1 : o.data = .fields vs) (h2 : vs[1]? = some (.str n t)) (h3 : vs[11]? = some (.ref P)) : codeOf o = some (n, P) := by
  obtain ⟨a, b, d, e⟩ := o
  have h1 : d = .fields vs := h1
  subst h1
  unfold codeOf
  simp only [h2, h3]
theorem codeOf_inv {o : Obj} {n : Str} {P : Addr} (h : codeOf o = some (n, P)) : ∃ vs t, o.data = .fields vs ∧ vs[1]? = some (.str n t) ∧ vs[11]? = some (.ref P) := by
  obtain ⟨a, b, d, e⟩ := o
  cases d with
  | fields vs =>
    unfold codeOf at h
    dsimp only at h
    split at h
    · rename_i n' t P' h1 h2
      cases h
      exact ⟨vs, t, rfl, h1, h2⟩
    · cases h
  | _ => cases h
/-- no other code object of another name has this table -/
def uniqB (K : Frag) (x : Str) (P : Addr) : Bool := K.all fun p => match codeOf p.2 with
  | some (n, P') => !(P' == P) || n == x
  | none => true
/-- the tables of these names are among cs -/
def needB (K : Frag) (cs : List (Addr × Addr)) : Bool := K.all fun p => match codeOf p.2 with
  | some (n, P') => !(lamNames.contains n) || cs.any fun q => q.2 == P'
  | none => true
theorem need_of {K : Frag} {cs : List (Addr × Addr)} (h : needB K cs = true) (P : Addr) (n : NeedT K P) : ∃ p ∈ cs, p.2 = P := by
  obtain ⟨c, o, vs, x, t, h1, h2, h3, h4, h5⟩ := n
  have z := List.all_eq_true.mp h _ (mem_of_look h1)
  dsimp only at z
  rw [codeOf_eq h2 h3 h4] at z
  have z : (!(lamNames.contains x) || cs.any fun q => q.2 == P) = true := z
  rw [List.contains_iff_mem.mpr h5] at z
  obtain ⟨p, hp, e⟩ := List.any_eq_true.mp (by simpa using z : (cs.any fun q => q.2 == P) = true)
  exact ⟨p, hp, beq_iff_eq.mp e⟩
def lookB (K : Frag) (c : Addr) (x : Str) (P : Addr) : Bool := match K.lookup c with
  | some o => codeOf o == some (x, P)
  | none => false
theorem tau_of {K : Frag} {c P : Addr} {x : Str} (h : lookB K c x P = true) (u : uniqB K x P = true) : tauK K P = (x ++ ".<locals>.") ++ "<lambda>" := by
  unfold lookB at h
  cases e : K.lookup c with
  | none => rw [e] at h; cases h
  | some o =>
    rw [e] at h
    obtain ⟨vs, t, h1, h2, h3⟩ := codeOf_inv (beq_iff_eq.mp (show (codeOf o == some (x, P)) = true from h))
    refine tauK_of ⟨c, o, vs, x, t, e, h1, h2, h3, rfl⟩ fun q' ⟨c', o', vs', n', t', e', d1, d2, d3, d4⟩ => ?_
    have z := List.all_eq_true.mp u _ (mem_of_look e')
    dsimp only at z
    rw [codeOf_eq d1 d2 d3] at z
    have z : (!(P == P) || n' == x) = true := z
    rw [beq_self_eq_true] at z
    rw [d4, beq_iff_eq.mp (show (n' == x) = true from z)]
theorem needT_of {K : Frag} {c P : Addr} {x : Str} (h : lookB K c x P = true) (m : lamNames.contains x = true) : NeedT K P := by
  unfold lookB at h
  cases e : K.lookup c with
  | none => rw [e] at h; cases h
  | some o =>
    rw [e] at h
    obtain ⟨vs, t, h1, h2, h3⟩ := codeOf_inv (beq_iff_eq.mp (show (codeOf o == some (x, P)) = true from h))
    exact ⟨c, o, vs, x, t, e, h1, h2, h3, List.contains_iff_mem.mp m⟩
theorem funL {K : Frag} {h base : Heap} {mg : Str → Option Value} {x : Str} {st : Stmt} {f c T : Addr} {oc : Value} {od an : Option Addr} {osl : Array (Option Value)} {kV doc pm ct : Value} (X : K.In h) (G : h.Ns mainGlobals mg) (TB : TabB base mg c T) (a : nsIn K mainGlobals x = some (some (.ref f)))
    (l : K.lookup f = some ⟨oc, od, .func (fnOf x x (defArgs st) (defBody st) (defScope st) .none kV doc pm an (.ref c) ct), osl⟩) (cd : codeIn K (.ref c) x = true) (k : keepIn K (.ref f) = true) (lb : lookB K c x T = true) (u : uniqB K x T = true) (m : lamNames.contains x = true) : FunL K mg base x st :=
  ⟨f, _, c, T, fun_mk l cd k, mg_of X G a, rfl, TB, needT_of lb m, tau_of lb u⟩
/-! ### said and kind -/
theorem errJ_all {K : Frag} {mg : Str → Option Value} {CA : Addr} (h : ∀ j, j < 10 → ∃ D y, errsL[j]? = some y ∧ mg y = some (.ref D) ∧ ErrJ K mg CA D j) : ∀ j y, errsL[j]? = some y → ∃ D, mg y = some (.ref D) ∧ ErrJ K mg CA D j := fun j y e => by
  have hj : j < 10 := (List.getElem?_eq_some_iff.mp e).1
  obtain ⟨D, y', e1, e2, e3⟩ := h j hj
  rw [e] at e1
  cases e1
  exact ⟨D, e2, e3⟩
/-- the class at D among the classes Ds, asked by isinstance -/
def errB (K : Frag) (Ds : List Addr) (CA D : Addr) (j : Nat) : Bool :=
  exmOne K (.ref D) (.ref CA) == some true && kitOne K (.ref D) (.type "ValueError") == some true && (List.range 10).all fun i => match Ds[i]? with
    | some C => kitOne K (.ref D) (.ref C) == some (i == j)
    | none => false
def excB (K : Frag) (D : Addr) : Bool := findIn K (.ref D) "__getattribute__" == some (some (.builtin "BaseException.__getattribute__")) && findIn K (.ref D) "__getattr__" == some none && subIn K (.ref D) (.type "BaseException") == some true && hasDictIn K D &&
  findIn K (.ref D) "__class__" == some (some (.builtin "object.__class__")) && specialIn K (.builtin "object.__class__") "__get__" == some (some (.builtin "getset_descriptor.__get__")) && takesIn K (.builtin "object.__class__") == some true && mroIn K D (.type "object") == some true
theorem excC_of {K : Frag} {D : Addr} (h : excB K D = true) : ExcC K D := by
  unfold excB at h
  simp only [Bool.and_eq_true, beq_iff_eq] at h
  obtain ⟨⟨⟨⟨⟨⟨⟨h1, h2⟩, h3⟩, h4⟩, h5⟩, h6⟩, h7⟩, h8⟩ := h
  exact ⟨h1, h2, h3, h4, h5, h6, h7, h8⟩
/-- all ten at once -/
theorem errs_of {K : Frag} {h : Heap} {mg : Str → Option Value} {CA : Addr} {Ds : List Addr} (X : K.In h) (G : h.Ns mainGlobals mg) (hl : Ds.length = 10) (hn : ((List.range 10).all fun i => match errsL[i]?, Ds[i]? with
    | some y, some C => nsIn K mainGlobals y == some (some (.ref C))
    | _, _ => false) = true) (hx : (Ds.all fun D => excB K D) = true) (hB : ((List.range 10).all fun j => match Ds[j]? with
    | some D => errB K Ds CA D j
    | none => false) = true) : ∀ j y, errsL[j]? = some y → ∃ D, mg y = some (.ref D) ∧ ErrJ K mg CA D j := by
  have nm : ∀ i y, errsL[i]? = some y → ∃ C, Ds[i]? = some C ∧ mg y = some (.ref C) := fun i y e => by
    have hi : i < 10 := (List.getElem?_eq_some_iff.mp e).1
    have z := List.all_eq_true.mp hn i (List.mem_range.mpr hi)
    rw [e] at z
    cases q : Ds[i]? with
    | none => rw [q] at z; cases z
    | some C =>
      rw [q] at z
      exact ⟨C, q, mg_of X G (beq_iff_eq.mp (show (nsIn K mainGlobals y == some (some (.ref C))) = true from z))⟩
  intro j y e
  have hj : j < 10 := (List.getElem?_eq_some_iff.mp e).1
  obtain ⟨D, d1, d2⟩ := nm j y e
  have z := List.all_eq_true.mp hB j (List.mem_range.mpr hj)
  rw [d1] at z
  have z : errB K Ds CA D j = true := z
  unfold errB at z
  simp only [Bool.and_eq_true, beq_iff_eq] at z
  obtain ⟨⟨z1, z2⟩, z3⟩ := z
  refine ⟨D, d2, excC_of (List.all_eq_true.mp hx D (List.mem_of_getElem? d1)), z1, z2, fun i x' ei => ?_⟩
  have hi : i < 10 := (List.getElem?_eq_some_iff.mp ei).1
  obtain ⟨C, c1, c2⟩ := nm i x' ei
  have y := List.all_eq_true.mp z3 i (List.mem_range.mpr hi)
  rw [c1] at y
  exact ⟨C, c2, beq_iff_eq.mp (show (kitOne K (.ref D) (.ref C) == some (i == j)) = true from y)⟩
/-- raise X(..): X's facts -/
theorem errC_of {K : Frag} {h : Heap} {mg : Str → Option Value} {x : Str} {C : Addr} (X : K.In h) (G : h.Ns mainGlobals mg) (a : nsIn K mainGlobals x = some (some (.ref C)))
    (b : (excIn K C [.type "ValueError", .type "Exception", .type "BaseException", .type "object"] "ValueError.__new__" && keepIn K (.ref C) && subIn K (.ref C) (.type "BaseException") == some true && typeIn K (.ref C) == some (.type "type")) = true) : ErrC K mg x := by
  simp only [Bool.and_eq_true, beq_iff_eq] at b
  obtain ⟨⟨⟨b1, b2⟩, b3⟩, b4⟩ := b
  exact ⟨C, mg_of X G a, b1, b2, b3, b4⟩
def clsBody : Stmt → List Stmt
  | .ClassDef _ _ _ b _ _ _ _ _ _ _ => b
  | _ => []
theorem ev_saidC {X : Cx} {W : WX} {pa : Option Addr} {Γ : List Sl} {k : Nat} {pos : Pos} {x w8 : Str} {m : PM D} {params : Arguments} {body : Expr} {scope : Scope} {p lpos : Pos} (C : Cok X W k) (S : SaidC X.prog X.w X.K X.mg X.base 31 x w8) (LA : LamAt X)
    (hb : ∀ (A : Around) (outer : List Env) (s : Shared) (H : Hp) (E : XK) (f c' : Addr), Cok (lamCx X A outer s H E scope f c') (fun cls d _ H' => E cls d H') 31 → EV (lamCx X A outer s H E scope f c') (fun cls d _ H' => E cls d H') none (Γ.map valS) body m)
    (hk : 33 ≤ k := by decide) (L : LamS X.env.scope scope := by first | exact LamX.lamS_by (by decide +kernel) | exact LamX.lamS_by (by rfl)) (hg : Gl X x := by rfl) (hdef : defaultsOf params X.env = ([], []) := by rfl)
    (hbind : ∀ (q : Str) (cl : List (Str × Addr)) (pm cv ctv : Value), bindArgs (PySem.W.kla_fn "<lambda>" q params body scope cl pm cv ctv) ⟨[], []⟩ = pure [] := by intro _ _ _ _ _; rfl) (hdb : (x == ("__debug__" : Str)) = false := by decide) :
    EV X W pa Γ (.Call (.Name x p) [.Lambda params body scope lpos] [] pos) (saidM w8 m) := ev_said (k := 0) (C.mono hk) S LA L hg hdef hbind hb hdb
end EV

set_option maxHeartbeats 2000000
/-! EV 48: methods and operators of instances that stand (as values). -/
namespace EV
open PySem PySem.Spec PyProof.Rows L2 PySem.W
/-- a method's promise -/
structure CalM (P : Program) (w : World) (K : Frag) (mg : Str → Option Value) (base : Heap) (k : Nat) (Cl : Addr) (m : Str) (ps : List Str) (sp : Sp) : Prop where
  ex : ∃ f fd, FnG P w K mg base k f fd ps sp ∧ Meth K Cl m f ∧ fnIn K f = true ∧ L2.Binds K fd ps []
/-- a call of it on an instance: d, the arguments -/
def methD (Cl : Addr) (F : List D → PM D) : D → List D → PM D
  | .obj C fs, ds => if C = Cl then run0 (F (.obj C fs :: ds)) else bad
  | _, _ => bad
section
variable {X : Cx} {W : WX} {pa : Option Addr} {Γ : List Sl} {k j n : Nat} {pos : Pos} {pins : List (Addr × Obj)} {σ : L2.St} {H : Hp} {s : Shared}
theorem fr_of (I : Inv X pins σ H s) : ∃ m, Fr X.base X.env.locals s.heap m := by
  obtain ⟨m, h, _⟩ := I.loc
  exact ⟨m, h, I.bk, Nat.le_trans I.ok.bsz I.ok.above⟩
theorem inst_of {a C dx : Addr} {fs : List (Str × V)} (I : Inv X pins σ H s) (h : H a = some (.ins C dx fs)) : ∃ ox od, InstAt s.heap a ox C od ∧ ox.data = .plain := StX.insC_at I (.inr ⟨dx, fs, h⟩)
theorem runC {A : Around} {f : Addr} {fd : FuncData} {ps : List Str} {sp : Sp} {Q : VK} {us : List Value} {vs : List V} (tk : Takes X W) (hf : A.frames = X.A.frames) (hr : Room j A) (hj : j < 32) (F : FnG X.prog X.w X.K X.mg X.base j f fd ps sp) (hb : L2.Binds X.K fd ps []) (I : Inv X pins σ H s) (r : Vals vs us)
    (h : sp vs H Q fun cls d H' => W cls d σ H') : codeAny (model X.prog X.w) A (.call (.ref f) ⟨us, []⟩) (fun r s' => match r with | .ok (.ret v) => EP X pins σ Q v s' | .ok _ => False | .error e => X.xe e s') s := by
  have hl : us.length = ps.length := by
    rw [← r.length]
    exact F.len _ _ _ _ h
  have hbd := hb s us I.kIn (by rw [List.append_nil]; exact hl)
  rw [List.append_nil] at hbd
  have e0 := I.env0
  have e1 : Env0 X.prog X.w X.K X.mg X.base A X.stack s H := ⟨hf.trans e0.frames, e0.mod, e0.bs, e0.bsz, e0.funs, e0.frf, e0.hok, e0.bare⟩
  refine codeAny_mono (F.run A X.stack s H ⟨us, []⟩ us vs Q _ (fun z => absurd z (by omega)) hr e1 hbd r h) fun res s' hq => ?_
  match res, hq with
  | .error e, hq => exact tk e s' (XE.of_call I (fun _ _ _ q => q) hq)
  | .ok (.ret u), hq => exact I.after hq
theorem runA {A : Around} {f : Addr} {fd : FuncData} {ps : List Str} {sp : Sp} {Q : VK} {us : List Value} {vs : List V} (tk : Takes X W) (hf : A.frames = X.A.frames) (hr : Room j A) (hj : j < 32) (F : FnG X.prog X.w X.K X.mg X.base j f fd ps sp) (hb : L2.Binds X.K fd ps []) (I : Inv X pins σ H s) (r : Vals vs us)
    (h : sp vs H Q fun cls d H' => W cls d σ H') : wpAny (model X.prog X.w) A (PySem.call (.ref f) us) (EP X pins σ Q) X.xe s := by
  have hl : us.length = ps.length := by
    rw [← r.length]
    exact F.len _ _ _ _ h
  have hbd := hb s us I.kIn (by rw [List.append_nil]; exact hl)
  rw [List.append_nil] at hbd
  have e0 := I.env0
  have e1 : Env0 X.prog X.w X.K X.mg X.base A X.stack s H := ⟨hf.trans e0.frames, e0.mod, e0.bs, e0.bsz, e0.funs, e0.frf, e0.hok, e0.bare⟩
  refine wpAny_call (codeAny_mono (F.run A X.stack s H ⟨us, []⟩ us vs Q _ (fun z => absurd z (by omega)) hr e1 hbd r h) fun res s' hq => ?_)
  match res, hq with
  | .error e, hq => exact tk e s' (XE.of_call I (fun _ _ _ q => q) hq)
  | .ok (.ret u), hq => exact I.after hq
/-- at the trees: what spF wants of a method's call -/
theorem spF_at {K : Frag} {mg : Str → Option Value} {F : List D → PM D} {G1 H1 : Hp} {s1 : List Int} {Q : VK} {vs : List V} {d : D} {ds : List D} {Cl : Addr} (hs : Same G1 H1) (tk : TabK K H1) (nt : NoT G1) (hp : PenOk pa G1 H1 s1) (ar : Arity n F) (r : RpL K G1 vs (d :: ds))
    (P : Pst K W mg pa σ (FD K Q) G1 H1 (methD Cl F d ds s1)) : spF K mg false n F vs H1 Q fun cls dx H' => W cls dx σ H' := by
  cases d with
  | obj C fs =>
    have P : Pst K W mg pa σ (FD K Q) G1 H1 ((if C = Cl then run0 (F (.obj C fs :: ds)) else bad : PM D) s1) := P
    by_cases z : C = Cl
    · rw [if_pos z] at P
      exact ⟨none, G1, [], vs, _, rfl, rfl, ⟨hs, tk, nt⟩, PenOk.none, r, run0_len ar P, pst_run0 hp P⟩
    · rw [if_neg z] at P
      exact P.elim
  | _ => exact P.elim
/-- the instance, told of the tree -/
theorem methD_obj {K : Frag} {mg : Str → Option Value} {F : List D → PM D} {G1 H1 : Hp} {s1 : List Int} {Q : VK} {v : V} {d : D} {ds : List D} {Cl : Addr} (r : Rp K G1 v d) (P : Pst K W mg pa σ (FD K Q) G1 H1 (methD Cl F d ds s1)) :
    ∃ a dx fvs, v = .ref a ∧ G1 a = some (.ins Cl dx fvs) ∧ ObjC K Cl := by
  cases r with
  | @obj a C dx fvs fs h hc hk rr =>
    have P : Pst K W mg pa σ (FD K Q) G1 H1 ((if C = Cl then run0 (F (.obj C fs :: ds)) else bad : PM D) s1) := P
    by_cases z : C = Cl
    · subst z
      exact ⟨a, dx, fvs, rfl, h, hc⟩
    · rw [if_neg z] at P
      exact P.elim
  | _ => exact P.elim
/-- o.p -/
theorem ev_prop {e : Expr} {x : Str} {p g Cl : Addr} {fd : FuncData} {ps : List Str} {F : List D → PM D} {m : PM D} (C : Cok X W k) (hp : PropOf X.K Cl x p g) (FG : FnG X.prog X.w X.K X.mg X.base j g fd ps (spF X.K X.mg false 1 F)) (hb : L2.Binds X.K fd ps []) (ar : Arity 1 F) (hj : j + 1 ≤ k) (hj2 : j < 32) (he : EV X W pa Γ e m)
    (hab : attributeBase e x X.env (eval e X.env) = eval e X.env := by rfl) : EV X W pa Γ (.Attribute e x pos) (m >>= fun d => noExc (methD Cl F d [])) := by
  refine ⟨fun pins s σ H Q I h => ?_⟩
  have h1 : evT X W pa Γ m σ H (fun v H1 => ∃ a dx fvs, v = .ref a ∧ H1 a = some (.ins Cl dx fvs) ∧ ObjC X.K Cl ∧ spF X.K X.mg false 1 F [.ref a] H1 Q fun _ _ _ => False) := by
    obtain ⟨G0, H0, G, s, E, R⟩ := h
    refine ⟨G0, H0, G, s, E, R.bind.imp fun G1 H1 d s1 x1 p1 P1 v r => ?_⟩
    have P2 : Pst X.K W0 X.mg pa σ (FD X.K Q) G1 H1 (methD Cl F d [] s1) := P1.noExc
    obtain ⟨a, dx, fvs, rfl, g1, oc⟩ := methD_obj r P2
    exact ⟨a, dx, fvs, rfl, x1.sub _ _ g1, oc, spF_at x1.sub (x1.tk E.tk) (x1.gt E.x.nt) p1 ar (.cons r .nil) P2⟩
  refine attr_of hab (thn (he.run pins s σ H _ I h1) fun u s1 ⟨y, H1, I1, ry, a, dx, fvs, ey, ea, oc, q⟩ => ?_)
  subst ey
  obtain rfl : u = Value.ref a := ry
  have FO : FnOk X.prog X.w X.K X.mg X.base (L2.CX X.prog X.w) j g fd ps (spF X.K X.mg false 1 F) := ⟨FG.len, fun A outer s H args us vs Q E hr => FG.run A outer s H args us vs Q E (fun z => absurd z (by omega)) hr⟩
  exact getprop_ok I1 ea oc.cl hp FO (C.room.mono hj) hb .nil (fun _ _ _ _ _ _ _ x => by
    obtain ⟨_, _, _, _, _, _, _, _, _, _, _, _, z⟩ := x
    exact z.elim) q
/-! ### the instance and its arguments -/
def At1 (X : Cx) (W : WX) (Cl : Addr) (n : Nat) (F : List D → PM D) (σ : L2.St) (Q : VK) (v : V) (us : List V) (H1 : Hp) : Prop :=
  ∃ a dx fvs, v = .ref a ∧ H1 a = some (.ins Cl dx fvs) ∧ ObjC X.K Cl ∧ spF X.K X.mg false n F (.ref a :: us) H1 Q fun cls d H' => W cls d σ H'
/-- what is made of the answer -/
def Goes (X : Cx) (W : WX) (pa : Option Addr) (g : D → PM D) (σ : L2.St) (Q Q' : VK) : Prop :=
  ∀ (G H : Hp) (a : D) (s : List Int) (v : V), Same G H → PenOk pa G H s → Rp X.K G v a → Pst X.K W X.mg pa σ (FD X.K Q) G H (g a s) → Q' v H
theorem goes_pure {Q : VK} : Goes X W pa pure σ Q Q := fun G H a s v hs hp r P => P.now hs hp v r
theorem at1_of {Cl : Addr} {F : List D → PM D} {g : D → PM D} {Q Q' : VK} {G0 H0 G1 H1 : Hp} {Γ' : List Sl} {s1 : List Int} {v : V} {d : D} {us : List V} {ds : List D} (hg : Goes X W pa g σ Q Q') (ar : Arity n F) (hs : Same G1 H1) (tk : TabK X.K H1) (nt : NoT G1) (hp : PenOk pa G1 H1 s1)
    (r : Rp X.K G1 v d) (rs : RpL X.K G1 us ds) (P : Pst X.K W X.mg pa σ (FD X.K Q) G1 H1 ((methD Cl F d ds >>= g) s1)) : At1 X W Cl n F σ Q' v us H1 := by
  have P2 : Pst X.K W X.mg pa σ (FD X.K Q') G1 H1 (methD Cl F d ds s1) := P.bind.imp fun G2 H2 a s2 x2 p2 P2 v2 r2 => hg G2 H2 a s2 v2 x2.sub p2 r2 P2
  obtain ⟨a, dx, fvs, rfl, g1, oc⟩ := methD_obj r P2
  exact ⟨a, dx, fvs, rfl, hs _ _ g1, oc, spF_at hs tk nt hp ar (.cons r rs) P2⟩
section
variable {Cl : Addr} {F : List D → PM D} {g : D → PM D} {Q Q' : VK}
theorem evT1 {m : PM D} (hg : Goes X W pa g σ Q Q') (ar : Arity 1 F) (h : evT X W pa Γ (m >>= fun d => methD Cl F d [] >>= g) σ H Q) : evT X W pa Γ m σ H fun v H1 => At1 X W Cl 1 F σ Q' v [] H1 := by
  obtain ⟨G0, H0, G, s, E, R⟩ := h
  exact ⟨G0, H0, G, s, E, R.bind.imp fun G1 H1 d s1 x1 p1 P1 v r => at1_of (G0 := G0) (H0 := H0) (Γ' := Γ) hg ar x1.sub (x1.tk E.tk) (x1.gt E.x.nt) p1 r .nil P1⟩
theorem evT2 {ma mb : PM D} (hg : Goes X W pa g σ Q Q') (ar : Arity 2 F) (h : evT X W pa Γ (ma >>= fun x => mb >>= fun y => methD Cl F x [y] >>= g) σ H Q) : evT X W pa Γ ma σ H fun v H1 => evT X W pa Γ mb σ H1 fun u H2 => At1 X W Cl 2 F σ Q' v [u] H2 := by
  obtain ⟨G0, H0, G, s, E, R⟩ := h
  exact ⟨G0, H0, G, s, E, R.bind.imp fun G1 H1 d s1 x1 p1 P1 v r => ⟨G0, H0, G1, s1, E.step x1 p1, P1.bind.imp fun G2 H2 d2 s2 x2 p2 P2 v2 r2 => at1_of (G0 := G0) (H0 := H0) (Γ' := Γ) hg ar x2.sub (x2.tk (x1.tk E.tk)) (x2.gt (x1.gt E.x.nt)) p2 (r.mono x2.g) (.cons r2 .nil) P2⟩⟩
theorem evT2r {ma mb : PM D} (hg : Goes X W pa g σ Q Q') (ar : Arity 2 F) (h : evT X W pa Γ (ma >>= fun x => mb >>= fun y => methD Cl F y [x] >>= g) σ H Q) : evT X W pa Γ ma σ H fun u H1 => evT X W pa Γ mb σ H1 fun v H2 => At1 X W Cl 2 F σ Q' v [u] H2 := by
  obtain ⟨G0, H0, G, s, E, R⟩ := h
  exact ⟨G0, H0, G, s, E, R.bind.imp fun G1 H1 d s1 x1 p1 P1 v r => ⟨G0, H0, G1, s1, E.step x1 p1, P1.bind.imp fun G2 H2 d2 s2 x2 p2 P2 v2 r2 => at1_of (G0 := G0) (H0 := H0) (Γ' := Γ) hg ar x2.sub (x2.tk (x1.tk E.tk)) (x2.gt (x1.gt E.x.nt)) p2 r2 (.cons (r.mono x2.g) .nil) P2⟩⟩
theorem evTL {m : PM D} {ml : PM (List D)} (hg : Goes X W pa g σ Q Q') (ar : Arity n F) (h : evT X W pa Γ (m >>= fun d => ml >>= fun ds => methD Cl F d ds >>= g) σ H Q) : evT X W pa Γ m σ H fun v H1 => evL X W pa Γ ml σ H1 fun us H2 => At1 X W Cl n F σ Q' v us H2 := by
  obtain ⟨G0, H0, G, s, E, R⟩ := h
  exact ⟨G0, H0, G, s, E, R.bind.imp fun G1 H1 d s1 x1 p1 P1 v r => ⟨G0, H0, G1, s1, E.step x1 p1, P1.bind.imp fun G2 H2 ds s2 x2 p2 P2 us rs => at1_of (G0 := G0) (H0 := H0) (Γ' := Γ) hg ar x2.sub (x2.tk (x1.tk E.tk)) (x2.gt (x1.gt E.x.nt)) p2 (r.mono x2.g) rs P2⟩⟩
/-! ### operators of instances -/
variable {ps : List Str} {Mn : Str}
/-- -o -/
theorem ev_negO {e : Expr} {m : PM D} (C : Cok X W k) (M : CalM X.prog X.w X.K X.mg X.base j Cl "__neg__" ps (spF X.K X.mg false 1 F)) (ar : Arity 1 F) (he : EV X W pa Γ e m) (hj : j ≤ k := by decide) (hj2 : j < 32 := by decide) : EV X W pa Γ (.UnaryOp .USub e pos) (m >>= fun d => methD Cl F d []) := by
  obtain ⟨f, fd, FG, Me, fi, hb⟩ := M.ex
  refine ⟨fun pins s σ H Q I h => ?_⟩
  have h : evT X W pa Γ (m >>= fun d => methD Cl F d [] >>= pure) σ H Q := by simpa using h
  refine UnaryOp_ (thn (he.run pins s σ H _ I (evT1 goes_pure ar h)) fun v s1 ⟨x, H1, I1, r1, a, dx, fvs, ea, h1, oc, q⟩ => ?_)
  subst ea
  obtain rfl : v = Value.ref a := r1
  obtain ⟨mm, fr⟩ := fr_of I1
  obtain ⟨ox, od, J, _⟩ := inst_of I1 h1
  exact ksp_neg fr I1.ok.mod.kin J Me.at_ Me.fn (runA C.takes rfl (C.room.mono hj) hj2 FG hb I1 (.cons (show RelV (.ref a) (.ref a) from rfl) .nil) q)
/-- o[e] -/
theorem ev_subO {o e : Expr} {ma mb : PM D} (C : Cok X W k) (M : CalM X.prog X.w X.K X.mg X.base j Cl "__getitem__" ps (spF X.K X.mg false 2 F)) (ar : Arity 2 F) (ho : EV X W pa Γ o ma) (he : EV X W pa Γ e mb)
    (hj : j + 1 ≤ k := by decide) (hj2 : j < 32 := by decide) (hsl : ∀ v u, subscripted e true v u = runValue (.builtin "lifetime.subscript" ⟨[v, u], []⟩) := by intro _ _; with_unfolding_all rfl) :
    EV X W pa Γ (.Subscript o e pos) (ma >>= fun x => mb >>= fun y => methD Cl F x [y]) := by
  obtain ⟨f, fd, FG, Me, fi, hb⟩ := M.ex
  refine ⟨fun pins s σ H Q I h => ?_⟩
  have h : evT X W pa Γ (ma >>= fun x => mb >>= fun y => methD Cl F x [y] >>= pure) σ H Q := by simpa using h
  refine Subscript_ (binT ho he I (evT2 goes_pure ar h) fun v u s2 x y H2 I2 rx ry ⟨a, dx, fvs, ea, h1, oc, q⟩ => ?_)
  subst ea
  obtain rfl : v = Value.ref a := rx
  obtain ⟨mm, fr⟩ := fr_of I2
  obtain ⟨ox, od, J, _⟩ := inst_of I2 h1
  exact sub_K fr I2.ok.mod.kin J Me.at_ fi Me.fn (runA C.takes rfl (C.room.mono hj).in1 hj2 FG hb I2 (.cons (show RelV (.ref a) (.ref a) from rfl) (.cons ry .nil)) q) (hsl _ _)
/-- d is an instance that stands, without a field of that name -/
def objD (Cl : Addr) (nm : Str) : D → PM Unit
  | .obj C fs => if C = Cl ∧ nm ∉ fs.map (·.1) then pure () else bad
  | _ => bad
theorem look_no {nm : Str} : ∀ {l : List (Str × V)}, nm ∉ l.map (·.1) → l.lookup nm = none
  | [], _ => rfl
  | (k, v) :: l, h => by
    have h1 : (nm == k) = false := beq_eq_false_iff_ne.mpr fun z => h (by rw [z]; exact List.mem_cons_self)
    show (match nm == k with | true => some v | false => l.lookup nm) = none
    rw [h1]
    exact look_no fun z => h (List.mem_cons_of_mem _ z)
theorem objD_at {β : Type} {K : Frag} {mg : Str → Option Value} {FF : Hp → Hp → β → List Int → Prop} {nm : Str} {h : PM β} {G1 H1 : Hp} {s1 : List Int} {v : V} {d : D} (hs : Same G1 H1) (r : Rp K G1 v d) (P : Pst K W mg pa σ FF G1 H1 ((objD Cl nm d >>= fun _ => h) s1)) :
    (∃ a dx fvs, v = .ref a ∧ H1 a = some (.ins Cl dx fvs) ∧ ObjC K Cl ∧ fvs.lookup nm = none) ∧ Pst K W mg pa σ FF G1 H1 (h s1) := by
  cases r with
  | @obj a C dx fvs fs g hc hk rr =>
    have P2 : Pst K W mg pa σ FF G1 H1 (((if C = Cl ∧ nm ∉ fs.map (·.1) then pure () else bad : PM Unit) >>= fun _ => h) s1) := P
    clear P
    by_cases z : C = Cl ∧ nm ∉ fs.map (·.1)
    · rw [if_pos z] at P2
      obtain ⟨z1, z2⟩ := z
      subst z1
      exact ⟨⟨a, dx, fvs, rfl, hs _ _ g, hc, look_no (by rw [hk]; exact z2)⟩, P2⟩
    · rw [if_neg z] at P2
      exact P2.elim
  | _ => exact P.elim
theorem evTO {nm : Str} {m : PM D} {ml : PM (List D)} (ar : Arity n F) (h : evT X W pa Γ (m >>= fun d => objD Cl nm d >>= fun _ => ml >>= fun ds => methD Cl F d ds) σ H Q) : evT X W pa Γ m σ H fun v H1 => ∃ a, v = .ref a ∧ (∃ dx fvs, H1 a = some (.ins Cl dx fvs) ∧ ObjC X.K Cl ∧ fvs.lookup nm = none) ∧
    evL X W pa Γ ml σ H1 fun us H2 => At1 X W Cl n F σ Q v us H2 := by
  obtain ⟨G0, H0, G, s, E, R⟩ := h
  refine ⟨G0, H0, G, s, E, R.bind.imp fun G1 H1 d s1 x1 p1 P1 v r => ?_⟩
  obtain ⟨⟨a, dx, fvs, ea, h1, oc, hl⟩, P2⟩ := objD_at x1.sub r P1
  refine ⟨a, ea, ⟨dx, fvs, h1, oc, hl⟩, G0, H0, G1, s1, E.step x1 p1, P2.bind.imp fun G2 H2 ds s2 x2 p2 P3 us rs => ?_⟩
  have P3 : Pst X.K W X.mg pa σ (FD X.K Q) G2 H2 ((methD Cl F d ds >>= pure) s2) := by simpa using P3
  exact at1_of (G0 := G0) (H0 := H0) (Γ' := Γ) goes_pure ar x2.sub (x2.tk (x1.tk E.tk)) (x2.gt (x1.gt E.x.nt)) p2 (r.mono x2.g) rs P3
/-- o(e, ..) -/
theorem ev_callO {o e : Expr} {es : List Expr} {m : PM D} {ml : PM (List D)} (C : Cok X W k) (M : CalM X.prog X.w X.K X.mg X.base j Cl "__call__" ps (spF X.K X.mg false n F)) (ar : Arity n F) (ho : EV X W pa Γ o m) (ha : EL X W pa Γ (e :: es) ml)
    (hj : j ≤ k := by decide) (hj2 : j < 32 := by decide)
    (ht : eval (.Call o (e :: es) [] pos) X.env = (do callWith pos (← eval o X.env) [] (backTo pos (starEach (e :: es) X.env)) (backToKw pos (keywordEach [] X.env))) := by rfl)
    (he : starEach (e :: es) X.env = (false, eval e X.env) :: starEach es X.env := by rfl) (hpl : (backTo pos (starEach es X.env)).any (·.1) = false := by rfl) :
    EV X W pa Γ (.Call o (e :: es) [] pos) (m >>= fun d => objD Cl "" d >>= fun _ => ml >>= fun ds => methD Cl F d ds) := by
  obtain ⟨f, fd, FG, Me, fi, hb⟩ := M.ex
  refine ⟨fun pins s σ H Q I h => ?_⟩
  refine Call_ (thn (ho.run pins s σ H _ I (evTO ar h)) fun u s1 ⟨y, H1, I1, ry, a, ey, _, q1⟩ => ?_) ht
  subst ey
  obtain rfl : u = Value.ref a := ry
  refine StX.callO_with (thn (ha.run pos pins s1 σ H1 _ I1 q1) fun us s2 ⟨vs, H2, I2, r, q2⟩ => ?_) he hpl
  obtain ⟨a', dx, fvs, ea, h1, oc, q⟩ := q2
  cases ea
  obtain ⟨ox, od, J, hd⟩ := inst_of I2 h1
  exact ⟨⟨_, ox, od, J, hd⟩, wpAny_call (kco_code I2.kIn J hd Me.at_ Me.fn fi (runC (us := .ref a :: us) C.takes rfl (C.room.mono hj) hj2 FG hb I2 (.cons (show RelV (.ref a) (.ref a) from rfl) r) q))⟩
/-- o.m(e, ..) -/
theorem ev_methO {o e : Expr} {nm : Str} {es : List Expr} {m : PM D} {ml : PM (List D)} {apos : Pos} {pl : Sem Bool} (C : Cok X W k) (M : CalM X.prog X.w X.K X.mg X.base j Cl nm ps (spF X.K X.mg false n F)) (ar : Arity n F) (ho : EV X W pa Γ o m) (ha : EL X W pa Γ (e :: es) ml)
    (hj : j ≤ k := by decide) (hj2 : j < 32 := by decide)
    (he : starEach (e :: es) X.env = (false, eval e X.env) :: starEach es X.env := by rfl) (hpl : (backTo pos (starEach es X.env)).any (·.1) = false := by rfl)
    (ht : eval (.Call (.Attribute o nm apos) (e :: es) [] pos) X.env = (do
      let ov ← eval o X.env
      standAt apos.atName
      let (f, first) ← holding [ov] (getMethod ov nm pl)
      callWith pos f first (backTo pos (starEach (e :: es) X.env)) (backToKw pos (keywordEach [] X.env))) := by rfl) :
    EV X W pa Γ (.Call (.Attribute o nm apos) (e :: es) [] pos) (m >>= fun d => objD Cl nm d >>= fun _ => ml >>= fun ds => methD Cl F d ds) := by
  obtain ⟨f, fd, FG, Me, fi, hb⟩ := M.ex
  refine ⟨fun pins s σ H Q I h => ?_⟩
  refine PySem.W.methodCall_KW (pl := pl) (thn (ho.run pins s σ H _ I (evTO ar h)) fun u s1 ⟨y, H1, I1, ry, a, ey, ⟨dx, fvs, h1, oc, hl⟩, q1⟩ => ?_) ht
  subst ey
  obtain rfl : u = Value.ref a := ry
  refine getmeth_ok I1 h1 oc.cl Me hl ?_
  refine PySem.W.callWith_K (first := [.ref a]) (h₀ := X.base) I.ok.mod.kin Me.kp (thn (ha.run pos pins s1 σ H1 _ I1 q1) fun us s2 ⟨vs, H2, I2, r, q2⟩ => ⟨I2.kIn, ?_⟩) he hpl
  obtain ⟨a', dx', fvs', ea, h2, _, q⟩ := q2
  cases ea
  exact runA (us := .ref a :: us) C.takes rfl (C.room.mono hj) hj2 FG hb I2 (.cons (show RelV (.ref a) (.ref a) from rfl) r) q
/-- o.m() -/
theorem ev_methO0 {o : Expr} {nm : Str} {m : PM D} {apos : Pos} {pl : Sem Bool} (C : Cok X W k) (M : CalM X.prog X.w X.K X.mg X.base j Cl nm ps (spF X.K X.mg false 1 F)) (ar : Arity 1 F) (ho : EV X W pa Γ o m)
    (hj : j ≤ k := by decide) (hj2 : j < 32 := by decide)
    (ht : eval (.Call (.Attribute o nm apos) [] [] pos) X.env = (do
      let ov ← eval o X.env
      standAt apos.atName
      let (f, first) ← holding [ov] (getMethod ov nm pl)
      callWith pos f first (backTo pos (starEach [] X.env)) (backToKw pos (keywordEach [] X.env))) := by rfl) :
    EV X W pa Γ (.Call (.Attribute o nm apos) [] [] pos) (m >>= fun d => objD Cl nm d >>= fun _ => methD Cl F d []) := by
  obtain ⟨f, fd, FG, Me, fi, hb⟩ := M.ex
  refine ⟨fun pins s σ H Q I h => ?_⟩
  have h : evT X W pa Γ (m >>= fun d => objD Cl nm d >>= fun _ => (pure [] : PM (List D)) >>= fun ds => methD Cl F d ds) σ H Q := h
  have h2 : evT X W pa Γ m σ H fun v H1 => ∃ a, v = .ref a ∧ (∃ dx fvs, H1 a = some (.ins Cl dx fvs) ∧ ObjC X.K Cl ∧ fvs.lookup nm = none) ∧ At1 X W Cl 1 F σ Q v [] H1 := by
    obtain ⟨G0, H0, G, s, E, R⟩ := h
    refine ⟨G0, H0, G, s, E, R.bind.imp fun G1 H1 d s1 x1 p1 P1 v r => ?_⟩
    obtain ⟨⟨a, dx, fvs, ea, h1, oc, hl⟩, P2⟩ := objD_at x1.sub r P1
    refine ⟨a, ea, ⟨dx, fvs, h1, oc, hl⟩, ?_⟩
    have P3 : Pst X.K W X.mg pa σ (FD X.K Q) G1 H1 ((methD Cl F d [] >>= pure) s1) := by simpa using P2
    exact at1_of (G0 := G0) (H0 := H0) (Γ' := Γ) goes_pure ar x1.sub (x1.tk E.tk) (x1.gt E.x.nt) p1 r .nil P3
  refine PySem.W.methodCall_KW (pl := pl) (thn (ho.run pins s σ H _ I h2) fun u s1 ⟨y, H1, I1, ry, a, ey, ⟨dx, fvs, h1, oc, hl⟩, q1⟩ => ?_) ht
  subst ey
  obtain rfl : u = Value.ref a := ry
  refine getmeth_ok I1 h1 oc.cl Me hl ?_
  refine PySem.W.callWith_K0 (first := [.ref a]) I1.kIn Me.kp ?_
  obtain ⟨a', dx', fvs', ea, h2, _, q⟩ := q1
  cases ea
  exact runA (us := [.ref a]) C.takes rfl (C.room.mono hj) hj2 FG hb I1 (.cons (show RelV (.ref a) (.ref a) from rfl) .nil) q
/-- e in o, e not in o -/
def blD : D → PM D
  | .bl b => pure (.bl b)
  | _ => bad
def nbD : D → PM D
  | .bl b => pure (.bl (!b))
  | _ => bad
theorem goes_bl : Goes X W pa blD σ Q (fun v H => ∃ b, v = .bl b ∧ Q (.bl b) H) := fun G H a s v hs hp r P => by
  cases r with
  | bl b => exact ⟨b, rfl, P.now hs hp _ (.bl b)⟩
  | _ => exact P.elim
theorem goes_nb : Goes X W pa nbD σ Q (fun v H => ∃ b, v = .bl b ∧ Q (.bl (!b)) H) := fun G H a s v hs hp r P => by
  cases r with
  | bl b => exact ⟨b, rfl, P.now hs hp _ (.bl (!b))⟩
  | _ => exact P.elim
theorem ev_inO {e o : Expr} {ma mb : PM D} (C : Cok X W k) (M : CalM X.prog X.w X.K X.mg X.base j Cl "__contains__" ps (spF X.K X.mg false 2 F)) (ar : Arity 2 F) (he : EV X W pa Γ e ma) (ho : EV X W pa Γ o mb) (hm : behindInMarks .In o = false)
    (hj : j ≤ k := by decide) (hj2 : j < 32 := by decide) : EV X W pa Γ (.Compare e [.In] [o] pos) (ma >>= fun x => mb >>= fun y => methD Cl F y [x] >>= blD) := by
  obtain ⟨f, fd, FG, Me, fi, hb⟩ := M.ex
  refine ⟨fun pins s σ H Q I h => ?_⟩
  refine wpAny_Compare1 (binT he ho I (evT2r goes_bl ar h) fun v u s2 x y H2 I2 rx ry ⟨a, dx, fvs, ea, h1, oc, q⟩ => ?_) hm
  subst ea
  obtain rfl : u = Value.ref a := ry
  obtain ⟨mm, fr⟩ := fr_of I2
  obtain ⟨ox, od, J, _⟩ := inst_of I2 h1
  refine in_K fr I2.ok.mod.kin J Me.at_ Me.fn (thn (runA C.takes rfl (C.room.mono hj) hj2 FG hb I2 (.cons (show RelV (.ref a) (.ref a) from rfl) (.cons rx .nil)) q) fun z s3 ⟨w, H3, I3, rw', b, ew, q3⟩ => ?_)
  subst ew
  cases rw'
  exact wpAny_truthy_bool ⟨.bl b, H3, I3, rfl, q3⟩
theorem ev_notInO {e o : Expr} {ma mb : PM D} (C : Cok X W k) (M : CalM X.prog X.w X.K X.mg X.base j Cl "__contains__" ps (spF X.K X.mg false 2 F)) (ar : Arity 2 F) (he : EV X W pa Γ e ma) (ho : EV X W pa Γ o mb) (hm : behindInMarks .NotIn o = false)
    (hj : j ≤ k := by decide) (hj2 : j < 32 := by decide) : EV X W pa Γ (.Compare e [.NotIn] [o] pos) (ma >>= fun x => mb >>= fun y => methD Cl F y [x] >>= nbD) := by
  obtain ⟨f, fd, FG, Me, fi, hb⟩ := M.ex
  refine ⟨fun pins s σ H Q I h => ?_⟩
  refine wpAny_Compare1 (binT he ho I (evT2r goes_nb ar h) fun v u s2 x y H2 I2 rx ry ⟨a, dx, fvs, ea, h1, oc, q⟩ => ?_) hm
  subst ea
  obtain rfl : u = Value.ref a := ry
  obtain ⟨mm, fr⟩ := fr_of I2
  obtain ⟨ox, od, J, _⟩ := inst_of I2 h1
  refine notIn_K fr I2.ok.mod.kin J Me.at_ Me.fn (thn (runA C.takes rfl (C.room.mono hj) hj2 FG hb I2 (.cons (show RelV (.ref a) (.ref a) from rfl) (.cons rx .nil)) q) fun z s3 ⟨w, H3, I3, rw', b, ew, q3⟩ => ?_)
  subst ew
  cases rw'
  exact wpAny_truthy_bool ⟨.bl (!b), H3, I3, rfl, q3⟩
/-- len(o) -/
def lnD : D → PM D
  | .int n => if 0 ≤ n ∧ n < 2 ^ 62 then pure (.int n) else bad
  | _ => bad
theorem goes_ln : Goes X W pa lnD σ Q (fun v H => ∃ n : Int, v = .int n ∧ 0 ≤ n ∧ n < 2 ^ 62 ∧ Q (.int n) H) := fun G H a s v hs hp r P => by
  cases r with
  | int n =>
    have P : Pst X.K W X.mg pa σ (FD X.K Q) G H ((if 0 ≤ n ∧ n < 2 ^ 62 then pure (.int n) else bad : PM D) s) := P
    split at P
    · rename_i z
      exact ⟨n, rfl, z.1, z.2, P.now hs hp _ (.int n)⟩
    · exact P.elim
  | _ => exact P.elim
theorem ev_lenO {e : Expr} {m : PM D} {p : Pos} (C : Cok X W k) (M : CalM X.prog X.w X.K X.mg X.base j Cl "__len__" ps (spF X.K X.mg false 1 F)) (ar : Arity 1 F) (he : EV X W pa Γ e m) (hg : Gl X "len") (hm : X.mg "len" = none) (hj : j + 1 ≤ k := by decide) (hj2 : j < 32 := by decide)
    (hs : starEach [e] X.env = (false, eval e X.env) :: starEach [] X.env := by rfl) :
    EV X W pa Γ (.Call (.Name "len" p) [e] [] pos) (m >>= fun d => methD Cl F d [] >>= lnD) := by
  obtain ⟨f, fd, FG, Me, fi, hb⟩ := M.ex
  refine ⟨fun pins s σ H Q I h => ?_⟩
  refine wpAny_Call_Name_kw (ld_blt I hg hm (show bootBuiltins "len" = some (.builtin "len") by decide +kernel) ?_ (by decide) (by decide))
  refine PyProof.Rows.callWith_builtin1 (thn ((pa_cons he pa_nil hs).run pos pins s σ H (fun vs H1 => ∃ v, vs = [v] ∧ At1 X W Cl 1 F σ (fun v H => ∃ n : Int, v = .int n ∧ 0 ≤ n ∧ n < 2 ^ 62 ∧ Q (.int n) H) v [] H1) I ?_) fun us s1 ⟨vs, H1, I1, r1, v, ev, a, dx, fvs, ea, h1, oc, q⟩ => ?_) hs rfl
  · obtain ⟨G0, H0, G, s, E, R⟩ := evT1 goes_ln ar h
    exact ⟨G0, H0, G, s, E, R.imp fun G' H' d s1 x1 p1 P1 v r => ⟨v, rfl, P1 v r⟩⟩
  subst ev ea
  obtain ⟨u, rfl, hu⟩ : ∃ u, us = [u] ∧ RelV (.ref a) u := by
    cases r1 with
    | cons h t => cases t; exact ⟨_, rfl, h⟩
  obtain rfl : u = Value.ref a := hu
  obtain ⟨mm, fr⟩ := fr_of I1
  obtain ⟨ox, od, J, _⟩ := inst_of I1 h1
  refine len_K fr I1.ok.mod.kin J Me.at_ Me.fn (thn (runA C.takes rfl (C.room.mono hj).in1 hj2 FG hb I1 (.cons (show RelV (.ref a) (.ref a) from rfl) .nil) q) fun z s3 ⟨w, H3, I3, rw', n, ew, n0, n1, q3⟩ => ?_)
  subst ew
  obtain ⟨t, rfl⟩ := rw'
  exact ⟨⟨n0, by omega⟩, .int n, H3, I3.tok _, ⟨_, rfl⟩, q3⟩
end
end
end EV

set_option maxHeartbeats 2000000
/-! EV 49: several except clauses with names; the word of what a lambda raises (_law_said of the laws on Net). -/
namespace EV
open PySem PySem.Spec PyProof.Rows L2
/-- what the clauses wish, one after the other; each with its name's slot -/
def wManyA (K : PySem.W.Frag) (Wout : WX) (D : Ends) : List (Value × Nat × (Addr → Value → Option Addr → TS)) → WX
  | [] => Wout
  | (c, i, ts) :: r => fun cls d σ H => ∃ b, PySem.W.exmOne K cls c = some b ∧
    (b = true → ∀ a, H a = none → ts a cls d { nx := fun σ' H' => D.nx (σ'.set i none) H', rt := D.rt, bk := fun σ' H' => D.bk (σ'.set i none) H', ct := fun σ' H' => D.ct (σ'.set i none) H' } (σ.set i (some (.ref a))) H) ∧ (b = false → wManyA K Wout D r cls d σ H)
inductive HdsA (X : Cx) : List ExceptHandler → List (Value × Nat × (Addr → Value → Option Addr → TS)) → Prop
  | nil : HdsA X [] []
  | cons {x n : Str} {c : Value} {i : Nat} {ts : Addr → Value → Option Addr → TS} {b₀ : Stmt} {suite : List Stmt} {np pos' : Pos} {hds : List ExceptHandler} {l : List (Value × Nat × (Addr → Value → Option Addr → TS))} (hc : Names X x c)
      (hi : X.N[i]? = some n) (hln : X.env.kindOf n = some .local)
      (hsu : ∀ (a : Addr) (oe : Obj) (cls : Value) (d : Option Addr) (pn : List (Addr × Obj)), Zc cls d oe → (∃ vs, oe.data = .fields vs) → PSs (X.suite a ((a, oe) :: pn)) (b₀ :: suite) (ts a cls d)) (r : HdsA X hds l) :
      HdsA X (.ExceptHandler (some (.Name x np)) (some n) (b₀ :: suite) pos' :: hds) ((c, i, ts) :: l)
section
variable {X : Cx} {body : List Stmt} {h₀ : ExceptHandler} {hds : List ExceptHandler} {l : List (Value × Nat × (Addr → Value → Option Addr → TS))} {pos : Pos} {tb : WX → TS} {Wout : WX}
theorem ps_try_manyA (hs : X.stack = X.env :: X.outer) (hf : X.env.frame = some X.env.locals) (hN : X.N.Nodup) (tk : Takes X Wout)
    (hb : ∀ (W : WX) (pn : List (Addr × Obj)) (xe : Value → Shared → Prop), Takes (X.tr pn xe) W → PassesOwn (model X.prog X.w) X.A X.env xe → PSs (X.tr pn xe) body (tb W))
    (hh : HdsA X (h₀ :: hds) l) : PS X (.Try body (h₀ :: hds) [] [] pos) (fun D σ H => tb (wManyA X.K Wout D l) D σ H) := by
  refine ⟨fun pins s σ H D I h => ?_⟩
  have ok := I.ok
  have hfr : X.A.frames = some (X.env :: X.outer) := by rw [ok.frames, hs]
  refine wpAny_Try_except ?_
  refine wpAny_mono ((hb (wManyA X.K Wout D l) (X.pn ++ pins) (fun e s₁ => wpAny (model X.prog X.w) X.A (noteFrame e X.env) (fun _ s₂ => wpAny (model X.prog X.w) X.A (setFlight e none) (fun _ s₃ =>
    wpAny (model X.prog X.w) X.A (handleBy e X.env (h₀ :: hds)) (SP X pins D) X.xe s₃) X.xe s₂) X.xe s₁) (fun u s' xx => ?_) PassesOwn.looking).run [] s σ H D (I.toTry _) h) (fun f s1 hsp => ?_) (fun e s1 he => he)
  · -- the catch
    obtain ⟨a, B, sI, pins', σ', H', cls, d, rfl, J', nb, up, sky, na, os, ag, w⟩ := xx
    have J : Inv X pins σ' H' sI := J'.ofTry ok
    have sky' : Sky B (X.env :: X.outer) a (Zc cls d) X.env.locals s'.heap := by rw [← hs]; exact sky
    show wpAny (model X.prog X.w) X.A (noteFrame (.ref a) X.env) _ _ _
    refine Sky.land Zc.steady hfr hf sky' fun h3 fl3 up3 => ?_
    have J3 : Inv X pins σ' H' { s' with heap := h3 } := J.landed nb fl3.1 (up.trans up3) os ag
    obtain ⟨oe3, vs3, he3, hz3, hd3⟩ := fl3.there
    have notFr : ∀ {h : Heap} {o : Obj} {vs : Array Value}, h.FunFrames B (X.env :: X.outer) → h.get? a = some o → o.data = .fields vs → a ∉ frs (X.env :: X.outer) := fun {h o vs} ff e dd hm => by
      obtain ⟨_, o', e', hnf⟩ := ff.mem hm
      rw [e] at e'; cases e'
      exact hnf _ dd
    have nfr := notFr fl3.2.2.1 he3 hd3
    have nL : a ≠ X.env.locals := fun z => nfr (List.mem_filterMap.mpr ⟨X.env, List.mem_cons_self, by rw [hf, z]⟩)
    have nF : a ∉ X.fs := fun hm => by
      obtain ⟨e, he, q⟩ := List.mem_filterMap.mp hm
      exact nfr (List.mem_filterMap.mpr ⟨e, List.mem_cons_of_mem _ he, q⟩)
    have S3 := J3.suite he3 hd3 na nL nF
    have go : ∀ {hds' : List ExceptHandler} {l' : List (Value × Nat × (Addr → Value → Option Addr → TS))}, HdsA X hds' l' → wManyA X.K Wout D l' cls d σ' H' →
        wpAny (model X.prog X.w) X.A (handleBy (.ref a) X.env hds') (SP X pins D) X.xe { s' with heap := h3 } := by
      intro hds' l' hk
      induction hk with
      | nil =>
        intro w
        refine wpAny_handleBy_nil ?_
        obtain ⟨k1, k2, k3, oe, vs, T, oT, ts', he, hz, hd, h1, hr⟩ := id fl3
        unfold PySem.passOn
        refine wpAny_bind (wpAny_field he hd h1 ?_)
        rw [if_neg (show ¬ ((Value.ref T == Value.none) = true) from by simp)]
        have fin : wpAny (model X.prog X.w) X.A (setFlight (.ref a) X.env.frame) (fun _ s4 => wpAny (model X.prog X.w) X.A (throw (.ref a) : Sem Flow) (SP X pins D) X.xe s4) X.xe { s' with heap := h3 } := by
          rw [hf]
          refine HandSPX.setFlight_upZ fl3 fun h4 hh4 up4 => wpAny_throw (tk _ _ ?_)
          exact ⟨a, B, sI, pins, σ', H', cls, d, rfl, J, nb, (up.trans up3).trans up4, .inr (.inr (by rw [hs]; exact hh4)), na, os, ag, w⟩
        first
          | exact wpAny_bind (wpAny_pure (wpAny_bind fin))
          | exact wpAny_bind fin
      | @cons x n c i ts b₀ suite np pos' hds2 l2 hc hi hln hsu r ih =>
        intro w
        obtain ⟨b, hb1, hyes, hno⟩ := w
        have hloc : Loc X.env.scope n := .inl hln
        refine wpAny_handleBy_cons (codeAny_handlers_test ?_) (by intro q; cases q)
        have LT : PySem.W.Looks (model X.prog X.w) h3 (typeOf (.ref a)) cls := fun A Q E s k q => wpAny_typeOf_ref (k _ _ he3) (by rw [hz3.1]; exact q)
        have LM := PySem.W.exm_one (M := model X.prog X.w) (J3.kIn) LT hb1
        have test : ∀ {Q : Value → Shared → Prop} {E : Value → Shared → Prop}, Q c { s' with heap := h3 } → wpAny (model X.prog X.w) (X.A.mark (some (.ref a))) (eval (.Name x np) X.env) Q E { s' with heap := h3 } := fun {Q E} q => by
          obtain ⟨hg, hdbg, hm | ⟨hm, hv, hnn⟩⟩ := hc
          · exact ld_glob (X := X.suite a ((a, oe3) :: (X.pn ++ pins))) S3 hg hm q hdbg
          · exact ld_blt (X := X.suite a ((a, oe3) :: (X.pn ++ pins))) S3 hg hm hv q hnn hdbg
        refine test (LM.here ?_)
        cases b with
        | true =>
          refine codeAny_handlers_suite_as ?_
          refine HandSPX.lands_againZ fl3 fun h4 fl4 up4 => ?_
          have J4 : Inv X pins σ' H' { s' with heap := h4 } := J.landed nb fl4.1 ((up.trans up3).trans up4) os ag
          obtain ⟨oe4, vs4, he4, hz4, hd4⟩ := fl4.there
          have S4 := J4.suite he4 hd4 na nL nF
          refine store_ok (X := X.suite a ((a, oe4) :: (X.pn ++ pins))) (v := .ref a) S4 hN hi hloc rfl (fun s5 S5 => ?_) (.inr hln)
          refine wpAny_mono ((hsu a oe4 cls d (X.pn ++ pins) hz4 ⟨_, hd4⟩).run [] s5 _ H' _ S5 (hyes rfl a na)) (fun f s6 hsp => ?_) (fun _ _ z => False.elim z)
          have end_ : ∀ {σ6 : L2.St} {H6 : Hp} {Q : Shared → Prop}, Inv (X.suite a ((a, oe4) :: (X.pn ++ pins))) [] σ6 H6 s6 → (∀ s7, Inv X pins (σ6.set i none) H6 s7 → Q s7) →
              wpAny (model X.prog X.w) X.A (do bindName X.env n .none; unbindBehindTheSuite X.env n pos') (fun _ s7 => Q s7) X.xe s6 := fun {σ6 H6 Q} S6 hq => gone_ok (S6.unsuite ok) hN hi hln hq
          cases f with
          | next =>
            obtain ⟨σ6, H6, S6, q6⟩ := hsp
            exact end_ S6 fun s7 J7 => ⟨_, _, J7, q6⟩
          | brk =>
            obtain ⟨σ6, H6, S6, q6⟩ := hsp
            exact end_ S6 fun s7 J7 => ⟨_, _, J7, q6⟩
          | cont =>
            obtain ⟨σ6, H6, S6, q6⟩ := hsp
            exact end_ S6 fun s7 J7 => ⟨_, _, J7, q6⟩
          | ret u =>
            obtain ⟨v6, σ6, H6, S6, r6, q6⟩ := hsp
            exact end_ S6 fun s7 J7 => ⟨_, _, _, J7, r6, q6⟩
        | false =>
          show wpAny _ X.A (handleBy (.ref a) X.env hds2) _ _ _
          exact ih (hno rfl)
    exact go hh w
  · cases f with
    | next =>
      obtain ⟨σ', H', J', q⟩ := hsp
      exact wpAny_execs_nil ⟨σ', H', J'.ofTry ok, q⟩
    | brk =>
      obtain ⟨σ', H', J', q⟩ := hsp
      exact ⟨σ', H', J'.ofTry ok, q⟩
    | cont =>
      obtain ⟨σ', H', J', q⟩ := hsp
      exact ⟨σ', H', J'.ofTry ok, q⟩
    | ret u =>
      obtain ⟨v, σ', H', J', r, q⟩ := hsp
      exact ⟨v, σ', H', J'.ofTry ok, r, q⟩
end
/-! ### the marks -/
section
variable {X : Cx} {a D : Addr} {oe : Obj}
/-- isinstance of what slot i holds -/
def tIsI (i : Nat) (a : Addr) (b : Bool) : TE := fun σ H Q => σ[i]? = some (some (.ref a)) ∧ Q (.bl b) H
theorem pe_isiI {i : Nat} {e c : Str} {C : Addr} {b : Bool} {p p1 p2 p3 : Pos} (hpin : (a, oe) ∈ X.pn) (hcls : ExcC X.K D) (hzc : Zc (.ref D) none oe) (hfld : ∃ vs, oe.data = .fields vs) (hN : X.N[i]? = some e) (hv : Vis X.env.scope e) (hgi : Gl X "isinstance") (hmi : X.mg "isinstance" = none) (hg : Gl X c) (hm : X.mg c = some (.ref C)) (hk : PySem.W.kitOne X.K (.ref D) (.ref C) = some b)
    (hd : (e == ("__debug__" : Str)) = false := by decide) (hcd : (e == ("__classdict__" : Str)) = false := by decide) (hdc : (c == ("__debug__" : Str)) = false := by decide)
    (h1 : starEach [.Name e p1, .Name c p2] X.env = (false, eval (.Name e p1) X.env) :: starEach [.Name c p2] X.env := by rfl) (h2 : starEach [.Name c p2] X.env = (false, eval (.Name c p2) X.env) :: starEach [] X.env := by rfl)
    (hpl : (backTo p3 (starEach [.Name c p2] X.env)).any (·.1) = false := by rfl) : PE X (.Call (.Name "isinstance" p) [.Name e p1, .Name c p2] [] p3) (tIsI i a b) :=
  pe_imp (pe_callB (call_isP hpin hcls hzc hfld) hgi hmi (by decide +kernel) (pa_cons (pe_var hN hv hd hcd) (pa_cons (pe_glob (v := .ref C) hg hm rfl hdc) pa_nil h2) h1) (by decide) (by decide) h1 hpl) fun σ H Q ⟨s, q⟩ =>
    ⟨.ref a, s, ⟨.ref C, .ref C, b, rfl, fun u r => r, hk, q⟩⟩
theorem pe_isl2 {i : Nat} {i1 i2 : Expr} {b1 b2 : Bool} {p : Pos} (h1 : PE X i1 (tIsI i a b1)) (h2 : PE X i2 (tIsI i a b2))
    (e1 : starEach [i1, i2] X.env = (false, eval i1 X.env) :: starEach [i2] X.env := by rfl) (e2 : starEach [i2] X.env = (false, eval i2 X.env) :: starEach [] X.env := by rfl) :
    PE X (.List [i1, i2] p) (fun σ H Q => σ[i]? = some (some (.ref a)) ∧ ∀ l, H l = none → Q (.ref l) (upd H l (.lst [.bl b1, .bl b2]))) :=
  pe_imp (L2.pe_lst (pa_cons h1 (pa_cons h2 pa_nil e2) e1)) fun σ H Q ⟨s, q⟩ => ⟨s, s, by show 2 ≤ sizeLine; rw [sizeLine_eq]; omega, fun p np => q p np⟩
theorem pe_isl1 {i : Nat} {i1 : Expr} {b1 : Bool} {p : Pos} (h1 : PE X i1 (tIsI i a b1)) (e1 : starEach [i1] X.env = (false, eval i1 X.env) :: starEach [] X.env := by rfl) :
    PE X (.List [i1] p) (fun σ H Q => σ[i]? = some (some (.ref a)) ∧ ∀ l, H l = none → Q (.ref l) (upd H l (.lst [.bl b1]))) :=
  pe_imp (L2.pe_lst (pa_cons h1 pa_nil e1)) fun σ H Q ⟨s, q⟩ => ⟨s, by show 1 ≤ sizeLine; rw [sizeLine_eq]; omega, fun p np => q p np⟩
end
end EV

set_option maxHeartbeats 2000000
/-! EV 50: the word of a handled exception, in an except suite of one's own. -/
namespace EV
open PySem PySem.Spec PyProof.Rows L2
def words8 : List Str := ["net", "component", "set", "report", "word", "number", "text", "nothing"]
section
variable {X : Cx} {a D : Addr} {oe : Obj}
theorem pss_kind8 {m w : Str} {j : Nat} (hj : j < 8) {i0 i1 i2 i3 i4 i5 i6 i7 : Expr} {q1 q2 q3 q4 q5 q6 q7 q8 q9 q10 q11 q12 q13 q14 q15 q16 q17 q18 q19 q20 q21 q22 q23 q24 q25 q26 q27 q28 q29 q30 q31 q32 q33 q34 q35 q36 q37 q38 q39 q40 q41 q42 q43 : Pos}
    {k1 k2 k3 k4 k5 k6 k7 k8 k11 c1 c2 c3 : Nat} {z1 z2 z3 z5 z8 z9 : Pos} (hu : X.A.units + 65 < cLine) (nd : X.N.Nodup)
    (hm : X.N[2]? = some m) (hw : X.N[3]? = some w) (lm : Loc X.env.scope m) (lw : Loc X.env.scope w) (vm : Vis X.env.scope m) (vw : Vis X.env.scope w)
    (h0 : PE X i0 (tIsI 1 a (0 == j))) (h1 : PE X i1 (tIsI 1 a (1 == j))) (h2 : PE X i2 (tIsI 1 a (2 == j))) (h3 : PE X i3 (tIsI 1 a (3 == j))) (h4 : PE X i4 (tIsI 1 a (4 == j))) (h5 : PE X i5 (tIsI 1 a (5 == j))) (h6 : PE X i6 (tIsI 1 a (6 == j))) (h7 : PE X i7 (tIsI 1 a (7 == j)))
    (s0 : starEach [i0, i1] X.env = (false, eval i0 X.env) :: starEach [i1] X.env := by rfl) (s1 : starEach [i1] X.env = (false, eval i1 X.env) :: starEach [] X.env := by rfl)
    (s2 : starEach [i2] X.env = (false, eval i2 X.env) :: starEach [] X.env := by rfl)
    (s3 : starEach [i3, i4] X.env = (false, eval i3 X.env) :: starEach [i4] X.env := by rfl) (s4 : starEach [i4] X.env = (false, eval i4 X.env) :: starEach [] X.env := by rfl)
    (s5 : starEach [i5] X.env = (false, eval i5 X.env) :: starEach [] X.env := by rfl)
    (s6 : starEach [i6, i7] X.env = (false, eval i6 X.env) :: starEach [i7] X.env := by rfl) (s7 : starEach [i7] X.env = (false, eval i7 X.env) :: starEach [] X.env := by rfl)
    (w1 : swapsWith (.List [i0, i1] q1) (some (.Name m q2)) q3.line X.env = pure false := by rfl)
    (w2 : swapsWith (.BinOp (.Name m q4) .Add (.List [i2] q5) q6) (some (.Name m q7)) q8.line X.env = pure false := by rfl)
    (w3 : swapsWith (.BinOp (.Name m q9) .Add (.List [i3, i4] q10) q11) (some (.Name m q12)) q13.line X.env = pure false := by rfl)
    (w4 : swapsWith (.BinOp (.Name m q14) .Add (.List [i5] q15) q16) (some (.Name m q17)) q18.line X.env = pure false := by rfl)
    (w5 : swapsWith (.BinOp (.Name m q19) .Add (.List [i6, i7] q20) q21) (some (.Name m q22)) q23.line X.env = pure false := by rfl)
    (w6 : swapsWith (.List [.Constant (.str "net") k1 q24, .Constant (.str "component") k2 q25, .Constant (.str "set") k3 q26, .Constant (.str "report") k4 q27, .Constant (.str "word") k5 q28, .Constant (.str "number") k6 q29, .Constant (.str "text") k7 q30, .Constant (.str "nothing") k8 q31] q32) (some (.Name w q33)) q34.line X.env = pure false := by rfl)
    (b2 : attributeBase (.Name m q35) "count" X.env (eval (.Name m q35) X.env) = eval (.Name m q35) X.env := by rfl) (b3 : attributeBase (.Name m q38) "index" X.env (eval (.Name m q38) X.env) = eval (.Name m q38) X.env := by rfl)
    (l2 : (q36.endLine == q37.line) = true := by rfl) (l3 : (q39.endLine == q40.line) = true := by rfl)
    (dm : (m == ("__debug__" : Str)) = false := by decide) (cm : (m == ("__classdict__" : Str)) = false := by decide) (dw : (w == ("__debug__" : Str)) = false := by decide) (cw : (w == ("__classdict__" : Str)) = false := by decide)
    (lo1 : X.fn m = true ∨ X.env.scope.names.lookup m = some .local := by first | exact .inl rfl | exact .inr rfl) (lo2 : X.fn w = true ∨ X.env.scope.names.lookup w = some .local := by first | exact .inl rfl | exact .inr rfl) :
    PSs X [.Assign [.Name m q2] (.List [i0, i1] q1) q3,
      .Assign [.Name m q7] (.BinOp (.Name m q4) .Add (.List [i2] q5) q6) q8,
      .Assign [.Name m q12] (.BinOp (.Name m q9) .Add (.List [i3, i4] q10) q11) q13,
      .Assign [.Name m q17] (.BinOp (.Name m q14) .Add (.List [i5] q15) q16) q18,
      .Assign [.Name m q22] (.BinOp (.Name m q19) .Add (.List [i6, i7] q20) q21) q23,
      .Assign [.Name w q33] (.List [.Constant (.str "net") k1 q24, .Constant (.str "component") k2 q25, .Constant (.str "set") k3 q26, .Constant (.str "report") k4 q27, .Constant (.str "word") k5 q28, .Constant (.str "number") k6 q29, .Constant (.str "text") k7 q30, .Constant (.str "nothing") k8 q31] q32) q34,
      .Return (some (.IfExp (.Compare (.Call (.Attribute (.Name m q35) "count" q36) [.Constant (.bool true) c1 z8] [] q37) [.Eq] [.Constant (.int 1) c2 z1] z2)
        (.Subscript (.Name w q41) (.Call (.Attribute (.Name m q38) "index" q39) [.Constant (.bool true) c3 z3] [] q40) z9) (.Constant (.str "other") k11 z5) q42)) q43]
      (fun Dn σ H => (σ.length = 4 ∧ σ[1]? = some (some (.ref a))) ∧ ∀ H', News H H' → Dn.rt (.str (words8.getD j "")) H') := by
  have hl : ∀ n, n ≤ 100 → n ≤ sizeLine := fun n h => by rw [sizeLine_eq]; omega
  have wl := L2.pe_lst (X := X) (pos := q32) (pa_cons (pe_str (x := "net") (j := k1) (pos := q24)) (pa_cons (pe_str (x := "component") (j := k2) (pos := q25)) (pa_cons (pe_str (x := "set") (j := k3) (pos := q26)) (pa_cons (pe_str (x := "report") (j := k4) (pos := q27)) (pa_cons (pe_str (x := "word") (j := k5) (pos := q28)) (pa_cons (pe_str (x := "number") (j := k6) (pos := q29)) (pa_cons (pe_str (x := "text") (j := k7) (pos := q30)) (pa_cons (pe_str (x := "nothing") (j := k8) (pos := q31)) pa_nil rfl) rfl) rfl) rfl) rfl) rfl) rfl) rfl)
  have cnt := pe_bm (cpos := q37) PySem.F.plainAttrs_list PySem.F.slot_list_count PySem.F.type_list_count (mt_countD hu) (pe_var (pos := q35) hm vm dm cm) (pa_cons (pe_bl (b := true) (j := c1) (pos := z8)) pa_nil rfl) b2 rfl l2 rfl rfl
  have ind := pe_bm (cpos := q40) PySem.F.plainAttrs_list PySem.F.slot_list_index PySem.F.type_list_index (mt_indexD hu) (pe_var (pos := q38) hm vm dm cm) (pa_cons (pe_bl (b := true) (j := c3) (pos := z3)) pa_nil rfl) b3 rfl l3 rfl rfl
  refine pss_imp (pss_cons (ps_set (i := 2) nd hm lm (pe_isl2 h0 h1 s0 s1) w1 lo1) (pss_cons (ps_set (i := 2) nd hm lm (pe_op op_cat (pe_var hm vm dm cm) (pe_isl1 h2 s2)) w2 lo1) (pss_cons (ps_set (i := 2) nd hm lm (pe_op op_cat (pe_var hm vm dm cm) (pe_isl2 h3 h4 s3 s4)) w3 lo1)
    (pss_cons (ps_set (i := 2) nd hm lm (pe_op op_cat (pe_var hm vm dm cm) (pe_isl1 h5 s5)) w4 lo1) (pss_cons (ps_set (i := 2) nd hm lm (pe_op op_cat (pe_var hm vm dm cm) (pe_isl2 h6 h7 s6 s7)) w5 lo1) (pss_cons (ps_set (i := 3) nd hw lw wl w6 lo2)
    (pss_one (ps_ret (pe_ifExp (pt_cmp (pc_eqI cnt pe_int)) (pe_ix ix_list (pe_var hw vw dw cw) ind (fun _ _ => rfl)) pe_str))))))))) fun Dn σ H ⟨es, q⟩ => ?_
  obtain ⟨v0, v2, v3, rfl⟩ : ∃ v0 v2 v3, σ = [v0, some (.ref a), v2, v3] := by
    obtain ⟨e1, e2⟩ := es
    match σ, e1, e2 with
    | [x0, x1, x2, x3], _, e2 => exact ⟨x0, x2, x3, by cases e2; rfl⟩
  have ty : ∀ {H : Hp} {l : Addr} {xs : List V}, H l = some (.lst xs) → tyV X.K "list" (.ref l) H := fun h => .inl ⟨rfl, _, SqL.of h⟩
  have nt : ∀ xs : List V, ∀ ps, HO.lst xs ≠ .tbl ps := fun _ _ z => by cases z
  refine ⟨rfl, fun l1 n1 => ?_⟩
  have N1 := (News.refl H).upd n1 (nt ([V.bl (0 == j), V.bl (1 == j)] : List V))
  refine ⟨.ref l1, rfl, rfl, fun l2 n2 => ?_⟩
  have N2 := N1.upd n2 (nt ([V.bl (2 == j)] : List V))
  refine ⟨l1, l2, ([V.bl (0 == j), V.bl (1 == j)] : List V), ([V.bl (2 == j)] : List V), rfl, rfl, by rw [upd_ne (ne_of_none upd_same n2), upd_same], upd_same, hl 3 (by decide), fun l3 n3 => ?_⟩
  have N3 := N2.upd n3 (nt ([V.bl (0 == j), V.bl (1 == j), V.bl (2 == j)] : List V))
  refine ⟨.ref l3, rfl, rfl, fun l4 n4 => ?_⟩
  have N4 := N3.upd n4 (nt ([V.bl (3 == j), V.bl (4 == j)] : List V))
  refine ⟨l3, l4, ([V.bl (0 == j), V.bl (1 == j), V.bl (2 == j)] : List V), ([V.bl (3 == j), V.bl (4 == j)] : List V), rfl, rfl, by rw [upd_ne (ne_of_none upd_same n4)]; exact upd_same, upd_same, hl 5 (by decide), fun l5 n5 => ?_⟩
  have N5 := N4.upd n5 (nt ([V.bl (0 == j), V.bl (1 == j), V.bl (2 == j), V.bl (3 == j), V.bl (4 == j)] : List V))
  refine ⟨.ref l5, rfl, rfl, fun l6 n6 => ?_⟩
  have N6 := N5.upd n6 (nt ([V.bl (5 == j)] : List V))
  refine ⟨l5, l6, ([V.bl (0 == j), V.bl (1 == j), V.bl (2 == j), V.bl (3 == j), V.bl (4 == j)] : List V), ([V.bl (5 == j)] : List V), rfl, rfl, by rw [upd_ne (ne_of_none upd_same n6)]; exact upd_same, upd_same, hl 6 (by decide), fun l7 n7 => ?_⟩
  have N7 := N6.upd n7 (nt ([V.bl (0 == j), V.bl (1 == j), V.bl (2 == j), V.bl (3 == j), V.bl (4 == j), V.bl (5 == j)] : List V))
  refine ⟨.ref l7, rfl, rfl, fun l8 n8 => ?_⟩
  have N8 := N7.upd n8 (nt ([V.bl (6 == j), V.bl (7 == j)] : List V))
  refine ⟨l7, l8, ([V.bl (0 == j), V.bl (1 == j), V.bl (2 == j), V.bl (3 == j), V.bl (4 == j), V.bl (5 == j)] : List V), ([V.bl (6 == j), V.bl (7 == j)] : List V), rfl, rfl, by rw [upd_ne (ne_of_none upd_same n8)]; exact upd_same, upd_same, hl 8 (by decide), fun l9 n9 => ?_⟩
  have N9 := N8.upd n9 (nt ([V.bl (0 == j), V.bl (1 == j), V.bl (2 == j), V.bl (3 == j), V.bl (4 == j), V.bl (5 == j), V.bl (6 == j), V.bl (7 == j)] : List V))
  refine ⟨hl 8 (by decide), fun l10 n10 => ?_⟩
  have N10 := N9.upd n10 (nt (words8.map V.str))
  have dp0 : ∀ {H : Hp} (g : H l9 = some (.lst ([V.bl (0 == j), V.bl (1 == j), V.bl (2 == j), V.bl (3 == j), V.bl (4 == j), V.bl (5 == j), V.bl (6 == j), V.bl (7 == j)] : List V))), Dp X.K H (.ref l9) (.list ([0 == j, 1 == j, 2 == j, 3 == j, 4 == j, 5 == j, 6 == j, 7 == j].map PyData.bool)) := fun g => dp_bls (K := X.K) [0 == j, 1 == j, 2 == j, 3 == j, 4 == j, 5 == j, 6 == j, 7 == j] g
  have hj' : j = 0 ∨ j = 1 ∨ j = 2 ∨ j = 3 ∨ j = 4 ∨ j = 5 ∨ j = 6 ∨ j = 7 := by omega
  have hc : ([0 == j, 1 == j, 2 == j, 3 == j, 4 == j, 5 == j, 6 == j, 7 == j].map PyData.bool).countP (fun z => PyData.eqv z (.bool true)) = 1 := by
    rcases hj' with rfl | rfl | rfl | rfl | rfl | rfl | rfl | rfl <;> rfl
  have g : upd (upd (upd (upd (upd (upd (upd (upd (upd (upd H l1 (.lst ([V.bl (0 == j), V.bl (1 == j)] : List V))) l2 (.lst ([V.bl (2 == j)] : List V))) l3 (.lst ([V.bl (0 == j), V.bl (1 == j), V.bl (2 == j)] : List V))) l4 (.lst ([V.bl (3 == j), V.bl (4 == j)] : List V))) l5 (.lst ([V.bl (0 == j), V.bl (1 == j), V.bl (2 == j), V.bl (3 == j), V.bl (4 == j)] : List V))) l6 (.lst ([V.bl (5 == j)] : List V))) l7 (.lst ([V.bl (0 == j), V.bl (1 == j), V.bl (2 == j), V.bl (3 == j), V.bl (4 == j), V.bl (5 == j)] : List V))) l8 (.lst ([V.bl (6 == j), V.bl (7 == j)] : List V))) l9 (.lst ([V.bl (0 == j), V.bl (1 == j), V.bl (2 == j), V.bl (3 == j), V.bl (4 == j), V.bl (5 == j), V.bl (6 == j), V.bl (7 == j)] : List V))) l10 (.lst (words8.map V.str)) l9 = some (.lst ([V.bl (0 == j), V.bl (1 == j), V.bl (2 == j), V.bl (3 == j), V.bl (4 == j), V.bl (5 == j), V.bl (6 == j), V.bl (7 == j)] : List V)) := by
    rw [upd_ne (ne_of_none upd_same n10)]
    exact upd_same
  refine ⟨.ref l9, rfl, ty g, l9, .bl true, .bool true, _, rfl, rfl, dp0 g, .bl true, by rfl, by rfl, ?_⟩
  refine ⟨1, 1, by rw [hc]; rfl, rfl, ?_⟩
  refine ⟨true, rfl, ?_⟩
  show tOp (rIxL X.K) (tVar 3) (tBM X.K "list" (rIndexD X.K) (tVar 2) (tCons (tC (V.bl true)) tNil)) _ _ Dn.rt
  refine ⟨.ref l10, rfl, .ref l9, rfl, ty g, l9, .bl true, .bool true, _, j, .bool true, rfl, rfl, dp0 g, .bl true, by rfl, by rfl, ?_, rfl, ?_, ?_⟩
  · rcases hj' with rfl | rfl | rfl | rfl | rfl | rfl | rfl | rfl <;> rfl
  · intro m z' hm hz
    rcases hj' with rfl | rfl | rfl | rfl | rfl | rfl | rfl | rfl <;> (have : m = 0 ∨ m = 1 ∨ m = 2 ∨ m = 3 ∨ m = 4 ∨ m = 5 ∨ m = 6 ∨ m = 7 := by omega) <;> rcases this with rfl | rfl | rfl | rfl | rfl | rfl | rfl | rfl <;> first | omega | (cases hz; rfl)
  · refine ⟨l10, words8.map V.str, j, .str (words8.getD j ""), rfl, rfl, SqL.of upd_same, ?_, q _ N10⟩
    rcases hj' with rfl | rfl | rfl | rfl | rfl | rfl | rfl | rfl <;> rfl
end
end EV

set_option maxHeartbeats 2000000
/-! EV 51: _law_said of the laws on Net: the word of what is raised, or an empty text. -/
namespace EV
open PySem PySem.Spec PyProof.Rows L2 LamX
/-- .. and the two classes that have fields -/
structure ErrX (K : PySem.W.Frag) (mg : Str → Option Value) (CA CL CU D : Addr) (j : Nat) : Prop where
  ej : ErrJ K mg CA D j
  lim : PySem.W.exmOne K (.ref D) (.ref CL) = some (9 == j)
  une : PySem.W.exmOne K (.ref D) (.ref CU) = some (8 == j)
def TSaid8 (K : PySem.W.Frag) (mg : Str → Option Value) (CA CL CU : Addr) : (XK → Hp → VK → Prop) → Hp → VK → Prop := fun tl H Q =>
  tl (fun cls d H' => ∃ (D : Addr) (j : Nat), j < 8 ∧ cls = .ref D ∧ d = none ∧ ErrX K mg CA CL CU D j ∧ ∀ H'', News H' H'' → Q (.str (words8.getD j "")) H'') H fun v H' => Q (.str "") H'
theorem said8_gives {X : Cx} {x a e m w q er1 er2 er3 : Str} {sg : Scope} {g CA CL CU : Addr} {cdg : Value} {j1 : Nat} {b1 b2 b3 : Stmt} {suite : List Stmt} {p2 p3 p5 p6 p7 p8 p9 p10 p11 p14 p15 p16 : Pos}
    (g1 : sg.names.lookup er1 = some .globalImplicit) (m1 : X.mg er1 = some (.ref CL)) (g2 : sg.names.lookup er2 = some .globalImplicit) (m2 : X.mg er2 = some (.ref CU)) (g3 : sg.names.lookup er3 = some .globalImplicit) (m3 : X.mg er3 = some (.ref CA))
    (le : sg.names.lookup e = some .local) (nd : [a, e, m, w].Nodup) (d1 : (er1 == ("__debug__" : Str)) = false) (d2 : (er2 == ("__debug__" : Str)) = false) (d3 : (er3 == ("__debug__" : Str)) = false)
    (hsw : ∀ env : Env, swapsWith (.Call (.Name a p2) [] [] p3) none p5.line env = pure false)
    (hsu : ∀ (s : Shared) (H : Hp) (a' : Addr) (oe : Obj) (D : Addr) (j : Nat) (pn : List (Addr × Obj)), j < 8 → Zc (.ref D) none oe → (∃ vs, oe.data = .fields vs) → ErrJ X.K X.mg CA D j →
      PSs (Cx.suite (cxOf C8.CX0 X.prog X.w X.K X.mg X.base [a, e, m, w] x sg g cdg X.A X.stack s H C8.E0).nox a' ((a', oe) :: pn)) (b3 :: suite) (fun Dn σ H => (σ.length = 4 ∧ σ[1]? = some (some (.ref a'))) ∧ ∀ H', News H H' → Dn.rt (.str (words8.getD j "")) H')) :
    LamX.GivesTo X [a, e, m, w] x sg g cdg [.Try [.Expr (.Call (.Name a p2) [] [] p3) p5]
      [.ExceptHandler (some (.Name er1 p6)) (some e) [b1] p7, .ExceptHandler (some (.Name er2 p8)) (some e) [b2] p9, .ExceptHandler (some (.Name er3 p10)) (some e) (b3 :: suite) p11] [] [] p14, .Return (some (.Constant (.str "") j1 p15)) p16] a q (TSaid8 X.K X.mg CA CL CU) := by
  intro f c' s H Q tl act hc h
  have np : ∀ (X' : Cx) (st : List Stmt), PSs X' st (fun _ _ _ => False) := fun X' st => ⟨fun _ _ _ _ _ _ h => h.elim⟩
  refine ⟨_, pss_cons (ps_try_manyA (X := (cxOf C8.CX0 X.prog X.w X.K X.mg X.base [a, e, m, w] x sg g cdg X.A X.stack s H C8.E0).nox)
      (l := [(.ref CL, 1, fun _ _ _ _ _ _ => False), (.ref CU, 1, fun _ _ _ _ _ _ => False), (.ref CA, 1, fun a' cls d Dn σ H => ∃ z : Addr × Nat, (z.2 < 8 ∧ cls = .ref z.1 ∧ d = none ∧ ErrJ X.K X.mg CA z.1 z.2) ∧ (σ.length = 4 → σ[1]? = some (some (.ref a')) ∧ ∀ H'', News H H'' → Dn.rt (.str (words8.getD z.2 "")) H''))])
      (tb := fun W D σ H => ∃ Ech : XK, (∀ cls d σ' H', Ech cls d H' → W cls d σ' H') ∧ σ[0]? = some (some (.ref f)) ∧ H c' = some (LamX.CodeO c' q) ∧ tl Ech H fun v H' => D.nx σ H')
      rfl rfl nd L2.takes0 (fun W pn xe tk _ => ?_)
      (.cons ⟨g1, d1, .inl m1⟩ rfl le (fun _ _ _ _ _ _ _ => np _ _) (.cons ⟨g2, d2, .inl m2⟩ rfl le (fun _ _ _ _ _ _ _ => np _ _) (.cons ⟨g3, d3, .inl m3⟩ rfl le (fun a' oe cls d pn hz hf => ?_) .nil)))) (pss_one (ps_ret pe_str)), ?_⟩
  · refine ⟨fun pins s' σ H' D I h' => ?_⟩
    obtain ⟨Ech, hW, h1, h2, h3⟩ := h'
    have hp := act W pn xe Ech p2 p3 tk hW
    have hq := pss_one (ps_expr (pos := p5) hp (hsw _))
    exact hq.run pins s' σ H' D I ⟨h1, h2, h3⟩
  · refine pss_ex fun z => pss_and fun ⟨hj, e1, e2, ej⟩ => ?_
    subst e1 e2
    exact pss_imp (pss_len (hsu s H a' oe z.1 z.2 _ hj hz hf ej)) fun Dn σ H y hl => ⟨⟨hl, (y hl).1⟩, (y hl).2⟩
  · refine ⟨_, fun cls d σ' H' ⟨D, j, hj, e1, e2, ej, y⟩ => ?_, rfl, hc, h⟩
    subst e1 e2
    have n9 : (9 == j) = false := beq_eq_false_iff_ne.mpr (by omega)
    have n8 : (8 == j) = false := beq_eq_false_iff_ne.mpr (by omega)
    refine ⟨false, by rw [← n9]; exact ej.lim, (fun z => by cases z), fun _ => ⟨false, by rw [← n8]; exact ej.une, (fun z => by cases z), fun _ => ⟨true, ej.ej.all, fun _ a' _ => ⟨(D, j), ⟨hj, rfl, rfl, ej.ej⟩, fun hl => ⟨List.getElem?_set_self (by rw [List.length_set] at hl; omega), y⟩⟩, fun z => by cases z⟩⟩⟩
/-! ### what a law says of a lambda -/
def saidM8 (m : PM D) : PM D := fun s => match m [] with
  | .ok _ _ => .ok (.str "") s
  | .exc e => if e.fs = [] then (match errIx e.name with
      | some j => if j < 8 then .ok (.str (words8.getD j "")) s else .bad
      | none => .bad) else .bad
  | .bad => .bad
structure SaidC8 (P : Program) (w : World) (K : PySem.W.Frag) (mg : Str → Option Value) (base : Heap) (k : Nat) (x : Str) : Prop where
  ex : ∃ (g CA CL CU : Addr) (pg : Arguments) (bg : List Stmt) (sg : Scope) (kV doc pm cdv ct oc : Value) (an od : Option Addr) (osl : Array (Option Value)) (a : Str) (Ng : List Str),
    mg x = some (.ref g) ∧ PySem.W.keepIn K (.ref g) = true ∧ K.lookup g = some ⟨oc, od, .func (PySem.W.fnOf x x pg bg sg .none kV doc pm an cdv ct), osl⟩ ∧ PySem.W.codeIn K cdv x = true ∧
    L2.Binds K (PySem.W.fnOf x x pg bg sg .none kV doc pm an cdv ct) [a] [] ∧ FnScope Ng [a] sg ∧ Ng[0]? = some a ∧ Vis sg a ∧ (a == ("__debug__" : Str)) = false ∧ (a == ("__classdict__" : Str)) = false ∧
    (∀ j y, errsL[j]? = some y → ∃ D, mg y = some (.ref D) ∧ ErrX K mg CA CL CU D j) ∧
    ∀ X : Cx, X.prog = P → X.w = w → X.K = K → X.mg = mg → X.base = base → Room (k + 1) X.A → ∀ q, GivesTo X Ng x sg g cdv bg a q (TSaid8 K mg CA CL CU)
section
variable {X : Cx} {W : WX} {pa : Option Addr} {Γ : List Sl} {k : Nat} {pos : Pos}
theorem ev_said8 {x : Str} {m : PM D} {params : Arguments} {body : Expr} {scope : Scope} {p lpos : Pos} (C : Cok X W (k + 33)) (S : SaidC8 X.prog X.w X.K X.mg X.base (k + 31) x) (LA : LamAt X) (L : LamS X.env.scope scope) (hg : Gl X x) (hdef : defaultsOf params X.env = ([], []))
    (hbind : ∀ (q : Str) (cl : List (Str × Addr)) (pm cv ctv : Value), bindArgs (PySem.W.kla_fn "<lambda>" q params body scope cl pm cv ctv) ⟨[], []⟩ = pure [])
    (hb : ∀ (A : Around) (outer : List Env) (s : Shared) (H : Hp) (E : XK) (f c' : Addr), Cok (lamCx X A outer s H E scope f c') (fun cls d _ H' => E cls d H') 31 → EV (lamCx X A outer s H E scope f c') (fun cls d _ H' => E cls d H') none (Γ.map valS) body m)
    (hdb : (x == ("__debug__" : Str)) = false := by decide) : EV X W pa Γ (.Call (.Name x p) [.Lambda params body scope lpos] [] pos) (saidM8 m) := by
  obtain ⟨g, CA, CL, CU, pg, bg, sg, kV, doc, pm, cdv, ct, oc, an, od, osl, a, Ng, s1, s2, s3, s4, s5, s6, s7, s8, s9, s10, s11, s12⟩ := S.ex
  obtain ⟨c, P, l1, l2, l3, l4⟩ := LA
  refine pe_imp (pe_lam3 (k := k + 31) (t := fun E => evT X (fun cls d _ H' => E cls d H') none (Γ.map valS) m) hg s1 s2 s3 s4 s5 s6 s7 s8 (s12 X rfl rfl rfl rfl rfl (C.room.mono (by omega)) _) l2 l1 C.room L hdef hbind
    (fun A outer s H E f c' hr => hb A outer s H E f c' ⟨rfl, C.nd, takes_of rfl rfl rfl rfl, hr.mono (by omega), fun z => absurd z (by decide), passes_of rfl⟩) hdb s9 s10) fun σ H Q ⟨G0, H0, G, s, E, R⟩ => ?_
  have tk := E.tk
  obtain ⟨ps, hP⟩ := tk.on P l3
  have hTS : TabS H P (X.env.qual ++ "<lambda>") := by
    rw [← l4]
    exact tk.ok P ps hP
  refine ⟨hTS, fun c' H1 hL hT1 => ?_⟩
  obtain ⟨x1, tk1⟩ := lamH_ext (pa := pa) E.sub tk E.x.nt hL hT1 l4
  have p1 : PenOk pa G H1 s := fun q e => by
    obtain ⟨a1, a2⟩ := E.ps q e
    refine ⟨a1, ?_⟩
    rcases hL with rfl | ⟨ps2, more, hP2, hc, rfl⟩
    · exact a2
    · rw [upd_ne (ne_of_none a2 hc), upd_ne (fun z => by rw [z, hP2] at a2; cases a2)]
      exact a2
  refine ⟨G, H1, G, [], E.lam x1.sub tk1, ?_⟩
  have R : Pst X.K W X.mg pa σ (FD X.K Q) G H (saidM8 m s) := R
  unfold saidM8 at R
  cases e : m [] with
  | bad => rw [e] at R; exact R.elim
  | ok d s' =>
    rw [e] at R
    intro G2 H2 y _ v rv
    have yx : Ext X.K pa G H1 G2 H2 := y.any
    have R2 := R.mono (x1.trans yx)
    exact R2 G2 H2 (Ext.refl yx.sub) (p1.ext y) _ (.str "")
  | exc ex =>
    rw [e] at R
    intro cls dx G2 H2 y ei
    have R : Pst X.K W X.mg pa σ (FD X.K Q) G H (if ex.fs = [] then (match errIx ex.name with
      | some j => if j < 8 then EV.R.ok (D.str (words8.getD j "")) s else EV.R.bad
      | none => EV.R.bad) else EV.R.bad) := R
    by_cases hf : ex.fs = []
    · rw [if_pos hf] at R
      cases hj : errIx ex.name with
      | none => rw [hj] at R; exact R.elim
      | some j =>
        rw [hj] at R
        have R : Pst X.K W X.mg pa σ (FD X.K Q) G H (if j < 8 then EV.R.ok (D.str (words8.getD j "")) s else EV.R.bad) := R
        by_cases h8 : j < 8
        · rw [if_pos h8] at R
          obtain ⟨hj1, hj2⟩ := errIx_at hj
          obtain ⟨Dc, d1, d2⟩ := s11 j ex.name hj2
          obtain ⟨e1, e2, _⟩ := ei
          rw [d1] at e1
          cases e1
          refine ⟨Dc, j, h8, rfl, e2 hf, d2, fun H3 nw => ?_⟩
          have yx : Ext X.K pa G H1 G2 H2 := y.any
          have z : Ext X.K pa G H G2 H3 := (x1.trans yx).trans (nw.ext y.sub)
          exact R G2 H3 z ((p1.ext y).ext (nw.ext (K := X.K) y.sub)) _ (.str _)
        · rw [if_neg h8] at R
          exact R.elim
    · rw [if_neg hf] at R
      exact R.elim
theorem ev_saidC8 {x : Str} {m : PM D} {params : Arguments} {body : Expr} {scope : Scope} {p lpos : Pos} (C : Cok X W k) (S : SaidC8 X.prog X.w X.K X.mg X.base 31 x) (LA : LamAt X)
    (hb : ∀ (A : Around) (outer : List Env) (s : Shared) (H : Hp) (E : XK) (f c' : Addr), Cok (lamCx X A outer s H E scope f c') (fun cls d _ H' => E cls d H') 31 → EV (lamCx X A outer s H E scope f c') (fun cls d _ H' => E cls d H') none (Γ.map valS) body m)
    (hk : 33 ≤ k := by decide) (L : LamS X.env.scope scope := by first | exact LamX.lamS_by (by decide +kernel) | exact LamX.lamS_by (by rfl)) (hg : Gl X x := by rfl) (hdef : defaultsOf params X.env = ([], []) := by rfl)
    (hbind : ∀ (q : Str) (cl : List (Str × Addr)) (pm cv ctv : Value), bindArgs (PySem.W.kla_fn "<lambda>" q params body scope cl pm cv ctv) ⟨[], []⟩ = pure [] := by intro _ _ _ _ _; rfl) (hdb : (x == ("__debug__" : Str)) = false := by decide) :
    EV X W pa Γ (.Call (.Name x p) [.Lambda params body scope lpos] [] pos) (saidM8 m) := ev_said8 (k := 0) (C.mono hk) S LA L hg hdef hbind hb hdb
end
end EV

set_option maxHeartbeats 2000000
/-! EV 52: the promises of methods and properties by their bodies; the classes of exceptions for said8. -/
namespace EV
open PySem PySem.Spec PyProof.Rows L2 PySem.W
section
variable {P : Program} {w : World} {K : Frag} {mg : Str → Option Value} {base : Heap}
structure MethF (K : Frag) (Cl : Addr) (m q : Str) (st : Stmt) : Prop where
  ex : ∃ f fd, Meth K Cl m f ∧ Fun K m q st f fd ∧ fnIn K f = true
theorem methF {h : Heap} {Cl f : Addr} {m q : Str} {st : Stmt} {oc : Value} {od an : Option Addr} {osl : Array (Option Value)} {kV doc pm cdv ct : Value} (_ : K.In h) (m2 : findIn K (.ref Cl) m = some (some (.ref f))) (m3 : isFn K (.ref f) = true)
    (l : K.lookup f = some ⟨oc, od, .func (fnOf m q (defArgs st) (defBody st) (defScope st) .none kV doc pm an cdv ct), osl⟩) (c : codeIn K cdv q = true) (k : keepIn K (.ref f) = true) (fi : fnIn K f = true) : MethF K Cl m q st := ⟨f, _, ⟨m2, m3, k⟩, fun_mk l c k, fi⟩
structure PropF (K : Frag) (Cl : Addr) (m q : Str) (st : Stmt) : Prop where
  ex : ∃ p f fd, PropOf K Cl m p f ∧ Fun K m q st f fd
theorem propF {h : Heap} {Cl p f : Addr} {m q : Str} {st : Stmt} {oc : Value} {od an : Option Addr} {osl : Array (Option Value)} {kV doc pm cdv ct : Value} {rest : List Value} (_ : K.In h) (a1 : findIn K (.ref Cl) m = some (some (.ref p))) (a2 : specialIn K (.ref p) "__get__" = some (some (.builtin "property.__get__")))
    (a3 : takesIn K (.ref p) = some true) (a4 : recIn K p "property" = some (.ref f :: rest)) (l : K.lookup f = some ⟨oc, od, .func (fnOf m q (defArgs st) (defBody st) (defScope st) .none kV doc pm an cdv ct), osl⟩) (c : codeIn K cdv q = true) (k : keepIn K (.ref f) = true) : PropF K Cl m q st :=
  ⟨p, f, _, ⟨a1, a2, a3, rest, a4⟩, fun_mk l c k⟩
structure CalPr (P : Program) (w : World) (K : Frag) (mg : Str → Option Value) (base : Heap) (k : Nat) (Cl : Addr) (m : Str) (ps : List Str) (sp : Sp) : Prop where
  ex : ∃ p f fd, PropOf K Cl m p f ∧ FnG P w K mg base k f fd ps sp ∧ L2.Binds K fd ps []
variable {x q : Str} {st : Stmt} {N ps : List Str} {n k : Nat}
theorem fn_pureQ {f : Addr} {fd : FuncData} {F : List D → PM D} (FU : Fun K x q st f fd) (S : FnScope N ps (defScope st)) (hps : ps.length = n)
    (hb : ∀ (cdv : Value) (A : Around) (outer : List PySem.Env) (s : Shared) (H : Hp) (E : XK), Cok (cxOf (L2.CX P w) P w K mg base N q (defScope st) f cdv A outer s H E) (fun cls d _ H => E cls d H) k → ∀ ds : List D, ds.length = n →
      ∃ (α : Type) (out : α → Out) (m : PM α), SV (cxOf (L2.CX P w) P w K mg base N q (defScope st) f cdv A outer s H E) (fun cls d _ H => E cls d H) none (slots0 N ds) out (defBody st) m ∧ F ds = (m >>= fun a => outD (out a))) :
    FnG P w K mg base (k + 1) f fd ps (spF K mg false n F) := by
  refine fnG_of FU S (fun vs H Q E h => ?_) fun cdv ec A outer s H vs Q E hg hr h => ?_
  · obtain ⟨pa, G, s, vs', ds, hpa, rfl, _, _, r, hn, _⟩ := h
    cases pa with
    | some _ => cases hpa
    | none =>
      show vs'.length = _
      rw [r.1, hn, hps]
  · obtain ⟨pa, G, s', vs', ds, hpa, rfl, hs, hp, r, hn, hP⟩ := h
    cases pa with
    | some _ => cases hpa
    | none =>
      obtain ⟨α, out, m, sv, e⟩ := hb cdv A outer s H E (cok_fn S.nd hg hr) ds hn
      rw [e] at hP
      have hlen : vs'.length ≤ N.length := by
        rw [r.1, hn, ← hps]
        exact scope_le S
      exact ⟨_, sv, G, H, G, s', nv_start0 hs r hlen, spost_fn hP⟩
theorem mk_meth {Cl : Addr} {F : List D → PM D} (FA : MethF K Cl x q st) (S : FnScope N ps (defScope st)) (hps : ps.length = n)
    (hbd : ∀ (kV doc pm : Value) (an : Option Addr) (cdv ct : Value) (us : List Value), us.length = ps.length → bindArgs (PySem.W.fnOf x q (defArgs st) (defBody st) (defScope st) .none kV doc pm an cdv ct) ⟨us, []⟩ = pure (ps.zip us))
    (hb : ∀ (f : Addr) (cdv : Value) (A : Around) (outer : List PySem.Env) (s : Shared) (H : Hp) (E : XK), Cok (cxOf (L2.CX P w) P w K mg base N q (defScope st) f cdv A outer s H E) (fun cls d _ H => E cls d H) k → ∀ ds : List D, ds.length = n →
      ∃ (α : Type) (out : α → Out) (m : PM α), SV (cxOf (L2.CX P w) P w K mg base N q (defScope st) f cdv A outer s H E) (fun cls d _ H => E cls d H) none (slots0 N ds) out (defBody st) m ∧ F ds = (m >>= fun a => outD (out a))) :
    CalM P w K mg base (k + 1) Cl x ps (spF K mg false n F) := by
  obtain ⟨f, fd, Me, FU, fi⟩ := FA.ex
  exact ⟨f, fd, fn_pureQ FU S hps (hb f), Me, fi, FU.binds hbd⟩
theorem mk_prop {Cl : Addr} {F : List D → PM D} (FA : PropF K Cl x q st) (S : FnScope N ps (defScope st)) (hps : ps.length = n)
    (hbd : ∀ (kV doc pm : Value) (an : Option Addr) (cdv ct : Value) (us : List Value), us.length = ps.length → bindArgs (PySem.W.fnOf x q (defArgs st) (defBody st) (defScope st) .none kV doc pm an cdv ct) ⟨us, []⟩ = pure (ps.zip us))
    (hb : ∀ (f : Addr) (cdv : Value) (A : Around) (outer : List PySem.Env) (s : Shared) (H : Hp) (E : XK), Cok (cxOf (L2.CX P w) P w K mg base N q (defScope st) f cdv A outer s H E) (fun cls d _ H => E cls d H) k → ∀ ds : List D, ds.length = n →
      ∃ (α : Type) (out : α → Out) (m : PM α), SV (cxOf (L2.CX P w) P w K mg base N q (defScope st) f cdv A outer s H E) (fun cls d _ H => E cls d H) none (slots0 N ds) out (defBody st) m ∧ F ds = (m >>= fun a => outD (out a))) :
    CalPr P w K mg base (k + 1) Cl x ps (spF K mg false n F) := by
  obtain ⟨p, f, fd, hp, FU⟩ := FA.ex
  exact ⟨p, f, fd, hp, fn_pureQ FU S hps (hb f), FU.binds hbd⟩
end
section
variable {X : Cx} {W : WX} {pa : Option Addr} {Γ : List Sl} {k j : Nat} {pos : Pos}
theorem ev_propC {e : Expr} {x : Str} {Cl : Addr} {ps : List Str} {F : List D → PM D} {m : PM D} (C : Cok X W k) (M : CalPr X.prog X.w X.K X.mg X.base j Cl x ps (spF X.K X.mg false 1 F)) (ar : Arity 1 F) (he : EV X W pa Γ e m) (hj : j + 1 ≤ k := by decide) (hj2 : j < 32 := by decide)
    (hab : attributeBase e x X.env (eval e X.env) = eval e X.env := by rfl) : EV X W pa Γ (.Attribute e x pos) (m >>= fun d => noExc (methD Cl F d [])) := by
  obtain ⟨p, f, fd, hp, FG, hb⟩ := M.ex
  exact ev_prop C hp FG hb ar hj hj2 he hab
end
section
variable {K : Frag} {h : Heap} {mg : Str → Option Value} {CA CL CU : Addr} {Ds : List Addr}
theorem errs8_of (h0 : ∀ j y, errsL[j]? = some y → ∃ D, mg y = some (.ref D) ∧ ErrJ K mg CA D j) (X : K.In h) (G : h.Ns mainGlobals mg) (hn : ((List.range 10).all fun i => match errsL[i]?, Ds[i]? with
    | some y, some C => nsIn K mainGlobals y == some (some (.ref C))
    | _, _ => false) = true) (hB : ((List.range 10).all fun j => match Ds[j]? with
    | some D => (exmOne K (.ref D) (.ref CL) == some (9 == j)) && (exmOne K (.ref D) (.ref CU) == some (8 == j))
    | none => false) = true) : ∀ j y, errsL[j]? = some y → ∃ D, mg y = some (.ref D) ∧ ErrX K mg CA CL CU D j := by
  intro j y e
  obtain ⟨D, hD, ej⟩ := h0 j y e
  have hj : j < 10 := (List.getElem?_eq_some_iff.mp e).1
  have z := List.all_eq_true.mp hn j (List.mem_range.mpr hj)
  have b := List.all_eq_true.mp hB j (List.mem_range.mpr hj)
  rw [e] at z
  cases q : Ds[j]? with
  | none => rw [q] at z; cases z
  | some C =>
    rw [q] at z b
    have hC : mg y = some (.ref C) := mg_of X G (beq_iff_eq.mp (show (nsIn K mainGlobals y == some (some (.ref C))) = true from z))
    rw [hC] at hD
    cases hD
    obtain ⟨b1, b2⟩ := Bool.and_eq_true_iff.mp b
    exact ⟨_, hC, ej, beq_iff_eq.mp b1, beq_iff_eq.mp b2⟩
end
end EV

set_option maxHeartbeats 2000000
/-! EV 53: C(*e); static methods of a class, of an instance; a name that a loop leaves. -/
namespace EV
open PySem PySem.Spec PyProof.Rows L2 PySem.W
section
variable {X : Cx} {W : WX} {pa : Option Addr} {Γ : List Sl} {k j n : Nat} {pos : Pos}
theorem pe_mkS1 {x : Str} {Cl f : Addr} {sp : Sp} {e : Expr} {te : TE} {p sp_ : Pos} (C : Cok X W (j + 1)) (M : Mk X.K Cl f) (F : FnR X.prog X.w X.K X.mg X.base (L2.CX X.prog X.w) j f sp) (hg : Gl X x) (hm : X.mg x = some (.ref Cl)) (he : PE X e te)
    (hdb : (x == ("__debug__" : Str)) = false := by decide) (hst : starEach [.Starred e sp_] X.env = [(true, eval e X.env)] := by rfl) :
    PE X (.Call (.Name x p) [.Starred e sp_] [] pos) (fun σ H Q => te σ H fun y H1 => ∃ a xs, y = V.ref a ∧ (SqT X.K H1 a xs ∨ SqL X.K H1 a xs) ∧ ∀ x dx, H1 x = none → H1 dx = none → dx ≠ x → sp (V.ref x :: xs) (upd (upd H1 dx (.own x)) x (.ins Cl dx [])) (fun v H2 => v = .non ∧ Q (.ref x) H2) fun cls d H' => W cls d σ H') := by
  refine ⟨fun pins s σ H Q I h => ?_⟩
  refine wpAny_Call_Name_kw (ld_glob I hg hm ?_ hdb)
  refine PySem.W.callWith_S (h₀ := X.base) I.ok.mod.kin M.kp (thn (he.run pins s σ H _ I h) fun v s1 ⟨y, H1, I1, ry, a, xs, ey, hxs, q⟩ => ?_) hst
  subst ey
  obtain rfl : v = Value.ref a := ry
  exact StX.star_any I1 hxs fun us s2 I2 rv => ⟨I2.kIn, runMk C M F I2 rv q⟩
/-- C(*e), the __init__ takes *needs -/
theorem ev_makeS1 {x : Str} {Cl f : Addr} {ks : List Str} {F : List D → PM (List D)} {e : Expr} {m : PM D} {p sp_ : Pos} (C : Cok X W (j + 1)) (M : Mk X.K Cl f) (oc : ObjC X.K Cl) (FR : FnR X.prog X.w X.K X.mg X.base (L2.CX X.prog X.w) j f (spStar (spI X.K X.mg Cl ks 1 F)))
    (hg : Gl X x) (hm : X.mg x = some (.ref Cl)) (he : EV X W pa Γ e m) (hdb : (x == ("__debug__" : Str)) = false := by decide) (hst : starEach [.Starred e sp_] X.env = [(true, eval e X.env)] := by rfl) :
    EV X W pa Γ (.Call (.Name x p) [.Starred e sp_] [] pos) (m >>= fun d => itemsD d >>= fun ds => mkT ds >>= fun t => newO Cl ks F [t]) :=
  pe_imp (pe_mkS1 C M FR hg hm he hdb hst) fun σ H Q ⟨G0, H0, G, s, E, R⟩ => ⟨G0, H0, G, s, E, R.bind.imp fun G1 H1 d s1 x1 p1 P0 v rv => by
    obtain ⟨a, vs, ds, ev, hv, P1, r⟩ : ∃ a vs ds, v = V.ref a ∧ (SqT X.K H1 a vs ∨ SqL X.K H1 a vs) ∧ Pst X.K W X.mg pa σ (FD X.K Q) G1 H1 ((mkT ds >>= fun t => newO Cl ks F [t] : PM D) s1) ∧ RpL X.K G1 vs ds := by
      cases rv with
      | @lst a xs ds h n rr => exact ⟨a, xs, ds, rfl, .inr (SqL.of (x1.sub _ _ h)), P0, n, rr⟩
      | @tup a xs ds h n rr => exact ⟨a, xs, ds, rfl, .inl (sameT x1.sub h), P0, n, rr⟩
      | _ => exact P0.elim
    refine ⟨a, vs, ev, hv, fun x dx nx nd ne => ?_⟩
    by_cases hl : ds.length ≤ lim
    · rw [mkT_ok hl, pure_bind] at P1
      refine ⟨[V.ref x], vs, rfl, rfl, by rw [r.1]; exact lim_le hl, fun q nq => ?_⟩
      have qx : q ≠ x := fun z => by rw [z, upd_same] at nq; cases nq
      have qd : q ≠ dx := fun z => by rw [z, upd_ne ne, upd_same] at nq; cases nq
      have nq1 : H1 q = none := by rw [upd_ne qx, upd_ne qd] at nq; exact nq
      have y1 := Ext.new (K := X.K) (pa := pa) x1.sub nq1 (.tup vs)
      have hs2 : Same (upd G1 q (.tup vs)) (upd H1 q (.tup vs)) := y1.sub
      have y2 : Ext X.K none (upd G1 q (.tup vs)) (upd H1 q (.tup vs)) (upd G1 q (.tup vs)) (upd (upd (upd H1 q (.tup vs)) dx (.own x)) x (.ins Cl dx [])) :=
        made_ext hs2 (by rw [upd_ne (Ne.symm qx)]; exact nx) (by rw [upd_ne (Ne.symm qd)]; exact nd) ne (fun _ z => by cases z)
      have ec : upd (upd (upd H1 dx (.own x)) x (.ins Cl dx [])) q (.tup vs) = upd (upd (upd H1 q (.tup vs)) dx (.own x)) x (.ins Cl dx []) := by
        rw [upd_comm (H := upd H1 dx (.own x)) (Ne.symm qx), upd_comm (H := H1) (Ne.symm qd)]
      rw [ec]
      refine spI_at oc hs2 (by rw [upd_ne (Ne.symm qx)]; exact nx) (y1.tk (x1.tk E.tk)) (y1.gt (x1.gt E.x.nt)) (p1.upd nq1 _) upd_same y2 (.cons (.mkT (SqT.of upd_same) (r.mono y1.g)) .nil) rfl (P1.mono y1)
    · rw [show mkT ds = bad from if_neg hl] at P1
      exact P1.elim⟩
theorem newS1 {x : Str} {Cl : Addr} {ks : List Str} {F : List D → PM (List D)} {e : Expr} {m : PM D} {p sp_ : Pos} (C : Cok X W k) (M : MkC X.prog X.w X.K X.mg X.base j x Cl (spStar (spI X.K X.mg Cl ks 1 F))) (he : EV X W pa Γ e m) (hj : j + 1 ≤ k := by decide) (hg : Gl X x := by rfl)
    (hdb : (x == ("__debug__" : Str)) = false := by decide) (hst : starEach [.Starred e sp_] X.env = [(true, eval e X.env)] := by rfl) :
    EV X W pa Γ (.Call (.Name x p) [.Starred e sp_] [] pos) (m >>= fun d => itemsD d >>= fun ds => mkT ds >>= fun t => newO Cl ks F [t]) := by
  obtain ⟨f, m1, m2, m3, m4⟩ := M.ex
  exact ev_makeS1 (C.mono hj) m3 m2 m4 hg m1 he hdb hst
/-! ### static methods -/
structure CalSt (P : Program) (w : World) (K : Frag) (mg : Str → Option Value) (base : Heap) (k : Nat) (x : Str) (Cl : Addr) (m : Str) (ps : List Str) (sp : Sp) : Prop where
  ex : ∃ (p f : Addr) (fd : FuncData) (rest : List Value), mg x = some (.ref Cl) ∧ ClX.CRead K Cl (.type "type") ∧ findCls K (.ref Cl) (.type "type") m = some (.get (.builtin "staticmethod.__get__") (.ref p) .none (.ref Cl)) ∧ recIn K p "staticmethod" = some (.ref f :: rest) ∧
    keepIn K (.ref f) = true ∧ FnG P w K mg base k f fd ps sp ∧ L2.Binds K fd ps [] ∧ findIn K (.ref Cl) m = some (some (.ref p)) ∧ typeIn K (.ref p) = some (.type "staticmethod") ∧ specialIn K (.ref p) "__get__" = some (some (.builtin "staticmethod.__get__")) ∧ takesIn K (.ref p) = some false ∧
    copiedNames.contains m = false ∧ plainGet K Cl m = true ∧ isClsIn K Cl = true
theorem evLs {ml : PM (List D)} {F : List D → PM D} {σ : L2.St} {H : Hp} {Q : VK} (ar : Arity n F) (h : evT X W pa Γ (ml >>= fun ds => run0 (F ds)) σ H Q) : evL X W pa Γ ml σ H fun vs H1 => spF X.K X.mg false n F vs H1 Q fun cls d H' => W cls d σ H' := by
  obtain ⟨G0, H0, G, s, E, P⟩ := h
  exact ⟨G0, H0, G, s, E, P.bind.imp fun G1 H1 ds s1 x1 p1 P1 vs r => ⟨none, G1, [], vs, ds, rfl, rfl, ⟨x1.sub, x1.tk E.tk, x1.gt E.x.nt⟩, PenOk.none, r, run0_len ar P1, pst_run0 p1 P1⟩⟩
/-- C.m(e, ..) -/
theorem ev_stC {x m : Str} {Cl : Addr} {ps : List Str} {F : List D → PM D} {e : Expr} {es : List Expr} {ml : PM (List D)} {p apos : Pos} {pl : Sem Bool} (C : Cok X W k) (M : CalSt X.prog X.w X.K X.mg X.base j x Cl m ps (spF X.K X.mg false n F)) (ar : Arity n F) (ha : EL X W pa Γ (e :: es) ml)
    (hj : j ≤ k := by decide) (hj2 : j < 32 := by decide) (hg : Gl X x := by rfl) (hdb : (x == ("__debug__" : Str)) = false := by decide)
    (he : starEach (e :: es) X.env = (false, eval e X.env) :: starEach es X.env := by rfl) (hpl : (backTo pos (starEach es X.env)).any (·.1) = false := by rfl)
    (ht : eval (.Call (.Attribute (.Name x p) m apos) (e :: es) [] pos) X.env = (do
      let ov ← eval (.Name x p) X.env
      standAt apos.atName
      let (f, first) ← holding [ov] (getMethod ov m pl)
      callWith pos f first (backTo pos (starEach (e :: es) X.env)) (backToKw pos (keywordEach [] X.env))) := by rfl) :
    EV X W pa Γ (.Call (.Attribute (.Name x p) m apos) (e :: es) [] pos) (ml >>= fun ds => run0 (F ds)) := by
  obtain ⟨q, f, fd, rest, m1, m2, m3, m4, m5, m6, m7, _⟩ := M.ex
  refine ⟨fun pins s σ H Q I h => ?_⟩
  have h2 := evLs ar h
  refine methodCall_KW (pl := pl) (ld_glob I hg m1 ?_ hdb) ht
  refine method_cls I.kIn m2.ga (cls_bind I.kIn m2.rd m3 (wpAny_call (sm_get (s := { s with toks := s.toks + 1 }) I.kIn m4 (handed_on rfl ?_))))
  have I1 := I.tok (s.toks + 1)
  refine callWith_K (first := []) (h₀ := X.base) I.ok.mod.kin m5 (thn (ha.run pos pins _ σ H _ I1 h2) fun us s2 ⟨vs, H2, I2, r, q2⟩ => ⟨I2.kIn, ?_⟩) he hpl
  exact runA C.takes rfl (C.room.mono hj) hj2 m6 m7 I2 r q2
/-- o.m(e, ..), m static -/
theorem ev_stO {x m : Str} {Cl : Addr} {ps : List Str} {F : List D → PM D} {o e : Expr} {es : List Expr} {mo : PM D} {ml : PM (List D)} {apos : Pos} {pl : Sem Bool} (C : Cok X W k) (M : CalSt X.prog X.w X.K X.mg X.base j x Cl m ps (spF X.K X.mg false n F)) (ar : Arity n F) (ho : EV X W pa Γ o mo) (ha : EL X W pa Γ (e :: es) ml)
    (hj : j ≤ k := by decide) (hj2 : j < 32 := by decide)
    (he : starEach (e :: es) X.env = (false, eval e X.env) :: starEach es X.env := by rfl) (hpl : (backTo pos (starEach es X.env)).any (·.1) = false := by rfl)
    (ht : eval (.Call (.Attribute o m apos) (e :: es) [] pos) X.env = (do
      let ov ← eval o X.env
      standAt apos.atName
      let (f, first) ← holding [ov] (getMethod ov m pl)
      callWith pos f first (backTo pos (starEach (e :: es) X.env)) (backToKw pos (keywordEach [] X.env))) := by rfl) :
    EV X W pa Γ (.Call (.Attribute o m apos) (e :: es) [] pos) (mo >>= fun d => objD Cl m d >>= fun _ => ml >>= fun ds => run0 (F ds)) := by
  obtain ⟨q, f, fd, rest, m1, m2, m3, m4, m5, m6, m7, m8, m9, m10, m11, m12, m13, m14⟩ := M.ex
  refine ⟨fun pins s σ H Q I h => ?_⟩
  have h2 : evT X W pa Γ mo σ H fun v H1 => ∃ a dx fvs, v = .ref a ∧ H1 a = some (.ins Cl dx fvs) ∧ ObjC X.K Cl ∧ fvs.lookup m = none ∧ evT X W pa Γ (ml >>= fun ds => run0 (F ds)) σ H1 Q := by
    obtain ⟨G0, H0, G, s, E, R⟩ := h
    refine ⟨G0, H0, G, s, E, R.bind.imp fun G1 H1 d s1 x1 p1 P1 v r => ?_⟩
    obtain ⟨⟨a, dx, fvs, ea, h1, oc, hl⟩, P2⟩ := objD_at x1.sub r P1
    exact ⟨a, dx, fvs, ea, h1, oc, hl, G0, H0, G1, s1, E.step x1 p1, P2⟩
  refine methodCall_KW (pl := pl) (thn (ho.run pins s σ H _ I h2) fun u s1 ⟨y, H1, I1, ry, a, dx, fvs, ey, h1, oc, hl, h3⟩ => ?_) ht
  subst ey
  obtain rfl : u = Value.ref a := ry
  obtain ⟨mA, O, rr, _, _, _⟩ := ins_get I1.hok h1
  have hn : mA m = none := RelO.none_of (by rw [← hl]; exact rr m)
  obtain ⟨od, J, hlk⟩ := O.look
  refine method_usual (r := some (.ref q)) I1.kIn J (plainGet_of m13).1 (plainGet_of m13).2 m8 ?_ ?_
  · show ((typeIn X.K (.ref q)).any fun t => t != .type "function" && t != .type "method_descriptor" && t != .type "wrapper_descriptor") = true
    rw [m9]
    first
    | rfl
    | decide +kernel
  · refine get_bind I1.kIn J (plainGet_of m13).1 (ClX.find_cm m14 m8 m10 m11 m12 (by rw [hlk m, hn])) (plainGet_of m13).2 ?_
    refine wpAny_call (sm_get (s := { s1 with toks := s1.toks + 1 }) I1.kIn m4 (handed_on rfl ?_))
    have I2 := I1.tok (s1.toks + 1)
    refine callWith_K (first := []) (h₀ := X.base) I.ok.mod.kin m5 (thn (ha.run pos pins _ σ H1 _ I2 (evLs ar h3)) fun us s2 ⟨vs, H2, I3, r, q2⟩ => ⟨I3.kIn, ?_⟩) he hpl
    exact runA C.takes rfl (C.room.mono hj) hj2 m6 m7 I3 r q2
end
section
variable {P : Program} {w : World} {K : Frag} {mg : Str → Option Value} {base : Heap} {x q : Str} {st : Stmt} {N ps : List Str} {n k : Nat}
structure StatF (K : Frag) (mg : Str → Option Value) (c : Str) (Cl : Addr) (m q : Str) (st : Stmt) : Prop where
  ex : ∃ (p f : Addr) (fd : FuncData) (rest : List Value), mg c = some (.ref Cl) ∧ ClX.CRead K Cl (.type "type") ∧ findCls K (.ref Cl) (.type "type") m = some (.get (.builtin "staticmethod.__get__") (.ref p) .none (.ref Cl)) ∧ recIn K p "staticmethod" = some (.ref f :: rest) ∧
    L2.Fun K m q st f fd ∧ findIn K (.ref Cl) m = some (some (.ref p)) ∧ typeIn K (.ref p) = some (.type "staticmethod") ∧ specialIn K (.ref p) "__get__" = some (some (.builtin "staticmethod.__get__")) ∧ takesIn K (.ref p) = some false ∧
    copiedNames.contains m = false ∧ plainGet K Cl m = true ∧ isClsIn K Cl = true
theorem statF {h : Heap} {c : Str} {Cl p f : Addr} {m q : Str} {st : Stmt} {oc : Value} {od an : Option Addr} {osl : Array (Option Value)} {kV doc pm cdv ct : Value} {rest : List Value} (X : K.In h) (G : h.Ns mainGlobals mg) (a0 : nsIn K mainGlobals c = some (some (.ref Cl))) (a1 : findIn K (.ref Cl) m = some (some (.ref p)))
    (r1 : readsIn K Cl (.type "type") = true) (r2 : specialIn K (.ref Cl) "__getattribute__" = some (some (.builtin "type.__getattribute__"))) (a2 : findCls K (.ref Cl) (.type "type") m = some (.get (.builtin "staticmethod.__get__") (.ref p) .none (.ref Cl)))
    (a3 : recIn K p "staticmethod" = some (.ref f :: rest)) (l : K.lookup f = some ⟨oc, od, .func (fnOf m q (defArgs st) (defBody st) (defScope st) .none kV doc pm an cdv ct), osl⟩) (cc : codeIn K cdv q = true) (kk : keepIn K (.ref f) = true)
    (a4 : typeIn K (.ref p) = some (.type "staticmethod")) (a5 : specialIn K (.ref p) "__get__" = some (some (.builtin "staticmethod.__get__"))) (a6 : takesIn K (.ref p) = some false) (a7 : copiedNames.contains m = false) (a8 : plainGet K Cl m = true) (a9 : isClsIn K Cl = true) : StatF K mg c Cl m q st :=
  ⟨p, f, _, rest, mg_of X G a0, ⟨r1, r2⟩, a2, a3, fun_mk l cc kk, a1, a4, a5, a6, a7, a8, a9⟩
theorem mk_stat {c : Str} {Cl : Addr} {F : List D → PM D} (FA : StatF K mg c Cl x q st) (S : FnScope N ps (defScope st)) (hps : ps.length = n)
    (hbd : ∀ (kV doc pm : Value) (an : Option Addr) (cdv ct : Value) (us : List Value), us.length = ps.length → bindArgs (PySem.W.fnOf x q (defArgs st) (defBody st) (defScope st) .none kV doc pm an cdv ct) ⟨us, []⟩ = pure (ps.zip us))
    (hb : ∀ (f : Addr) (cdv : Value) (A : Around) (outer : List PySem.Env) (s : Shared) (H : Hp) (E : XK), Cok (cxOf (L2.CX P w) P w K mg base N q (defScope st) f cdv A outer s H E) (fun cls d _ H => E cls d H) k → ∀ ds : List D, ds.length = n →
      ∃ (α : Type) (out : α → Out) (m : PM α), SV (cxOf (L2.CX P w) P w K mg base N q (defScope st) f cdv A outer s H E) (fun cls d _ H => E cls d H) none (slots0 N ds) out (defBody st) m ∧ F ds = (m >>= fun a => outD (out a))) :
    CalSt P w K mg base (k + 1) c Cl x ps (spF K mg false n F) := by
  obtain ⟨p, f, fd, rest, m1, m2, m3, m4, FU, m8, m9, m10, m11, m12, m13, m14⟩ := FA.ex
  exact ⟨p, f, fd, rest, m1, m2, m3, m4, FU.kp, fn_pureQ FU S hps (hb f), FU.binds hbd, m8, m9, m10, m11, m12, m13, m14⟩
end
/-! ### a name that a loop leaves -/
def optS : Option D → Sl
  | some d => .val d
  | none => .junk
def optK {β : Type} (c : Option D) (kk : D → PM β) : PM β := match c with
  | some d => kk d
  | none => bad
section
variable {X : Cx} {W : WX} {pa : Option Addr} {Γ : List Sl} {α : Type} {out : α → Out} {rest : List Stmt}
theorem sv_opt (i : Nat) {c : Option D} {kk : D → PM α} (h : Γ[i]? = some (optS c)) (hr : ∀ d, SV X W pa (Γ.set i (.val d)) out rest (kk d)) : SV X W pa Γ out rest (optK c kk) := by
  cases c with
  | none => exact sv_bad
  | some d =>
    have e : Γ.set i (.val d) = Γ := by
      refine List.ext_getElem? fun j => ?_
      by_cases z : i = j
      · subst z
        rw [List.getElem?_set_self (List.getElem?_eq_some_iff.mp h).1, h]
        rfl
      · rw [List.getElem?_set_ne z]
    have q := hr d
    rw [e] at q
    exact q
end
end EV

set_option maxHeartbeats 2000000
/-! EV 54: texts: f'..', str(), join. -/
namespace EV
open PySem PySem.Spec PyProof.Rows L2
def numS (i : Int) : Str := Str.ofString (toString i)
/-- {x} -/
def fmtD : D → PM D
  | .str y => if y.length ≤ lim then pure (.str y) else bad
  | .int i => if i.natAbs.log2 < 1920 then pure (.str (numS i)) else bad
  | _ => bad
/-- the parts of f'..' -/
def fsD : List (PM D) → Str → PM D
  | [], acc => pure (.str acc)
  | m :: ms, acc => m >>= fun d => match d with
    | .str y => if (acc ++ y).length ≤ lim then fsD ms (acc ++ y) else bad
    | _ => bad
def strF : List D → PM D
  | [.int i] => if i.natAbs.log2 < 1920 then pure (.str (numS i)) else bad
  | [.str x] => pure (.str x)
  | _ => bad
section
variable {X : Cx} {W : WX} {pa : Option Addr} {Γ : List Sl} {k j : Nat} {pos : Pos}
theorem ev_fmt {e : Expr} {m : PM D} (he : EV X W pa Γ e m) : EV X W pa Γ (.FormattedValue e (-1) none pos) (m >>= fmtD) :=
  pe_imp (pe_fmt he) fun σ H Q ⟨G0, H0, G, s, E, P⟩ => ⟨G0, H0, G, s, E, P.bind.imp fun G1 H1 d s1 x1 p1 P1 v rv => by
    cases rv with
    | str y =>
      have P1 : Pst X.K W X.mg pa σ (FD X.K Q) G1 H1 ((if y.length ≤ lim then pure (.str y) else bad : PM D) s1) := P1
      split at P1
      · rename_i z
        exact .inl ⟨y, rfl, lim_le z, P1.now x1.sub p1 _ (.str _)⟩
      · exact P1.elim
    | int i =>
      have P1 : Pst X.K W X.mg pa σ (FD X.K Q) G1 H1 ((if i.natAbs.log2 < 1920 then pure (.str (numS i)) else bad : PM D) s1) := P1
      split at P1
      · rename_i z
        exact .inr ⟨i, rfl, z, P1.now x1.sub p1 _ (.str _)⟩
      · exact P1.elim
    | _ => exact P1.elim⟩
inductive EVs (X : Cx) (W : WX) (pa : Option Addr) (Γ : List Sl) : List Expr → List (PM D) → Prop
  | nil : EVs X W pa Γ [] []
  | cons {e : Expr} {m : PM D} {es : List Expr} {ms : List (PM D)} (h : EV X W pa Γ e m) (r : EVs X W pa Γ es ms) : EVs X W pa Γ (e :: es) (m :: ms)
theorem EVs.pj {es : List Expr} {ms : List (PM D)} (h : EVs X W pa Γ es ms) : PJ X es (ms.map (evT X W pa Γ)) := by
  induction h with
  | nil => exact .nil
  | cons h _ ih => exact .cons h ih
theorem fs_go {σ : L2.St} {Q : VK} : ∀ {ms : List (PM D)} {acc : Str} {G0 H0 G H : Hp} {s : List Int}, Nv X.K pa G0 H0 G H σ Γ s → Pst X.K W X.mg pa σ (FD X.K Q) G H (fsD ms acc s) → tJs (ms.map (evT X W pa Γ)) acc σ H fun out H1 => Q (.str out) H1
  | [], acc, _, _, _, _, _, E, P => P.now E.sub E.ps _ (.str acc)
  | m :: ms, acc, G0, H0, G, H, s, E, P => ⟨G0, H0, G, s, E, Pst.imp (Pst.bind P) fun G1 H1 d s1 x1 p1 P1 v rv => by
    cases rv with
    | str y =>
      have P1 : Pst X.K W X.mg pa σ (FD X.K Q) G1 H1 ((if (acc ++ y).length ≤ lim then fsD ms (acc ++ y) else bad : PM D) s1) := P1
      split at P1
      · rename_i z
        exact ⟨y, rfl, lim_le z, fs_go (E.step x1 p1) P1⟩
      · exact P1.elim
    | _ => exact P1.elim⟩
theorem ev_fstr {v1 v2 : Expr} {rest : List Expr} {ms : List (PM D)} (h : EVs X W pa Γ (v1 :: v2 :: rest) ms) : EV X W pa Γ (.JoinedStr (v1 :: v2 :: rest) pos) (fsD ms Str.empty) :=
  pe_imp (pe_joined h.pj) fun σ H Q ⟨G0, H0, G, s, E, P⟩ => fs_go E P
theorem cd_str : CallD X (.type "str") strF := by
  refine ⟨_, (call_str_int (X := X)).or (SkE.call_str_str (X := X)), fun W pa σ G H s xs ds Q hs hp rs P => ?_⟩
  match ds, rs, P with
  | [d], rs, P =>
    obtain ⟨v, rfl, r⟩ := rp1 rs
    cases r with
    | int i =>
      have P : Pst X.K W X.mg pa σ (FD X.K Q) G H ((if i.natAbs.log2 < 1920 then pure (.str (numS i)) else bad : PM D) s) := P
      split at P
      · rename_i z
        exact .inl ⟨i, rfl, z, P.now hs hp _ (.str _)⟩
      · exact P.elim
    | str x => exact .inr ⟨x, rfl, P.now hs hp _ (.str _)⟩
    | _ => exact P.elim
  | [], _, P => exact P.elim
  | a :: _ :: _, _, P => cases a <;> exact P.elim
/-! ### join -/
def strsOf : List D → Option (List Str)
  | [] => some []
  | .str x :: ds => (strsOf ds).map (x :: ·)
  | _ :: _ => none
theorem strsOf_at : ∀ {ds : List D} {ys : List Str}, strsOf ds = some ys → ds = ys.map D.str
  | [], ys, h => by cases h; rfl
  | .str x :: ds, ys, h => by
    cases e : strsOf ds with
    | none => simp [strsOf, e] at h
    | some zs =>
      simp [strsOf, e] at h
      subst h
      rw [strsOf_at e]
      rfl
def joinD (a : Str) (ds : List D) : PM D := match strsOf ds with
  | some ys => if (ys.map (·.length)).sum + ys.length * a.length ≤ lim then pure (.str (Txt.join a ys)) else bad
  | none => bad
def strOf : D → PM Str
  | .str x => pure x
  | _ => bad
theorem rp_strs {K : PySem.W.Frag} {G : Hp} : ∀ {vs : List V} {ys : List Str}, RpL K G vs (ys.map D.str) → vs = ys.map V.str := fun {vs ys} r => by
  refine List.ext_getElem? fun i => ?_
  have hl := r.1
  rw [List.length_map] at hl
  by_cases h : i < ys.length
  · obtain ⟨w, e1⟩ : ∃ w, vs[i]? = some w := ⟨_, List.getElem?_eq_getElem (by omega)⟩
    have z := r.2 i w (.str ys[i]) e1 (by rw [List.getElem?_map, List.getElem?_eq_getElem h]; rfl)
    rw [e1, List.getElem?_map, List.getElem?_eq_getElem h]
    cases z
    rfl
  · rw [List.getElem?_eq_none (by omega), List.getElem?_eq_none (by rw [List.length_map]; omega)]
theorem ev_join {o e : Expr} {mo me : PM D} {apos cpos : Pos} (ho : EV X W pa Γ o mo) (he : EV X W pa Γ e me)
    (hbase : attributeBase o "join" X.env (eval o X.env) = eval o X.env := by rfl)
    (hfew : ((backTo cpos (starEach [e] X.env)).all (fun x => !x.1) && (backToKw cpos (keywordEach [] X.env)).all (fun x => x.1.isSome)
      && decide ([e].length + ([] : List Keyword).length + (if ([] : List Keyword).isEmpty then 0 else 1) < 30)) = true := by rfl)
    (hline : (apos.endLine == cpos.line) = true := by rfl) (hs : starEach [e] X.env = (false, eval e X.env) :: starEach [] X.env := by rfl) (hplain : (backTo cpos (starEach [] X.env)).any (·.1) = false := by rfl) :
    EV X W pa Γ (.Call (.Attribute o "join" apos) [e] [] cpos) (mo >>= fun a => strOf a >>= fun x => me >>= fun d => itemsD d >>= joinD x) :=
  pe_imp (pe_bm PySem.F.plainAttrs_str PySem.F.slot_str_join PySem.F.type_str_join mt_join ho (pa_cons he pa_nil hs) hbase hfew hline hs hplain) fun σ H Q ⟨G0, H0, G, s, E, P⟩ =>
    ⟨G0, H0, G, s, E, P.bind.imp fun G1 H1 a s1 x1 p1 P1 v rv => by
      cases rv with
      | str x =>
        have P1 : Pst X.K W X.mg pa σ (FD X.K Q) G1 H1 ((me >>= fun d => itemsD d >>= joinD x) s1) := P1
        refine ⟨rfl, G0, H0, G1, s1, E.step x1 p1, P1.bind.imp fun G2 H2 d s2 x2 p2 P2 w rw => ?_⟩
        have go : ∀ (vs : List V) (ds : List D) (p : Addr), RpL X.K G2 vs ds → (SqL X.K H2 p vs ∨ SqT X.K H2 p vs) → Pst X.K W X.mg pa σ (FD X.K Q) G2 H2 (joinD x ds s2) → ∃ a q, ∃ ys : List Str, V.str x = .str a ∧ [V.ref p] = [.ref q] ∧ (SqL X.K H2 q (ys.map V.str) ∨ SqT X.K H2 q (ys.map V.str)) ∧
            (ys.map (·.length)).sum + ys.length * a.length ≤ 16777216 ∧ Q (.str (Txt.join a ys)) H2 := fun vs ds p r hv P3 => by
          unfold joinD at P3
          cases e : strsOf ds with
          | none => rw [e] at P3; exact P3.elim
          | some ys =>
            rw [e] at P3
            have P3 : Pst X.K W X.mg pa σ (FD X.K Q) G2 H2 ((if (ys.map (·.length)).sum + ys.length * x.length ≤ lim then pure (.str (Txt.join x ys)) else bad : PM D) s2) := P3
            split at P3
            · rename_i z
              rw [strsOf_at e] at r
              have ev := rp_strs r
              subst ev
              exact ⟨x, p, ys, rfl, rfl, hv, Nat.le_trans z (by decide), P3.now x2.sub p2 _ (.str _)⟩
            · exact P3.elim
        cases rw with
        | @lst a xs ds h n rr => exact go xs ds a ⟨n, rr⟩ (.inl (SqL.of (x2.sub _ _ h))) P2
        | @tup a xs ds h n rr => exact go xs ds a ⟨n, rr⟩ (.inr (sameT x2.sub h)) P2
        | _ => exact P2.elim
      | _ => exact P1.elim⟩
end
end EV

set_option maxHeartbeats 2000000
/-! EV 55: repr(o), o == x, o != x of instances with their own __repr__, __eq__. -/
namespace EV
open PySem PySem.Spec PyProof.Rows L2 PySem.W
section
variable {X : Cx} {W : WX} {pa : Option Addr} {Γ : List Sl} {k j n : Nat} {pos : Pos} {pins : List (Addr × Obj)} {σ : L2.St} {H : Hp} {s : Shared} {Cl : Addr} {F : List D → PM D} {g : D → PM D} {Q Q' : VK} {ps : List Str}
/-- repr(o) -/
def stD : D → PM D
  | .str x => pure (.str x)
  | _ => bad
theorem goes_st : Goes X W pa stD σ Q (fun v H => ∃ x, v = .str x ∧ Q (.str x) H) := fun G H a s v hs hp r P => by
  cases r with
  | str x => exact ⟨x, rfl, P.now hs hp _ (.str x)⟩
  | _ => exact P.elim
theorem ev_reprO {e : Expr} {m : PM D} {p : Pos} (C : Cok X W k) (M : CalM X.prog X.w X.K X.mg X.base j Cl "__repr__" ps (spF X.K X.mg false 1 F)) (ar : Arity 1 F) (he : EV X W pa Γ e m) (hg : Gl X "repr") (hm : X.mg "repr" = none) (hj : j + 1 ≤ k := by decide) (hj2 : j < 32 := by decide)
    (hs : starEach [e] X.env = (false, eval e X.env) :: starEach [] X.env := by rfl) :
    EV X W pa Γ (.Call (.Name "repr" p) [e] [] pos) (m >>= fun d => methD Cl F d [] >>= stD) := by
  obtain ⟨f, fd, FG, Me, fi, hb⟩ := M.ex
  refine ⟨fun pins s σ H Q I h => ?_⟩
  refine wpAny_Call_Name_kw (ld_blt I hg hm (show bootBuiltins "repr" = some (.builtin "repr") by decide +kernel) ?_ (by decide) (by decide))
  refine PyProof.Rows.callWith_builtin1 (thn ((pa_cons he pa_nil hs).run pos pins s σ H (fun vs H1 => ∃ v, vs = [v] ∧ At1 X W Cl 1 F σ (fun v H => ∃ x, v = .str x ∧ Q (.str x) H) v [] H1) I ?_) fun us s1 ⟨vs, H1, I1, r1, v, ev, a, dx, fvs, ea, h1, oc, q⟩ => ?_) hs rfl
  · obtain ⟨G0, H0, G, s, E, R⟩ := evT1 goes_st ar h
    exact ⟨G0, H0, G, s, E, R.imp fun G' H' d s1 x1 p1 P1 v r => ⟨v, rfl, P1 v r⟩⟩
  subst ev ea
  obtain ⟨u, rfl, hu⟩ : ∃ u, us = [u] ∧ RelV (.ref a) u := by
    cases r1 with
    | cons h t => cases t; exact ⟨_, rfl, h⟩
  obtain rfl : u = Value.ref a := hu
  obtain ⟨mm, fr⟩ := fr_of I1
  obtain ⟨ox, od, J, _⟩ := inst_of I1 h1
  have rm := (C.room.mono hj).in1
  refine repr_K rm.units0 fr I1.ok.mod.kin J Me.at_ Me.fn (thn (runA C.takes rfl rm hj2 FG hb I1 (.cons (show RelV (.ref a) (.ref a) from rfl) .nil) q) fun z s3 ⟨w, H3, I3, rw', x, ew, q3⟩ => ?_)
  subst ew
  obtain ⟨t, rfl⟩ := rw'
  exact ⟨.str x, H3, I3, ⟨t, rfl⟩, q3⟩
theorem relV_ni {w : V} (r : RelV w .notImplemented) : False := by
  cases w <;> first | (exact nomatch r) | (obtain ⟨_, z⟩ := r; exact nomatch z)
/-- o + x, x an instance of the same class -/
theorem ev_addO {a b : Expr} {ma mb : PM D} (C : Cok X W k) (M : CalM X.prog X.w X.K X.mg X.base j Cl "__add__" ps (spF X.K X.mg false 2 F)) (ar : Arity 2 F) (sf : selfFirst X.K Cl = true) (ha : EV X W pa Γ a ma) (hb' : EV X W pa Γ b mb) (hj : j ≤ k := by decide) (hj2 : j < 32 := by decide) :
    EV X W pa Γ (.BinOp a .Add b pos) (ma >>= fun x => mb >>= fun y => objD Cl "" y >>= fun _ => methD Cl F x [y]) := by
  obtain ⟨f, fd, FG, Me, fi, hb⟩ := M.ex
  refine ⟨fun pins s σ H Q I h => ?_⟩
  have h2 : evT X W pa Γ ma σ H fun v H1 => evT X W pa Γ mb σ H1 fun u H2 => (∃ b dy gvs, u = .ref b ∧ H2 b = some (.ins Cl dy gvs)) ∧ At1 X W Cl 2 F σ Q v [u] H2 := by
    obtain ⟨G0, H0, G, s, E, R⟩ := h
    refine ⟨G0, H0, G, s, E, R.bind.imp fun G1 H1 d s1 x1 p1 P1 v r => ⟨G0, H0, G1, s1, E.step x1 p1, P1.bind.imp fun G2 H2 d2 s2 x2 p2 P2 v2 r2 => ?_⟩⟩
    obtain ⟨⟨b, dy, gvs, eb, h1, _, _⟩, P3⟩ := objD_at x2.sub r2 P2
    have P3 : Pst X.K W X.mg pa σ (FD X.K Q) G2 H2 ((methD Cl F d [d2] >>= pure) s2) := by simpa using P3
    exact ⟨⟨b, dy, gvs, eb, h1⟩, at1_of (G0 := G0) (H0 := H0) (Γ' := Γ) goes_pure ar x2.sub (x2.tk (x1.tk E.tk)) (x2.gt (x1.gt E.x.nt)) p2 (r.mono x2.g) (.cons r2 .nil) P3⟩
  refine wpAny_BinOp (binT ha hb' I h2 fun v u s2 x y H2 I2 rx ry ⟨⟨b, dy, gvs, eb, h3⟩, a, dx, fvs, ea, h1, oc, q⟩ => ?_)
  subst ea eb
  obtain rfl : v = Value.ref a := rx
  obtain rfl : u = Value.ref b := ry
  obtain ⟨mm, fr⟩ := fr_of I2
  obtain ⟨ox, od, J, _⟩ := inst_of I2 h1
  obtain ⟨oy, oe, J2, _⟩ := inst_of I2 h3
  refine binop_K fr I2.ok.mod.kin J J2.type sf Me.at_ Me.fn (thn (runA C.takes rfl (C.room.mono hj) hj2 FG hb I2 (.cons (show RelV (.ref a) (.ref a) from rfl) (.cons (show RelV (.ref b) (.ref b) from rfl) .nil)) q) fun z s3 hz => ?_)
  obtain ⟨w, H3, I3, rw', q3⟩ := hz
  unfold PySem.W.CmpBack
  split
  · exact (relV_ni rw').elim
  · exact ⟨w, H3, I3, rw', q3⟩
end
end EV

set_option maxHeartbeats 2000000
/-! EV 56: C() of a class whose __init__ takes *needs. -/
namespace EV
open PySem PySem.Spec PyProof.Rows L2 PySem.W
section
variable {X : Cx} {W : WX} {pa : Option Addr} {Γ : List Sl} {k j n : Nat} {pos : Pos}
theorem pe_mkS0 {x : Str} {Cl f : Addr} {sp : Sp} {p : Pos} (C : Cok X W (j + 1)) (M : Mk X.K Cl f) (F : FnR X.prog X.w X.K X.mg X.base (L2.CX X.prog X.w) j f sp) (hg : Gl X x) (hm : X.mg x = some (.ref Cl)) (hdb : (x == ("__debug__" : Str)) = false := by decide) :
    PE X (.Call (.Name x p) [] [] pos) (fun σ H Q => ∀ x dx, H x = none → H dx = none → dx ≠ x → sp [V.ref x] (upd (upd H dx (.own x)) x (.ins Cl dx [])) (fun v H2 => v = .non ∧ Q (.ref x) H2) fun cls d H' => W cls d σ H') :=
  ⟨fun pins s σ H Q I h => wpAny_Call_Name_kw (ld_glob I hg hm (PySem.W.callWith_K0 (first := []) I.kIn M.kp (runMk C M F I .nil h)) hdb)⟩
theorem ev_makeS0 {x : Str} {Cl f : Addr} {ks : List Str} {F : List D → PM (List D)} {p : Pos} (C : Cok X W (j + 1)) (M : Mk X.K Cl f) (oc : ObjC X.K Cl) (FR : FnR X.prog X.w X.K X.mg X.base (L2.CX X.prog X.w) j f (spStar (spI X.K X.mg Cl ks 1 F)))
    (hg : Gl X x) (hm : X.mg x = some (.ref Cl)) (hdb : (x == ("__debug__" : Str)) = false := by decide) :
    EV X W pa Γ (.Call (.Name x p) [] [] pos) (mkT [] >>= fun t => newO Cl ks F [t]) :=
  pe_imp (pe_mkS0 C M FR hg hm hdb) fun σ H Q ⟨G0, H0, G1, s1, E, P1⟩ => fun x dx nx nd ne => by
    have x1 : Ext X.K pa G1 H G1 H := Ext.refl E.sub
    have p1 := E.ps
    obtain ⟨H1, hH⟩ : ∃ H1, H1 = H := ⟨_, rfl⟩
    obtain ⟨vs, ds, ev, ed⟩ : ∃ (vs : List V) (ds : List D), vs = [] ∧ ds = [] := ⟨_, _, rfl, rfl⟩
    have r : RpL X.K G1 vs ds := by
      subst ev ed
      exact .nil
    have P1 : Pst X.K W X.mg pa σ (FD X.K Q) G1 H ((mkT ds >>= fun t => newO Cl ks F [t] : PM D) s1) := by
      rw [ed]
      exact P1
    rw [show [V.ref x] = V.ref x :: vs by rw [ev]]
    rw [← hH] at P1 x1 p1 nx nd ⊢
    have E := hH ▸ E
    by_cases hl : ds.length ≤ lim
    · rw [mkT_ok hl, pure_bind] at P1
      refine ⟨[V.ref x], vs, rfl, rfl, by rw [r.1]; exact lim_le hl, fun q nq => ?_⟩
      have qx : q ≠ x := fun z => by rw [z, upd_same] at nq; cases nq
      have qd : q ≠ dx := fun z => by rw [z, upd_ne ne, upd_same] at nq; cases nq
      have nq1 : H1 q = none := by rw [upd_ne qx, upd_ne qd] at nq; exact nq
      have y1 := Ext.new (K := X.K) (pa := pa) x1.sub nq1 (.tup vs)
      have hs2 : Same (upd G1 q (.tup vs)) (upd H1 q (.tup vs)) := y1.sub
      have y2 : Ext X.K none (upd G1 q (.tup vs)) (upd H1 q (.tup vs)) (upd G1 q (.tup vs)) (upd (upd (upd H1 q (.tup vs)) dx (.own x)) x (.ins Cl dx [])) :=
        made_ext hs2 (by rw [upd_ne (Ne.symm qx)]; exact nx) (by rw [upd_ne (Ne.symm qd)]; exact nd) ne (fun _ z => by cases z)
      have ec : upd (upd (upd H1 dx (.own x)) x (.ins Cl dx [])) q (.tup vs) = upd (upd (upd H1 q (.tup vs)) dx (.own x)) x (.ins Cl dx []) := by
        rw [upd_comm (H := upd H1 dx (.own x)) (Ne.symm qx), upd_comm (H := H1) (Ne.symm qd)]
      rw [ec]
      refine spI_at oc hs2 (by rw [upd_ne (Ne.symm qx)]; exact nx) (y1.tk (x1.tk E.tk)) (y1.gt (x1.gt E.x.nt)) (p1.upd nq1 _) upd_same y2 (.cons (.mkT (SqT.of upd_same) (r.mono y1.g)) .nil) rfl (P1.mono y1)
    · rw [show mkT ds = bad from if_neg hl] at P1
      exact P1.elim
theorem newS0 {x : Str} {Cl : Addr} {ks : List Str} {F : List D → PM (List D)} {p : Pos} (C : Cok X W k) (M : MkC X.prog X.w X.K X.mg X.base j x Cl (spStar (spI X.K X.mg Cl ks 1 F))) (hj : j + 1 ≤ k := by decide) (hg : Gl X x := by rfl) (hdb : (x == ("__debug__" : Str)) = false := by decide) :
    EV X W pa Γ (.Call (.Name x p) [] [] pos) (mkT [] >>= fun t => newO Cl ks F [t]) := by
  obtain ⟨f, m1, m2, m3, m4⟩ := M.ex
  exact ev_makeS0 (C.mono hj) m3 m2 m4 hg m1 hdb
end
end EV

/-! M1: what the small functions answer at small data. -/
namespace EV
open PySem PyProof.Rows L2

/-! ### small data -/
inductive Sm : Nat → Nat → D → Prop
  | non {h b : Nat} : Sm h b .non
  | bl {h b : Nat} (x : Bool) : Sm h b (.bl x)
  | int {h b : Nat} {i : Int} (h1 : -2 ≤ i) (h2 : i < 300) : Sm h b (.int i)
  | str {h b : Nat} {x : Str} (h1 : PyData.strOk x = true) (h2 : x.cps.size ≤ b) : Sm h b (.str x)
  | tup {h b c : Nat} {xs : List D} (h1 : ∀ x, x ∈ xs → Sm h c x) (h2 : xs.length * (c + 1) ≤ b) : Sm (h + 1) b (.tup xs)
  | lst {h b c : Nat} {xs : List D} (h1 : ∀ x, x ∈ xs → Sm h c x) (h2 : xs.length * (c + 1) ≤ b) : Sm (h + 1) b (.lst xs)
theorem all_lay : ∀ {xs : List D}, (∀ x ∈ xs, (toPy x).canLay0 = true) → PyData.canLayAll0 (toPyL xs) = true
  | [], _ => by simp only [toPyL, PyData.canLayAll0]
  | x :: xs, h => by
    simp only [toPyL, PyData.canLayAll0, h x List.mem_cons_self, all_lay (fun y m => h y (List.mem_cons_of_mem _ m)), Bool.and_self]
theorem all_short : ∀ {xs : List D}, (∀ x ∈ xs, (toPy x).leavesShort 13 = true) → PyData.leavesShortAll 13 (toPyL xs) = true
  | [], _ => by simp only [toPyL, PyData.leavesShortAll]
  | x :: xs, h => by
    simp only [toPyL, PyData.leavesShortAll, h x List.mem_cons_self, all_short (fun y m => h y (List.mem_cons_of_mem _ m)), Bool.and_self]
theorem all_ok : ∀ {xs : List D}, (∀ x ∈ xs, okD x = true) → okDL xs = true
  | [], _ => by simp only [okDL]
  | x :: xs, h => by
    simp only [okDL, h x List.mem_cons_self, all_ok (fun y m => h y (List.mem_cons_of_mem _ m)), Bool.and_self]
theorem all_deep {k : Nat} : ∀ {xs : List D}, (∀ x ∈ xs, (toPy x).depth ≤ k) → PyData.depthAll (toPyL xs) ≤ k
  | [], _ => by simp only [toPyL, PyData.depthAll]; omega
  | x :: xs, h => by
    have h1 := h x List.mem_cons_self
    have h2 := all_deep (xs := xs) (fun y m => h y (List.mem_cons_of_mem _ m))
    simp only [toPyL, PyData.depthAll]
    omega
theorem all_bulk {k : Nat} : ∀ {xs : List D}, (∀ x ∈ xs, (toPy x).bulk ≤ k) → PyData.bulkAll (toPyL xs) ≤ xs.length * (k + 1)
  | [], _ => by simp only [toPyL, PyData.bulkAll]; omega
  | x :: xs, h => by
    have h1 := h x List.mem_cons_self
    have h2 := all_bulk (xs := xs) (fun y m => h y (List.mem_cons_of_mem _ m))
    simp only [toPyL, PyData.bulkAll, List.length_cons, Nat.succ_mul]
    omega
theorem shortI : ∀ n : Fin 302, (PyData.shown (.int ((n.val : Int) - 2))).length ≤ 13 := by decide +kernel
theorem logI : ∀ n : Fin 302, decide ((((n.val : Int) - 2).natAbs).log2 < 1920) = true := by decide +kernel
theorem Sm.facts {h b : Nat} {d : D} (s : Sm h b d) : (toPy d).canLay0 = true ∧ (toPy d).leavesShort 13 = true ∧ okD d = true ∧ (toPy d).depth ≤ h ∧ (toPy d).bulk ≤ b := by
  induction s with
  | non => simp [toPy, PyData.canLay0, PyData.leavesShort, okD, PyData.depth, PyData.bulk]
  | bl => simp [toPy, PyData.canLay0, PyData.leavesShort, okD, PyData.depth, PyData.bulk]
  | @int h b i h1 h2 =>
    have e : i = (((⟨(i + 2).toNat, by omega⟩ : Fin 302).val : Nat) : Int) - 2 := by
      show i = (((i + 2).toNat : Nat) : Int) - 2
      omega
    refine ⟨by simp [toPy, PyData.canLay0], ?_, ?_, by simp [toPy, PyData.depth], by simp [toPy, PyData.bulk]⟩
    · simp only [toPy, PyData.leavesShort, decide_eq_true_eq]
      rw [e]
      exact shortI _
    · simp only [okD]
      rw [e]
      exact logI _
  | @str h b x h1 h2 =>
    refine ⟨by simpa [toPy, PyData.canLay0] using h1, ?_, by simp [okD], by simp [toPy, PyData.depth], by simpa [toPy, PyData.bulk] using h2⟩
    simp only [toPy, PyData.leavesShort, List.all_eq_true, decide_eq_true_eq]
    intro c hc
    unfold PyData.strOk at h1
    have z := Array.all_eq_true'.mp h1 c (by simpa using hc)
    have z : c < 0x110000 := by simpa using z
    omega
  | @tup h b c xs h1 h2 ih =>
    simp only [toPy, PyData.canLay0, PyData.leavesShort, okD, PyData.depth, PyData.bulk]
    have z := all_deep fun x m => (ih x m).2.2.2.1
    have y := all_bulk fun x m => (ih x m).2.2.2.2
    exact ⟨all_lay fun x m => (ih x m).1, all_short fun x m => (ih x m).2.1, all_ok fun x m => (ih x m).2.2.1, by omega, by omega⟩
  | @lst h b c xs h1 h2 ih =>
    simp only [toPy, PyData.canLay0, PyData.leavesShort, okD, PyData.depth, PyData.bulk]
    have z := all_deep fun x m => (ih x m).2.2.2.1
    have y := all_bulk fun x m => (ih x m).2.2.2.2
    exact ⟨all_lay fun x m => (ih x m).1, all_short fun x m => (ih x m).2.1, all_ok fun x m => (ih x m).2.2.1, by omega, by omega⟩
theorem Sm.mono {h b h' b' : Nat} {d : D} (s : Sm h b d) (e1 : h ≤ h') (e2 : b ≤ b') : Sm h' b' d := by
  induction s generalizing h' b' with
  | non => exact .non
  | bl x => exact .bl x
  | int h1 h2 => exact .int h1 h2
  | str h1 h2 => exact .str h1 (by omega)
  | @tup h b c xs h1 h2 ih =>
    obtain ⟨k, rfl⟩ : ∃ k, h' = k + 1 := ⟨h' - 1, by omega⟩
    exact .tup (c := c) (fun x m => ih x m (by omega) (Nat.le_refl _)) (by omega)
  | @lst h b c xs h1 h2 ih =>
    obtain ⟨k, rfl⟩ : ∃ k, h' = k + 1 := ⟨h' - 1, by omega⟩
    exact .lst (c := c) (fun x m => ih x m (by omega) (Nat.le_refl _)) (by omega)
theorem Sm.shp {h b : Nat} {d : D} (s : Sm h b d) (e : h ≤ 64 := by omega) : shp d = true := by
  have f := s.facts
  unfold EV.shp SeqAt.shaped
  rw [Bool.and_eq_true, decide_eq_true_eq]
  exact ⟨f.1, by omega⟩
theorem Sm.repr {h b : Nat} {d : D} (s : Sm h b d) (e1 : h ≤ 60 := by omega) (e2 : b ≤ 60000 := by omega) : reprF [d] = pure (.str (shown d)) := by
  have f := s.facts
  have l := PyData.shown_le_bulk 13 (by decide) (toPy d) f.2.1
  show (if okD d = true ∧ (toPy d).depth ≤ 60 ∧ (shown d).length ≤ lim then pure (.str (shown d)) else bad : PM D) = _
  exact if_pos ⟨f.2.2.1, by omega, by show (toPy d).shown.length ≤ 1000000; omega⟩

/-! ### ints -/
def iota (n : Nat) : List Int := (List.range n).map fun (i : Nat) => (i : Int)
theorem mem_iota {n : Nat} {x : Int} : x ∈ iota n ↔ 0 ≤ x ∧ x < n := by
  unfold iota
  rw [List.mem_map]
  constructor
  · rintro ⟨i, h, rfl⟩
    rw [List.mem_range] at h
    omega
  · rintro ⟨h1, h2⟩
    exact ⟨x.toNat, List.mem_range.mpr (by omega), by omega⟩
theorem len_iota (n : Nat) : (iota n).length = n := by simp [iota]
theorem iota_asc (n : Nat) : (iota n).Pairwise (· < ·) := by
  unfold iota
  rw [List.pairwise_map]
  exact List.pairwise_lt_range.imp fun h => by omega
theorem iota_get {n i : Nat} (h : i < n) : (iota n)[i]? = some (i : Int) := by
  simp [iota, h]
theorem rangeL_iota (n : Nat) : rangeL 0 n = (iota n).map D.int := by
  unfold rangeL iota
  rw [List.map_map]
  exact List.map_congr_left fun i _ => by simp
abbrev tI (ns : List Int) : D := .tup (ns.map .int)
abbrev lI (ns : List Int) : D := .lst (ns.map .int)
theorem range1 {n : Nat} (h : n ≤ lim := by omega) : rangeF1 [.int n] = pure ((iota n).map D.int) := by
  have h : n ≤ 1000000 := h
  unfold rangeF1 rangeF
  dsimp only
  rw [if_pos ⟨by omega, by omega⟩, Int.toNat_natCast, rangeL_iota]
theorem okL_ok {xs : List D} (h : xs.length ≤ lim) : okL xs = pure xs := if_pos h
theorem sortedI {ns : List Int} (h : ns.length ≤ lim) : sortedG [lI ns] = pure (lI (sortI ns)) := by
  have e : intsQ [lI ns] = true := by
    show (intsOf (ns.map D.int)).isSome = true
    rw [intsOf_map]
    rfl
  unfold sortedG
  rw [if_pos e]
  show (match intsOf (ns.map D.int) with | some ns => mkL ((sortI ns).map D.int) | none => bad : PM D) = _
  rw [intsOf_map]
  exact mkL_ok (by rw [List.length_map, (sortI_perm ns).length_eq]; exact h)
theorem tupleL {xs : List D} (h : xs.length ≤ lim) : tupleF [.lst xs] = pure (.tup xs) := mkT_ok h
theorem asc_of_sorted {l : List Int} (h1 : l.Pairwise (· ≤ ·)) (h2 : l.Nodup) : l.Pairwise (· < ·) := by
  have h2 : l.Pairwise (· ≠ ·) := h2
  exact (h1.and h2).imp fun h => by omega
theorem asc_nodup {l : List Int} (h : l.Pairwise (· < ·)) : l.Nodup := h.imp fun h => by omega
theorem sortI_nodup {l : List Int} (h : l.Nodup) : (sortI l).Pairwise (· < ·) := asc_of_sorted (sortI_sorted l) ((sortI_perm l).nodup_iff.mpr h)

/-! ### subscripts -/
def ix {α : Type} [Inhabited α] (l : List α) (i : Int) : α := l.getD i.toNat default
theorem ix_get {α : Type} [Inhabited α] {l : List α} {i : Int} (h0 : 0 ≤ i) (h1 : i < l.length) : l[i.toNat]? = some (ix l i) := by
  unfold ix
  rw [List.getD_eq_getElem?_getD, List.getElem?_eq_getElem (by omega)]
  rfl
theorem ix_mem {α : Type} [Inhabited α] {l : List α} {i : Int} (h0 : 0 ≤ i) (h1 : i < l.length) : ix l i ∈ l := List.mem_of_getElem? (ix_get h0 h1)
theorem atI_ix {α : Type} [Inhabited α] {l : List α} {i : Int} (h0 : 0 ≤ i) (h1 : i < l.length) : atI l i = some (ix l i) := by
  unfold atI ixN
  rw [if_pos h0, if_pos h1]
  exact ix_get h0 h1
theorem getT {α : Type} [Inhabited α] {l : List α} {f : α → D} {i : Int} (h0 : 0 ≤ i) (h1 : i < l.length) : getD (.tup (l.map f)) (.int i) = pure (f (ix l i)) := by
  show (match atI (l.map f) i with | some d => pure d | none => bad : PM D) = _
  rw [atI_map, atI_ix h0 h1]
  rfl
theorem getL {α : Type} [Inhabited α] {l : List α} {f : α → D} {i : Int} (h0 : 0 ≤ i) (h1 : i < l.length) : getD (.lst (l.map f)) (.int i) = pure (f (ix l i)) := by
  show (match atI (l.map f) i with | some d => pure d | none => bad : PM D) = _
  rw [atI_map, atI_ix h0 h1]
  rfl
theorem ix_map {α β : Type} [Inhabited α] [Inhabited β] {l : List α} {f : α → β} {i : Int} (h0 : 0 ≤ i) (h1 : i < l.length) : ix (l.map f) i = f (ix l i) := by
  have z := ix_get (l := l.map f) h0 (by simpa using h1)
  rw [List.getElem?_map, ix_get h0 h1] at z
  exact (Option.some.inj z).symm
theorem ix_iota {n : Nat} {i : Int} (h0 : 0 ≤ i) (h1 : i < n) : ix (iota n) i = i := by
  have z := ix_get (l := iota n) h0 (by rw [len_iota]; exact h1)
  rw [iota_get (by omega)] at z
  have z := Option.some.inj z
  omega

/-! ### in -/
theorem eqv_int {a b : Int} : eqvD (.int a) (.int b) = (a == b) := rfl
theorem any_int {x : Int} {ns : List Int} : ((ns.map D.int).any fun z => eqvD z (.int x)) = decide (x ∈ ns) := by
  rw [Bool.eq_iff_iff, List.any_eq_true, decide_eq_true_eq]
  constructor
  · rintro ⟨z, hz, e⟩
    obtain ⟨n, hn, rfl⟩ := List.mem_map.mp hz
    rw [eqv_int, beq_iff_eq] at e
    exact e ▸ hn
  · intro h
    exact ⟨.int x, List.mem_map.mpr ⟨x, h, rfl⟩, by rw [eqv_int, beq_iff_eq]⟩
/-- all of them small -/
def SmI (ns : List Int) : Prop := ∀ n ∈ ns, -2 ≤ n ∧ n < 300
theorem SmI.smT {ns : List Int} (h : SmI ns) : Sm 1 ns.length (tI ns) := .tup (c := 0) (fun x m => by
  obtain ⟨n, hn, rfl⟩ := List.mem_map.mp m
  exact .int (h n hn).1 (h n hn).2) (by rw [List.length_map]; omega)
theorem SmI.smL {ns : List Int} (h : SmI ns) : Sm 1 ns.length (lI ns) := .lst (c := 0) (fun x m => by
  obtain ⟨n, hn, rfl⟩ := List.mem_map.mp m
  exact .int (h n hn).1 (h n hn).2) (by rw [List.length_map]; omega)
theorem shpI {x : Int} : shp (.int x) = true := by
  unfold EV.shp SeqAt.shaped
  simp [toPy, PyData.canLay0, PyData.depth]
theorem allI_lay : ∀ ns : List Int, PyData.canLayAll0 (toPyL (ns.map D.int)) = true := fun ns => all_lay fun x m => by
  obtain ⟨n, hn, rfl⟩ := List.mem_map.mp m
  simp [toPy, PyData.canLay0]
theorem allI_deep (ns : List Int) : PyData.depthAll (toPyL (ns.map D.int)) ≤ 0 := all_deep fun x m => by
  obtain ⟨n, hn, rfl⟩ := List.mem_map.mp m
  simp [toPy, PyData.depth]
theorem shpTI (ns : List Int) : shp (tI ns) = true := by
  unfold EV.shp SeqAt.shaped
  have z := allI_deep ns
  simp only [toPy, PyData.canLay0, PyData.depth, allI_lay, Bool.true_and, decide_eq_true_eq]
  omega
theorem shpLI (ns : List Int) : shp (lI ns) = true := by
  unfold EV.shp SeqAt.shaped
  have z := allI_deep ns
  simp only [toPy, PyData.canLay0, PyData.depth, allI_lay, Bool.true_and, decide_eq_true_eq]
  omega
theorem inT (x : Int) (ns : List Int) : inD (.int x) (tI ns) = pure (.bl (decide (x ∈ ns))) := by
  show (if shp (.int x) = true ∧ shp (tI ns) = true then pure (.bl ((ns.map D.int).any fun z => eqvD z (.int x))) else bad : PM D) = _
  rw [if_pos ⟨shpI, shpTI ns⟩, any_int]
theorem inL (x : Int) (ns : List Int) : inD (.int x) (lI ns) = pure (.bl (decide (x ∈ ns))) := by
  show (if shp (.int x) = true ∧ shp (lI ns) = true then pure (.bl ((ns.map D.int).any fun z => eqvD z (.int x))) else bad : PM D) = _
  rw [if_pos ⟨shpI, shpLI ns⟩, any_int]
theorem ninT (x : Int) (ns : List Int) : notInD (.int x) (tI ns) = pure (.bl (!decide (x ∈ ns))) := by
  show (if shp (.int x) = true ∧ shp (tI ns) = true then pure (.bl (!(ns.map D.int).any fun z => eqvD z (.int x))) else bad : PM D) = _
  rw [if_pos ⟨shpI, shpTI ns⟩, any_int]
theorem ninL (x : Int) (ns : List Int) : notInD (.int x) (lI ns) = pure (.bl (!decide (x ∈ ns))) := by
  show (if shp (.int x) = true ∧ shp (lI ns) = true then pure (.bl (!(ns.map D.int).any fun z => eqvD z (.int x))) else bad : PM D) = _
  rw [if_pos ⟨shpI, shpLI ns⟩, any_int]
theorem neInt (a b : Int) : neD (.int a) (.int b) = pure (.bl (decide (a ≠ b))) := by
  show (if shp (.int a) = true ∧ shp (.int b) = true then pure (.bl (!eqvD (.int a) (.int b))) else bad : PM D) = _
  rw [if_pos ⟨shpI, shpI⟩, eqv_int, show (a == b) = decide (a = b) from by rw [Bool.eq_iff_iff, beq_iff_eq, decide_eq_true_eq]]
  by_cases h : a = b <;> simp [h]
theorem eqInt (a b : Int) : eqD (.int a) (.int b) = pure (.bl (decide (a = b))) := by
  show (if shp (.int a) = true ∧ shp (.int b) = true then pure (.bl (eqvD (.int a) (.int b))) else bad : PM D) = _
  rw [if_pos ⟨shpI, shpI⟩, eqv_int, show (a == b) = decide (a = b) from by rw [Bool.eq_iff_iff, beq_iff_eq, decide_eq_true_eq]]

/-! ### comprehensions, loops -/
theorem compG_pure {ι : Type} {dec : D → Option ι} {c : ι → PM Bool} {e : ι → PM D} (b : ι → Bool) (f : ι → D) : ∀ {ds : List D} {zs : List ι}, ds.map dec = zs.map some → (∀ z ∈ zs, c z = pure (b z)) → (∀ z ∈ zs, b z = true → e z = pure (f z)) →
    compG dec c e ds = pure ((zs.filter b).map f)
  | [], [], _, _, _ => rfl
  | [], _ :: _, h, _, _ => by simp at h
  | _ :: _, [], h, _, _ => by simp at h
  | d :: ds, z :: zs, h, hc, he => by
    rw [List.map_cons, List.map_cons] at h
    injection h with h1 h2
    have ih := compG_pure b f h2 (fun y m => hc y (List.mem_cons_of_mem _ m)) (fun y m => he y (List.mem_cons_of_mem _ m))
    unfold compG
    rw [h1]
    show (noExc (c z) >>= _) = _
    rw [hc z List.mem_cons_self, noExc_pure, pure_bind]
    by_cases q : b z = true
    · rw [if_pos q, he z List.mem_cons_self q, noExc_pure, pure_bind, ih, pure_bind, List.filter_cons_of_pos q, List.map_cons]
    · rw [if_neg q, ih, List.filter_cons_of_neg q]
theorem comp_pure {ι : Type} {dec : D → Option ι} {c : ι → PM Bool} {e : ι → PM D} (b : ι → Bool) (f : ι → D) {ds : List D} {zs : List ι} (h : ds.map dec = zs.map some) (hl : ds.length ≤ lim) (hc : ∀ z ∈ zs, c z = pure (b z)) (he : ∀ z ∈ zs, b z = true → e z = pure (f z)) :
    compL dec c e ds = pure ((zs.filter b).map f) := by
  unfold compL
  rw [if_pos hl]
  exact compG_pure b f h hc he
/-- over ints -/
theorem compI {c : D → PM Bool} {e : D → PM D} (b : Int → Bool) (f : Int → D) {ns : List Int} (hl : ns.length ≤ lim) (hc : ∀ n ∈ ns, c (.int n) = pure (b n)) (he : ∀ n ∈ ns, b n = true → e (.int n) = pure (f n)) :
    compL dec1 c e (ns.map D.int) = pure ((ns.filter b).map f) := by
  unfold compL
  rw [if_pos (by rw [List.length_map]; exact hl)]
  clear hl
  induction ns with
  | nil => rfl
  | cons n ns ih =>
    have ih := ih (fun y m => hc y (List.mem_cons_of_mem _ m)) (fun y m => he y (List.mem_cons_of_mem _ m))
    rw [List.map_cons]
    unfold compG
    show (noExc (c (.int n)) >>= _) = _
    rw [hc n List.mem_cons_self, noExc_pure, pure_bind]
    by_cases q : b n = true
    · rw [if_pos q, he n List.mem_cons_self q, noExc_pure, pure_bind, ih, pure_bind, List.filter_cons_of_pos q, List.map_cons]
    · rw [if_neg q, ih, List.filter_cons_of_neg q]
/-- no test -/
theorem compIm {c : D → PM Bool} {e : D → PM D} (f : Int → D) {ns : List Int} (hl : ns.length ≤ lim) (hc : ∀ z, c z = pure true) (he : ∀ n ∈ ns, e (.int n) = pure (f n)) :
    compL dec1 c e (ns.map D.int) = pure (ns.map f) := by
  rw [compI (fun _ => true) f hl (fun n _ => hc _) (fun n m _ => he n m), List.filter_eq_self.mpr fun _ _ => rfl]
theorem compPm {ι κ : Type} {dec : D → Option ι} {c : ι → PM Bool} {e : ι → PM D} (g : κ → ι) (f : κ → D) {ds : List D} {zs : List κ} (h : ds.map dec = zs.map fun z => some (g z)) (hl : ds.length ≤ lim) (hc : ∀ z, c z = pure true) (he : ∀ z ∈ zs, e (g z) = pure (f z)) :
    compL dec c e ds = pure (zs.map f) := by
  unfold compL
  rw [if_pos hl]
  clear hl
  induction zs generalizing ds with
  | nil =>
    cases ds with
    | nil => rfl
    | cons _ _ => simp at h
  | cons z zs ih =>
    cases ds with
    | nil => simp at h
    | cons d ds =>
      rw [List.map_cons, List.map_cons] at h
      injection h with h1 h2
      have ih := ih h2 (fun y m => he y (List.mem_cons_of_mem _ m))
      unfold compG
      rw [h1]
      show (noExc (c (g z)) >>= _) = _
      rw [hc, noExc_pure, pure_bind, if_pos rfl, he z List.mem_cons_self, noExc_pure, pure_bind, ih, pure_bind, List.map_cons]
/-- pairs, with a test -/
theorem compPf {ι κ : Type} {dec : D → Option ι} {c : ι → PM Bool} {e : ι → PM D} (g : κ → ι) (b : κ → Bool) (f : κ → D) {ds : List D} {zs : List κ} (h : ds.map dec = zs.map fun z => some (g z)) (hl : ds.length ≤ lim) (hc : ∀ z ∈ zs, c (g z) = pure (b z)) (he : ∀ z ∈ zs, b z = true → e (g z) = pure (f z)) :
    compL dec c e ds = pure ((zs.filter b).map f) := by
  unfold compL
  rw [if_pos hl]
  clear hl
  induction zs generalizing ds with
  | nil =>
    cases ds with
    | nil => rfl
    | cons _ _ => simp at h
  | cons z zs ih =>
    cases ds with
    | nil => simp at h
    | cons d ds =>
      rw [List.map_cons, List.map_cons] at h
      injection h with h1 h2
      have ih := ih h2 (fun y m => hc y (List.mem_cons_of_mem _ m)) (fun y m => he y (List.mem_cons_of_mem _ m))
      unfold compG
      rw [h1]
      show (noExc (c (g z)) >>= _) = _
      rw [hc z List.mem_cons_self, noExc_pure, pure_bind]
      by_cases q : b z = true
      · rw [if_pos q, he z List.mem_cons_self q, noExc_pure, pure_bind, ih, pure_bind, List.filter_cons_of_pos q, List.map_cons]
      · rw [if_neg q, ih, List.filter_cons_of_neg q]
theorem forL_goP {ι κ : Type} {dec : D → Option ι} {body : Unit → ι → PM (Lp Unit)} (g : κ → ι) {ds : List D} {zs : List κ} (h : ds.map dec = zs.map fun z => some (g z)) (hb : ∀ z ∈ zs, body () (g z) = pure (.go ())) : forL dec body ds () = pure (.go ()) := by
  induction zs generalizing ds with
  | nil =>
    cases ds with
    | nil => rfl
    | cons _ _ => simp at h
  | cons z zs ih =>
    cases ds with
    | nil => simp at h
    | cons d ds =>
      rw [List.map_cons, List.map_cons] at h
      injection h with h1 h2
      unfold forL
      rw [h1]
      show (body () (g z) >>= _) = _
      rw [hb z List.mem_cons_self, pure_bind]
      exact ih h2 fun y m => hb y (List.mem_cons_of_mem _ m)
theorem while_ok {C : Type} {mc : C → PM Bool} {mb : C → PM C} (I : C → Prop) (μ : C → Nat) (Q : C → Prop)
    (h : ∀ c, I c → (mc c = pure false ∧ Q c) ∨ (mc c = pure true ∧ ∃ c', mb c = pure c' ∧ I c' ∧ μ c' < μ c)) : ∀ n c, I c → μ c < n → ∃ c', whileS mc mb n c = pure c' ∧ Q c'
  | 0, c, _, hn => absurd hn (by omega)
  | n + 1, c, hi, hn => by
    rcases h c hi with ⟨e, q⟩ | ⟨e, c', e2, i2, lt⟩
    · exact ⟨c, by unfold whileS; rw [e, pure_bind]; rfl, q⟩
    · obtain ⟨c2, e3, q⟩ := while_ok I μ Q h n c' i2 (by omega)
      exact ⟨c2, by unfold whileS; rw [e, pure_bind, if_pos rfl, e2, pure_bind, e3], q⟩
theorem while_then {C β : Type} {mc : C → PM Bool} {mb : C → PM C} {kk : C → PM β} {v : PM β} {n : Nat} {c : C} (I : C → Prop) (μ : C → Nat) (Q : C → Prop)
    (h : ∀ c, I c → (mc c = pure false ∧ Q c) ∨ (mc c = pure true ∧ ∃ c', mb c = pure c' ∧ I c' ∧ μ c' < μ c)) (hi : I c) (hn : μ c < n) (hk : ∀ c, Q c → kk c = v) : (whileS mc mb n c >>= kk) = v := by
  obtain ⟨c', e, q⟩ := while_ok I μ Q h n c hi hn
  rw [e, pure_bind, hk c' q]
/-- pairs of an enumerate -/
theorem pairs_dec : ∀ (k : Nat) (xs : List D), (pairsFrom k xs).map dec2 = (xs.zipIdx k).map fun z => some (D.int z.2, z.1)
  | _, [] => rfl
  | k, x :: xs => by
    unfold pairsFrom
    rw [List.map_cons, pairs_dec (k + 1) xs, List.zipIdx_cons, List.map_cons]
    rfl
theorem pairs_len : ∀ (k : Nat) (xs : List D), (pairsFrom k xs).length = xs.length
  | _, [] => rfl
  | k, x :: xs => by
    unfold pairsFrom
    rw [List.length_cons, pairs_len (k + 1) xs, List.length_cons]
theorem asc_len : ∀ {l : List Int} {a b : Int}, l.Pairwise (· < ·) → (∀ x ∈ l, a ≤ x ∧ x < b) → l.length ≤ (b - a).toNat
  | [], _, _, _, _ => Nat.zero_le _
  | x :: r, a, b, h, hb => by
    have q := List.pairwise_cons.mp h
    have z := hb x List.mem_cons_self
    have ih := asc_len (l := r) (a := x + 1) (b := b) q.2 fun y m => ⟨by have := q.1 y m; omega, (hb y (List.mem_cons_of_mem _ m)).2⟩
    rw [List.length_cons]
    omega
theorem nodup_len {l : List Int} {n : Nat} (h : l.Nodup) (hb : ∀ x ∈ l, 0 ≤ x ∧ x < n) : l.length ≤ n := by
  have z := asc_len (a := 0) (b := n) (sortI_nodup h) fun x m => hb x ((sortI_perm l).mem_iff.mp m)
  rw [(sortI_perm l).length_eq] at z
  omega
theorem scal_ints (ns : List Int) : scalL (lI ns) = pure (ns.map D.int) := by
  show (if (ns.map D.int).all scalD = true then pure (ns.map D.int) else bad : PM (List D)) = _
  exact if_pos (List.all_eq_true.mpr fun x m => by
    obtain ⟨n, _, rfl⟩ := List.mem_map.mp m
    rfl)
theorem forS_inv {C : Type} {body : C → D → PM C} (P : Nat → C → Prop) : ∀ {ns : List Int} {k : Nat} {c : C}, P k c → (∀ i n c, ns[i]? = some n → P (k + i) c → ∃ c', body c (.int n) = pure c' ∧ P (k + i + 1) c') → ∃ c', forS dec1 body (ns.map D.int) c = pure c' ∧ P (k + ns.length) c'
  | [], k, c, h, _ => ⟨c, rfl, h⟩
  | n :: ns, k, c, h, hb => by
    obtain ⟨c1, e1, h1⟩ := hb 0 n c rfl h
    obtain ⟨c2, e2, h2⟩ := forS_inv P (ns := ns) (k := k + 1) (c := c1) h1 fun i m c hi hp => by
      have z := hb (i + 1) m c hi (by rw [show k + (i + 1) = k + 1 + i by omega]; exact hp)
      rw [show k + (i + 1) + 1 = k + 1 + i + 1 by omega] at z
      exact z
    refine ⟨c2, ?_, by rw [List.length_cons, show k + (ns.length + 1) = k + 1 + ns.length by omega]; exact h2⟩
    rw [List.map_cons]
    show (body c (.int n) >>= forS dec1 body (ns.map D.int)) = _
    rw [e1, pure_bind, e2]
theorem forS_then {C β : Type} {body : C → D → PM C} {kk : C → PM β} {v : PM β} {ns : List Int} {c : C} (P : Nat → C → Prop) (h0 : P 0 c) (hb : ∀ i n c, ns[i]? = some n → P i c → ∃ c', body c (.int n) = pure c' ∧ P (i + 1) c') (hk : ∀ c, P ns.length c → kk c = v) :
    (forS dec1 body (ns.map D.int) c >>= kk) = v := by
  obtain ⟨c', e, q⟩ := forS_inv P (k := 0) h0 fun i n c e h => by
    rw [Nat.zero_add] at h ⊢
    exact hb i n c e h
  rw [Nat.zero_add] at q
  rw [e, pure_bind, hk c' q]
theorem forS_ex {C β : Type} {body : C → D → PM C} {kk : C → PM β} {ns : List Int} {c : C} (R : PM β → Prop) (P : Nat → C → Prop) (h0 : P 0 c) (hb : ∀ i n c, ns[i]? = some n → P i c → ∃ c', body c (.int n) = pure c' ∧ P (i + 1) c') (hk : ∀ c, P ns.length c → R (kk c)) :
    R (forS dec1 body (ns.map D.int) c >>= kk) := by
  obtain ⟨c', e, q⟩ := forS_inv P (k := 0) h0 fun i n c e h => by
    rw [Nat.zero_add] at h ⊢
    exact hb i n c e h
  rw [Nat.zero_add] at q
  rw [e, pure_bind]
  exact hk c' q
theorem enum_lst (xs : List D) : enumF [.lst xs] = pure (pairsFrom 0 xs) := rfl
theorem enum_tup (xs : List D) : enumF [.tup xs] = pure (pairsFrom 0 xs) := rfl
theorem forL_go {body : Unit → D → PM (Lp Unit)} {ns : List Int} (h : ∀ n ∈ ns, body () (.int n) = pure (.go ())) : forL dec1 body (ns.map D.int) () = pure (.go ()) := by
  induction ns with
  | nil => rfl
  | cons n ns ih =>
    rw [List.map_cons]
    show (body () (.int n) >>= _) = _
    rw [h n List.mem_cons_self, pure_bind]
    exact ih fun m hm => h m (List.mem_cons_of_mem _ hm)

/-! ### with the pen: what surely holds after -/
def Ok {α : Type} (m : PM α) (s : List Int) (Q : α → List Int → Prop) : Prop := ∃ a s', m s = .ok a s' ∧ Q a s'
section
variable {α β : Type} {m : PM α} {s : List Int} {Q : α → List Int → Prop}
theorem Ok.pure {a : α} (h : Q a s) : Ok (Pure.pure a) s Q := ⟨a, s, rfl, h⟩
theorem Ok.bind {f : α → PM β} {Q : β → List Int → Prop} (h : Ok m s fun a s' => Ok (f a) s' Q) : Ok (m >>= f) s Q := by
  obtain ⟨a, s1, e, b, s2, e2, q⟩ := h
  exact ⟨b, s2, by rw [PM.bind_def, e]; exact e2, q⟩
theorem Ok.imp {Q' : α → List Int → Prop} (h : Ok m s Q) (i : ∀ a s', Q a s' → Q' a s') : Ok m s Q' := by
  obtain ⟨a, s1, e, q⟩ := h
  exact ⟨a, s1, e, i _ _ q⟩
theorem Ok.noExc (h : Ok m s Q) : Ok (noExc m) s Q := by
  obtain ⟨a, s1, e, q⟩ := h
  exact ⟨a, s1, by unfold EV.noExc; rw [e], q⟩
theorem Ok.run0 (h : Ok m [] fun a _ => Q a s) : Ok (run0 m) s Q := by
  obtain ⟨a, s1, e, q⟩ := h
  exact ⟨a, s, by unfold EV.run0; rw [e], q⟩
theorem Ok.withPen {ns : List Int} (h : Ok m ns fun a _ => Q a s) : Ok (withPen ns m) s Q := by
  obtain ⟨a, s1, e, q⟩ := h
  exact ⟨a, s, by unfold EV.withPen; rw [e], q⟩
/-- a comprehension: each step keeps I; what comes out satisfies F at a name that passed -/
theorem Ok.comp {c : D → PM Bool} {e : D → PM D} {I : Nat → List Int → Prop} {ns : List Int} {F : List Int → Prop} {k t : Nat} {s : List Int} (hl : ns.length ≤ lim) (h0 : I k s)
    (hc : ∀ n ∈ ns, ∀ k s, I k s → Ok (c (.int n)) s fun _ s' => I (k + t) s') (he : ∀ n ∈ ns, e (.int n) = Pure.pure (.int n)) :
    Ok (compL dec1 c e (ns.map D.int)) s fun r s' => I (k + ns.length * t) s' ∧ ∃ ms : List Int, ms.Sublist ns ∧ r = ms.map D.int := by
  unfold compL
  rw [if_pos (by rw [List.length_map]; exact hl)]
  clear hl
  induction ns generalizing k s with
  | nil => exact ⟨[], s, rfl, by simpa using h0, [], .slnil, rfl⟩
  | cons n ns ih =>
    rw [List.map_cons]
    unfold compG
    show Ok (EV.noExc (c (.int n)) >>= _) s _
    refine Ok.bind ((hc n List.mem_cons_self k s h0).noExc.imp fun b s1 h1 => ?_)
    have hk : k + t + ns.length * t = k + (n :: ns).length * t := by
      rw [List.length_cons, Nat.succ_mul]
      omega
    cases b with
    | true =>
      rw [if_pos rfl, he n List.mem_cons_self, noExc_pure, pure_bind]
      refine Ok.bind ((ih h1 (fun m hm => hc m (List.mem_cons_of_mem _ hm)) (fun m hm => he m (List.mem_cons_of_mem _ hm))).imp fun r s2 ⟨h2, ms, hs, er⟩ => ?_)
      refine Ok.pure ⟨by rw [← hk]; exact h2, n :: ms, hs.cons₂ n, by rw [er]; rfl⟩
    | false =>
      rw [if_neg (by decide)]
      refine (ih h1 (fun m hm => hc m (List.mem_cons_of_mem _ hm)) (fun m hm => he m (List.mem_cons_of_mem _ hm))).imp fun r s2 ⟨h2, ms, hs, er⟩ => ?_
      exact ⟨by rw [← hk]; exact h2, ms, hs.cons n, er⟩
theorem Ok.forS {C : Type} {body : C → D → PM C} (P : Nat → C → List Int → Prop) : ∀ {ns : List Int} {k : Nat} {c : C} {s : List Int}, P k c s → (∀ i n c s, ns[i]? = some n → P (k + i) c s → Ok (body c (.int n)) s fun c' s' => P (k + i + 1) c' s') →
    Ok (EV.forS dec1 body (ns.map D.int) c) s fun c' s' => P (k + ns.length) c' s'
  | [], k, c, s, h, _ => Ok.pure h
  | n :: ns, k, c, s, h, hb => by
    rw [List.map_cons]
    show Ok (body c (.int n) >>= EV.forS dec1 body (ns.map D.int)) s _
    refine Ok.bind ((hb 0 n c s rfl h).imp fun c1 s1 h1 => ?_)
    refine (Ok.forS P (ns := ns) (k := k + 1) h1 fun i m c s hi hp => ?_).imp fun c2 s2 h2 => by
      rw [List.length_cons, show k + (ns.length + 1) = k + 1 + ns.length by omega]
      exact h2
    have z := hb (i + 1) m c s hi (by rw [show k + (i + 1) = k + 1 + i by omega]; exact hp)
    rw [show k + (i + 1) + 1 = k + 1 + i + 1 by omega] at z
    exact z
theorem Ok.forL {body : Unit → D → PM (Lp Unit)} (I : Nat → List Int → Prop) {t : Nat} : ∀ {ns : List Int} {k : Nat} {s : List Int}, I k s → (∀ n ∈ ns, ∀ j s, k ≤ j → j ≤ k + ns.length * t → I j s → Ok (body () (.int n)) s fun r s' => r = .go () ∧ I (j + t) s') →
    Ok (EV.forL dec1 body (ns.map D.int) ()) s fun r s' => r = .go () ∧ I (k + ns.length * t) s'
  | [], k, s, h, _ => Ok.pure ⟨rfl, by simpa using h⟩
  | n :: ns, k, s, h, hb => by
    have hk : k + t + ns.length * t = k + (n :: ns).length * t := by
      rw [List.length_cons, Nat.succ_mul]
      omega
    rw [List.map_cons]
    show Ok (body () (.int n) >>= _) s _
    refine Ok.bind ((hb n List.mem_cons_self k s (Nat.le_refl _) (by omega) h).imp fun r s1 ⟨er, h1⟩ => ?_)
    subst er
    refine (Ok.forL I (ns := ns) (k := k + t) h1 fun m hm j s h1 h2 hi => hb m (List.mem_cons_of_mem _ hm) j s (by omega) (by omega) hi).imp fun r s2 ⟨e2, h2⟩ => ?_
    exact ⟨e2, by rw [← hk]; exact h2⟩
end
end EV

namespace EV
open PySem
def cNet : Addr := 359
def tab_Net : List (Addr × Bool) := [(cNet, true)]
end EV

namespace Lw
open PySem EV
def f_reach_of (a0 a1 : D) : PM D := ((((pure a1) >>= fun d2 => (pure []) >>= fun s3 => pure (d2 :: s3)) >>= okL) >>= fun xs1 => ((pure (D.int 0)) >>= fun v4 => (whileS (fun (c5 : D × List D) => (noExc (((pure c5.1) >>= fun x8 => ((((pure (D.lst c5.2)) >>= fun d6 => (pure []) >>= fun s7 => pure (d6 :: s7)) >>= lenF)) >>= fun x9 => ltD x8 x9 >>= asB)))) (fun (c5 : D × List D) => ((noExc ((((((pure a0) >>= fun x12 => (((pure (D.lst c5.2)) >>= fun x10 => (pure c5.1) >>= fun x11 => getD x10 x11)) >>= fun x13 => getD x12 x13)) >>= itemsD) >>= fun l17 => compL dec1 (fun z14 => ((pure z14) >>= fun x15 => (pure (D.lst c5.2)) >>= fun x16 => notInD x15 x16 >>= asB)) (fun z14 => pure z14) l17 >>= fun r18 => pure (D.lst r18))) >>= scalL >>= fun ys19 => okLen (c5.2 ++ ys19) >>= fun _ => ((((pure c5.1) >>= fun x21 => (pure (D.int 1)) >>= fun x22 => addD x21 x22)) >>= fun v20 => pure (v20, (c5.2 ++ ys19)))) : PM (D × List D))) 20 (v4, xs1) >>= fun c5 => ((((((((pure (D.lst c5.2)) >>= fun d23 => (pure []) >>= fun s24 => pure (d23 :: s24)) >>= sortedG)) >>= fun d25 => (pure []) >>= fun s26 => pure (d25 :: s26)) >>= tupleF)) >>= fun d27 => pure (id d27)))))
def f_all_reaches (a0 : D) : PM D := (((((((((pure a0) >>= fun d1 => (pure []) >>= fun s2 => pure (d1 :: s2)) >>= lenF)) >>= fun d3 => (pure []) >>= fun s4 => pure (d3 :: s4)) >>= rangeF1) >>= fun l11 => compL dec1 (fun z5 => pure true) (fun z5 => (((pure a0) >>= fun d8 => ((pure z5) >>= fun d6 => (pure []) >>= fun s7 => pure (d6 :: s7)) >>= fun s9 => pure (d8 :: s9)) >>= fun s10 => run0 (fn2 f_reach_of s10))) l11 >>= fun r12 => pure (D.lst r12))) >>= fun d13 => pure (id d13))
def f_do_meet (a0 a1 : D) : PM D := ((((((((pure a0) >>= itemsD) >>= fun l4 => compL dec1 (fun z1 => pure true) (fun z1 => ((pure z1) >>= fun x2 => (pure a1) >>= fun x3 => inD x2 x3)) l4 >>= fun r5 => pure (D.lst r5))) >>= fun d6 => (pure []) >>= fun s7 => pure (d6 :: s7)) >>= anyF)) >>= fun d8 => pure (id d8))
def f_alarms_of (a0 a1 : D) : PM D := ((((((((((((pure a0) >>= fun d1 => (pure []) >>= fun s2 => pure (d1 :: s2)) >>= fun s3 => run0 (fn1 f_all_reaches s3))) >>= fun d4 => (pure []) >>= fun s5 => pure (d4 :: s5)) >>= enumF) >>= fun l12 => compL dec2 (fun z6 => (((((pure z6.2) >>= fun d9 => ((pure a1) >>= fun d7 => (pure []) >>= fun s8 => pure (d7 :: s8)) >>= fun s10 => pure (d9 :: s10)) >>= fun s11 => run0 (fn2 f_do_meet s11))) >>= asB)) (fun z6 => pure z6.1) l12 >>= fun r13 => pure (D.lst r13))) >>= fun d14 => (pure []) >>= fun s15 => pure (d14 :: s15)) >>= tupleF)) >>= fun d16 => pure (id d16))
def f_is_between (a0 a1 a2 : D) : PM D := ((((((pure a0) >>= isF "int")) >>= fun d10 => asB d10 >>= fun b11 => if b11 = true then ((((((pure a0) >>= isF "bool")) >>= fun d1 => asB d1 >>= fun b2 => pure (D.bl (!b2)))) >>= fun d8 => asB d8 >>= fun b9 => if b9 = true then ((pure a1) >>= fun x3 => (pure a0) >>= fun x4 => leD x3 x4 >>= fun x5 => asB x5 >>= fun x6 => if x6 = true then (pure a2) >>= fun x7 => leD x4 x7 else pure (D.bl false)) else pure (D.bl false)) else pure (D.bl false))) >>= fun d12 => pure (id d12))
def f_is_rising (a0 a1 : D) : PM D := ((((((((((pure a1) >>= isF "tuple")) >>= asB)) >>= fun b1 => pure (!b1))) >>= fun b17 => if b17 = true then pure true else ((((((((((pure a1) >>= itemsD) >>= fun l12 => compL dec1 (fun z2 => pure true) (fun z2 => (((pure z2) >>= fun d9 => ((pure (D.int 0)) >>= fun d7 => ((((pure a0) >>= fun x3 => (pure (D.int 1)) >>= fun x4 => subD x3 x4)) >>= fun d5 => (pure []) >>= fun s6 => pure (d5 :: s6)) >>= fun s8 => pure (d7 :: s8)) >>= fun s10 => pure (d9 :: s10)) >>= fun s11 => run0 (fn3 f_is_between s11))) l12 >>= fun r13 => pure (D.lst r13))) >>= fun d14 => (pure []) >>= fun s15 => pure (d14 :: s15)) >>= allF)) >>= asB)) >>= fun b16 => pure (!b16)))) >>= fun b18 => if b18 = true then ((pure (D.bl false)) >>= fun d19 => pure (id d19)) else (((((((((pure a1) >>= fun d25 => ((((pure a1) >>= fun x20 => (((pure (D.int 1)) >>= asI)) >>= fun x21 => (pure none) >>= fun x22 => sliceD x20 x21 x22)) >>= fun d23 => (pure []) >>= fun s24 => pure (d23 :: s24)) >>= fun s26 => pure (d25 :: s26)) >>= zipF) >>= fun l30 => compL dec2 (fun z27 => pure true) (fun z27 => ((pure z27.1) >>= fun x28 => (pure z27.2) >>= fun x29 => ltD x28 x29)) l30 >>= fun r31 => pure (D.lst r31))) >>= fun d32 => (pure []) >>= fun s33 => pure (d32 :: s33)) >>= allF)) >>= fun d34 => pure (id d34)))
def g_need_set (a0 a1 : D) : PM Unit := ((((((((((((pure a0) >>= fun d3 => (pure []) >>= fun s4 => pure (d3 :: s4)) >>= lenF)) >>= fun d5 => ((pure a1) >>= fun d1 => (pure []) >>= fun s2 => pure (d1 :: s2)) >>= fun s6 => pure (d5 :: s6)) >>= fun s7 => run0 (fn2 f_is_rising s7))) >>= asB)) >>= fun b8 => pure (!b8))) >>= fun b9 => if b9 = true then raiseP ⟨"SetError", []⟩ else pure ())
def f_need_set (a0 a1 : D) : PM D := g_need_set a0 a1 >>= fun _ => pure D.non
def f_Net_call (a0 a1 : D) : PM D := (((((((pure a0) >>= fldD cNet "own_needs")) >>= fun d3 => ((pure a1) >>= fun d1 => (pure []) >>= fun s2 => pure (d1 :: s2)) >>= fun s4 => pure (d3 :: s4)) >>= fun s5 => run0 (fn2 f_need_set s5))) >>= fun _ => (((((((pure a0) >>= fldD cNet "own_needs")) >>= fun d8 => ((pure a1) >>= fun d6 => (pure []) >>= fun s7 => pure (d6 :: s7)) >>= fun s9 => pure (d8 :: s9)) >>= fun s10 => run0 (fn2 f_alarms_of s10))) >>= fun d11 => pure (id d11)))
def g_need_component (a0 a1 : D) : PM Unit := (((((((((pure a1) >>= fun d9 => ((pure (D.int 0)) >>= fun d7 => (((((((pure a0) >>= fun d1 => (pure []) >>= fun s2 => pure (d1 :: s2)) >>= lenF)) >>= fun x3 => (pure (D.int 1)) >>= fun x4 => subD x3 x4)) >>= fun d5 => (pure []) >>= fun s6 => pure (d5 :: s6)) >>= fun s8 => pure (d7 :: s8)) >>= fun s10 => pure (d9 :: s10)) >>= fun s11 => run0 (fn3 f_is_between s11))) >>= asB)) >>= fun b12 => pure (!b12))) >>= fun b13 => if b13 = true then raiseP ⟨"ComponentError", []⟩ else pure ())
def f_need_component (a0 a1 : D) : PM D := g_need_component a0 a1 >>= fun _ => pure D.non
def f_Net_getitem (a0 a1 : D) : PM D := (((((((pure a0) >>= fldD cNet "own_needs")) >>= fun d3 => ((pure a1) >>= fun d1 => (pure []) >>= fun s2 => pure (d1 :: s2)) >>= fun s4 => pure (d3 :: s4)) >>= fun s5 => run0 (fn2 f_need_component s5))) >>= fun _ => (((((((pure a0) >>= fldD cNet "own_needs")) >>= fun d8 => ((pure a1) >>= fun d6 => (pure []) >>= fun s7 => pure (d6 :: s7)) >>= fun s9 => pure (d8 :: s9)) >>= fun s10 => run0 (fn2 f_reach_of s10))) >>= fun d11 => pure (id d11)))
def f_Net_needs (a0 : D) : PM D := ((((pure a0) >>= fldD cNet "own_needs")) >>= fun d1 => pure (id d1))
def f_is_net (a0 : D) : PM D := ((((((((((pure a0) >>= isF "tuple")) >>= asB)) >>= fun b1 => pure (!b1))) >>= fun b10 => if b10 = true then pure true else ((((pure (D.int 1)) >>= fun x4 => ((((pure a0) >>= fun d2 => (pure []) >>= fun s3 => pure (d2 :: s3)) >>= lenF)) >>= fun x5 => leD x4 x5 >>= fun x6 => asB x6 >>= fun x7 => if x7 = true then (pure (D.int 8)) >>= fun x8 => leD x5 x8 >>= asB else pure false)) >>= fun b9 => pure (!b9)))) >>= fun b11 => if b11 = true then ((pure (D.bl false)) >>= fun d12 => pure (id d12)) else ((((pure a0) >>= fun d13 => (pure []) >>= fun s14 => pure (d13 :: s14)) >>= enumF) >>= fun l17 => forL dec2 (fun (c15 : Unit) z16 => (((((((((((((((pure a0) >>= fun d20 => (pure []) >>= fun s21 => pure (d20 :: s21)) >>= lenF)) >>= fun d22 => ((pure z16.2) >>= fun d18 => (pure []) >>= fun s19 => pure (d18 :: s19)) >>= fun s23 => pure (d22 :: s23)) >>= fun s24 => run0 (fn2 f_is_rising s24))) >>= asB)) >>= fun b25 => pure (!b25))) >>= fun b28 => if b28 = true then pure true else ((pure z16.1) >>= fun x26 => (pure z16.2) >>= fun x27 => inD x26 x27 >>= asB))) >>= fun b29 => if b29 = true then ((pure (D.bl false)) >>= fun d30 => pure (Lp.ret d30)) else pure (.go ())) : PM (Lp (Unit)))) l17 () >>= lpK id fun c15 => ((pure (D.bl true)) >>= fun d31 => pure (id d31))))
def f_Net_init (a0 : D) : PM (List D) := (((((((((pure a0) >>= fun d1 => (pure []) >>= fun s2 => pure (d1 :: s2)) >>= fun s3 => run0 (fn1 f_is_net s3))) >>= asB)) >>= fun b4 => pure (!b4))) >>= fun b5 => if b5 = true then raiseP ⟨"NetError", []⟩ else ((pure a0) >>= fun d6 => pure (([] : List D) ++ [d6])))
def f_Net_ring (a0 : D) : PM D := (((((((((pure a0) >>= fun d5 => ((pure (D.int 1)) >>= fun d3 => ((pure (D.int 8)) >>= fun d1 => (pure []) >>= fun s2 => pure (d1 :: s2)) >>= fun s4 => pure (d3 :: s4)) >>= fun s6 => pure (d5 :: s6)) >>= fun s7 => run0 (fn3 f_is_between s7))) >>= asB)) >>= fun b8 => pure (!b8))) >>= fun b9 => if b9 = true then raiseP ⟨"NumberError", []⟩ else ((((((pure a0) >>= fun x11 => (pure (D.int 1)) >>= fun x12 => gtD x11 x12 >>= asB)) >>= fun b26 => if b26 = true then ((((pure a0) >>= fun d13 => (pure []) >>= fun s14 => pure (d13 :: s14)) >>= rangeF1) >>= fun l22 => compL dec1 (fun z15 => pure true) (fun z15 => (((((((pure z15) >>= fun x16 => (pure (D.int 1)) >>= fun x17 => addD x16 x17)) >>= fun x18 => (pure a0) >>= fun x19 => modD x18 x19)) >>= fun d20 => (pure []) >>= fun s21 => pure (d20 :: s21)) >>= mkT)) l22 >>= fun r23 => pure (D.lst r23)) else (((((pure []) >>= mkT)) >>= fun d24 => (pure []) >>= fun s25 => pure (d24 :: s25)) >>= mkL))) >>= fun v10 => ((((pure v10) >>= fun d27 => itemsD d27 >>= fun s28 => mkT s28 >>= fun t29 => newO cNet ["own_needs"] (fnL1 f_Net_init) [t29])) >>= fun d30 => pure (id d30))))
def f_rings_of (a0 : D) : PM D := (((((pure a0) >>= fun d2 => (pure []) >>= fun s3 => pure (d2 :: s3)) >>= fun s4 => run0 (fn1 f_all_reaches s4))) >>= fun v1 => (((pure []) >>= okL) >>= fun xs5 => ((((pure v1) >>= fun d6 => (pure []) >>= fun s7 => pure (d6 :: s7)) >>= enumF) >>= fun l10 => forS dec2 (fun (c8 : List D) z9 => (((((((((pure z9.2) >>= itemsD) >>= fun l17 => compL dec1 (fun z12 => ((pure z9.1) >>= fun x15 => (((pure v1) >>= fun x13 => (pure z12) >>= fun x14 => getD x13 x14)) >>= fun x16 => inD x15 x16 >>= asB)) (fun z12 => pure z12) l17 >>= fun r18 => pure (D.lst r18))) >>= fun d19 => (pure []) >>= fun s20 => pure (d19 :: s20)) >>= tupleF)) >>= fun v11 => (((noExc (((pure v11) >>= fun x21 => (pure (D.lst c8)) >>= fun x22 => notInD x21 x22 >>= asB)))) >>= fun b24 => (if b24 = true then (((pure v11) >>= fun d26 => okLen (c8 ++ [d26]) >>= fun _ => pure (c8 ++ [d26])) : PM (List D)) else pure c8) >>= fun j25 => pure j25)) : PM (List D))) l10 xs5 >>= fun c8 => (((((pure (D.lst c8)) >>= fun d27 => (pure []) >>= fun s28 => pure (d27 :: s28)) >>= tupleF)) >>= fun d29 => pure (id d29)))))
def f_Net_rings (a0 : D) : PM D := (((((((pure a0) >>= fldD cNet "own_needs")) >>= fun d1 => (pure []) >>= fun s2 => pure (d1 :: s2)) >>= fun s3 => run0 (fn1 f_rings_of s3))) >>= fun d4 => pure (id d4))
def f_law_cell (ns : List Int) (a0 : D) : PM D := ((((pure a0) >>= fun x1 => (pure (D.int ns.length)) >>= fun x2 => ltD x1 x2 >>= asB)) >>= fun b3 => if b3 = true then ((((pure a0) >>= scrGet ns)) >>= fun d4 => pure (id d4)) else ((pure (D.int 0)) >>= fun d5 => pure (id d5)))
def f_law_due (a0 : D) : PM D := ((((pure a0) >>= fun x1 => (pure (D.int 1)) >>= fun x2 => eqD x1 x2 >>= asB)) >>= fun b3 => if b3 = true then (((((((pure []) >>= mkT)) >>= fun d4 => (pure []) >>= fun s5 => pure (d4 :: s5)) >>= mkT)) >>= fun d6 => pure (id d6)) else (((((((((((((pure a0) >>= fun x7 => (pure (D.int 1)) >>= fun x8 => subD x7 x8)) >>= fun d9 => (pure []) >>= fun s10 => pure (d9 :: s10)) >>= rangeF1) >>= fun l16 => compL dec1 (fun z11 => pure true) (fun z11 => (((((pure z11) >>= fun x12 => (pure (D.int 1)) >>= fun x13 => addD x12 x13)) >>= fun d14 => (pure []) >>= fun s15 => pure (d14 :: s15)) >>= mkT)) l16 >>= fun r17 => pure (D.lst r17))) >>= fun d18 => (pure []) >>= fun s19 => pure (d18 :: s19)) >>= tupleF)) >>= fun x24 => (((((((pure (D.int 0)) >>= fun d20 => (pure []) >>= fun s21 => pure (d20 :: s21)) >>= mkT)) >>= fun d22 => (pure []) >>= fun s23 => pure (d22 :: s23)) >>= mkT)) >>= fun x25 => addD x24 x25)) >>= fun d26 => pure (id d26)))
def f_law_is_same_step (rec : D → D → PM D) (a0 a1 : D) : PM D := ((((((pure a1) >>= isF "tuple")) >>= asB)) >>= fun b1 => if b1 = true then ((((((((((pure a0) >>= isF "tuple")) >>= asB)) >>= fun b2 => pure (!b2))) >>= fun b9 => if b9 = true then pure true else (((((pure a0) >>= fun d3 => (pure []) >>= fun s4 => pure (d3 :: s4)) >>= lenF)) >>= fun x7 => ((((pure a1) >>= fun d5 => (pure []) >>= fun s6 => pure (d5 :: s6)) >>= lenF)) >>= fun x8 => neD x7 x8 >>= asB))) >>= fun b10 => if b10 = true then ((pure (D.bl false)) >>= fun d11 => pure (id d11)) else ((((((((((((pure a1) >>= fun d12 => (pure []) >>= fun s13 => pure (d12 :: s13)) >>= lenF)) >>= fun d14 => (pure []) >>= fun s15 => pure (d14 :: s15)) >>= rangeF1) >>= fun l26 => compL dec1 (fun z16 => pure true) (fun z16 => (((((pure a0) >>= fun x21 => (pure z16) >>= fun x22 => getD x21 x22)) >>= fun d23 => ((((pure a1) >>= fun x17 => (pure z16) >>= fun x18 => getD x17 x18)) >>= fun d19 => (pure []) >>= fun s20 => pure (d19 :: s20)) >>= fun s24 => pure (d23 :: s24)) >>= fun s25 => run0 (fn2 rec s25))) l26 >>= fun r27 => pure (D.lst r27))) >>= fun d28 => (pure []) >>= fun s29 => pure (d28 :: s29)) >>= allF)) >>= fun d30 => pure (id d30))) else ((((pure a1) >>= fun x31 => (pure D.non) >>= fun x32 => isND x31 x32 >>= asB)) >>= fun b33 => if b33 = true then ((((pure a0) >>= fun x34 => (pure D.non) >>= fun x35 => isND x34 x35)) >>= fun d36 => pure (id d36)) else ((((((pure a1) >>= isF "str")) >>= asB)) >>= fun b37 => if b37 = true then ((((((pure a0) >>= isF "str")) >>= fun d40 => asB d40 >>= fun b41 => if b41 = true then ((pure a0) >>= fun x38 => (pure a1) >>= fun x39 => eqD x38 x39) else pure (D.bl false))) >>= fun d42 => pure (id d42)) else ((((((((((pure a0) >>= isF "int")) >>= asB)) >>= fun b43 => pure (!b43))) >>= fun b46 => if b46 = true then pure true else ((((pure a0) >>= isF "bool")) >>= fun x44 => (((pure a1) >>= isF "bool")) >>= fun x45 => neD x44 x45 >>= asB))) >>= fun b47 => if b47 = true then ((pure (D.bl false)) >>= fun d48 => pure (id d48)) else ((((pure a0) >>= fun x49 => (pure a1) >>= fun x50 => eqD x49 x50)) >>= fun d51 => pure (id d51))))))
def f_law_is_same : Nat → D → D → PM D
  | 0 => fun _ _ => bad
  | n + 1 => f_law_is_same_step (f_law_is_same n)
def f_law_draws (a0 a1 : D) : PM D := (((pure []) >>= okL) >>= fun xs1 => ((((pure a0) >>= fun x4 => (((pure (D.int 10)) >>= fun x2 => (pure (D.int 18)) >>= fun x3 => powD x2 x3)) >>= fun x5 => geD x4 x5 >>= asB)) >>= fun b6 => if b6 = true then ((((pure a0) >>= fun x10 => (((pure (D.int 10)) >>= fun x8 => (pure (D.int 18)) >>= fun x9 => powD x8 x9)) >>= fun x11 => subD x10 x11)) >>= fun v7 => (((pure a1) >>= itemsD) >>= fun l14 => forS dec1 (fun (c12 : D × List D) z13 => (((((pure c12.1) >>= fun x15 => (pure z13) >>= fun x16 => modD x15 x16)) >>= fun d17 => okLen (c12.2 ++ [d17]) >>= fun _ => ((((pure c12.1) >>= fun x19 => (pure z13) >>= fun x20 => fdivD x19 x20)) >>= fun v18 => pure (v18, (c12.2 ++ [d17])))) : PM (D × List D))) l14 (v7, xs1) >>= fun c12 => ((pure (D.lst c12.2)) >>= fun d21 => pure (id d21)))) else (((((((pure a1) >>= fun d22 => (pure []) >>= fun s23 => pure (d22 :: s23)) >>= lenF)) >>= fun d24 => (pure []) >>= fun s25 => pure (d24 :: s25)) >>= rangeF1) >>= fun l28 => forS dec1 (fun (c26 : List D) z27 => (((((((((((pure a0) >>= fun x30 => (pure (D.int 48271)) >>= fun x31 => mulD x30 x31)) >>= fun x34 => (((pure z27) >>= fun x32 => (pure (D.int 69621)) >>= fun x33 => mulD x32 x33)) >>= fun x35 => addD x34 x35)) >>= fun x36 => (pure (D.int 11)) >>= fun x37 => addD x36 x37)) >>= fun x38 => (pure (D.int 2147483647)) >>= fun x39 => modD x38 x39)) >>= fun v29 => ((((((((pure v29) >>= fun x41 => (pure (D.int 16807)) >>= fun x42 => mulD x41 x42)) >>= fun x43 => (pure z27) >>= fun x44 => addD x43 x44)) >>= fun x45 => (pure (D.int 998244353)) >>= fun x46 => modD x45 x46)) >>= fun v40 => ((((pure v40) >>= fun x49 => (((pure a1) >>= fun x47 => (pure z27) >>= fun x48 => getD x47 x48)) >>= fun x50 => modD x49 x50)) >>= fun d51 => okLen (c26 ++ [d51]) >>= fun _ => pure (c26 ++ [d51])))) : PM (List D))) l28 xs1 >>= fun c26 => ((pure (D.lst c26)) >>= fun d52 => pure (id d52)))))
def f_law_set (a0 a1 : D) : PM D := (((((pure a0) >>= fun d8 => (((((((pure (D.int 3)) >>= fun d2 => (pure []) >>= fun s3 => pure (d2 :: s3)) >>= mkL)) >>= fun x4 => (pure a1) >>= fun x5 => mulL x4 x5)) >>= fun d6 => (pure []) >>= fun s7 => pure (d6 :: s7)) >>= fun s9 => pure (d8 :: s9)) >>= fun s10 => run0 (fn2 f_law_draws s10))) >>= fun v1 => (((((((((pure a1) >>= fun d11 => (pure []) >>= fun s12 => pure (d11 :: s12)) >>= rangeF1) >>= fun l18 => compL dec1 (fun z13 => ((((pure v1) >>= fun x14 => (pure z13) >>= fun x15 => getD x14 x15)) >>= fun x16 => (pure (D.int 0)) >>= fun x17 => eqD x16 x17 >>= asB)) (fun z13 => pure z13) l18 >>= fun r19 => pure (D.lst r19))) >>= fun d20 => (pure []) >>= fun s21 => pure (d20 :: s21)) >>= tupleF)) >>= fun d22 => pure (id d22)))
def f_law (ns : List Int) : PM D := ((((pure (D.int 1)) >>= fun d3 => ((pure (D.int 9)) >>= fun d1 => (pure []) >>= fun s2 => pure (d1 :: s2)) >>= fun s4 => pure (d3 :: s4)) >>= rangeF2) >>= fun l7 => forL dec1 (fun (c5 : Option D) z6 => ((((((pure z6) >>= fun d9 => (pure []) >>= fun s10 => pure (d9 :: s10)) >>= fun s11 => run0 (fn1 f_Net_ring s11))) >>= fun v8 => ((((pure z6) >>= fun d13 => rg1 d13 >>= mkT)) >>= fun v12 => (((((((pure v8) >>= fun d37 => noExc (methD cNet (fn1 f_Net_needs) d37 []))) >>= fun d38 => ((((((pure v8) >>= fun d33 => objD cNet "ring" d33 >>= fun _ => ((pure z6) >>= fun d30 => (pure []) >>= fun s31 => pure (d30 :: s31)) >>= fun s32 => run0 (fn1 f_Net_ring s32))) >>= fun d34 => noExc (methD cNet (fn1 f_Net_needs) d34 []))) >>= fun d35 => ((((pure v8) >>= fun d27 => noExc (methD cNet (fn1 f_Net_rings) d27 []))) >>= fun d28 => ((((pure v8) >>= fun x23 => (((pure z6) >>= fun x21 => (pure (D.int 1)) >>= fun x22 => subD x21 x22)) >>= fun x24 => methD cNet (fn2 f_Net_getitem) x23 [x24])) >>= fun d25 => ((((pure v8) >>= fun d17 => objD cNet "" d17 >>= fun _ => ((((pure []) >>= mkT)) >>= fun d15 => (pure []) >>= fun s16 => pure (d15 :: s16)) >>= fun s18 => methD cNet (fn2 f_Net_call) d17 s18)) >>= fun d19 => (pure []) >>= fun s20 => pure (d19 :: s20)) >>= fun s26 => pure (d25 :: s26)) >>= fun s29 => pure (d28 :: s29)) >>= fun s36 => pure (d35 :: s36)) >>= fun s39 => pure (d38 :: s39)) >>= mkT)) >>= fun v14 => (((((((((pure v14) >>= fun d60 => ((((((((pure z6) >>= fun d53 => (pure []) >>= fun s54 => pure (d53 :: s54)) >>= fun s55 => run0 (fn1 f_law_due s55))) >>= fun d56 => (((((pure z6) >>= fun d48 => (pure []) >>= fun s49 => pure (d48 :: s49)) >>= fun s50 => run0 (fn1 f_law_due s50))) >>= fun d51 => (((((pure v12) >>= fun d44 => (pure []) >>= fun s45 => pure (d44 :: s45)) >>= mkT)) >>= fun d46 => ((pure v12) >>= fun d42 => ((((pure []) >>= mkT)) >>= fun d40 => (pure []) >>= fun s41 => pure (d40 :: s41)) >>= fun s43 => pure (d42 :: s43)) >>= fun s47 => pure (d46 :: s47)) >>= fun s52 => pure (d51 :: s52)) >>= fun s57 => pure (d56 :: s57)) >>= mkT)) >>= fun d58 => (pure []) >>= fun s59 => pure (d58 :: s59)) >>= fun s61 => pure (d60 :: s61)) >>= fun s62 => run0 (fn2 (f_law_is_same 5) s62))) >>= asB)) >>= fun b63 => pure (!b63))) >>= fun b64 => if b64 = true then ((pure (D.bl false)) >>= fun d65 => pure (Lp.ret d65)) else ((((pure (D.int 3)) >>= fun d66 => (pure []) >>= fun s67 => pure (d66 :: s67)) >>= rangeF1) >>= fun l70 => forL dec1 (fun (c68 : Unit) z69 => (((((((((pure z69) >>= fun d74 => (pure []) >>= fun s75 => pure (d74 :: s75)) >>= fun s76 => run0 (fn1 (f_law_cell ns) s76))) >>= fun d77 => ((pure z6) >>= fun d72 => (pure []) >>= fun s73 => pure (d72 :: s73)) >>= fun s78 => pure (d77 :: s78)) >>= fun s79 => run0 (fn2 f_law_set s79))) >>= fun v71 => (((((((((((pure v8) >>= fun d87 => objD cNet "" d87 >>= fun _ => ((pure v71) >>= fun d85 => (pure []) >>= fun s86 => pure (d85 :: s86)) >>= fun s88 => methD cNet (fn2 f_Net_call) d87 s88)) >>= fun d89 => ((((((pure v71) >>= fun x80 => (((pure []) >>= mkT)) >>= fun x81 => neD x80 x81 >>= asB)) >>= fun b82 => if b82 = true then pure v12 else ((pure []) >>= mkT))) >>= fun d83 => (pure []) >>= fun s84 => pure (d83 :: s84)) >>= fun s90 => pure (d89 :: s90)) >>= fun s91 => run0 (fn2 (f_law_is_same 5) s91))) >>= asB)) >>= fun b92 => pure (!b92))) >>= fun b93 => if b93 = true then ((pure (D.bl false)) >>= fun d94 => pure (Lp.ret d94)) else pure (.go ()))) : PM (Lp (Unit)))) l70 () >>= lpK Lp.ret fun c68 => pure (.go (some v8))))))) : PM (Lp (Option D)))) l7 none >>= lpK id fun c5 => optK c5 fun v95 => ((((((pure D.non) >>= fun d127 => ((pure (D.int 0)) >>= fun d125 => ((pure (D.int 9)) >>= fun d123 => ((((pure (D.int 1)) >>= negD)) >>= fun d121 => ((pure (D.bl true)) >>= fun d119 => ((pure (D.bl false)) >>= fun d117 => ((pure (D.str "3")) >>= fun d115 => (((((pure (D.int 3)) >>= fun d111 => (pure []) >>= fun s112 => pure (d111 :: s112)) >>= mkT)) >>= fun d113 => (((((pure (D.int 3)) >>= fun d107 => (pure []) >>= fun s108 => pure (d107 :: s108)) >>= mkL)) >>= fun d109 => ((pure (D.dct [])) >>= fun d105 => ((((pure (D.int 10)) >>= fun x101 => (pure (D.int 12)) >>= fun x102 => powD x101 x102)) >>= fun d103 => ((pure v95) >>= fun d99 => ((((pure v95) >>= fun d96 => noExc (methD cNet (fn1 f_Net_needs) d96 []))) >>= fun d97 => (pure []) >>= fun s98 => pure (d97 :: s98)) >>= fun s100 => pure (d99 :: s100)) >>= fun s104 => pure (d103 :: s104)) >>= fun s106 => pure (d105 :: s106)) >>= fun s110 => pure (d109 :: s110)) >>= fun s114 => pure (d113 :: s114)) >>= fun s116 => pure (d115 :: s116)) >>= fun s118 => pure (d117 :: s118)) >>= fun s120 => pure (d119 :: s120)) >>= fun s122 => pure (d121 :: s122)) >>= fun s124 => pure (d123 :: s124)) >>= fun s126 => pure (d125 :: s126)) >>= fun s128 => pure (d127 :: s128)) >>= mkL)) >>= itemsD) >>= fun l131 => forL dec1 (fun (c129 : Unit) z130 => (((((saidM8 ((((pure z130) >>= fun d132 => (pure []) >>= fun s133 => pure (d132 :: s133)) >>= fun s134 => run0 (fn1 f_Net_ring s134)))) >>= fun x135 => (pure (D.str "number")) >>= fun x136 => neD x135 x136 >>= asB)) >>= fun b137 => if b137 = true then ((pure (D.bl false)) >>= fun d138 => pure (Lp.ret d138)) else pure (.go ())) : PM (Lp (Unit)))) l131 () >>= lpK id fun c129 => ((pure (D.bl true)) >>= fun d139 => pure (id d139))))
end Lw

/-! M2: nets. -/
namespace Lw
open PySem EV
theorem isF_int (x : Int) : isF "int" (.int x) = pure (.bl true) := rfl
theorem isF_intB (x : Int) : isF "bool" (.int x) = pure (.bl false) := rfl
theorem isF_tup (xs : List D) : isF "tuple" (.tup xs) = pure (.bl true) := rfl
theorem asB_bl (b : Bool) : asB (.bl b) = pure b := rfl
theorem le_int (a b : Int) : leD (.int a) (.int b) = pure (.bl (decide (a ≤ b))) := rfl
theorem lt_int (a b : Int) : ltD (.int a) (.int b) = pure (.bl (decide (a < b))) := rfl
theorem gt_int (a b : Int) : gtD (.int a) (.int b) = pure (.bl (decide (b < a))) := rfl
theorem ge_int (a b : Int) : geD (.int a) (.int b) = pure (.bl (decide (b ≤ a))) := rfl
theorem add_int (a b : Int) : addD (.int a) (.int b) = pure (.int (a + b)) := rfl
theorem sub_int (a b : Int) : subD (.int a) (.int b) = pure (.int (a - b)) := rfl
theorem len_tup (xs : List D) : lenF [.tup xs] = pure (.int xs.length) := rfl
theorem len_lst (xs : List D) : lenF [.lst xs] = pure (.int xs.length) := rfl
theorem items_tup (xs : List D) : itemsD (.tup xs) = pure xs := rfl
theorem items_lst (xs : List D) : itemsD (.lst xs) = pure xs := rfl
theorem fn1_eq (g : D → PM D) (a : D) : fn1 g [a] = g a := rfl
theorem fn2_eq (g : D → D → PM D) (a b : D) : fn2 g [a, b] = g a b := rfl
theorem fn3_eq (g : D → D → D → PM D) (a b c : D) : fn3 g [a, b, c] = g a b c := rfl

theorem between (x a b : Int) : f_is_between (.int x) (.int a) (.int b) = pure (.bl (decide (a ≤ x ∧ x ≤ b))) := by
  simp only [f_is_between, pure_bind, isF_int, isF_intB, asB_bl, le_int, if_true, Bool.not_false]
  by_cases h : a ≤ x <;> simp [h]

def Rising (n : Nat) (r : List Int) : Prop := (∀ x ∈ r, 0 ≤ x ∧ x < n) ∧ r.Pairwise (· < ·)
theorem blsF (xs : List Bool) : allF [.lst (xs.map D.bl)] = pure (.bl (xs.all id)) := by
  show (match blsOf (xs.map D.bl) with | some bs => pure (.bl (bs.all id)) | none => bad : PM D) = _
  rw [blsOf_map]
theorem zipT_eq : ∀ (a b : List Int), zipT (a.map D.int) (b.map D.int) = (a.zip b).map fun p => .tup [.int p.1, .int p.2]
  | [], _ => by simp [zipT]
  | _ :: _, [] => by simp [zipT]
  | x :: a, y :: b => by simp [zipT, zipT_eq a b]
theorem adj_asc : ∀ {r : List Int}, (∀ p ∈ r.zip (r.drop 1), p.1 < p.2) → r.Pairwise (· < ·)
  | [], _ => .nil
  | [x], _ => by simp
  | x :: y :: r, h => by
    have h1 : x < y := h (x, y) (by simp)
    have ih := adj_asc (r := y :: r) fun p m => h p (by
      simp only [List.drop_succ_cons, List.drop_zero] at m ⊢
      exact List.mem_cons_of_mem _ m)
    refine List.pairwise_cons.mpr ⟨fun z m => ?_, ih⟩
    rcases List.mem_cons.mp m with rfl | m
    · exact h1
    · exact Int.lt_trans h1 ((List.pairwise_cons.mp ih).1 z m)
theorem asc_adj : ∀ {r : List Int}, r.Pairwise (· < ·) → ∀ p ∈ r.zip (r.drop 1), p.1 < p.2
  | [], _, p, m => by simp at m
  | [x], _, p, m => by simp at m
  | x :: y :: r, h, p, m => by
    simp only [List.drop_succ_cons, List.drop_zero, List.zip_cons_cons] at m
    have q := List.pairwise_cons.mp h
    rcases List.mem_cons.mp m with rfl | m
    · exact q.1 y List.mem_cons_self
    · exact asc_adj q.2 p (by simpa using m)
theorem cut1 (xs : List D) : cutD xs (some 1) none = xs.drop 1 := by
  have e : HT.sIx xs.length 0 (some 1) = min 1 xs.length := HT.sIx_nat _ _ 1
  unfold EV.cutD
  rw [e, HT.sIx_none]
  cases xs with
  | nil => rfl
  | cons x r =>
    have e : min 1 (x :: r).length = 1 := by simp
    rw [e]
    simp
theorem slice1 {r : List Int} (h : r.length ≤ lim) : sliceD (tI r) (some 1) none = pure (tI (r.drop 1)) := by
  show mkT (cutD (r.map D.int) (some 1) none) = _
  rw [cut1, ← List.map_drop]
  exact mkT_ok (by rw [List.length_map, List.length_drop]; omega)
theorem zip_ints (a b : List Int) : zipF [tI a, tI b] = pure ((a.zip b).map fun p => .tup [.int p.1, .int p.2]) := by
  show (pure (zipT (a.map D.int) (b.map D.int)) : PM (List D)) = _
  rw [zipT_eq]
theorem run0_p (d : D) : run0 (pure d : PM D) = pure d := rfl
theorem rising (n : Nat) (r : List Int) (hr : r.length ≤ lim) : ∃ b, f_is_rising (.int n) (tI r) = pure (.bl b) ∧ (b = true ↔ Rising n r) := by
  have h1 : ∀ c : D → PM Bool, (∀ z, c z = pure true) → compL dec1 c (fun z => run0 (fn3 f_is_between [z, .int 0, .int ((n : Int) - 1)])) (r.map D.int) = pure ((r.map fun x => decide (0 ≤ x ∧ x ≤ (n : Int) - 1)).map D.bl) := fun c hc => by
    rw [compIm (fun x => .bl (decide (0 ≤ x ∧ x ≤ (n : Int) - 1))) hr hc (fun x _ => by rw [fn3_eq, between]; rfl), List.map_map]
    rfl
  have h2 : compL dec2 (fun z => pure true) (fun z => ltD z.1 z.2) ((r.zip (r.drop 1)).map fun p => .tup [.int p.1, .int p.2]) = pure (((r.zip (r.drop 1)).map fun p => decide (p.1 < p.2)).map D.bl) := by
    rw [compPm (zs := r.zip (r.drop 1)) (fun p => (D.int p.1, D.int p.2)) (fun p => .bl (decide (p.1 < p.2))) (by rw [List.map_map]; rfl)
      (by rw [List.length_map, List.length_zip]; omega) (fun _ => rfl) (fun z m => rfl), List.map_map]
    rfl
  simp only [f_is_rising, pure_bind, isF_tup, asB_bl, items_tup, Bool.not_true, if_false, sub_int, slice1 hr, zip_ints, asI, id]
  rw [h1 _ fun z => rfl, h2]
  simp only [pure_bind, blsF, asB_bl]
  by_cases g : ((r.map fun x => decide (0 ≤ x ∧ x ≤ (n : Int) - 1)).all id) = true
  · rw [g]
    refine ⟨_, rfl, ?_⟩
    have g' : ∀ x ∈ r, 0 ≤ x ∧ x ≤ (n : Int) - 1 := by simpa using g
    rw [List.all_map]
    constructor
    · intro z
      refine ⟨fun x m => ⟨(g' x m).1, by have := (g' x m).2; omega⟩, adj_asc fun p m => ?_⟩
      have := List.all_eq_true.mp z p m
      simpa using this
    · intro z
      refine List.all_eq_true.mpr fun p m => ?_
      simpa using asc_adj z.2 p m
  · have g2 : ((r.map fun x => decide (0 ≤ x ∧ x ≤ (n : Int) - 1)).all id) = false := by simpa using g
    rw [g2]
    refine ⟨_, rfl, ?_⟩
    constructor
    · intro z
      cases z
    · intro z
      exact absurd (by
        rw [List.all_map]
        refine List.all_eq_true.mpr fun x m => ?_
        have := z.1 x m
        simp
        omega) g
end Lw

/-! M3: nets: is_net, reach_of. -/
namespace Lw
open PySem EV
abbrev Nt := List (List Int)
abbrev dN (N : Nt) : D := .tup (N.map tI)
structure Net (N : Nt) : Prop where
  lo : 1 ≤ N.length
  hi : N.length ≤ 8
  row : ∀ (i : Nat) r, N[i]? = some r → Rising N.length r ∧ (i : Int) ∉ r
section
variable {N : Nt}
theorem Net.lim (h : Net N) : N.length ≤ EV.lim := Nat.le_trans h.hi (by decide)
theorem Rising.len {n : Nat} {r : List Int} (h : Rising n r) : r.length ≤ n := nodup_len (asc_nodup h.2) h.1
theorem Net.ixr (h : Net N) {i : Int} (h0 : 0 ≤ i) (h1 : i < N.length) : Rising N.length (ix N i) ∧ i ∉ ix N i := by
  have z := h.row i.toNat _ (ix_get h0 h1)
  rw [show ((i.toNat : Nat) : Int) = i by omega] at z
  exact z
theorem Net.rlen (h : Net N) {r : List Int} (m : r ∈ N) : r.length ≤ 8 := by
  obtain ⟨i, hi⟩ := List.mem_iff_getElem?.mp m
  have z := (h.row i r hi).1.len
  have := h.hi
  omega
theorem is_net (h : Net N) : f_is_net (dN N) = pure (.bl true) := by
  have hl := h.hi
  have lo := h.lo
  have e1 : decide ((1 : Int) ≤ (N.length : Int)) = true := decide_eq_true (by omega)
  have e2 : decide ((N.length : Int) ≤ 8) = true := decide_eq_true (by omega)
  simp only [f_is_net, pure_bind, isF_tup, asB_bl, len_tup, List.length_map, le_int, e1, e2, if_true, Bool.not_true, Bool.false_eq_true, if_false]
  show ((pure (pairsFrom 0 (N.map tI)) : PM (List D)) >>= _) = _
  rw [pure_bind, forL_goP (κ := List Int × Nat) (zs := N.zipIdx) (fun z => (D.int z.2, tI z.1)) (by rw [pairs_dec, List.zipIdx_map, List.map_map]; rfl) (fun z m => ?_)]
  · rfl
  · obtain ⟨r, i⟩ := z
    have hi : N[i]? = some r := by simpa [List.mem_zipIdx_iff_getElem?] using m
    obtain ⟨h1, h2⟩ := h.row i r hi
    obtain ⟨b, e, q⟩ := rising N.length r (by have := h1.len; show _ ≤ 1000000; omega)
    have eb : b = true := q.mpr h1
    subst eb
    simp only [fn2_eq, e, run0_p, pure_bind, asB_bl, Bool.not_true, Bool.false_eq_true, if_false, inT, decide_eq_false h2]
/-! ### reach -/
inductive Reach (N : Nt) (c : Int) : Int → Prop
  | refl : Reach N c c
  | step {x y : Int} : Reach N c x → y ∈ ix N x → Reach N c y
theorem Net.reach_in (h : Net N) {c x : Int} (h0 : 0 ≤ c ∧ c < N.length) (r : Reach N c x) : 0 ≤ x ∧ x < N.length := by
  induction r with
  | refl => exact h0
  | step _ m ih => exact (h.ixr ih.1 ih.2).1.1 _ m
noncomputable def setOf (n : Nat) (P : Int → Prop) : List Int := (iota n).filter fun x => @decide (P x) (Classical.propDecidable _)
theorem mem_setOf {n : Nat} {P : Int → Prop} {x : Int} : x ∈ setOf n P ↔ (0 ≤ x ∧ x < n) ∧ P x := by
  unfold setOf
  rw [List.mem_filter, mem_iota]
  exact and_congr_right fun _ => @decide_eq_true_iff (P x) (Classical.propDecidable _)
theorem setOf_asc (n : Nat) (P : Int → Prop) : (setOf n P).Pairwise (· < ·) := (iota_asc n).filter _
theorem setOf_len (n : Nat) (P : Int → Prop) : (setOf n P).length ≤ n := by
  unfold setOf
  exact Nat.le_trans (List.length_filter_le _ _) (by rw [len_iota]; exact Nat.le_refl _)
theorem eq_setOf {n : Nat} {P : Int → Prop} {l : List Int} (h : l.Pairwise (· < ·)) (e : ∀ x, x ∈ l ↔ (0 ≤ x ∧ x < n) ∧ P x) : l = setOf n P :=
  asc_eq h (setOf_asc n P) fun k => by rw [e, mem_setOf]
theorem filter_setOf {n : Nat} {P : Int → Prop} {b : Int → Bool} (e : ∀ x : Int, 0 ≤ x → x < n → (b x = true ↔ P x)) : (iota n).filter b = setOf n P :=
  eq_setOf ((iota_asc n).filter _) fun x => by
    rw [List.mem_filter, mem_iota]
    constructor
    · rintro ⟨h1, h2⟩
      exact ⟨h1, (e x h1.1 h1.2).mp h2⟩
    · rintro ⟨h1, h2⟩
      exact ⟨h1, (e x h1.1 h1.2).mpr h2⟩
/-- what c reaches -/
noncomputable def reachL (N : Nt) (c : Int) : List Int := setOf N.length (Reach N c)
theorem mem_reachL (h : Net N) {c x : Int} (h0 : 0 ≤ c) (h1 : c < N.length) : x ∈ reachL N c ↔ Reach N c x := by
  unfold reachL
  rw [mem_setOf]
  exact ⟨fun z => z.2, fun z => ⟨h.reach_in ⟨h0, h1⟩ z, z⟩⟩
/-- a found list: some of what c reaches -/
structure Fd (N : Nt) (c : Int) (xs : List Int) : Prop where
  nd : xs.Nodup
  rc : ∀ x ∈ xs, Reach N c x
  c : c ∈ xs
def Closed (N : Nt) (xs : List Int) : Prop := ∀ x ∈ xs, ∀ y ∈ ix N x, y ∈ xs
theorem Fd.done {c : Int} {xs : List Int} (f : Fd N c xs) (k : Closed N xs) (x : Int) : x ∈ xs ↔ Reach N c x := by
  refine ⟨f.rc x, fun r => ?_⟩
  induction r with
  | refl => exact f.c
  | step _ m ih => exact k _ ih _ m
theorem Fd.len {c : Int} {xs : List Int} (f : Fd N c xs) (h : Net N) (h0 : 0 ≤ c) (h1 : c < N.length) : xs.length ≤ N.length := nodup_len f.nd fun x m => h.reach_in ⟨h0, h1⟩ (f.rc x m)
theorem Fd.sorted {c : Int} {xs : List Int} (f : Fd N c xs) (h : Net N) (h0 : 0 ≤ c) (h1 : c < N.length) (k : Closed N xs) : (sortedG [lI xs] >>= fun d => tupleF [d]) = pure (tI (reachL N c)) := by
  have hl := f.len h h0 h1
  have hn := h.hi
  have e : sortI xs = reachL N c := eq_setOf (sortI_nodup f.nd) fun x => by
    rw [(sortI_perm xs).mem_iff, f.done k x]
    exact ⟨fun z => ⟨h.reach_in ⟨h0, h1⟩ z, z⟩, fun z => z.2⟩
  have e2 : (reachL N c).length ≤ 8 := Nat.le_trans (setOf_len _ _) hn
  rw [sortedI (by show _ ≤ 1000000; omega), pure_bind, e, tupleL (by rw [List.length_map]; show _ ≤ 1000000; omega)]
theorem reach_ok (h : Net N) {c : Int} (h0 : 0 ≤ c) (h1 : c < N.length) : f_reach_of (dN N) (.int c) = pure (tI (reachL N c)) := by
  have hn := h.hi
  have e0 : okL [D.int c] = pure [D.int c] := rfl
  simp only [f_reach_of, pure_bind, e0, id]
  refine while_then
    (fun p => ∃ (k : Nat) (xs : List Int), p = (.int k, xs.map .int) ∧ Fd N c xs ∧ k ≤ xs.length ∧ ∀ i x, i < k → xs[i]? = some x → ∀ y ∈ ix N x, y ∈ xs)
    (fun p => match p.1 with | .int k => 9 - k.toNat | _ => 0)
    (fun p => ∃ xs : List Int, p.2 = xs.map .int ∧ Fd N c xs ∧ Closed N xs)
    (fun p hp => by
      obtain ⟨k, xs, rfl, f, hk, hc⟩ := hp
      have hl := f.len h h0 h1
      dsimp only
      simp only [pure_bind, len_lst, lt_int, asB_bl, noExc_pure, List.length_map]
      by_cases g : k < xs.length
      · refine .inr ⟨by rw [decide_eq_true (by omega)], ?_⟩
        have hx := f.rc _ (ix_mem (l := xs) (i := k) (by omega) (by omega))
        have hin := h.reach_in ⟨h0, h1⟩ hx
        have hr := h.ixr hin.1 hin.2
        rw [getL (l := xs) (i := k) (by omega) (by omega), pure_bind, getT (l := N) hin.1 hin.2, pure_bind, items_tup, pure_bind,
          compI (fun y => !decide (y ∈ xs)) D.int (by have := hr.1.len; show _ ≤ 1000000; omega) (fun y _ => by rw [ninL, pure_bind, asB_bl]) (fun _ _ _ => rfl), pure_bind, noExc_pure, pure_bind, scal_ints, pure_bind]
        have f2 : Fd N c (xs ++ (ix N (ix xs k)).filter fun y => !decide (y ∈ xs)) := ⟨by
          rw [List.nodup_append]
          refine ⟨f.nd, (asc_nodup hr.1.2).filter _, fun a ha b hb e => ?_⟩
          subst e
          simp [ha] at hb, fun y m => by
          rcases List.mem_append.mp m with m | m
          · exact f.rc y m
          · exact .step hx (List.mem_filter.mp m).1, List.mem_append_left _ f.c⟩
        have hl2 := f2.len h h0 h1
        rw [← List.map_append, okLen_ok (by rw [List.length_map]; show _ ≤ 1000000; omega), pure_bind, add_int, pure_bind]
        refine ⟨_, rfl, ⟨k + 1, _, rfl, f2, by rw [List.length_append]; omega, fun i x hi e y m => ?_⟩, ?_⟩
        · rw [List.getElem?_append_left (by omega)] at e
          by_cases gi : i < k
          · exact List.mem_append_left _ (hc i x gi e y m)
          · have : i = k := by omega
            subst this
            have ex : x = ix xs (i : Int) := by
              have z := ix_get (l := xs) (i := (i : Int)) (by omega) (by omega)
              rw [show ((i : Int)).toNat = i by omega, e] at z
              exact Option.some.inj z
            rw [← ex]
            by_cases gm : y ∈ xs
            · exact List.mem_append_left _ gm
            · exact List.mem_append_right _ (List.mem_filter.mpr ⟨m, by simp [gm]⟩)
        · show 9 - ((k : Int) + 1).toNat < 9 - (k : Int).toNat
          omega
      · refine .inl ⟨by rw [decide_eq_false (by omega)], xs, rfl, f, fun x m y my => ?_⟩
        obtain ⟨i, hi⟩ := List.mem_iff_getElem?.mp m
        exact hc i x (by have := (List.getElem?_eq_some_iff.mp hi).1; omega) hi y my)
    ⟨0, [c], rfl, ⟨by simp, fun x m => by rw [List.mem_singleton.mp m]; exact .refl, by simp⟩, by simp, fun i x hi => by omega⟩ (by show 9 - _ < 20; omega) (fun p hp => ?_)
  obtain ⟨xs, e2, f, k⟩ := hp
  have e3 := f.sorted h h0 h1 k
  rw [e2]
  simp only [bind_assoc, pure_bind, bind_pure]
  exact e3
end
end Lw

/-! M4: nets: all_reaches. -/
namespace Lw
open PySem EV
theorem pairs_iota (n : Nat) (F : Int → D) : (pairsFrom 0 ((iota n).map F)).map dec2 = (iota n).map fun i => some (D.int i, F i) := by
  rw [pairs_dec]
  refine List.ext_getElem? fun i => ?_
  rw [List.getElem?_map, List.getElem?_map, List.getElem?_zipIdx, List.getElem?_map]
  by_cases h : i < n
  · rw [iota_get h]
    simp
  · rw [List.getElem?_eq_none (by rw [len_iota]; omega)]
    rfl
theorem pairs_ix {α : Type} [Inhabited α] (l : List α) (f : α → D) : (pairsFrom 0 (l.map f)).map dec2 = (iota l.length).map fun i => some (D.int i, f (ix l i)) := by
  rw [pairs_dec]
  refine List.ext_getElem? fun i => ?_
  rw [List.getElem?_map, List.getElem?_map, List.getElem?_zipIdx, List.getElem?_map]
  by_cases h : i < l.length
  · rw [iota_get h]
    have z := ix_get (l := l) (i := (i : Int)) (by omega) (by omega)
    rw [show ((i : Int)).toNat = i by omega] at z
    rw [z]
    simp
  · have e1 : l[i]? = none := List.getElem?_eq_none (by omega)
    have e2 : (iota l.length)[i]? = none := List.getElem?_eq_none (by rw [len_iota]; omega)
    rw [e1, e2]
    rfl
section
variable {N : Nt}
theorem reachL_len (h : Net N) (c : Int) : (reachL N c).length ≤ 8 := Nat.le_trans (setOf_len _ _) h.hi
theorem all_reaches (h : Net N) : f_all_reaches (dN N) = pure (.lst ((iota N.length).map fun c => tI (reachL N c))) := by
  have hl := h.lim
  simp only [f_all_reaches, pure_bind, len_tup, List.length_map, range1 hl, id, fn2_eq]
  rw [compIm (fun c => tI (reachL N c)) (by rw [len_iota]; exact hl) (fun _ => rfl) fun c m => by
    have m := mem_iota.mp m
    rw [reach_ok h m.1 m.2]
    rfl]
  rfl
end
end Lw

/-! M4b: the law's own reach. -/
namespace Lw
open PySem EV
section
variable {N : Nt}
theorem ne_nil {xs : List D} (h : shp (.lst xs) = true) : neD (.lst xs) (.lst []) = pure (.bl (!xs.isEmpty)) := by
  show (if shp (.lst xs) = true ∧ shp (.lst []) = true then pure (.bl (!eqvD (.lst xs) (.lst []))) else bad : PM D) = _
  rw [if_pos ⟨h, by decide⟩]
  cases xs with
  | nil => rfl
  | cons x r => rfl
end
end Lw

/-! M4c: nets: reach, above. -/
namespace Lw
open PySem EV
section
variable {N : Nt}
theorem need_comp {c : Int} (h0 : 0 ≤ c) (h1 : c < N.length) : f_need_component (dN N) (.int c) = pure .non := by
  simp only [f_need_component, g_need_component, pure_bind, len_tup, sub_int, fn3_eq, between, run0_p, asB_bl, List.length_map]
  rw [decide_eq_true (by omega)]
  rfl
/-- what has c within reach -/
noncomputable def aboveL (N : Nt) (c : Int) : List Int := setOf N.length fun o => Reach N o c
theorem above_filter (h : Net N) (c : Int) : (iota N.length).filter (fun o => decide (c ∈ reachL N o)) = aboveL N c :=
  filter_setOf fun x h0 h1 => by rw [decide_eq_true_eq, mem_reachL h h0 h1]
theorem aboveL_len (h : Net N) (c : Int) : (aboveL N c).length ≤ 8 := Nat.le_trans (setOf_len _ _) h.hi
end
end Lw

/-! M5: the pen, nets drawn. -/
namespace Lw
open PySem EV
def Pen (k : Nat) (s : List Int) : Prop := ∃ a b c, s = [a, b, c] ∧ 0 ≤ b ∧ b < 1000000007 ∧ 0 ≤ c ∧ c ≤ k
theorem Pen.mono {k k' : Nat} {s : List Int} (h : Pen k s) (e : k ≤ k') : Pen k' s := by
  obtain ⟨a, b, c, rfl, h1, h2, h3, h4⟩ := h
  exact ⟨a, b, c, rfl, h1, h2, h3, by omega⟩
theorem pure_ap {α : Type} (a : α) (s : List Int) : (pure a : PM α) s = .ok a s := rfl
theorem bind_ok {α β : Type} {m : PM α} {f : α → PM β} {s s' : List Int} {a : α} (h : m s = .ok a s') : (m >>= f) s = f a s' := by
  rw [PM.bind_def, h]
theorem get0 (a b c : Int) : penGet (.int 0) [a, b, c] = .ok (.int a) [a, b, c] := rfl
theorem get1 (a b c : Int) : penGet (.int 1) [a, b, c] = .ok (.int b) [a, b, c] := rfl
theorem get2 (a b c : Int) : penGet (.int 2) [a, b, c] = .ok (.int c) [a, b, c] := rfl
theorem set0 (a b c d : Int) : penSet (.int 0) (.int d) [a, b, c] = .ok () [d, b, c] := rfl
theorem set2 (a b c d : Int) : penSet (.int 2) (.int d) [a, b, c] = .ok () [a, b, d] := rfl
theorem mul_ok {i j : Int} (h : L2.CMul i j) : mulD (.int i) (.int j) = pure (.int (i * j)) := if_pos h
theorem mod_ok {i j : Int} (h : j ≠ 0) : modD (.int i) (.int j) = pure (.int (i.fmod j)) := if_pos h
theorem fdiv_ok {i j : Int} (h : L2.CDivN i j) : fdivD (.int i) (.int j) = pure (.int (i.fdiv j)) := if_pos h
theorem fmod_bd {i j : Int} (h : 0 < j) : 0 ≤ i.fmod j ∧ i.fmod j < j := ⟨Int.fmod_nonneg_of_pos i h, Int.fmod_lt_of_pos i h⟩
theorem mul_l {i j : Int} (h1 : -(2 ^ 64) < i := by omega) (h2 : i < 2 ^ 64 := by omega) : mulD (.int i) (.int j) = pure (.int (i * j)) := mul_ok (.inl ⟨h1, h2⟩)
theorem mul_r {i j : Int} (h1 : -(2 ^ 64) < j := by omega) (h2 : j < 2 ^ 64 := by omega) : mulD (.int i) (.int j) = pure (.int (i * j)) := mul_ok (.inr ⟨h1, h2⟩)
/-- a row that i may have -/
def Row (n : Nat) (i : Int) (l : List Int) : Prop := Rising n l ∧ i ∉ l
theorem Row.sub {n : Nat} {i : Int} {l m : List Int} (h : Row n i l) (s : m.Sublist l) : Row n i m :=
  ⟨⟨fun x hx => h.1.1 x (s.subset hx), h.1.2.sublist s⟩, fun hx => h.2 (s.subset hx)⟩
theorem iota_rising (n : Nat) : Rising n (iota n) := ⟨fun x m => mem_iota.mp m, iota_asc n⟩
theorem Rising.not {n : Nat} {i : Int} {l : List Int} (h : Rising n l) : Row n i (l.filter fun x => decide (x ≠ i)) :=
  ⟨⟨fun x m => h.1 x (List.mem_filter.mp m).1, h.2.filter _⟩, fun m => by simpa using (List.mem_filter.mp m).2⟩
theorem setI_len (ns : List Int) : (setI ns).length ≤ ns.length := by
  induction ns with
  | nil => exact Nat.le_refl _
  | cons x r ih =>
    have : ∀ l, (putI x l).length ≤ l.length + 1 := by
      intro l
      induction l with
      | nil => simp [putI]
      | cons y l ih =>
        unfold putI
        split
        · simp
        · split
          · simp
          · simp only [List.length_cons]
            omega
    have := this (setI r)
    unfold setI
    simp only [List.length_cons]
    omega
theorem ssetG {ns : List Int} (h : ns.length < 1000) (h2 : (setI ns).length < 64) : sortSetD (lI ns) = pure (lI (setI ns)) := by
  show (match intsOf (ns.map D.int) with | some ns => if ns.length < 1000 ∧ (setI ns).length < 64 then mkL ((setI ns).map D.int) else bad | none => bad : PM D) = _
  rw [intsOf_map]
  show (if ns.length < 1000 ∧ (setI ns).length < 64 then mkL ((setI ns).map D.int) else bad : PM D) = _
  rw [if_pos ⟨h, h2⟩]
  exact mkL_ok (by rw [List.length_map]; show _ ≤ 1000000; omega)
theorem sset {ns : List Int} (h : ns.length < 63) : sortSetD (lI ns) = pure (lI (setI ns)) := ssetG (by omega) (by have := setI_len ns; omega)
theorem filtI {c : D → PM Bool} (b : Int → Bool) {ns : List Int} (hl : ns.length ≤ lim) (hc : ∀ n ∈ ns, c (.int n) = pure (b n)) : compL dec1 c (fun z => pure z) (ns.map D.int) = pure ((ns.filter b).map D.int) := compI b D.int hl hc fun _ _ _ => rfl
end Lw

/-! M6: nets drawn. -/
namespace Lw
open PySem EV
theorem Ok.eq {α : Type} {m : PM α} {s : List Int} {v : α} {Q : α → List Int → Prop} (e : m = pure v) (h : Q v s) : Ok m s Q := by
  rw [e]
  exact Ok.pure h
/-- draws in a comprehension -/
theorem Ok.draws {k m : Nat} {s : List Int} {ns : List Int} {g : Int → Bool} {c : D → PM Bool} (h : Pen k s) (hk : k + ns.length ≤ 1000000) (hc : ∀ n ∈ ns, ∀ j s, j ≤ 1000000 → Pen j s → Ok (c (.int n)) s fun _ s' => Pen (j + 1) s') :
    Ok (compL dec1 c (fun z => pure z) (ns.map D.int)) s fun r s' => Pen (k + ns.length) s' ∧ ∃ ms : List Int, ms.Sublist ns ∧ r = ms.map D.int := by
  unfold compL
  rw [if_pos (by rw [List.length_map]; show _ ≤ 1000000; omega)]
  induction ns generalizing k s with
  | nil => exact ⟨[], s, rfl, by simpa using h, [], .slnil, rfl⟩
  | cons n ns ih =>
    rw [List.length_cons] at hk
    rw [List.map_cons]
    unfold compG
    show Ok (EV.noExc (c (.int n)) >>= _) s _
    refine Ok.bind ((hc n List.mem_cons_self k s (by omega) h).noExc.imp fun b s1 h1 => ?_)
    have e : k + 1 + ns.length = k + (n :: ns).length := by
      rw [List.length_cons]
      omega
    cases b with
    | true =>
      rw [if_pos rfl, noExc_pure, pure_bind]
      refine Ok.bind ((ih h1 (by omega) (fun m hm => hc m (List.mem_cons_of_mem _ hm))).imp fun r s2 ⟨h2, ms, hs, er⟩ => ?_)
      refine Ok.pure ⟨by rw [← e]; exact h2, n :: ms, hs.cons₂ n, by rw [er]; rfl⟩
    | false =>
      rw [if_neg (by decide)]
      refine (ih h1 (by omega) (fun m hm => hc m (List.mem_cons_of_mem _ hm))).imp fun r s2 ⟨h2, ms, hs, er⟩ => ?_
      exact ⟨by rw [← e]; exact h2, ms, hs.cons n, er⟩
end Lw

/-! M7: what the laws share at their ends. -/
namespace Lw
open PySem EV
theorem Net.sm {N : Nt} (h : Net N) : Sm 2 72 (dN N) := .tup (c := 8) (fun x m => by
  obtain ⟨r, hr, rfl⟩ := List.mem_map.mp m
  obtain ⟨i, hi⟩ := List.mem_iff_getElem?.mp hr
  have z := h.row i r hi
  have hn := h.hi
  exact (SmI.smT fun y my => by have := z.1.1 y my; omega).mono (by omega) (h.rlen hr)) (by rw [List.length_map]; have := h.hi; omega)
theorem set_sm {n : Nat} (hn : n ≤ 8) (P : Int → Prop) : Sm 1 8 (tI (setOf n P)) :=
  (SmI.smT fun y my => by have := (mem_setOf.mp my).1; omega).mono (by omega) (Nat.le_trans (setOf_len _ _) hn)
theorem Sm.lst_of {h b : Nat} {xs : List D} (h1 : ∀ x ∈ xs, Sm h b x) : Sm (h + 1) (xs.length * (b + 1)) (.lst xs) := .lst h1 (Nat.le_refl _)
theorem Sm.tup_of {h b : Nat} {xs : List D} (h1 : ∀ x ∈ xs, Sm h b x) : Sm (h + 1) (xs.length * (b + 1)) (.tup xs) := .tup h1 (Nat.le_refl _)
theorem laps (n : Nat) : ∃ m : Nat, m ≤ 3 ∧ ∀ {β : Type} (kk : List D → PM β), (minF [.int n, .int 3] >>= fun d5 => maxF [.int 1, d5] >>= fun d9 => rangeF1 [d9] >>= kk) = kk ((iota m).map D.int) := by
  refine ⟨if n ≤ 1 then 1 else if n ≤ 3 then n else 3, by split <;> (try split) <;> omega, fun kk => ?_⟩
  show (rangeF1 [.int (if (if (3 : Int) < n then (3 : Int) else n) > 1 then (if (3 : Int) < n then (3 : Int) else n) else 1)] >>= kk) = _
  have e : (if (if (3 : Int) < n then (3 : Int) else n) > 1 then (if (3 : Int) < n then (3 : Int) else n) else 1) = ((if n ≤ 1 then 1 else if n ≤ 3 then n else 3 : Nat) : Int) := by
    split <;> split <;> (try split) <;> (try split) <;> omega
  rw [e, range1 (by show _ ≤ 1000000; split <;> (try split) <;> omega), pure_bind]
end Lw

/-! M7b: the frame of a law: cells, laps. -/
namespace Lw
open PySem EV
theorem ok_end {m : PM D} (key : Ok m [] fun d _ => d = .bl true) : ∃ s, m [] = .ok (.bl true) s := by
  obtain ⟨d, s, e, rfl⟩ := key
  exact ⟨s, e⟩
theorem mkT1 (a : D) : mkT [a] = pure (.tup [a]) := rfl
theorem mkT2 (a b : D) : mkT [a, b] = pure (.tup [a, b]) := rfl
theorem mkT3 (a b c : D) : mkT [a, b, c] = pure (.tup [a, b, c]) := rfl
theorem mkL2 (a b : D) : mkL [a, b] = pure (.lst [a, b]) := rfl
theorem mkL3 (a b c : D) : mkL [a, b, c] = pure (.lst [a, b, c]) := rfl
theorem neStr (x : Str) : neD (.str x) (.str x) = pure (.bl false) := by
  show (pure (D.bl (!(x == x))) : PM D) = _
  rw [beq_self_eq_true]
  rfl
theorem rising_sm {n : Nat} (hn : n ≤ 8) {B : List Int} (h : Rising n B) : Sm 1 8 (tI B) :=
  (SmI.smT fun y my => by have := h.1 y my; omega).mono (by omega) (Nat.le_trans h.len hn)
theorem rg_iota {n : Nat} (h : n ≤ lim) : rg1 (.int n) = pure ((iota n).map D.int) := by
  have h : n ≤ 1000000 := h
  unfold rg1
  dsimp only
  unfold rgD
  rw [if_pos ⟨by omega, by omega, by omega, by omega, by show _ ≤ 1000000; omega⟩, show ((n : Int) - 0).toNat = n by omega, rangeL_iota]
theorem addL {a b : List D} (h : a.length + b.length ≤ lim) : addD (.lst a) (.lst b) = pure (.lst (a ++ b)) := mkL_ok (by rw [List.length_append]; exact h)
end Lw

/-! M9: sets of components, alarms. -/
namespace Lw
open PySem EV
/-- drawn, one for each -/
theorem Ok.compE {e : D → PM D} {P : D → Prop} {t : Nat} {ns : List Int} {k : Nat} {s : List Int} (hl : ns.length ≤ lim) (h : Pen k s) (hk : k + ns.length * t ≤ 1000000)
    (he : ∀ n ∈ ns, ∀ j s, j + t ≤ 1000000 → Pen j s → Ok (e (.int n)) s fun d s' => Pen (j + t) s' ∧ P d) :
    Ok (compL dec1 (fun _ => pure true) e (ns.map D.int)) s fun r s' => Pen (k + ns.length * t) s' ∧ r.length = ns.length ∧ ∀ d ∈ r, P d := by
  unfold compL
  rw [if_pos (by rw [List.length_map]; exact hl)]
  clear hl
  induction ns generalizing k s with
  | nil => exact ⟨[], s, rfl, by simpa using h, rfl, by simp⟩
  | cons n ns ih =>
    rw [List.length_cons, Nat.succ_mul] at hk
    rw [List.map_cons]
    unfold compG
    show Ok (EV.noExc (pure true) >>= _) s _
    rw [noExc_pure, pure_bind, if_pos rfl]
    refine Ok.bind ((he n List.mem_cons_self k s (by omega) h).noExc.imp fun d s1 ⟨h1, hd⟩ => ?_)
    refine Ok.bind ((ih h1 (by omega) (fun m hm => he m (List.mem_cons_of_mem _ hm))).imp fun r s2 ⟨h2, h3, h4⟩ => ?_)
    refine Ok.pure ⟨by rw [List.length_cons, Nat.succ_mul, show k + (ns.length * t + t) = k + t + ns.length * t by omega]; exact h2, by rw [List.length_cons, h3, List.length_cons], fun x m => ?_⟩
    rcases List.mem_cons.mp m with rfl | m
    · exact hd
    · exact h4 x m
theorem forL_goD {body : Unit → D → PM (Lp Unit)} {ds : List D} (h : ∀ d ∈ ds, body () d = pure (.go ())) : forL dec1 body ds () = pure (.go ()) := by
  induction ds with
  | nil => rfl
  | cons n ns ih =>
    show (body () n >>= _) = _
    rw [h n List.mem_cons_self, pure_bind]
    exact ih fun m hm => h m (List.mem_cons_of_mem _ hm)
def meets (xs ys : List Int) : Bool := xs.any fun x => decide (x ∈ ys)
theorem meets_iff {xs ys : List Int} : meets xs ys = true ↔ ∃ x ∈ xs, x ∈ ys := by
  unfold meets
  rw [List.any_eq_true]
  constructor
  · rintro ⟨x, h1, h2⟩
    exact ⟨x, h1, of_decide_eq_true h2⟩
  · rintro ⟨x, h1, h2⟩
    exact ⟨x, h1, decide_eq_true h2⟩
theorem blsAny (xs : List Bool) : anyF [.lst (xs.map D.bl)] = pure (.bl (xs.any id)) := by
  show (match blsOf (xs.map D.bl) with | some bs => pure (.bl (bs.any id)) | none => bad : PM D) = _
  rw [blsOf_map]
theorem do_meet (xs ys : List Int) (hx : xs.length ≤ lim) : f_do_meet (tI xs) (tI ys) = pure (.bl (meets xs ys)) := by
  simp only [f_do_meet, pure_bind, items_tup, id]
  rw [compIm (fun x => .bl (decide (x ∈ ys))) hx (fun _ => rfl) (fun x _ => inT x ys), show (xs.map fun x => D.bl (decide (x ∈ ys))) = (xs.map fun x => decide (x ∈ ys)).map D.bl by rw [List.map_map]; rfl]
  simp only [pure_bind, blsAny, List.any_map]
  rfl
section
variable {N : Nt}
/-- the components with a broken one in their reach -/
noncomputable def alarmsL (N : Nt) (B : List Int) : List Int := setOf N.length fun o => ∃ b ∈ B, Reach N o b
theorem alarmsL_len (h : Net N) (B : List Int) : (alarmsL N B).length ≤ 8 := Nat.le_trans (setOf_len _ _) h.hi
theorem alarm_iff (h : Net N) {B : List Int} {o : Int} (h0 : 0 ≤ o) (h1 : o < N.length) : meets (reachL N o) B = true ↔ ∃ b ∈ B, Reach N o b := by
  rw [meets_iff]
  constructor
  · rintro ⟨x, m, b⟩
    exact ⟨x, b, (mem_reachL h h0 h1).mp m⟩
  · rintro ⟨x, b, r⟩
    exact ⟨x, (mem_reachL h h0 h1).mpr r, b⟩
theorem alarm_filter (h : Net N) (B : List Int) : (iota N.length).filter (fun o => meets (reachL N o) B) = alarmsL N B :=
  filter_setOf fun x h0 h1 => alarm_iff h h0 h1
theorem alarms_of (h : Net N) (B : List Int) : f_alarms_of (dN N) (tI B) = pure (tI (alarmsL N B)) := by
  have hl := h.lim
  simp only [f_alarms_of, pure_bind, fn1_eq, fn2_eq, all_reaches h, run0_p, id, enum_lst, bind_assoc]
  rw [compPf (fun i => (D.int i, tI (reachL N i))) (fun i => meets (reachL N i) B) D.int (pairs_iota _ _) (by rw [pairs_len, List.length_map, len_iota]; exact hl)
      (fun i _ => by rw [do_meet _ _ (by have := reachL_len h i; show _ ≤ 1000000; omega), run0_p, pure_bind, asB_bl]) (fun _ _ _ => rfl),
    alarm_filter h, pure_bind, tupleL (by rw [List.length_map]; have := alarmsL_len h B; show _ ≤ 1000000; omega)]
  rfl
theorem need_set {B : List Int} (h : Net N) (hB : Rising N.length B) : f_need_set (dN N) (tI B) = pure .non := by
  obtain ⟨b, e, q⟩ := rising N.length B (by have := hB.len; have := h.hi; show _ ≤ 1000000; omega)
  have eb : b = true := q.mpr hB
  subst eb
  simp only [f_need_set, g_need_set, pure_bind, len_tup, List.length_map, fn2_eq, e, run0_p, asB_bl, Bool.not_true]
  rfl
end
/-! the law's own -/
section
variable {N : Nt}
theorem filt_meets (xs ys : List Int) : (!(xs.filter fun x => decide (x ∈ ys)).isEmpty) = meets xs ys := by
  rw [Bool.eq_iff_iff, meets_iff]
  constructor
  · intro h
    cases e : xs.filter fun x => decide (x ∈ ys) with
    | nil => rw [e] at h; cases h
    | cons x r =>
      have : x ∈ xs.filter fun x => decide (x ∈ ys) := by rw [e]; exact List.mem_cons_self
      exact ⟨x, (List.mem_filter.mp this).1, of_decide_eq_true (List.mem_filter.mp this).2⟩
  · rintro ⟨x, h1, h2⟩
    have : x ∈ xs.filter fun x => decide (x ∈ ys) := List.mem_filter.mpr ⟨h1, decide_eq_true h2⟩
    cases e : xs.filter fun x => decide (x ∈ ys) with
    | nil => rw [e] at this; cases this
    | cons _ _ => rfl
theorem isE_map {α β : Type} (f : α → β) (xs : List α) : (xs.map f).isEmpty = xs.isEmpty := by
  cases xs <;> rfl
end
theorem Rising.sub {n : Nat} {l m : List Int} (h : Rising n l) (s : m.Sublist l) : Rising n m := ⟨fun x hx => h.1 x (s.subset hx), h.2.sublist s⟩
end Lw

/-! M9b: the law's own alarms. -/
namespace Lw
open PySem EV
section
variable {N : Nt}
end
end Lw

/-! M10: words, reports. -/
namespace Lw
open PySem EV
theorem forS_map {body : List D → D → PM (List D)} (f : Int → D) : ∀ {ns : List Int} {c : List D}, (∀ c n, n ∈ ns → c.length + 1 ≤ lim → body c (.int n) = pure (c ++ [f n])) → c.length + ns.length ≤ lim → forS dec1 body (ns.map D.int) c = pure (c ++ ns.map f)
  | [], c, _, _ => by
    rw [List.map_nil, List.map_nil, List.append_nil]
    rfl
  | n :: ns, c, h, hl => by
    rw [List.length_cons] at hl
    rw [List.map_cons]
    show (body c (.int n) >>= forS dec1 body (ns.map D.int)) = _
    rw [h c n List.mem_cons_self (by omega), pure_bind, forS_map f (fun c m hm => h c m (List.mem_cons_of_mem _ hm)) (by rw [List.length_append, List.length_singleton]; omega), List.map_cons, List.append_assoc]
    rfl
abbrev tS (ws : List Str) : D := .tup (ws.map .str)
def Words (ws : List Str) : Prop := ∀ w ∈ ws, w = "alarm" ∨ w = "quiet" ∨ w = "unseen"
theorem word_sm {w : Str} (h : w = "alarm" ∨ w = "quiet" ∨ w = "unseen") : Sm 0 6 (.str w) := by
  rcases h with rfl | rfl | rfl <;> exact .str (by decide +kernel) (by decide +kernel)
theorem words_sm {ws : List Str} (h : Words ws) (hl : ws.length ≤ 8) : Sm 1 56 (tS ws) := .tup (c := 6) (fun x m => by
  obtain ⟨w, hw, rfl⟩ := List.mem_map.mp m
  exact word_sm (h w hw)) (by rw [List.length_map]; omega)
section
variable {N : Nt}
open Classical in
/-- the word of o, the broken B, the watched W -/
noncomputable def wordOf (N : Nt) (B W : List Int) (o : Int) : Str := if o ∈ W then (if o ∈ alarmsL N B then "alarm" else "quiet") else "unseen"
noncomputable def seenL (N : Nt) (B W : List Int) : List Str := (iota N.length).map (wordOf N B W)
theorem seenL_len (N : Nt) (B W : List Int) : (seenL N B W).length = N.length := by
  unfold seenL
  rw [List.length_map, len_iota]
theorem seenL_words (N : Nt) (B W : List Int) : Words (seenL N B W) := fun w h => by
  unfold seenL at h
  obtain ⟨o, _, rfl⟩ := List.mem_map.mp h
  unfold wordOf
  split
  · split
    · exact .inl rfl
    · exact .inr (.inl rfl)
  · exact .inr (.inr rfl)
theorem word_step (N : Nt) (B W : List Int) (o : Int) : (inD (.int o) (tI (alarmsL N B)) >>= asB >>= fun b => (if b = true then pure (D.str "alarm") else pure (D.str "quiet")) >>= fun v => inD (.int o) (tI W) >>= asB >>= fun b => if b = true then pure v else pure (D.str "unseen")) = pure (D.str (wordOf N B W o)) := by
  rw [inT, inT, pure_bind, asB_bl, pure_bind]
  unfold wordOf
  by_cases h1 : o ∈ alarmsL N B <;> by_cases h2 : o ∈ W <;> simp [h1, h2, asB_bl]
end
end Lw

/-! M10b: the law's own reports. -/
namespace Lw
open PySem EV
section
variable {N : Nt}
end
end Lw

/-! M11: reports: with_word, candidates_of, need_report. -/
namespace Lw
open PySem EV
theorem eqStr (a b : Str) : eqD (.str a) (.str b) = pure (.bl (a == b)) := rfl
/-- where the word w stands -/
def withL (ws : List Str) (w : Str) : List Int := (iota ws.length).filter fun i => ix ws i == w
theorem mem_withL {ws : List Str} {w : Str} {i : Int} : i ∈ withL ws w ↔ (0 ≤ i ∧ i < ws.length) ∧ ix ws i = w := by
  unfold withL
  rw [List.mem_filter, mem_iota, beq_iff_eq]
theorem withL_rising (ws : List Str) (w : Str) : Rising ws.length (withL ws w) := ⟨fun x m => (mem_withL.mp m).1, (iota_asc _).filter _⟩
/-- a report of the net -/
structure Rep (N : Nt) (ws : List Str) : Prop where
  len : ws.length = N.length
  ws : Words ws
section
variable {N : Nt} {ws : List Str}
theorem Rep.sm (r : Rep N ws) (h : Net N) : Sm 1 56 (tS ws) := words_sm r.ws (by rw [r.len]; exact h.hi)
theorem Rep.lim (r : Rep N ws) (h : Net N) : ws.length ≤ EV.lim := by
  rw [r.len]
  exact h.lim
/-- the components in the reach of no quiet one -/
noncomputable def candL (N : Nt) (ws : List Str) : List Int := setOf N.length fun o => ¬ ∃ q ∈ withL ws "quiet", Reach N q o
theorem candL_len (h : Net N) (ws : List Str) : (candL N ws).length ≤ 8 := Nat.le_trans (setOf_len _ _) h.hi
theorem candL_rising (N : Nt) (ws : List Str) : Rising N.length (candL N ws) := ⟨fun x m => (mem_setOf.mp m).1, setOf_asc _ _⟩
theorem quiet_reach (h : Net N) (r : Rep N ws) {o : Int} : (withL ws "quiet").any (fun q => decide (o ∈ reachL N q)) = true ↔ ∃ q ∈ withL ws "quiet", Reach N q o := by
  rw [List.any_eq_true]
  constructor
  · rintro ⟨q, m, e⟩
    have z := (mem_withL.mp m).1
    exact ⟨q, m, (mem_reachL h z.1 (by rw [← r.len]; exact z.2)).mp (of_decide_eq_true e)⟩
  · rintro ⟨q, m, e⟩
    have z := (mem_withL.mp m).1
    exact ⟨q, m, decide_eq_true ((mem_reachL h z.1 (by rw [← r.len]; exact z.2)).mpr e)⟩
theorem cand_filter (h : Net N) (r : Rep N ws) : (iota N.length).filter (fun o => !(withL ws "quiet").any fun q => decide (o ∈ reachL N q)) = candL N ws :=
  filter_setOf fun x h0 h1 => by
    rw [Bool.not_eq_true', ← Bool.not_eq_true, quiet_reach h r]
theorem comp_words {e : D → PM D} (hl : ws.length ≤ lim) (he : ∀ w ∈ ws, e (.str w) = pure (.bl true)) : compL dec1 (fun _ => pure true) e (ws.map D.str) = pure ((ws.map fun _ => true).map D.bl) := by
  rw [compPm (zs := ws) (g := D.str) (f := fun _ => D.bl true) (by rw [List.map_map]; rfl) (by rw [List.length_map]; exact hl) (fun _ => rfl) he, List.map_map]
  rfl
end
end Lw

/-! M11b: the law's own reports and candidates. -/
namespace Lw
open PySem EV
theorem forS_filt {body : List D → D → PM (List D)} (b : Int → Bool) (f : Int → D) : ∀ {ns : List Int} {c : List D}, (∀ c n, n ∈ ns → c.length + 1 ≤ lim → body c (.int n) = pure (if b n = true then c ++ [f n] else c)) → c.length + ns.length ≤ lim → forS dec1 body (ns.map D.int) c = pure (c ++ (ns.filter b).map f)
  | [], c, _, _ => by
    rw [List.map_nil, List.filter_nil, List.map_nil, List.append_nil]
    rfl
  | n :: ns, c, h, hl => by
    rw [List.length_cons] at hl
    rw [List.map_cons]
    show (body c (.int n) >>= forS dec1 body (ns.map D.int)) = _
    rw [h c n List.mem_cons_self (by omega), pure_bind]
    by_cases q : b n = true
    · rw [if_pos q, forS_filt b f (fun c m hm => h c m (List.mem_cons_of_mem _ hm)) (by rw [List.length_append, List.length_singleton]; omega), List.filter_cons_of_pos q, List.map_cons, List.append_assoc]
      rfl
    · rw [if_neg q, forS_filt b f (fun c m hm => h c m (List.mem_cons_of_mem _ hm)) (by omega), List.filter_cons_of_neg q]
theorem eq_nil {xs : List D} (h : shp (.lst xs) = true) : eqD (.lst xs) (.lst []) = pure (.bl xs.isEmpty) := by
  show (if shp (.lst xs) = true ∧ shp (.lst []) = true then pure (.bl (eqvD (.lst xs) (.lst []))) else bad : PM D) = _
  rw [if_pos ⟨h, by decide⟩]
  cases xs with
  | nil => rfl
  | cons x r => rfl
section
variable {N : Nt} {ws : List Str}
theorem ones_lay {α : Type} (l : List α) : shp (.lst (l.map fun _ => D.int 1)) = true := by
  have := shpLI (l.map fun _ => (1 : Int))
  rw [show l.map (fun _ => D.int 1) = (l.map fun _ => (1 : Int)).map D.int by rw [List.map_map]; rfl]
  exact this
theorem isE_filter {α : Type} (p : α → Bool) (l : List α) : (l.filter p).isEmpty = !l.any p := by
  induction l with
  | nil => rfl
  | cons x r ih =>
    by_cases q : p x = true
    · rw [List.filter_cons_of_pos q, List.any_cons, q]
      rfl
    · rw [List.filter_cons_of_neg q, List.any_cons, ih]
      simp only [Bool.not_eq_true] at q
      rw [q]
      rfl
end
/-! the report drawn -/
theorem cut_take {α : Type} (xs : List D) (k : Nat) (h : k ≤ xs.length) : cutD xs none (some k) = xs.take k := by
  unfold EV.cutD
  rw [HT.sIx_none, HT.sIx_nat, List.drop_zero, Nat.min_eq_left h, Nat.sub_zero]
theorem cut_drop {α : Type} (xs : List D) (k : Nat) (h : k ≤ xs.length) : cutD xs (some k) none = xs.drop k := by
  unfold EV.cutD
  rw [HT.sIx_none, HT.sIx_nat, Nat.min_eq_left h, List.take_of_length_le (by rw [List.length_drop]; omega)]
theorem strs_of {n : Nat} : ∀ {r : List D}, (∀ d ∈ r, ∃ w : Str, d = .str w ∧ (w = "alarm" ∨ w = "quiet" ∨ w = "unseen")) → ∃ ws : List Str, r = ws.map .str ∧ Words ws
  | [], _ => ⟨[], rfl, fun _ m => by cases m⟩
  | d :: r, h => by
    obtain ⟨w, rfl, hw⟩ := h d List.mem_cons_self
    obtain ⟨ws, rfl, hs⟩ := strs_of (n := n) (r := r) fun x m => h x (List.mem_cons_of_mem _ m)
    refine ⟨w :: ws, rfl, fun x m => ?_⟩
    rcases List.mem_cons.mp m with rfl | m
    · exact hw
    · exact hs x m
end Lw

/-! M12: all sets of components, in order. -/
namespace Lw
open PySem EV
def leI (a b : List Int) : Bool := decide (a ≤ b)
theorem leI_tr (a b c : List Int) (h : leI a b = true) (h2 : leI b c = true) : leI a c = true := decide_eq_true (List.le_trans (of_decide_eq_true h) (of_decide_eq_true h2))
theorem leI_tot (a b : List Int) : (leI a b || leI b a) = true := by
  rw [Bool.or_eq_true]
  rcases List.le_total a b with h | h
  · exact .inl (decide_eq_true h)
  · exact .inr (decide_eq_true h)
theorem leI_anti {a b : List Int} (h : leI a b = true) (h2 : leI b a = true) : a = b := List.le_antisymm (of_decide_eq_true h) (of_decide_eq_true h2)
theorem toPy_tI (a : List Int) : toPy (tI a) = .tuple (a.map PyData.int) := by
  show PyData.tuple (toPyL (a.map D.int)) = _
  rw [toPyL_map, List.map_map]
  rfl
theorem leD2_rows (a b : List Int) : leD2 (tI a) (tI b) = leI a b := by
  unfold leD2 leI
  rw [toPy_tI, toPy_tI, PySem.W.dataLt_tuple, show PyProof.Rows.lexLt PyProof.Rows.itemOrd (PySem.W.keyToksAll (b.map PyData.int)) (PySem.W.keyToksAll (a.map PyData.int)) = PySem.W.rowLt (b.map .int) (a.map .int) from rfl, PySem.W.dataLt_ints]
  by_cases h : b < a
  · rw [decide_eq_true h, decide_eq_false (fun z => (List.not_lt.mpr z) h)]
    rfl
  · rw [decide_eq_false h, decide_eq_true (List.not_lt.mp h)]
    rfl
theorem sortP_rows {L : List (List Int)} (h : (∃ r, L = [] :: r) ∨ ∀ r ∈ L, r ≠ []) : sortP (L.map tI) = true := by
  unfold sortP
  have e1 : ((L.map tI).all fun a => (L.map tI).all fun b => PySem.W.alike (toPy a) (toPy b)) = true := by
    refine List.all_eq_true.mpr fun x hx => List.all_eq_true.mpr fun y hy => ?_
    obtain ⟨a, _, rfl⟩ := List.mem_map.mp hx
    obtain ⟨b, _, rfl⟩ := List.mem_map.mp hy
    rw [toPy_tI, toPy_tI]
    simp only [PySem.W.alike]
    exact PySem.W.alike_ints a b
  have e2 : ((L.map tI).all fun a => decide ((toPy a).depth ≤ 60)) = true := by
    refine List.all_eq_true.mpr fun x hx => ?_
    obtain ⟨a, _, rfl⟩ := List.mem_map.mp hx
    rw [toPy_tI]
    simp only [PyData.depth, PySem.W.depth_ints, decide_eq_true_eq]
    omega
  rw [e1, e2]
  rcases h with ⟨r, rfl⟩ | h
  · have e3 : ((([] : List Int) :: r).map tI).all (fun a => isTup (toPy a)) = true := by
      refine List.all_eq_true.mpr fun x hx => ?_
      obtain ⟨a, _, rfl⟩ := List.mem_map.mp hx
      rw [toPy_tI]
      rfl
    have e4 : tup0 (((([] : List Int) :: r).map tI).map toPy) = true := by
      rw [List.map_cons, List.map_cons, toPy_tI]
      rfl
    rw [e3, e4]
    simp
  · have e3 : (L.map tI).all (fun a => neTup (toPy a)) = true := by
      refine List.all_eq_true.mpr fun x hx => ?_
      obtain ⟨a, ha, rfl⟩ := List.mem_map.mp hx
      rw [toPy_tI]
      cases a with
      | nil => exact absurd rfl (h [] ha)
      | cons y r => rfl
    rw [e3]
    simp
theorem map_sort (L : List (List Int)) : (L.map tI).mergeSort leD2 = (L.mergeSort leI).map tI := (List.map_mergeSort fun a _ b _ => (leD2_rows a b).symm).symm
theorem sort_rows {L : List (List Int)} (h : (∃ r, L = [] :: r) ∨ ∀ r ∈ L, r ≠ []) (hl : L.length ≤ lim) : sortedG [.lst (L.map tI)] = pure (.lst ((L.mergeSort leI).map tI)) := by
  cases L with
  | nil =>
    rw [List.mergeSort_nil]
    rfl
  | cons x r =>
    have e : intsQ [.lst ((x :: r).map tI)] = false := rfl
    unfold sortedG
    rw [e, if_neg (by decide)]
    show (if sortP ((x :: r).map tI) = true then mkL (((x :: r).map tI).mergeSort leD2) else bad : PM D) = _
    rw [if_pos (sortP_rows h), map_sort]
    exact mkL_ok (by rw [List.length_map, List.length_mergeSort]; exact hl)

/-! all sets -/
structure IsSubs (k : Nat) (L : List (List Int)) : Prop where
  mem : ∀ B, B ∈ L ↔ Rising k B
  nd : L.Nodup
  hd : ∃ r, L = [] :: r
  len : L.length = 2 ^ k
theorem rising_zero (B : List Int) : Rising 0 B ↔ B = [] := by
  constructor
  · intro h
    cases B with
    | nil => rfl
    | cons x r =>
      have := h.1 x List.mem_cons_self
      omega
  · rintro rfl
    exact ⟨by simp, .nil⟩
theorem rising_succ (k : Nat) (B : List Int) : Rising (k + 1) B ↔ Rising k B ∨ ∃ r, B = r ++ [(k : Int)] ∧ Rising k r := by
  constructor
  · intro h
    by_cases hk : (k : Int) ∈ B
    · obtain ⟨s, t, rfl⟩ := List.append_of_mem hk
      have q := List.pairwise_append.mp h.2
      have q2 := List.pairwise_cons.mp q.2.1
      have ht : t = [] := by
        cases t with
        | nil => rfl
        | cons y t =>
          have h1 := q2.1 y List.mem_cons_self
          have h2 := h.1 y (by simp)
          omega
      subst ht
      refine .inr ⟨s, rfl, fun x m => ?_, q.1⟩
      have h1 := q.2.2 x m (k : Int) (by simp)
      have h2 := h.1 x (by simp [m])
      omega
    · refine .inl ⟨fun x m => ?_, h.2⟩
      have h1 := h.1 x m
      have h2 : x ≠ k := fun e => hk (e ▸ m)
      omega
  · rintro (h | ⟨r, rfl, h⟩)
    · exact ⟨fun x m => by have := h.1 x m; omega, h.2⟩
    · refine ⟨fun x m => ?_, List.pairwise_append.mpr ⟨h.2, by simp, fun a ha b hb => ?_⟩⟩
      · rcases List.mem_append.mp m with m | m
        · have := h.1 x m
          omega
        · rw [List.mem_singleton.mp m]
          omega
      · rw [List.mem_singleton.mp hb]
        have := h.1 a ha
        omega
theorem subs_zero : IsSubs 0 [[]] := ⟨fun B => by rw [rising_zero, List.mem_singleton], by simp, ⟨[], rfl⟩, rfl⟩
theorem not_self {k : Nat} {L : List (List Int)} (h : IsSubs k L) {r : List Int} : r ++ [(k : Int)] ∉ L := fun m => by
  have := ((h.mem _).mp m).1 k (by simp)
  omega
/-- each row, then the row with k: side by side -/
theorem subs_flat {k : Nat} {L : List (List Int)} (h : IsSubs k L) : IsSubs (k + 1) (L.flatMap fun r => [r, r ++ [(k : Int)]]) := by
  have mem : ∀ B, B ∈ (L.flatMap fun r => [r, r ++ [(k : Int)]]) ↔ Rising (k + 1) B := fun B => by
    rw [List.mem_flatMap, rising_succ]
    constructor
    · rintro ⟨r, hr, hB⟩
      simp only [List.mem_cons, List.not_mem_nil, or_false] at hB
      rcases hB with rfl | rfl
      · exact .inl ((h.mem _).mp hr)
      · exact .inr ⟨r, rfl, (h.mem _).mp hr⟩
    · rintro (hB | ⟨r, rfl, hr⟩)
      · exact ⟨B, (h.mem _).mpr hB, by simp⟩
      · exact ⟨r, (h.mem _).mpr hr, by simp⟩
  refine ⟨mem, ?_, ?_, ?_⟩
  · have go : ∀ M : List (List Int), M.Nodup → (∀ r ∈ M, ∀ s ∈ M, s ++ [(k : Int)] ≠ r) → (M.flatMap fun r => [r, r ++ [(k : Int)]]).Nodup := by
      intro M
      induction M with
      | nil => intro _ _; simp
      | cons r M ih =>
        intro hn hs
        have q := List.nodup_cons.mp hn
        rw [List.flatMap_cons]
        refine List.nodup_append.mpr ⟨?_, ih q.2 (fun a ha b hb => hs a (List.mem_cons_of_mem _ ha) b (List.mem_cons_of_mem _ hb)), fun a ha b hb e => ?_⟩
        · simp
        · subst e
          obtain ⟨s, hs1, hs2⟩ := List.mem_flatMap.mp hb
          simp only [List.mem_cons, List.not_mem_nil, or_false] at ha hs2
          rcases ha with rfl | rfl
          · rcases hs2 with rfl | e
            · exact q.1 hs1
            · exact hs _ List.mem_cons_self s (List.mem_cons_of_mem _ hs1) e.symm
          · rcases hs2 with e | e
            · exact hs s (List.mem_cons_of_mem _ hs1) r List.mem_cons_self e
            · have := List.append_cancel_right e
              subst this
              exact q.1 hs1
    exact go L h.nd fun r hr s _ e => not_self h (e ▸ hr)
  · obtain ⟨r, rfl⟩ := h.hd
    exact ⟨_, by rw [List.flatMap_cons]; rfl⟩
  · have : ∀ M : List (List Int), (M.flatMap fun r => [r, r ++ [(k : Int)]]).length = M.length * 2 := fun M => by
      induction M with
      | nil => rfl
      | cons r M ih =>
        rw [List.flatMap_cons, List.length_append, ih, List.length_cons]
        simp only [List.length_cons, List.length_nil]
        omega
    rw [this, h.len, Nat.pow_succ]
/-- all rows, then all rows with k -/
theorem subs_app {k : Nat} {L : List (List Int)} (h : IsSubs k L) : IsSubs (k + 1) (L ++ L.map fun r => r ++ [(k : Int)]) := by
  refine ⟨fun B => ?_, ?_, ?_, ?_⟩
  · rw [List.mem_append, rising_succ, h.mem, List.mem_map]
    constructor
    · rintro (hB | ⟨r, hr, rfl⟩)
      · exact .inl hB
      · exact .inr ⟨r, rfl, (h.mem _).mp hr⟩
    · rintro (hB | ⟨r, rfl, hr⟩)
      · exact .inl hB
      · exact .inr ⟨r, (h.mem _).mpr hr, rfl⟩
  · refine List.nodup_append.mpr ⟨h.nd, ?_, fun a ha b hb e => ?_⟩
    · exact List.pairwise_map.mpr (h.nd.imp fun hne e => hne (List.append_cancel_right e))
    · subst e
      obtain ⟨r, _, e⟩ := List.mem_map.mp hb
      exact not_self h (e ▸ ha)
  · obtain ⟨r, rfl⟩ := h.hd
    exact ⟨_, rfl⟩
  · rw [List.length_append, List.length_map, h.len, Nat.pow_succ]
    omega
def genS : Nat → List (List Int)
  | 0 => [[]]
  | k + 1 => genS k ++ (genS k).map fun r => r ++ [(k : Int)]
theorem genS_is : ∀ k, IsSubs k (genS k)
  | 0 => subs_zero
  | k + 1 => subs_app (genS_is k)
/-- all sets of components, ascending -/
def subs (n : Nat) : List (List Int) := (genS n).mergeSort leI
theorem subs_of {n : Nat} {L : List (List Int)} (h : IsSubs n L) : L.mergeSort leI = subs n := by
  have p : L.Perm (genS n) := (List.perm_ext_iff_of_nodup h.nd (genS_is n).nd).mpr fun B => by rw [h.mem, (genS_is n).mem]
  exact List.Perm.eq_of_pairwise (fun a b _ _ h1 h2 => leI_anti h1 h2) (List.pairwise_mergeSort leI_tr leI_tot L) (List.pairwise_mergeSort leI_tr leI_tot _)
    ((List.mergeSort_perm _ _).trans (p.trans (List.mergeSort_perm _ _).symm))
theorem mem_subs {n : Nat} {B : List Int} : B ∈ subs n ↔ Rising n B := by
  unfold subs
  rw [(List.mergeSort_perm _ _).mem_iff, (genS_is n).mem]
theorem subs_len (n : Nat) : (subs n).length = 2 ^ n := by
  unfold subs
  rw [List.length_mergeSort, (genS_is n).len]
theorem subs_sorted (n : Nat) : (subs n).Pairwise fun a b => leI a b = true := List.pairwise_mergeSort leI_tr leI_tot _
theorem subs_nodup (n : Nat) : (subs n).Nodup := (List.mergeSort_perm _ _).nodup_iff.mpr (genS_is n).nd
theorem pow8 {n : Nat} (h : n ≤ 8) : 2 ^ n ≤ 256 := Nat.pow_le_pow_right (by decide) h
/-- loops over rows -/
theorem forS_flat {α : Type} {body : List D → D → PM (List D)} (g : α → D) (f : α → List D) {m : Nat} : ∀ {L : List α} {c : List D}, (∀ c r, r ∈ L → c.length + m ≤ lim → body c (g r) = pure (c ++ f r)) → (∀ r ∈ L, (f r).length ≤ m) → c.length + L.length * m ≤ lim → forS dec1 body (L.map g) c = pure (c ++ L.flatMap f)
  | [], c, _, _, _ => by
    rw [List.map_nil, List.flatMap_nil, List.append_nil]
    rfl
  | r :: L, c, h, hm, hl => by
    rw [List.length_cons, Nat.succ_mul] at hl
    rw [List.map_cons]
    show (body c (g r) >>= forS dec1 body (L.map g)) = _
    have := hm r List.mem_cons_self
    rw [h c r List.mem_cons_self (by omega), pure_bind, forS_flat g f (fun c m hm => h c m (List.mem_cons_of_mem _ hm)) (fun x mx => hm x (List.mem_cons_of_mem _ mx)) (by rw [List.length_append]; omega), List.flatMap_cons, List.append_assoc]
/-- keeps those that pass -/
theorem forS_keep {α : Type} {body : List D → D → PM (List D)} (g : α → D) (b : α → Bool) {L : List α} {c : List D} (h : ∀ c r, r ∈ L → c.length + 1 ≤ lim → body c (g r) = pure (if b r = true then c ++ [g r] else c)) (hl : c.length + L.length ≤ lim) : forS dec1 body (L.map g) c = pure (c ++ (L.filter b).map g) := by
  rw [forS_flat g (fun r => if b r = true then [g r] else []) (m := 1) (fun c r m hc => ?_) (fun r _ => by split <;> simp) (by omega)]
  · congr 2
    clear h hl
    induction L with
    | nil => rfl
    | cons r L ih =>
      rw [List.flatMap_cons, ih]
      by_cases q : b r = true
      · rw [if_pos q, List.filter_cons_of_pos q]
        rfl
      · rw [if_neg q, List.filter_cons_of_neg q]
        rfl
  · rw [h c r m hc]
    split <;> simp
end Lw

/-! M13: explanations; the law's own list of them (k10-k18). -/
namespace Lw
open PySem EV
theorem eqBl (a b : Bool) : eqD (.bl a) (.bl b) = pure (.bl (a == b)) := by
  show (if shp (.bl a) = true ∧ shp (.bl b) = true then pure (.bl (eqvD (.bl a) (.bl b))) else bad : PM D) = _
  rw [if_pos ⟨by cases a <;> decide, by cases b <;> decide⟩]
  rfl
theorem neStr2 (a b : Str) : neD (.str a) (.str b) = pure (.bl (!(a == b))) := rfl
section
variable {N : Nt} {ws : List Str}
/-- with B broken the watched ones do what the report says -/
noncomputable def fitB (N : Nt) (ws : List Str) (B : List Int) : Bool := (iota ws.length).all fun i => (ix ws i == "unseen") || ((ix ws i == "alarm") == meets (reachL N i) B)
noncomputable def everyL (N : Nt) (ws : List Str) : List (List Int) := (subs N.length).filter (fitB N ws)
theorem everyL_len (h : Net N) (ws : List Str) : (everyL N ws).length ≤ 256 := Nat.le_trans (List.length_filter_le _ _) (by rw [subs_len]; exact pow8 h.hi)
theorem mem_every {B : List Int} : B ∈ everyL N ws ↔ Rising N.length B ∧ fitB N ws B = true := by
  unfold everyL
  rw [List.mem_filter, mem_subs]
theorem fit_alarm {B : List Int} (f : fitB N ws B = true) {i : Int} (m : i ∈ withL ws "alarm") : meets (reachL N i) B = true := by
  obtain ⟨h1, h2⟩ := mem_withL.mp m
  have z := List.all_eq_true.mp f i (mem_iota.mpr h1)
  rw [h2, show (("alarm" : Str) == "unseen") = false by decide +kernel, show (("alarm" : Str) == "alarm") = true by decide +kernel, Bool.false_or, beq_iff_eq] at z
  exact z.symm
theorem fit_quiet {B : List Int} (f : fitB N ws B = true) {i : Int} (m : i ∈ withL ws "quiet") : meets (reachL N i) B = false := by
  obtain ⟨h1, h2⟩ := mem_withL.mp m
  have z := List.all_eq_true.mp f i (mem_iota.mpr h1)
  rw [h2, show (("quiet" : Str) == "unseen") = false by decide +kernel, show (("quiet" : Str) == "alarm") = false by decide +kernel, Bool.false_or, beq_iff_eq] at z
  exact z.symm
theorem fit_of (r : Rep N ws) {B : List Int} (ha : ∀ i ∈ withL ws "alarm", meets (reachL N i) B = true) (hq : ∀ i ∈ withL ws "quiet", meets (reachL N i) B = false) : fitB N ws B = true := by
  refine List.all_eq_true.mpr fun i mi => ?_
  have hi := mem_iota.mp mi
  rcases r.ws (ix ws i) (ix_mem hi.1 hi.2) with e | e | e
  · rw [ha i (mem_withL.mpr ⟨hi, e⟩), e]
    rfl
  · rw [hq i (mem_withL.mpr ⟨hi, e⟩), e]
    rfl
  · rw [e]
    rfl
theorem fit_sub (h : Net N) (r : Rep N ws) {B : List Int} (hB : Rising N.length B) (f : fitB N ws B = true) : ∀ b ∈ B, b ∈ candL N ws := fun b mb => by
  refine mem_setOf.mpr ⟨hB.1 b mb, fun ⟨q, mq, rq⟩ => ?_⟩
  have z := fit_quiet f mq
  have hq := (mem_withL.mp mq).1
  rw [(alarm_iff h hq.1 (by rw [← r.len]; exact hq.2)).mpr ⟨b, mb, rq⟩] at z
  cases z
/-- every alarming one has a candidate in its reach -/
noncomputable def explained (N : Nt) (ws : List Str) : Bool := (withL ws "alarm").all fun a => meets (reachL N a) (candL N ws)
theorem cand_quiet (h : Net N) (r : Rep N ws) {i : Int} (m : i ∈ withL ws "quiet") : meets (reachL N i) (candL N ws) = false := by
  have hq := (mem_withL.mp m).1
  have hq2 : i < N.length := by rw [← r.len]; exact hq.2
  cases e : meets (reachL N i) (candL N ws) with
  | false => rfl
  | true =>
    obtain ⟨c, mc, rc⟩ := (alarm_iff h hq.1 hq2).mp e
    exact absurd ⟨i, m, rc⟩ (mem_setOf.mp mc).2
theorem cand_fits (h : Net N) (r : Rep N ws) (e : explained N ws = true) : fitB N ws (candL N ws) = true := fit_of r (fun i m => List.all_eq_true.mp e i m) fun i m => cand_quiet h r m
theorem explained_of (h : Net N) (r : Rep N ws) {B : List Int} (hB : Rising N.length B) (f : fitB N ws B = true) : explained N ws = true := List.all_eq_true.mpr fun a ma => by
  obtain ⟨x, m1, m2⟩ := meets_iff.mp (fit_alarm f ma)
  exact meets_iff.mpr ⟨x, m1, fit_sub h r hB f x m2⟩
theorem every_nil (h : Net N) (r : Rep N ws) : (everyL N ws).isEmpty = !explained N ws := by
  cases e : explained N ws with
  | true =>
    have m : candL N ws ∈ everyL N ws := mem_every.mpr ⟨candL_rising _ _, cand_fits h r e⟩
    cases q : everyL N ws with
    | nil => rw [q] at m; cases m
    | cons _ _ => rfl
  | false =>
    cases q : everyL N ws with
    | nil => rfl
    | cons B _ =>
      have m : B ∈ everyL N ws := by rw [q]; exact List.mem_cons_self
      obtain ⟨h1, h2⟩ := mem_every.mp m
      rw [explained_of h r h1 h2] at e
      cases e
theorem forS_all {ι κ : Type} {dec : D → Option ι} {body : D → ι → PM D} (g : κ → ι) (p : κ → Bool) : ∀ {ds : List D} {zs : List κ} {b : Bool}, ds.map dec = zs.map (fun z => some (g z)) → (∀ b, ∀ z ∈ zs, body (.bl b) (g z) = pure (.bl (b && p z))) → forS dec body ds (.bl b) = pure (.bl (b && zs.all p))
  | [], [], b, _, _ => by
    rw [List.all_nil, Bool.and_true]
    rfl
  | [], _ :: _, _, h, _ => by simp at h
  | _ :: _, [], _, h, _ => by simp at h
  | d :: ds, z :: zs, b, h, hb => by
    rw [List.map_cons, List.map_cons] at h
    injection h with h1 h2
    unfold forS
    rw [h1]
    show (body (.bl b) (g z) >>= _) = _
    rw [hb b z List.mem_cons_self, pure_bind, forS_all g p h2 fun b y m => hb b y (List.mem_cons_of_mem _ m), List.all_cons, Bool.and_assoc]
end
end Lw

/-! M14: needed_of, is_explained, ruled_out, verdict_of. -/
namespace Lw
open PySem EV
section
variable {N : Nt} {ws : List Str}
/-- the candidates in the reach of a -/
noncomputable def needL (N : Nt) (ws : List Str) (a : Int) : List Int := (reachL N a).filter fun x => decide (x ∈ candL N ws)
theorem needL_len (h : Net N) (ws : List Str) (a : Int) : (needL N ws a).length ≤ 8 := Nat.le_trans (List.length_filter_le _ _) (reachL_len h a)
theorem withL_in (r : Rep N ws) {w : Str} {i : Int} (m : i ∈ withL ws w) : 0 ≤ i ∧ i < N.length := by
  have z := (mem_withL.mp m).1
  exact ⟨z.1, by rw [← r.len]; exact z.2⟩
theorem withL_len8 (h : Net N) (r : Rep N ws) (w : Str) : (withL ws w).length ≤ 8 := by
  have z := (withL_rising ws w).len
  have := r.len
  have := h.hi
  omega
/-- rows of ints, small: how they compare -/
theorem rows_shp {L : List (List Int)} : shp (.lst (L.map tI)) = true := by
  unfold EV.shp SeqAt.shaped
  have e1 : PyData.canLayAll0 (toPyL (L.map tI)) = true := all_lay fun x m => by
    obtain ⟨a, _, rfl⟩ := List.mem_map.mp m
    have z := allI_lay a
    simp only [toPy, PyData.canLay0]
    exact z
  have e2 : PyData.depthAll (toPyL (L.map tI)) ≤ 1 := all_deep fun x m => by
    obtain ⟨a, _, rfl⟩ := List.mem_map.mp m
    have z := allI_deep a
    simp only [toPy, PyData.depth]
    omega
  simp only [toPy, PyData.canLay0, PyData.depth, e1, Bool.true_and, decide_eq_true_eq]
  omega
theorem eqv_rows : ∀ a b : List Int, eqvD (tI a) (tI b) = (a == b)
  | [], [] => rfl
  | [], _ :: _ => rfl
  | _ :: _, [] => rfl
  | x :: a, y :: b => by
    show (x == y && eqvD (tI a) (tI b)) = (x == y && a == b)
    rw [eqv_rows a b]
theorem any_rows (L : List (List Int)) (b : List Int) : ((L.map tI).any fun z => eqvD z (tI b)) = decide (b ∈ L) := by
  rw [Bool.eq_iff_iff, List.any_eq_true, decide_eq_true_eq]
  constructor
  · rintro ⟨z, hz, e⟩
    obtain ⟨a, ha, rfl⟩ := List.mem_map.mp hz
    rw [eqv_rows, beq_iff_eq] at e
    exact e ▸ ha
  · intro h
    exact ⟨tI b, List.mem_map.mpr ⟨b, h, rfl⟩, by rw [eqv_rows, beq_iff_eq]⟩
theorem inRows (b : List Int) (L : List (List Int)) : inD (tI b) (.lst (L.map tI)) = pure (.bl (decide (b ∈ L))) := by
  show (if shp (tI b) = true ∧ shp (.lst (L.map tI)) = true then pure (.bl ((L.map tI).any fun z => eqvD z (tI b))) else bad : PM D) = _
  rw [if_pos ⟨shpTI b, rows_shp⟩, any_rows]
theorem ninRows (b : List Int) (L : List (List Int)) : notInD (tI b) (.lst (L.map tI)) = pure (.bl (!decide (b ∈ L))) := by
  show (if shp (tI b) = true ∧ shp (.lst (L.map tI)) = true then pure (.bl (!(L.map tI).any fun z => eqvD z (tI b))) else bad : PM D) = _
  rw [if_pos ⟨shpTI b, rows_shp⟩, any_rows]
theorem need_empty (N : Nt) (ws : List Str) (a : Int) : needL N ws a = [] ↔ meets (reachL N a) (candL N ws) = false := by
  unfold needL
  rw [List.filter_eq_nil_iff, ← Bool.not_eq_true, meets_iff]
  constructor
  · rintro h ⟨x, h1, h2⟩
    exact h x h1 (decide_eq_true h2)
  · intro h x h1 h2
    exact h ⟨x, h1, of_decide_eq_true h2⟩
/-- the quiet ones that reach c -/
noncomputable def rulersL (N : Nt) (ws : List Str) (c : Int) : List Int := (withL ws "quiet").filter fun q => decide (c ∈ reachL N q)
theorem rulers_ne (h : Net N) (r : Rep N ws) {c : Int} (h0 : 0 ≤ c) (h1 : c < N.length) (hc : c ∉ candL N ws) : rulersL N ws c ≠ [] := by
  have : ∃ q ∈ withL ws "quiet", Reach N q c := Classical.byContradiction fun z => hc (mem_setOf.mpr ⟨⟨h0, h1⟩, z⟩)
  obtain ⟨q, mq, rq⟩ := this
  have z := withL_in r mq
  intro e
  have m : q ∈ rulersL N ws c := List.mem_filter.mpr ⟨mq, decide_eq_true ((mem_reachL h z.1 z.2).mpr rq)⟩
  rw [e] at m
  cases m
/-- the alarming ones without a candidate -/
noncomputable def lostL (N : Nt) (ws : List Str) : List Int := (withL ws "alarm").filter fun a => !meets (reachL N a) (candL N ws)
theorem first0 {l : List Int} (h : l ≠ []) : getD (lI l) (.int 0) = pure (.int (ix l 0)) := by
  have : 0 < l.length := List.length_pos_iff.mpr h
  rw [getL (l := l) (f := D.int) (by omega) (by omega)]
noncomputable def firstL (N : Nt) (ws : List Str) (c : Int) : Int := ix (rulersL N ws c) 0
/-- the proof that nothing explains -/
noncomputable def lostD (N : Nt) (ws : List Str) : Int := ix (lostL N ws) 0
noncomputable def lostQ (N : Nt) (ws : List Str) : List Int := (reachL N (lostD N ws)).map (firstL N ws)
theorem lost_ne (e : (withL ws "alarm").all (fun a => meets (reachL N a) (candL N ws)) = false) : lostL N ws ≠ [] := by
  intro z
  unfold lostL at z
  rw [List.filter_eq_nil_iff] at z
  rw [List.all_eq_false] at e
  obtain ⟨a, ma, h⟩ := e
  exact z a ma (by simpa using h)
theorem lost_mem (h : Net N) (r : Rep N ws) (e : lostL N ws ≠ []) : (0 ≤ lostD N ws ∧ lostD N ws < N.length) ∧ ∀ c ∈ reachL N (lostD N ws), rulersL N ws c ≠ [] := by
  have hp : 0 < (lostL N ws).length := List.length_pos_iff.mpr e
  have m : lostD N ws ∈ lostL N ws := ix_mem (by omega) (by omega)
  obtain ⟨m1, m2⟩ := List.mem_filter.mp m
  have z := withL_in r m1
  refine ⟨z, fun c mc => ?_⟩
  have hc := h.reach_in z ((mem_reachL h z.1 z.2).mp mc)
  refine rulers_ne h r hc.1 hc.2 fun k => ?_
  have : meets (reachL N (lostD N ws)) (candL N ws) = true := meets_iff.mpr ⟨c, mc, k⟩
  rw [this] at m2
  cases m2
end
end Lw

/-! M20: rings. -/
namespace Lw
open PySem EV
section
variable {N : Nt}
/-- what c reaches and what reaches c -/
noncomputable def ringL (N : Nt) (c : Int) : List Int := (reachL N c).filter fun o => decide (c ∈ reachL N o)
theorem mem_ringL (h : Net N) {c o : Int} (h0 : 0 ≤ c) (h1 : c < N.length) : o ∈ ringL N c ↔ Reach N c o ∧ Reach N o c := by
  unfold ringL
  rw [List.mem_filter, mem_reachL h h0 h1, decide_eq_true_eq]
  constructor
  · rintro ⟨r1, r2⟩
    have z := h.reach_in ⟨h0, h1⟩ r1
    exact ⟨r1, (mem_reachL h z.1 z.2).mp r2⟩
  · rintro ⟨r1, r2⟩
    have z := h.reach_in ⟨h0, h1⟩ r1
    exact ⟨r1, (mem_reachL h z.1 z.2).mpr r2⟩
theorem ringL_asc (N : Nt) (c : Int) : (ringL N c).Pairwise (· < ·) := (setOf_asc _ _).filter _
theorem ringL_self (h : Net N) {c : Int} (h0 : 0 ≤ c) (h1 : c < N.length) : c ∈ ringL N c := (mem_ringL h h0 h1).mpr ⟨.refl, .refl⟩
theorem Reach.trans' {c x y : Int} (h : Reach N c x) (h2 : Reach N x y) : Reach N c y := by
  induction h2 with
  | refl => exact h
  | step _ m ih => exact .step ih m
theorem ringL_in (h : Net N) {c o : Int} (h0 : 0 ≤ c) (h1 : c < N.length) (m : o ∈ ringL N c) : 0 ≤ o ∧ o < N.length := h.reach_in ⟨h0, h1⟩ ((mem_ringL h h0 h1).mp m).1
theorem ringL_eq (h : Net N) {c o : Int} (h0 : 0 ≤ c) (h1 : c < N.length) (m : o ∈ ringL N c) : ringL N o = ringL N c := by
  have z := ringL_in h h0 h1 m
  obtain ⟨r1, r2⟩ := (mem_ringL h h0 h1).mp m
  refine asc_eq (ringL_asc N o) (ringL_asc N c) fun k => ?_
  rw [mem_ringL h z.1 z.2, mem_ringL h h0 h1]
  exact ⟨fun q => ⟨r1.trans' q.1, q.2.trans' r2⟩, fun q => ⟨r2.trans' q.1, q.2.trans' r1⟩⟩
theorem ringL_len (h : Net N) (c : Int) : (ringL N c).length ≤ 8 := Nat.le_trans (List.length_filter_le _ _) (reachL_len h c)
/-- all rings, ascending -/
noncomputable def ringsL (N : Nt) : List (List Int) := setT ((iota N.length).map (ringL N))
theorem iota_snoc (n : Nat) : iota (n + 1) = iota n ++ [(n : Int)] := by
  unfold iota
  rw [List.range_succ, List.map_append]
  rfl
/-- the rings of the first i components -/
structure RgUp (N : Nt) (i : Nat) (L : List (List Int)) : Prop where
  mem : ∀ B, B ∈ L ↔ ∃ c ∈ iota i, B = ringL N c
  st : L.Pairwise fun a b => leR a b = true
  nd : L.Nodup
  len : L.length ≤ i
theorem asc_head {l : List Int} {x : Int} (h : l.Pairwise (· < ·)) (m : x ∈ l) : ∃ y r, l = y :: r ∧ y ≤ x := by
  cases l with
  | nil => cases m
  | cons y r =>
    refine ⟨y, r, rfl, ?_⟩
    rcases List.mem_cons.mp m with e | m
    · omega
    · have := (List.pairwise_cons.mp h).1 x m
      omega
theorem RgUp.step (h : Net N) {i : Nat} {L : List (List Int)} (a : RgUp N i L) (hi : i < N.length) : RgUp N (i + 1) (if ringL N i ∈ L then L else L ++ [ringL N i]) := by
  have mem' : ∀ B, (B ∈ L ∨ B = ringL N i) ↔ ∃ c ∈ iota (i + 1), B = ringL N c := fun B => by
    rw [a.mem, iota_snoc]
    constructor
    · rintro (⟨c, m, e⟩ | e)
      · exact ⟨c, List.mem_append_left _ m, e⟩
      · exact ⟨i, by simp, e⟩
    · rintro ⟨c, m, e⟩
      rcases List.mem_append.mp m with m | m
      · exact .inl ⟨c, m, e⟩
      · rw [List.mem_singleton.mp m] at e
        exact .inr e
  by_cases q : ringL N i ∈ L
  · rw [if_pos q]
    refine ⟨fun B => ?_, a.st, a.nd, by have := a.len; omega⟩
    rw [← mem']
    constructor
    · exact .inl
    · rintro (m | e)
      · exact m
      · rw [e]
        exact q
  · rw [if_neg q]
    refine ⟨fun B => by rw [List.mem_append, List.mem_singleton]; exact mem' B, ?_, ?_, by rw [List.length_append, List.length_singleton]; have := a.len; omega⟩
    · refine List.pairwise_append.mpr ⟨a.st, by simp, fun B mB R mR => ?_⟩
      rw [List.mem_singleton.mp mR]
      obtain ⟨c, mc, rfl⟩ := (a.mem B).mp mB
      have hc := mem_iota.mp mc
      obtain ⟨y, r, e1, l1⟩ := asc_head (ringL_asc N c) (ringL_self h hc.1 (by omega))
      obtain ⟨z, t, e2, l2⟩ := asc_head (ringL_asc N i) (ringL_self h (by omega) (by omega))
      have mz : z ∈ ringL N i := by rw [e2]; exact List.mem_cons_self
      have hz := ringL_in h (by omega) (by omega) mz
      have : z = (i : Int) := by
        refine Classical.byContradiction fun ne => q ((a.mem _).mpr ⟨z, mem_iota.mpr ⟨hz.1, by omega⟩, ?_⟩)
        exact (ringL_eq h (by omega) (by omega) mz).symm
      refine decide_eq_true ?_
      rw [e1, e2, this]
      exact List.le_of_lt (List.Lex.rel (by omega))
    · refine List.nodup_append.mpr ⟨a.nd, by simp, fun x hx y hy e => ?_⟩
      rw [List.mem_singleton.mp hy] at e
      exact q (e ▸ hx)
theorem RgUp.done {L : List (List Int)} (a : RgUp N N.length L) : L = ringsL N := setT_uniq a.st (setT_sorted _) a.nd (setT_nodup _) fun B => by
  rw [a.mem]
  unfold ringsL
  rw [mem_setT, List.mem_map]
  exact ⟨fun ⟨c, m, e⟩ => ⟨c, m, e.symm⟩, fun ⟨c, m, e⟩ => ⟨c, m, e.symm⟩⟩
theorem ringsL_mem {B : List Int} (m : B ∈ ringsL N) : ∃ c ∈ iota N.length, B = ringL N c := by
  unfold ringsL at m
  rw [mem_setT] at m
  obtain ⟨c, mc, e⟩ := List.mem_map.mp m
  exact ⟨c, mc, e.symm⟩
theorem forS_invQ {C ι κ : Type} {dec : D → Option ι} {body : C → ι → PM C} (g : κ → ι) (P : Nat → C → Prop) : ∀ {ds : List D} {zs : List κ} {k : Nat} {c : C}, ds.map dec = zs.map (fun z => some (g z)) → P k c → (∀ i z c, zs[i]? = some z → P (k + i) c → ∃ c', body c (g z) = pure c' ∧ P (k + i + 1) c') → ∃ c', forS dec body ds c = pure c' ∧ P (k + zs.length) c'
  | [], [], k, c, _, h, _ => ⟨c, rfl, h⟩
  | [], _ :: _, _, _, h, _, _ => by simp at h
  | _ :: _, [], _, _, h, _, _ => by simp at h
  | d :: ds, z :: zs, k, c, he, h, hb => by
    rw [List.map_cons, List.map_cons] at he
    injection he with h1 h2
    obtain ⟨c1, e1, p1⟩ := hb 0 z c rfl h
    obtain ⟨c2, e2, p2⟩ := forS_invQ g P (k := k + 1) (c := c1) h2 p1 fun i m c hi hp => by
      have z := hb (i + 1) m c hi (by rw [show k + (i + 1) = k + 1 + i by omega]; exact hp)
      rw [show k + (i + 1) + 1 = k + 1 + i + 1 by omega] at z
      exact z
    refine ⟨c2, ?_, by rw [List.length_cons, show k + (zs.length + 1) = k + 1 + zs.length by omega]; exact p2⟩
    unfold forS
    rw [h1]
    show (body c (g z) >>= forS dec body ds) = _
    rw [e1, pure_bind, e2]
theorem forS_thenQ {C β ι κ : Type} {dec : D → Option ι} {body : C → ι → PM C} (g : κ → ι) {kk : C → PM β} {v : PM β} {ds : List D} {zs : List κ} {c : C} (he : ds.map dec = zs.map (fun z => some (g z))) (P : Nat → C → Prop) (h0 : P 0 c) (hb : ∀ i z c, zs[i]? = some z → P i c → ∃ c', body c (g z) = pure c' ∧ P (i + 1) c') (hk : ∀ c, P zs.length c → kk c = v) :
    (forS dec body ds c >>= kk) = v := by
  obtain ⟨c', e, q⟩ := forS_invQ g P (k := 0) he h0 fun i n c e h => by
    rw [Nat.zero_add] at h ⊢
    exact hb i n c e h
  rw [Nat.zero_add] at q
  rw [e, pure_bind, hk c' q]
theorem rings_of (h : Net N) : f_rings_of (dN N) = pure (.tup ((ringsL N).map tI)) := by
  have hl := h.lim
  have h8 := h.hi
  have eo : okL [] = pure [] := rfl
  simp only [f_rings_of, pure_bind, bind_assoc, fn1_eq, all_reaches h, run0_p, eo, enum_lst, id]
  refine forS_thenQ (zs := iota N.length) (fun i => (D.int i, tI (reachL N i))) (pairs_iota _ _) (fun i c => ∃ L, c = L.map tI ∧ RgUp N i L) ⟨[], rfl, ⟨fun B => by simp [iota], .nil, .nil, by simp⟩⟩ (fun i z c hz hc => ?_) (fun c hc => ?_)
  · obtain ⟨L, rfl, a⟩ := hc
    have hi : i < N.length := by
      have := (List.getElem?_eq_some_iff.mp hz).1
      rw [len_iota] at this
      exact this
    rw [iota_get hi] at hz
    have hz := (Option.some.inj hz).symm
    subst hz
    have r8 := reachL_len h (i : Int)
    refine ⟨_, ?_, _, rfl, a.step h hi⟩
    dsimp only
    rw [items_tup, pure_bind, filtI (fun o => decide ((i : Int) ∈ reachL N o)) (by show _ ≤ 1000000; omega) (fun o mo => ?_), pure_bind]
    · show (tupleF [lI (ringL N i)] >>= _) = _
      have rl := ringL_len h (i : Int)
      rw [tupleL (by rw [List.length_map]; show _ ≤ 1000000; omega), pure_bind]
      show (noExc (notInD (tI (ringL N i)) (.lst (L.map tI)) >>= asB) >>= _) = _
      rw [ninRows, pure_bind, asB_bl, noExc_pure, pure_bind]
      by_cases q : ringL N i ∈ L
      · rw [decide_eq_true q, if_pos q]
        rfl
      · rw [decide_eq_false q, if_neg q]
        show (okLen (L.map tI ++ [tI (ringL N i)]) >>= _) >>= _ = _
        have := a.len
        rw [okLen_ok (by rw [List.length_append, List.length_map, List.length_singleton]; show _ ≤ 1000000; omega), List.map_append]
        rfl
    · have z := h.reach_in ⟨by omega, by omega⟩ ((mem_reachL h (c := (i : Int)) (by omega) (by omega)).mp mo)
      rw [getL (f := fun c => tI (reachL N c)) z.1 (by rw [len_iota]; exact z.2), pure_bind, ix_iota z.1 z.2, inT, pure_bind, asB_bl]
  · obtain ⟨L, rfl, a⟩ := hc
    rw [len_iota] at a
    have := a.len
    rw [tupleL (by rw [List.length_map]; show _ ≤ 1000000; omega), a.done]
    rfl
theorem ringsL_len (h : Net N) : (ringsL N).length ≤ N.length := by
  have e : (ringsL N).length ≤ ((iota N.length).map (ringL N)).length := by
    have go : ∀ l : List (List Int), (ddR l).length ≤ l.length := fun l => by
      induction l with
      | nil => exact Nat.le_refl _
      | cons x r ih =>
        unfold ddR
        split
        · rw [List.length_cons]
          omega
        · rw [List.length_cons, List.length_cons]
          omega
    unfold ringsL setT
    rw [List.length_mergeSort]
    exact go _
  rw [List.length_map, len_iota] at e
  exact e
theorem rings_sm (h : Net N) : Sm 2 72 (.tup ((ringsL N).map tI)) := .tup (c := 8) (fun x m => by
  obtain ⟨B, mB, rfl⟩ := List.mem_map.mp m
  obtain ⟨c, mc, rfl⟩ := ringsL_mem mB
  have hc := mem_iota.mp mc
  have h8 := h.hi
  exact (SmI.smT fun y my => by have := ringL_in h hc.1 hc.2 my; omega).mono (by omega) (ringL_len h c)) (by rw [List.length_map]; have := ringsL_len h; have := h.hi; omega)
end
end Lw

/-! M29: what is said of calls that raise, of values that begin with a bracket. -/
namespace Lw
open PySem EV
theorem run0_raise {α : Type} (e : Ex) : run0 (raiseP e : PM α) = raiseP e := rfl
theorem raise_bind {α β : Type} (e : Ex) (f : α → PM β) : ((raiseP e : PM α) >>= f) = raiseP e := rfl
theorem ite_tt {α : Type} {a b : PM α} : (if (true : Bool) = true then a else b) = a := rfl
theorem ite_ff {α : Type} {a b : PM α} : (if (false : Bool) = true then a else b) = b := rfl
theorem said_comp (w8 : Str) : saidM w8 (raiseP ⟨"ComponentError", []⟩) = pure (.str "! component") := funext fun s => by kernel_rfl
theorem said_set (w8 : Str) : saidM w8 (raiseP ⟨"SetError", []⟩) = pure (.str "! set") := funext fun s => by kernel_rfl
theorem said_ok (w8 : Str) {h b : Nat} {d : D} (s : Sm h b d) (e1 : h ≤ 60 := by omega) (e2 : b ≤ 60000 := by omega) : saidM w8 (pure d) = pure (.str (shown d)) := funext fun z => by
  show reprF [d] z = _
  rw [s.repr e1 e2]
/-- a run without a pen whose end is known -/
theorem run0_at {α : Type} {m : PM α} {a : α} {s : List Int} (h : m [] = .ok a s) : run0 m = pure a := funext fun z => by
  show (match m [] with | .ok a _ => R.ok a z | .exc e => .exc e | .bad => .bad) = _
  rw [h]
  rfl
/-- how a text begins -/
def Open40 (z : Str) : Prop := ∃ r, z.cps.toList = 40 :: r
theorem open_app (J T : Str) : Open40 (("(" : Str) ++ J ++ T) := ⟨J.cps.toList ++ T.cps.toList, by
  show ((#[40] ++ J.cps) ++ T.cps).toList = _
  simp⟩
theorem open_tup (xs : List D) : Open40 (shown (.tup xs)) := by
  unfold EV.shown
  simp only [toPy, PyData.shown, PySem.tupleText]
  exact open_app _ _
theorem cut_open {z : Str} (h : Open40 z) : (L2.cutS z none (some 1) == ("!" : Str)) = false := by
  obtain ⟨r, e⟩ := h
  have hl : z.length = r.length + 1 := by
    have q := congrArg List.length e
    rw [Array.length_toList] at q
    exact q
  have c : L2.cutS z none (some 1) = ⟨#[40]⟩ := by
    unfold L2.cutS
    have e1 : HT.sIx z.length z.length (some 1) = 1 := by
      have q := HT.sIx_nat z.length z.length 1
      rw [show ((1 : Nat) : Int) = 1 from rfl] at q
      rw [q, hl]
      omega
    rw [e1, e]
    rfl
  rw [c]
  decide +kernel
/-- the texts that do not begin with the mark -/
theorem no_marks {zs : List Str} (h : ∀ z ∈ zs, Open40 z ∧ z.length ≤ lim) (hl : zs.length ≤ lim) :
    compL dec1 (fun z => sliceD z none (some 1) >>= fun x => eqD x (.str "!") >>= asB) (fun z => pure z) (zs.map D.str) = pure [] := by
  unfold compL
  rw [if_pos (by rw [List.length_map]; exact hl)]
  clear hl
  induction zs with
  | nil => rfl
  | cons z zs ih =>
    rw [List.map_cons]
    unfold compG
    obtain ⟨h1, h2⟩ := h z List.mem_cons_self
    have e1 : sliceD (.str z) none (some 1) = pure (.str (L2.cutS z none (some 1))) := if_pos h2
    have e2 : eqD (.str (L2.cutS z none (some 1))) (.str "!") = pure (.bl false) := by
      show (pure (.bl (L2.cutS z none (some 1) == ("!" : Str))) : PM D) = _
      rw [cut_open h1]
    show (noExc (sliceD (.str z) none (some 1) >>= fun x => eqD x (.str "!") >>= asB) >>= _) = _
    rw [e1, pure_bind, e2, pure_bind]
    show (noExc (pure false) >>= _) = _
    rw [noExc_pure, pure_bind]
    exact ih fun y m => h y (List.mem_cons_of_mem _ m)
theorem shownLe {h b : Nat} {d : D} (s : Sm h b d) (e1 : h ≤ 60 := by omega) (e2 : b ≤ 60000 := by omega) : (shown d).length ≤ lim := by
  have f := s.facts
  have l := PyData.shown_le_bulk 13 (by decide) (toPy d) f.2.1
  show (toPy d).shown.length ≤ 1000000
  omega
end Lw

/-! MC5: what the laws on Net draw. -/
namespace Lw
open PySem EV
/-- drawn numbers under their bounds -/
def Drawn (bs xs : List Int) : Prop := xs.length = bs.length ∧ ∀ (i : Nat) (x b : Int), xs[i]? = some x → bs[i]? = some b → 0 ≤ x ∧ x < b
theorem pow18 : powD (.int 10) (.int 18) = pure (.int (10 ^ 18)) := by
  show (if L2.CPow 10 18 then pure (.int (10 ^ (18 : Int).toNat)) else bad : PM D) = _
  rw [if_pos ⟨by omega, by omega, by decide⟩]
  rfl
theorem subI (a b : Int) : subD (.int a) (.int b) = pure (.int (a - b)) := rfl
theorem getLI {ns : List Int} {i : Nat} {n : Int} (h : ns[i]? = some n) : getD (lI ns) (.int (i : Int)) = pure (.int n) := by
  have hi : i < ns.length := (List.getElem?_eq_some_iff.mp h).1
  have e := getL (l := ns) (f := D.int) (i := (i : Int)) (by omega) (by omega)
  have e2 : ix ns (i : Int) = n := by
    unfold ix
    rw [show ((i : Int)).toNat = i from by omega, List.getD_eq_getElem?_getD, h]
    rfl
  rw [e2] at e
  exact e
theorem draws (c : Int) {bs : List Int} (hb : ∀ b ∈ bs, 1 ≤ b ∧ b ≤ 1000) (hl : bs.length ≤ 100) : ∃ xs, f_law_draws (.int c) (lI bs) = pure (lI xs) ∧ Drawn bs xs := by
  have e0 : okL [] = pure ([] : List D) := rfl
  have hlim : bs.length ≤ lim := by show _ ≤ 1000000; omega
  simp only [f_law_draws, pure_bind, e0, id, pow18, ge_int, asB_bl]
  by_cases hc : (10 : Int) ^ 18 ≤ c
  · rw [decide_eq_true hc, if_pos rfl]
    simp only [subI, pure_bind, items_lst]
    refine forS_ex (fun m => ∃ xs, m = pure (lI xs) ∧ Drawn bs xs) (fun i p => ∃ (l : Int) (xs : List Int), p = (.int l, xs.map D.int) ∧ Drawn (bs.take i) xs) ⟨_, [], rfl, rfl, fun i x b h => by simp at h⟩ (fun i b p hi hp => ?_) (fun p hp => ?_)
    · obtain ⟨l, xs, rfl, hx1, hx2⟩ := hp
      have hbm := hb b (List.mem_of_getElem? hi)
      have hil : i < bs.length := (List.getElem?_eq_some_iff.mp hi).1
      rw [List.length_take, Nat.min_eq_left (Nat.le_of_lt hil)] at hx1
      simp only [pure_bind, mod_ok (show b ≠ 0 by omega), fdiv_ok (show L2.CDivN l b from ⟨by omega, by omega⟩)]
      rw [show xs.map D.int ++ [D.int (l.fmod b)] = (xs ++ [l.fmod b]).map D.int by rw [List.map_append]; rfl, okLen_ok (by rw [List.length_map, List.length_append, hx1]; show i + 1 ≤ 1000000; omega), pure_bind]
      refine ⟨_, rfl, _, _, rfl, by rw [List.length_append, hx1, List.length_take, Nat.min_eq_left (by omega)]; rfl, fun k x b' h1 h2 => ?_⟩
      rw [List.getElem?_take] at h2
      by_cases hk : k < i
      · rw [List.getElem?_append_left (by omega)] at h1
        rw [if_pos (by omega)] at h2
        exact hx2 k x b' h1 (by rw [List.getElem?_take, if_pos hk]; exact h2)
      · by_cases hk2 : k = i
        · subst hk2
          rw [List.getElem?_append_right (by omega), hx1, Nat.sub_self] at h1
          rw [if_pos (by omega), hi] at h2
          cases h2
          cases h1
          exact fmod_bd (by omega)
        · rw [if_neg (by omega)] at h2
          cases h2
    · obtain ⟨l, xs, rfl, hx⟩ := hp
      rw [List.take_length] at hx
      exact ⟨xs, rfl, hx⟩
  · rw [decide_eq_false hc, if_neg (by decide)]
    simp only [len_lst, pure_bind, List.length_map, range1 hlim]
    refine forS_ex (fun m => ∃ xs, m = pure (lI xs) ∧ Drawn bs xs) (fun i p => ∃ (xs : List Int), p = xs.map D.int ∧ Drawn (bs.take i) xs) ⟨[], rfl, rfl, fun i x b h => by simp at h⟩ (fun i z p hi hp => ?_) (fun p hp => ?_)
    · obtain ⟨xs, rfl, hx1, hx2⟩ := hp
      have hil : i < bs.length := by
        have := (List.getElem?_eq_some_iff.mp hi).1
        rw [len_iota] at this
        exact this
      rw [iota_get hil] at hi
      have hi := (Option.some.inj hi).symm
      subst hi
      obtain ⟨b, hbi⟩ : ∃ b, bs[i]? = some b := ⟨bs[i], List.getElem?_eq_getElem hil⟩
      have hbm := hb b (List.mem_of_getElem? hbi)
      rw [List.length_take, Nat.min_eq_left (Nat.le_of_lt hil)] at hx1
      have b1 := fmod_bd (i := c * 48271 + (i : Int) * 69621 + 11) (j := 2147483647) (by decide)
      generalize hm : (c * 48271 + (i : Int) * 69621 + 11).fmod 2147483647 = m at b1
      have b2 := fmod_bd (i := m * 16807 + (i : Int)) (j := 998244353) (by decide)
      generalize hm2 : (m * 16807 + (i : Int)).fmod 998244353 = m2 at b2
      simp only [pure_bind, mul_r (i := c) (j := 48271), mul_r (i := (i : Int)) (j := 69621), add_int, mod_ok (show (2147483647 : Int) ≠ 0 by decide), hm, mul_r (i := m) (j := 16807), mod_ok (show (998244353 : Int) ≠ 0 by decide), hm2, getLI hbi, mod_ok (show b ≠ 0 by omega)]
      rw [show xs.map D.int ++ [D.int (m2.fmod b)] = (xs ++ [m2.fmod b]).map D.int by rw [List.map_append]; rfl, okLen_ok (by rw [List.length_map, List.length_append, hx1]; show i + 1 ≤ 1000000; omega), pure_bind]
      refine ⟨_, rfl, _, rfl, by rw [List.length_append, hx1, List.length_take, Nat.min_eq_left (by omega)]; rfl, fun k x b' h1 h2 => ?_⟩
      rw [List.getElem?_take] at h2
      by_cases hk : k < i
      · rw [List.getElem?_append_left (by omega)] at h1
        rw [if_pos (by omega)] at h2
        exact hx2 k x b' h1 (by rw [List.getElem?_take, if_pos hk]; exact h2)
      · by_cases hk2 : k = i
        · subst hk2
          rw [List.getElem?_append_right (by omega), hx1, Nat.sub_self] at h1
          rw [if_pos (by omega), hbi] at h2
          cases h2
          cases h1
          exact fmod_bd (by omega)
        · rw [if_neg (by omega)] at h2
          cases h2
    · obtain ⟨xs, rfl, hx⟩ := hp
      rw [len_iota, List.take_length] at hx
      exact ⟨xs, rfl, hx⟩
theorem Drawn.at {bs xs : List Int} (h : Drawn bs xs) {i : Nat} {b : Int} (hb : bs[i]? = some b) : ∃ x, xs[i]? = some x ∧ 0 ≤ x ∧ x < b := by
  have hi : i < xs.length := by
    rw [h.1]
    exact (List.getElem?_eq_some_iff.mp hb).1
  exact ⟨xs[i], List.getElem?_eq_getElem hi, h.2 i _ b (List.getElem?_eq_getElem hi) hb⟩
end Lw

/-! MC6: nets and sets of the laws on Net. -/
namespace Lw
open PySem EV
theorem repD_int (k : Nat) (x : Int) : repD k [D.int x] = (List.replicate k x).map D.int := by
  unfold repD
  rw [Int.toNat_natCast]
  induction k with
  | zero => rfl
  | succ k ih =>
    rw [List.replicate_succ, List.flatten_cons, ih, List.replicate_succ, List.map_cons]
    rfl
theorem rep_ok {k : Nat} (h : k ≤ 100) (x : Int) : mulL (.lst [.int x]) (.int k) = pure (lI (List.replicate k x)) := by
  unfold mulL
  dsimp only
  rw [if_pos ⟨by omega, by omega, by rw [Int.toNat_natCast]; show 1 * k ≤ 1000000; omega⟩, repD_int]
  exact mkL_ok (by rw [List.length_map, List.length_replicate]; show _ ≤ 1000000; omega)
theorem setC (c : Int) {n : Nat} (hn : n ≤ 8) : ∃ B, Rising n B ∧ f_law_set (.int c) (.int n) = pure (tI B) := by
  have e1 : mkL [D.int 3] = pure (.lst [D.int 3]) := rfl
  have hlim : n ≤ lim := by show _ ≤ 1000000; omega
  obtain ⟨xs, hx, hd⟩ := draws c (bs := List.replicate n 3) (fun b m => by rw [(List.mem_replicate.mp m).2]; omega) (by rw [List.length_replicate]; omega)
  refine ⟨(iota n).filter fun z => decide (ix xs z = 0), ⟨fun x m => mem_iota.mp (List.mem_filter.mp m).1, (iota_asc n).filter _⟩, ?_⟩
  simp only [f_law_set, pure_bind, e1, rep_ok (show n ≤ 100 by omega), fn2_eq, hx, run0_p, range1 hlim, id]
  have hl : xs.length = n := by rw [hd.1, List.length_replicate]
  rw [filtI (fun z => decide (ix xs z = 0)) (by rw [len_iota]; exact hlim) (fun z m => by
    have := mem_iota.mp m
    rw [show getD (lI xs) (.int z) = pure (.int (ix xs z)) from getL (f := D.int) this.1 (by omega), pure_bind, eqInt, pure_bind, asB_bl])]
  have fl := List.length_filter_le (fun z => decide (ix xs z = 0)) (iota n)
  rw [len_iota] at fl
  simp only [pure_bind]
  refine (congrArg (· >>= _) (tupleL (xs := ((iota n).filter fun z => decide (ix xs z = 0)).map D.int) ?_)).trans ?_
  · rw [List.length_map]
    show _ ≤ 1000000
    omega
  · rw [pure_bind]
end Lw

/-! MC7: reaches, alarms, rings of the laws on Net. -/
namespace Lw
open PySem EV
section
variable {N : Nt}
theorem ne_nilC {xs : List D} (h : shp (.lst xs) = true) : neD (.lst xs) (.lst []) = pure (.bl (!xs.isEmpty)) := by
  show (if shp (.lst xs) = true ∧ shp (.lst []) = true then pure (.bl (!eqvD (.lst xs) (.lst []))) else bad : PM D) = _
  rw [if_pos ⟨h, by decide⟩]
  cases xs with
  | nil => rfl
  | cons x r => rfl
theorem forS_rows {body : List D → D → PM (List D)} (b : Int → Bool) (f : Int → D) : ∀ {ns : List Int} {c : List D}, (∀ c n, n ∈ ns → c.length + 1 ≤ lim → body c (.int n) = pure (if b n = true then c ++ [f n] else c)) → c.length + ns.length ≤ lim → forS dec1 body (ns.map D.int) c = pure (c ++ (ns.filter b).map f)
  | [], c, _, _ => by
    rw [List.map_nil, List.filter_nil, List.map_nil, List.append_nil]
    rfl
  | n :: ns, c, h, hl => by
    rw [List.length_cons] at hl
    rw [List.map_cons]
    show (body c (.int n) >>= forS dec1 body (ns.map D.int)) = _
    rw [h c n List.mem_cons_self (by omega), pure_bind]
    by_cases q : b n = true
    · rw [if_pos q, forS_rows b f (fun c m hm => h c m (List.mem_cons_of_mem _ hm)) (by rw [List.length_append, List.length_singleton]; omega), List.filter_cons_of_pos q, List.map_cons, List.append_assoc]
      rfl
    · rw [if_neg q, forS_rows b f (fun c m hm => h c m (List.mem_cons_of_mem _ hm)) (by omega), List.filter_cons_of_neg q]
end
end Lw

/-! MC8: a Net and what it tells; what is the same. -/
namespace Lw
open PySem EV
def oN (N : Nt) : D := .obj cNet [("own_needs", dN N)]
section
variable {N : Nt}
theorem new_ok (h : Net N) : newO cNet ["own_needs"] (fnL1 f_Net_init) [dN N] = pure (oN N) := by
  have e : f_Net_init (dN N) = pure [dN N] := by
    simp only [f_Net_init, pure_bind, bind_assoc, fn1_eq, is_net h, run0_p, asB_bl, Bool.not_true, Bool.false_eq_true, if_false, List.nil_append]
  show (run0 (f_Net_init (dN N)) >>= fun fs => pure (D.obj cNet ([("own_needs" : Str)].zip fs))) = _
  rw [e]
  rfl
theorem own_needs (N : Nt) : fldD cNet "own_needs" (oN N) = pure (dN N) := by
  show (if cNet = cNet then (match ([("own_needs", dN N)] : List (Str × D)).lookup ("own_needs" : Str) with
    | some d => pure d
    | none => bad) else bad : PM D) = _
  rw [if_pos rfl]
  rfl
theorem obj_ok (N : Nt) : objD cNet "" (oN N) = pure () := by
  show (if cNet = cNet ∧ ("" : Str) ∉ [("own_needs" : Str)] then pure () else bad : PM Unit) = _
  exact if_pos ⟨rfl, by decide⟩
theorem meth_ok (F : List D → PM D) (N : Nt) (ds : List D) : methD cNet F (oN N) ds = run0 (F (oN N :: ds)) := by
  show (if cNet = cNet then run0 (F (oN N :: ds)) else bad) = _
  exact if_pos rfl
theorem net_call (h : Net N) {B : List Int} (hB : Rising N.length B) : f_Net_call (oN N) (tI B) = pure (tI (alarmsL N B)) := by
  simp only [f_Net_call, pure_bind, bind_assoc, own_needs, fn2_eq, need_set h hB, alarms_of h, run0_p, id]
theorem net_at (h : Net N) {c : Int} (h0 : 0 ≤ c) (h1 : c < N.length) : f_Net_getitem (oN N) (.int c) = pure (tI (reachL N c)) := by
  simp only [f_Net_getitem, pure_bind, bind_assoc, own_needs, fn2_eq, need_comp h0 h1, reach_ok h h0 h1, run0_p, id]
theorem net_rings (h : Net N) : f_Net_rings (oN N) = pure (.tup ((ringsL N).map tI)) := by
  simp only [f_Net_rings, pure_bind, bind_assoc, own_needs, fn1_eq, rings_of h, run0_p, id]
end
/-- what is_same looks through -/
inductive Plain : Nat → D → Prop
  | int (n : Nat) (i : Int) : Plain (n + 1) (.int i)
  | tup {n : Nat} {xs : List D} (h : ∀ x ∈ xs, Plain n x) (hl : xs.length ≤ 1000) : Plain (n + 1) (.tup xs)
theorem getD_at {xs : List D} {i : Nat} {d : D} (h : xs[i]? = some d) : getD (.tup xs) (.int (i : Int)) = pure d := by
  have hi : i < xs.length := (List.getElem?_eq_some_iff.mp h).1
  letI : Inhabited D := ⟨.non⟩
  have e := getT (l := xs) (f := id) (i := (i : Int)) (by omega) (by omega)
  rw [List.map_id] at e
  have e2 : ix xs (i : Int) = d := by
    unfold ix
    rw [show ((i : Int)).toNat = i from by omega, List.getD_eq_getElem?_getD, h]
    rfl
  rw [e2] at e
  exact e
theorem same_ok : ∀ {n : Nat} {d : D}, Plain n d → f_law_is_same n d d = pure (.bl true)
  | _, _, .int n i => by
    show f_law_is_same_step (f_law_is_same n) (.int i) (.int i) = _
    have e1 : (isF "tuple" (.int i) : PM D) = pure (.bl false) := rfl
    have e2 : (isND (.int i) .non : PM D) = pure (.bl false) := rfl
    have e3 : (isF "str" (.int i) : PM D) = pure (.bl false) := rfl
    have e4 : neD (.bl false) (.bl false) = (pure (.bl false) : PM D) := by kernel_rfl
    simp only [f_law_is_same_step, pure_bind, bind_assoc, e1, e2, e3, isF_int, isF_intB, e4, asB_bl, Bool.not_true, Bool.false_eq_true, if_false, eqInt, decide_true, id]
  | _, _, @Plain.tup n xs h hl => by
    show f_law_is_same_step (f_law_is_same n) (.tup xs) (.tup xs) = _
    have hlim : xs.length ≤ lim := by show _ ≤ 1000000; omega
    simp only [f_law_is_same_step, pure_bind, bind_assoc, isF_tup, asB_bl, Bool.not_true, Bool.false_eq_true, if_false, if_true, len_tup, neInt, ne_eq, not_true_eq_false, decide_false, range1 hlim, id]
    rw [compIm (fun _ => .bl true) (by rw [len_iota]; exact hlim) (fun _ => rfl) (fun z m => by
      have hz := mem_iota.mp m
      obtain ⟨i, rfl⟩ : ∃ i : Nat, z = i := ⟨z.toNat, by omega⟩
      have hi : i < xs.length := by omega
      have e := getD_at (List.getElem?_eq_getElem hi)
      rw [e, pure_bind]
      show run0 (f_law_is_same n xs[i] xs[i]) = _
      rw [same_ok (h _ (List.getElem_mem hi)), run0_p])]
    simp only [pure_bind]
    rw [show ((iota xs.length).map fun _ => D.bl true) = ((iota xs.length).map fun _ => true).map D.bl by rw [List.map_map]; rfl, blsF]
    simp only [pure_bind]
    exact congrArg (fun b => (pure (D.bl b) : PM D)) (List.all_eq_true.mpr fun x m => by
      obtain ⟨_, _, rfl⟩ := List.mem_map.mp m
      rfl)
theorem Plain.mono : ∀ {n : Nat} {d : D}, Plain n d → Plain (n + 1) d
  | _, _, .int n i => .int _ i
  | _, _, .tup h hl => .tup (fun x m => (h x m).mono) hl
theorem plainI (n : Nat) {ns : List Int} (h : ns.length ≤ 1000) : Plain (n + 2) (tI ns) := .tup (fun x m => by
  obtain ⟨i, _, rfl⟩ := List.mem_map.mp m
  exact .int n i) (by rw [List.length_map]; exact h)
theorem plain_same {d : D} (h : Plain 5 d) : run0 (fn2 (f_law_is_same 5) [d, d]) = pure (.bl true) := by
  rw [fn2_eq, same_ok h, run0_p]
theorem cellC (ns : List Int) {z : Int} (h : 0 ≤ z) : ∃ v : Int, f_law_cell ns (.int z) = pure (.int v) := by
  simp only [f_law_cell, pure_bind, lt_int, asB_bl, id]
  by_cases g : z < ns.length
  · rw [decide_eq_true g, if_pos rfl]
    refine ⟨ix ns z, ?_⟩
    show ((match L2.atI ns z with | some m => pure (.int m) | none => bad : PM D) >>= _) = _
    rw [atI_ix h g]
    rfl
  · rw [decide_eq_false g, if_neg (by decide)]
    exact ⟨0, rfl⟩
theorem said8_set : saidM8 (raiseP ⟨"SetError", []⟩) = pure (.str "set") := funext fun s => by kernel_rfl
theorem said8_comp : saidM8 (raiseP ⟨"ComponentError", []⟩) = pure (.str "component") := funext fun s => by kernel_rfl
theorem said8_num : saidM8 (raiseP ⟨"NumberError", []⟩) = pure (.str "number") := funext fun s => by kernel_rfl
theorem said8_ok (d : D) : saidM8 (pure d) = pure (.str "") := rfl
def listOfC (m : PM D) : List D := match m [] with
  | .ok (.lst xs) _ => xs
  | _ => []
def isFalseC (m : PM D) : Bool := match m [] with
  | .ok (.bl false) _ => true
  | _ => false
theorem isFalseC_run {m : PM D} (h : isFalseC m = true) : run0 m = pure (.bl false) := by
  unfold isFalseC at h
  split at h
  · rename_i s e
    exact run0_at e
  · cases h
theorem eightC {P : Int → Prop} (h1 : P 1) (h2 : P 2) (h3 : P 3) (h4 : P 4) (h5 : P 5) (h6 : P 6) (h7 : P 7) (h8 : P 8) : ∀ n : Nat, 1 ≤ n → n ≤ 8 → P n
  | 0, h, _ => absurd h (by decide)
  | 1, _, _ => h1
  | 2, _, _ => h2
  | 3, _, _ => h3
  | 4, _, _ => h4
  | 5, _, _ => h5
  | 6, _, _ => h6
  | 7, _, _ => h7
  | 8, _, _ => h8
  | n + 9, _, h => absurd h (by omega)
end Lw

/-! the law k52 -/
namespace Lw
open PySem EV
def ringN (n : Int) : Nt := (iota n.toNat).map fun i => if n > 1 then [(i + 1).fmod n] else []
theorem ring_len (n : Nat) : (ringN n).length = n := by
  unfold ringN
  rw [List.length_map, len_iota, Int.toNat_natCast]
theorem ring_net {n : Nat} (h1 : 1 ≤ n) (h8 : n ≤ 8) : Net (ringN n) := by
  have hl := ring_len n
  refine ⟨by omega, by omega, fun i r e => ?_⟩
  rw [hl]
  have hi : i < n := by
    have := (List.getElem?_eq_some_iff.mp e).1
    omega
  unfold ringN at e
  rw [Int.toNat_natCast, List.getElem?_map, iota_get hi] at e
  have e := (Option.some.inj e).symm
  by_cases q : (n : Int) > 1
  · simp only [if_pos q] at e
    subst e
    have hf : ((i : Int) + 1).fmod n = if i + 1 = n then 0 else (i : Int) + 1 := by
      rw [Int.fmod_eq_emod_of_nonneg _ (by omega)]
      split
      · rename_i z
        rw [show (i : Int) + 1 = n from by omega, Int.emod_self]
      · exact Int.emod_eq_of_lt (by omega) (by omega)
    rw [hf]
    refine ⟨⟨fun x m => ?_, by simp⟩, fun m => ?_⟩
    · rw [List.mem_singleton.mp m]
      split <;> omega
    · have := List.mem_singleton.mp m
      split at this <;> omega
  · simp only [if_neg q] at e
    subst e
    exact ⟨⟨by simp, .nil⟩, by simp⟩
/-- what a ring of n computes to -/
structure RingF (n : Int) : Prop where
  mkd : run0 (f_Net_ring (.int n)) = pure (oN (ringN n))
  rgs : f_Net_rings (oN (ringN n)) = pure (.tup [tI (iota n.toNat)])
  last : f_Net_getitem (oN (ringN n)) (.int (n - 1)) = pure (tI (iota n.toNat))
  none : f_Net_call (oN (ringN n)) (.tup []) = pure (.tup [])
  due : f_law_due (.int n) = pure (dN (ringN n))
  needs : f_Net_needs (oN (ringN n)) = pure (dN (ringN n))
  rg : rg1 (.int n) = pure ((iota n.toNat).map D.int)
theorem ringF1 (n : Int) (h : ∀ s, run0 (f_Net_ring (.int n)) s = (pure (oN (ringN n)) : PM D) s ∧ f_Net_rings (oN (ringN n)) s = (pure (.tup [tI (iota n.toNat)]) : PM D) s ∧ f_Net_getitem (oN (ringN n)) (.int (n - 1)) s = (pure (tI (iota n.toNat)) : PM D) s ∧
    f_Net_call (oN (ringN n)) (.tup []) s = (pure (.tup []) : PM D) s ∧ f_law_due (.int n) s = (pure (dN (ringN n)) : PM D) s ∧ f_Net_needs (oN (ringN n)) s = (pure (dN (ringN n)) : PM D) s ∧ rg1 (.int n) s = (pure ((iota n.toNat).map D.int) : PM (List D)) s) : RingF n :=
  ⟨funext fun s => (h s).1, funext fun s => (h s).2.1, funext fun s => (h s).2.2.1, funext fun s => (h s).2.2.2.1, funext fun s => (h s).2.2.2.2.1, funext fun s => (h s).2.2.2.2.2.1, funext fun s => (h s).2.2.2.2.2.2⟩
theorem ringF : ∀ n : Nat, 1 ≤ n → n ≤ 8 → RingF n := eightC (P := RingF)
  (ringF1 1 fun s => ⟨by kernel_rfl, by kernel_rfl, by kernel_rfl, by kernel_rfl, by kernel_rfl, by kernel_rfl, by kernel_rfl⟩) (ringF1 2 fun s => ⟨by kernel_rfl, by kernel_rfl, by kernel_rfl, by kernel_rfl, by kernel_rfl, by kernel_rfl, by kernel_rfl⟩)
  (ringF1 3 fun s => ⟨by kernel_rfl, by kernel_rfl, by kernel_rfl, by kernel_rfl, by kernel_rfl, by kernel_rfl, by kernel_rfl⟩) (ringF1 4 fun s => ⟨by kernel_rfl, by kernel_rfl, by kernel_rfl, by kernel_rfl, by kernel_rfl, by kernel_rfl, by kernel_rfl⟩)
  (ringF1 5 fun s => ⟨by kernel_rfl, by kernel_rfl, by kernel_rfl, by kernel_rfl, by kernel_rfl, by kernel_rfl, by kernel_rfl⟩) (ringF1 6 fun s => ⟨by kernel_rfl, by kernel_rfl, by kernel_rfl, by kernel_rfl, by kernel_rfl, by kernel_rfl, by kernel_rfl⟩)
  (ringF1 7 fun s => ⟨by kernel_rfl, by kernel_rfl, by kernel_rfl, by kernel_rfl, by kernel_rfl, by kernel_rfl, by kernel_rfl⟩) (ringF1 8 fun s => ⟨by kernel_rfl, by kernel_rfl, by kernel_rfl, by kernel_rfl, by kernel_rfl, by kernel_rfl, by kernel_rfl⟩)
/-- all reach all -/
def reachB (n : Int) : Bool := (iota n.toNat).all fun c => match f_reach_of (dN (ringN n)) (.int c) [] with
  | .ok (.tup xs) _ => xs.map (fun d => match d with | .int i => i | _ => -1) == iota n.toNat
  | _ => false
theorem reachB_ok : ∀ n : Nat, 1 ≤ n → n ≤ 8 → reachB n = true := eightC (P := fun n => reachB n = true) (by kernel_rfl) (by kernel_rfl) (by kernel_rfl) (by kernel_rfl) (by kernel_rfl) (by kernel_rfl) (by kernel_rfl) (by kernel_rfl)
theorem ring_reach {n : Nat} (h1 : 1 ≤ n) (h8 : n ≤ 8) {c : Int} (h0 : 0 ≤ c) (hc : c < n) : reachL (ringN n) c = iota n := by
  have b := List.all_eq_true.mp (reachB_ok n h1 h8) c (mem_iota.mpr ⟨h0, by omega⟩)
  have e := reach_ok (ring_net h1 h8) h0 (by rw [ring_len]; exact hc)
  have b2 : (match f_reach_of (dN (ringN n)) (.int c) [] with
    | .ok (.tup xs) _ => xs.map (fun d => match d with | .int i => i | _ => -1) == iota (n : Int).toNat
    | _ => false) = true := b
  rw [e] at b2
  have b3 : (((reachL (ringN n) c).map D.int).map (fun d => match d with | .int i => i | _ => -1) == iota (n : Int).toNat) = true := b2
  have b4 := beq_iff_eq.mp b3
  rw [List.map_map, Int.toNat_natCast] at b4
  have : ((fun d : D => match d with | .int i => i | _ => -1) ∘ D.int) = id := funext fun i => rfl
  rw [this, List.map_id] at b4
  exact b4
theorem ring_alarms {n : Nat} (h1 : 1 ≤ n) (h8 : n ≤ 8) {B : List Int} (hB : Rising n B) : alarmsL (ringN n) B = if B = [] then [] else iota n := by
  have e := alarm_filter (ring_net h1 h8) B
  rw [ring_len] at e
  rw [← e]
  split
  · rename_i z
    subst z
    refine List.filter_eq_nil_iff.mpr fun o m q => ?_
    obtain ⟨x, _, y⟩ := meets_iff.mp q
    cases y
  · rename_i z
    refine List.filter_eq_self.mpr fun o m => ?_
    have := mem_iota.mp m
    rw [ring_reach h1 h8 this.1 this.2]
    cases B with
    | nil => exact absurd rfl z
    | cons b B => exact meets_iff.mpr ⟨b, mem_iota.mpr (hB.1 b List.mem_cons_self), List.mem_cons_self⟩
theorem ne_nilT (B : List Int) : neD (tI B) (.tup []) = pure (.bl (!B.isEmpty)) := by
  show (if shp (tI B) = true ∧ shp (.tup []) = true then pure (.bl (!eqvD (tI B) (.tup []))) else bad : PM D) = _
  rw [if_pos ⟨shpTI B, by decide⟩]
  cases B with
  | nil => rfl
  | cons x r => rfl
theorem forL_ring {body : Option D → D → PM (Lp (Option D))} (h : ∀ (n : Nat), 1 ≤ n → n ≤ 8 → ∀ c, body c (.int n) = pure (.go (some (oN (ringN n))))) : forL dec1 body (([1, 2, 3, 4, 5, 6, 7, 8] : List Int).map D.int) none = pure (.go (some (oN (ringN 8)))) := by
  show (body none (.int ((1 : Nat) : Int)) >>= _) = _
  rw [h 1 (by decide) (by decide), pure_bind]
  show (body _ (.int ((2 : Nat) : Int)) >>= _) = _
  rw [h 2 (by decide) (by decide), pure_bind]
  show (body _ (.int ((3 : Nat) : Int)) >>= _) = _
  rw [h 3 (by decide) (by decide), pure_bind]
  show (body _ (.int ((4 : Nat) : Int)) >>= _) = _
  rw [h 4 (by decide) (by decide), pure_bind]
  show (body _ (.int ((5 : Nat) : Int)) >>= _) = _
  rw [h 5 (by decide) (by decide), pure_bind]
  show (body _ (.int ((6 : Nat) : Int)) >>= _) = _
  rw [h 6 (by decide) (by decide), pure_bind]
  show (body _ (.int ((7 : Nat) : Int)) >>= _) = _
  rw [h 7 (by decide) (by decide), pure_bind]
  show (body _ (.int ((8 : Nat) : Int)) >>= _) = _
  rw [h 8 (by decide) (by decide), pure_bind]
  rfl
theorem law_pure (ns : List Int) : f_law ns = pure (.bl true) := by
  have r3 : rangeF1 [.int 3] = pure ((iota 3).map D.int) := range1 (n := 3) (by decide)
  have r19 : rangeF2 [.int 1, .int 9] = pure (([1, 2, 3, 4, 5, 6, 7, 8] : List Int).map D.int) := by kernel_rfl
  have eM0 : mkT [] = pure (.tup []) := rfl
  have eM1 : ∀ a, mkT [a] = pure (.tup [a]) := fun _ => rfl
  have eM5 : ∀ a b c d e, mkT [a, b, c, d, e] = pure (.tup [a, b, c, d, e]) := fun _ _ _ _ _ => rfl
  unfold f_law
  rw [show ((pure (D.int 1)) >>= fun d3 => ((pure (D.int 9)) >>= fun d1 => (pure []) >>= fun s2 => pure (d1 :: s2)) >>= fun s4 => pure (d3 :: s4) : PM (List D)) = pure [.int 1, .int 9] from rfl, pure_bind, r19, pure_bind]
  rw [forL_ring (fun n h1 h8 c => ?_)]
  · exact funext fun s => by kernel_rfl
  have F := ringF n h1 h8
  have h := ring_net h1 h8
  have hl := ring_len n
  have it : (n : Int).toNat = n := Int.toNat_natCast n
  have eRg := F.rg
  have ob : objD cNet "ring" (oN (ringN n)) = pure () := by
    show (if cNet = cNet ∧ ("ring" : Str) ∉ [("own_needs" : Str)] then pure () else bad : PM Unit) = _
    exact if_pos ⟨rfl, by decide⟩
  have pI : Plain 3 (tI (iota n)) := (plainI 0 (by rw [len_iota]; omega)).mono
  have pN : Plain 3 (dN (ringN n)) := .tup (fun x m => by
    obtain ⟨r, mr, rfl⟩ := List.mem_map.mp m
    exact plainI 0 (by have := h.rlen mr; omega)) (by rw [List.length_map]; omega)
  have p0 : Plain 3 (.tup []) := .tup (fun _ m => nomatch m) (by decide)
  have p1 : Plain 3 (.tup [tI (iota n)]) := .tup (fun x m => by
    rw [List.mem_singleton.mp m]
    exact plainI 0 (by rw [len_iota]; omega)) (by simp)
  have pA : Plain 5 (.tup [dN (ringN n), dN (ringN n), .tup [tI (iota n)], tI (iota n), .tup []]) := Plain.mono (.tup (fun x m => by
    simp only [List.mem_cons, List.not_mem_nil, or_false] at m
    rcases m with rfl | rfl | rfl | rfl | rfl
    · exact pN
    · exact pN
    · exact p1
    · exact pI
    · exact p0) (by simp))
  have ps := plain_same pA
  have eT : mkT ((iota n).map D.int) = pure (tI (iota n)) := mkT_ok (by rw [List.length_map, len_iota]; show _ ≤ 1000000; omega)
  have f1 := F.mkd
  have f2 := F.rgs
  have f3 := F.last
  rw [it] at f2 f3 eRg
  simp only [bind_assoc, pure_bind, fn1_eq, fn2_eq, meth_ok, f1, f2, f3, F.none, F.due, F.needs, run0_p, noExc_pure, obj_ok, ob, sub_int, eM0, eM1, eM5] at ps ⊢
  simp only [eRg, eT, pure_bind, f3, ps, asB_bl, Bool.not_true, Bool.false_eq_true, if_false, r3]
  rw [forL_go (fun k mk => ?_)]
  · simp only [pure_bind, lpK]
  obtain ⟨v, hv⟩ := cellC ns (mem_iota.mp mk).1
  obtain ⟨B, hB, eB⟩ := setC v h8
  have nc := net_call h (B := B) (by rw [hl]; exact hB)
  rw [ring_alarms h1 h8 hB] at nc
  simp only [hv, run0_p, pure_bind, eB, nc, ne_nilT, asB_bl]
  by_cases q : B = []
  · subst q
    have p5 : Plain 5 (tI []) := plainI 3 (by decide)
    have z := plain_same p5
    rw [fn2_eq] at z
    have e : run0 (f_law_is_same 5 (tI []) (.tup [])) = pure (.bl true) := z
    simp only [if_true, List.isEmpty_nil, Bool.not_true, Bool.false_eq_true, if_false, pure_bind, e, asB_bl]
  · have p5 : Plain 5 (tI (iota n)) := plainI 3 (by rw [len_iota]; omega)
    have z := plain_same p5
    rw [fn2_eq] at z
    have e2 : (!B.isEmpty) = true := by
      cases B with
      | nil => exact absurd rfl q
      | cons _ _ => rfl
    simp only [if_neg q, e2, if_true, pure_bind, z, asB_bl, Bool.not_true, Bool.false_eq_true, if_false]
theorem law_true (ns : List Int) (hn : ns.length ≤ 63) : ∃ s, fn0 (f_law ns) [] [] = .ok (.bl true) s := ⟨[], by
  show f_law ns [] = _
  rw [law_pure]
  rfl⟩
end Lw

section
set_option maxHeartbeats 4000000
namespace Lw
open PySem PySem.Spec PyProof.Rows L2 EV
def topS (i : Nat) : Stmt := PySem.Challenge.pw_rootalarms_k52_nets_in_a_ring.main.body.getD i (.Pass ⟨0, 0, 0, 0⟩)
abbrev s_reach_of : Stmt := topS 19
theorem sc_reach_of : FnScope ["net", "component", "found", "at", "needed"] ["net", "component"] (defScope s_reach_of) := ⟨rfl, rfl, rfl, by decide +kernel, rfl, by decide +kernel, by decide +kernel⟩
abbrev s_all_reaches : Stmt := topS 20
theorem sc_all_reaches : FnScope ["net", "component"] ["net"] (defScope s_all_reaches) := ⟨rfl, rfl, rfl, by decide +kernel, rfl, by decide +kernel, by decide +kernel⟩
abbrev s_do_meet : Stmt := topS 22
theorem sc_do_meet : FnScope ["one", "other", "thing"] ["one", "other"] (defScope s_do_meet) := ⟨rfl, rfl, rfl, by decide +kernel, rfl, by decide +kernel, by decide +kernel⟩
abbrev s_alarms_of : Stmt := topS 23
theorem sc_alarms_of : FnScope ["net", "broken", "component", "own"] ["net", "broken"] (defScope s_alarms_of) := ⟨rfl, rfl, rfl, by decide +kernel, rfl, by decide +kernel, by decide +kernel⟩
abbrev s_is_between : Stmt := topS 14
theorem sc_is_between : FnScope ["thing", "low", "high"] ["thing", "low", "high"] (defScope s_is_between) := ⟨rfl, rfl, rfl, by decide +kernel, rfl, by decide +kernel, by decide +kernel⟩
abbrev s_is_rising : Stmt := topS 15
theorem sc_is_rising : FnScope ["size", "thing", "one", "later"] ["size", "thing"] (defScope s_is_rising) := ⟨rfl, rfl, rfl, by decide +kernel, rfl, by decide +kernel, by decide +kernel⟩
abbrev s_need_set : Stmt := topS 18
theorem sc_need_set : FnScope ["net", "thing"] ["net", "thing"] (defScope s_need_set) := ⟨rfl, rfl, rfl, by decide +kernel, rfl, by decide +kernel, by decide +kernel⟩
abbrev s_Net_call : Stmt := (clsBody (topS 30)).getD 6 (.Pass ⟨0, 0, 0, 0⟩)
theorem sc_Net_call : FnScope ["self", "broken"] ["self", "broken"] (defScope s_Net_call) := ⟨rfl, rfl, rfl, by decide +kernel, rfl, by decide +kernel, by decide +kernel⟩
abbrev s_need_component : Stmt := topS 17
theorem sc_need_component : FnScope ["net", "thing"] ["net", "thing"] (defScope s_need_component) := ⟨rfl, rfl, rfl, by decide +kernel, rfl, by decide +kernel, by decide +kernel⟩
abbrev s_Net_getitem : Stmt := (clsBody (topS 30)).getD 7 (.Pass ⟨0, 0, 0, 0⟩)
theorem sc_Net_getitem : FnScope ["self", "component"] ["self", "component"] (defScope s_Net_getitem) := ⟨rfl, rfl, rfl, by decide +kernel, rfl, by decide +kernel, by decide +kernel⟩
abbrev s_Net_needs : Stmt := (clsBody (topS 30)).getD 3 (.Pass ⟨0, 0, 0, 0⟩)
theorem sc_Net_needs : FnScope ["self"] ["self"] (defScope s_Net_needs) := ⟨rfl, rfl, rfl, by decide +kernel, rfl, by decide +kernel, by decide +kernel⟩
abbrev s_is_net : Stmt := topS 16
theorem sc_is_net : FnScope ["thing", "component", "needs"] ["thing"] (defScope s_is_net) := ⟨rfl, rfl, rfl, by decide +kernel, rfl, by decide +kernel, by decide +kernel⟩
abbrev s_Net_init : Stmt := (clsBody (topS 30)).getD 0 (.Pass ⟨0, 0, 0, 0⟩)
theorem sc_Net_init : FnScope ["self", "needs"] ["self", "needs"] (defScope s_Net_init) := ⟨rfl, rfl, rfl, by decide +kernel, rfl, by decide +kernel, by decide +kernel⟩
abbrev s_Net_ring : Stmt := (clsBody (topS 30)).getD 2 (.Pass ⟨0, 0, 0, 0⟩)
theorem sc_Net_ring : FnScope ["many", "found", "component"] ["many"] (defScope s_Net_ring) := ⟨rfl, rfl, rfl, by decide +kernel, rfl, by decide +kernel, by decide +kernel⟩
abbrev s_rings_of : Stmt := topS 21
theorem sc_rings_of : FnScope ["net", "reaches", "found", "component", "own", "ring", "other"] ["net"] (defScope s_rings_of) := ⟨rfl, rfl, rfl, by decide +kernel, rfl, by decide +kernel, by decide +kernel⟩
abbrev s_Net_rings : Stmt := (clsBody (topS 30)).getD 4 (.Pass ⟨0, 0, 0, 0⟩)
theorem sc_Net_rings : FnScope ["self"] ["self"] (defScope s_Net_rings) := ⟨rfl, rfl, rfl, by decide +kernel, rfl, by decide +kernel, by decide +kernel⟩
abbrev s_law_cell : Stmt := topS 32
theorem sc_law_cell : FnScope ["_law_script", "_law_k"] ["_law_script", "_law_k"] (defScope s_law_cell) := ⟨rfl, rfl, rfl, by decide +kernel, rfl, by decide +kernel, by decide +kernel⟩
abbrev s_law_due : Stmt := topS 37
theorem sc_law_due : FnScope ["_law_many", "_law_one"] ["_law_many"] (defScope s_law_due) := ⟨rfl, rfl, rfl, by decide +kernel, rfl, by decide +kernel, by decide +kernel⟩
abbrev s_law_is_same : Stmt := topS 34
theorem sc_law_is_same : FnScope ["_law_actual", "_law_wanted", "_law_k"] ["_law_actual", "_law_wanted"] (defScope s_law_is_same) := ⟨rfl, rfl, rfl, by decide +kernel, rfl, by decide +kernel, by decide +kernel⟩
abbrev s_law_draws : Stmt := topS 33
theorem sc_law_draws : FnScope ["_law_cell_here", "_law_bounds", "_law_found", "_law_left", "_law_below", "_law_k", "_law_mixed"] ["_law_cell_here", "_law_bounds"] (defScope s_law_draws) := ⟨rfl, rfl, rfl, by decide +kernel, rfl, by decide +kernel, by decide +kernel⟩
abbrev s_law_set : Stmt := topS 35
theorem sc_law_set : FnScope ["_law_cell_here", "_law_many", "_law_numbers", "_law_one"] ["_law_cell_here", "_law_many"] (defScope s_law_set) := ⟨rfl, rfl, rfl, by decide +kernel, rfl, by decide +kernel, by decide +kernel⟩
abbrev s_law : Stmt := topS 38
theorem sc_law : FnScope ["_law_script", "_law_many", "_law_made", "_law_every", "_law_told", "_law_k", "_law_broken", "_law_thing"] ["_law_script"] (defScope s_law) := ⟨rfl, rfl, rfl, by decide +kernel, rfl, by decide +kernel, by decide +kernel⟩
abbrev s_law_said : Stmt := topS 36
theorem sc_law_said : FnScope ["_law_call", "e", "_law_marks", "_law_names"] ["_law_call"] (defScope s_law_said) := ⟨rfl, rfl, rfl, by decide +kernel, rfl, by decide +kernel, by decide +kernel⟩
section
variable {P : Program} {w : World} {K : PySem.W.Frag} {mg : Str → Option Value} {base : Heap}
theorem c_said (B : Bn mg) {CA CL CU : Addr} (hA : mg "AlarmError" = some (.ref CA)) (hL : mg "LimitError" = some (.ref CL)) (hU : mg "Unexplained" = some (.ref CU)) (hE : ∀ j y, errsL[j]? = some y → ∃ D, mg y = some (.ref D) ∧ ErrX K mg CA CL CU D j) (AS : FunAt K mg "_law_said" s_law_said) : SaidC8 P w K mg base 31 "_law_said" := by
  obtain ⟨fs, fds, FS, hs⟩ := AS.ex
  obtain ⟨oc, od, kV, doc, pm, an, cdv, ct, osl, e, lk, hcd⟩ := FS.ex
  subst e
  refine ⟨fs, CA, CL, CU, _, _, defScope s_law_said, kV, doc, pm, cdv, ct, oc, an, od, osl, "_law_call", ["_law_call", "e", "_law_marks", "_law_names"], hs, FS.kp, lk, hcd, FS.binds (ps := ["_law_call"]) (fun _ _ _ _ _ _ us hl => match us, hl with | [_], _ => rfl), sc_law_said, rfl, .inl rfl, by decide, by decide, hE, ?_⟩
  intro X e1 e2 e3 e4 e5 hr q
  subst e1 e2 e3 e4 e5
  refine said8_gives rfl hL rfl hU rfl hA rfl (by decide) (by decide) (by decide) (by decide) (fun _ => rfl) (fun s H a' oe D j pn hj hz hf ej => ?_)
  obtain ⟨C0, m0, k0⟩ := ej.is 0 _ rfl
  obtain ⟨C1, m1, k1⟩ := ej.is 1 _ rfl
  obtain ⟨C2, m2, k2⟩ := ej.is 2 _ rfl
  obtain ⟨C3, m3, k3⟩ := ej.is 3 _ rfl
  obtain ⟨C4, m4, k4⟩ := ej.is 4 _ rfl
  obtain ⟨C5, m5, k5⟩ := ej.is 5 _ rfl
  obtain ⟨C6, m6, k6⟩ := ej.is 6 _ rfl
  obtain ⟨C7, m7, k7⟩ := ej.is 7 _ rfl
  have hu := hr.un
  exact pss_kind8 hj (show X.A.units + 3 + 65 < cLine from by omega) (show (["_law_call", "e", "_law_marks", "_law_names"] : List Str).Nodup by decide) rfl rfl (.inl rfl) (.inl rfl) (.inl rfl) (.inl rfl) (pe_isiI (i := 1) (c := "NetError") List.mem_cons_self ej.cls hz hf rfl (.inl rfl) rfl B.isinstance rfl m0 k0) (pe_isiI (i := 1) (c := "ComponentError") List.mem_cons_self ej.cls hz hf rfl (.inl rfl) rfl B.isinstance rfl m1 k1) (pe_isiI (i := 1) (c := "SetError") List.mem_cons_self ej.cls hz hf rfl (.inl rfl) rfl B.isinstance rfl m2 k2) (pe_isiI (i := 1) (c := "ReportError") List.mem_cons_self ej.cls hz hf rfl (.inl rfl) rfl B.isinstance rfl m3 k3) (pe_isiI (i := 1) (c := "WordError") List.mem_cons_self ej.cls hz hf rfl (.inl rfl) rfl B.isinstance rfl m4 k4) (pe_isiI (i := 1) (c := "NumberError") List.mem_cons_self ej.cls hz hf rfl (.inl rfl) rfl B.isinstance rfl m5 k5) (pe_isiI (i := 1) (c := "TextError") List.mem_cons_self ej.cls hz hf rfl (.inl rfl) rfl B.isinstance rfl m6 k6) (pe_isiI (i := 1) (c := "NothingDone") List.mem_cons_self ej.cls hz hf rfl (.inl rfl) rfl B.isinstance rfl m7 k7)
theorem ok_reach_of (B : Bn mg) (FA : FunAt K mg "reach_of" s_reach_of) : Cal P w K mg base 1 "reach_of" ["net", "component"] (spF K mg false 2 (fn2 f_reach_of)) := by
  refine mk_pure (N := ["net", "component", "found", "at", "needed"]) (k := 0) FA sc_reach_of rfl (fun _ _ _ _ _ _ us hl => match us, hl with | [_, _], _ => rfl) (fun f cdv A outer s H E C ds hn => ?_)
  obtain ⟨a0, a1, rfl⟩ := len2 hn
  refine ⟨D, Out.ret, f_reach_of a0 a1, ?_, out_ret _⟩
  unfold f_reach_of
  change SV _ _ _ [.val a0, .val a1, .junk, .junk, .junk] _ _ _
  refine sv_setO 2 (ps_o C.nd (eo_lst (el_cons (vv 1) el_nil))) (fun xs1 => ?_)
  change SV _ _ _ [.val a0, .val a1, .own xs1, .junk, .junk] _ _ _
  refine sv_set 3 C.nd ev_int (fun v4 => ?_)
  change SV _ _ _ [.val a0, .val a1, .own xs1, .val v4, .junk] _ _ _
  refine sv_while 20 (mk := (fun (c5 : D × List D) => [.val a0, .val a1, .own c5.2, .val c5.1, .junk])) (c0 := (v4, xs1)) C (wk (wk (wk (wk (wj wn))))) (fun c5 => (peekB [.val a0, .val a1, .val (D.lst c5.2), .val c5.1, .junk] 2 (xs := c5.2) rfl rfl (eb_cmp od_lt (vv 3) (ev_callB cd_len (by rfl) B.len PySem.boot_len (el_cons (vv 2) el_nil)) (nomark _)))) (fun c5 => ?_) (fun c5 => ?_)
  · change SV _ _ _ [.val a0, .val a1, .own c5.2, .val c5.1, .junk] _ _ _
    refine sv_ext [.val a0, .val a1, .val (D.lst c5.2), .val c5.1, .junk] 2 (xs := c5.2) rfl rfl (ev_lc (own := [(("needed" : Str), 4)]) (dec := dec1) (g := gName 4) (Γz := fun z14 => [.val a0, .val a1, .val (D.lst c5.2), .val c5.1, .val z14]) C (ei_seq (ev_ix (vv 0) (ev_ix (vv 2) (vv 3) (fun _ _ => rfl)) (fun _ _ => rfl))) (blkOk_by (by rfl)) (tg_name (by simp)) (fun _ _ _ _ _ => pgn 4 C.nd) (fun z14 _ _ _ _ _ => (ets_one (eb_cmp (od_notIn C.blk.room) (vv 4) (vv 2) (by rfl)))) (fun z14 _ _ _ _ _ => (vv 4))) (fun ys19 => ?_)
    change SV _ _ _ [.val a0, .val a1, .own (c5.2 ++ ys19), .val c5.1, .junk] _ _ _
    refine sv_set 3 C.nd (ev_op od_add (vv 3) ev_int) (fun v20 => ?_)
    change SV _ _ _ [.val a0, .val a1, .own (c5.2 ++ ys19), .val v20, .junk] _ _ _
    exact sv_nil rfl (wk (wk (wk (wk (wj wn)))))
  · change SV _ _ _ [.val a0, .val a1, .own c5.2, .val c5.1, .junk] _ _ _
    refine sv_pub 2 (xs := c5.2) rfl ?_
    change SV _ _ _ [.val a0, .val a1, .val (D.lst c5.2), .val c5.1, .junk] _ _ _
    exact sv_ret (inj := id) (fun _ => rfl) (ev_callTy cd_tuple (by rfl) B.tuple (by decide +kernel) (el_cons (ev_callB (cd_sortedG C.room) (by rfl) B.sorted (by decide +kernel) (el_cons (vv 2) el_nil)) el_nil))
theorem ok_all_reaches (B : Bn mg) (K_reach_of : Cal P w K mg base 1 "reach_of" ["net", "component"] (spF K mg false 2 (fn2 f_reach_of))) (FA : FunAt K mg "all_reaches" s_all_reaches) : Cal P w K mg base 2 "all_reaches" ["net"] (spF K mg false 1 (fn1 f_all_reaches)) := by
  refine mk_pure (N := ["net", "component"]) (k := 1) FA sc_all_reaches rfl (fun _ _ _ _ _ _ us hl => match us, hl with | [_], _ => rfl) (fun f cdv A outer s H E C ds hn => ?_)
  obtain ⟨a0, rfl⟩ := len1 hn
  refine ⟨D, Out.ret, f_all_reaches a0, ?_, out_ret _⟩
  unfold f_all_reaches
  change SV _ _ _ [.val a0, .junk] _ _ _
  exact sv_ret (inj := id) (fun _ => rfl) (ev_lc (own := [(("component" : Str), 1)]) (dec := dec1) (g := gName 1) (Γz := fun z5 => [.val a0, .val z5]) C (ei_range1 (by rfl) B.range (el_cons (ev_callB cd_len (by rfl) B.len PySem.boot_len (el_cons (vv 0) el_nil)) el_nil)) (blkOk_by (by rfl)) (tg_name (by simp)) (fun _ _ _ _ _ => pgn 1 C.nd) (fun z5 _ _ _ _ _ => ets_nil) (fun z5 _ _ _ _ _ => (call C.blk K_reach_of ar2 (el_cons (vv 0) (el_cons (vv 1) el_nil)))))
theorem ok_do_meet (B : Bn mg) (FA : FunAt K mg "do_meet" s_do_meet) : Cal P w K mg base 1 "do_meet" ["one", "other"] (spF K mg false 2 (fn2 f_do_meet)) := by
  refine mk_pure (N := ["one", "other", "thing"]) (k := 0) FA sc_do_meet rfl (fun _ _ _ _ _ _ us hl => match us, hl with | [_, _], _ => rfl) (fun f cdv A outer s H E C ds hn => ?_)
  obtain ⟨a0, a1, rfl⟩ := len2 hn
  refine ⟨D, Out.ret, f_do_meet a0 a1, ?_, out_ret _⟩
  unfold f_do_meet
  change SV _ _ _ [.val a0, .val a1, .junk] _ _ _
  exact sv_ret (inj := id) (fun _ => rfl) (ev_callB (cd_any C.calm) (by rfl) B.any (by decide +kernel) (el_cons (ev_lc (own := [(("thing" : Str), 2)]) (dec := dec1) (g := gName 2) (Γz := fun z1 => [.val a0, .val a1, .val z1]) C (ei_seq (vv 0)) (blkOk_by (by rfl)) (tg_name (by simp)) (fun _ _ _ _ _ => pgn 2 C.nd) (fun z1 _ _ _ _ _ => ets_nil) (fun z1 _ _ _ _ _ => (ev_cmp (od_in C.blk.room) (vv 2) (vv 1) (by rfl)))) el_nil))
theorem ok_alarms_of (B : Bn mg) (K_all_reaches : Cal P w K mg base 2 "all_reaches" ["net"] (spF K mg false 1 (fn1 f_all_reaches))) (K_do_meet : Cal P w K mg base 1 "do_meet" ["one", "other"] (spF K mg false 2 (fn2 f_do_meet))) (FA : FunAt K mg "alarms_of" s_alarms_of) : Cal P w K mg base 3 "alarms_of" ["net", "broken"] (spF K mg false 2 (fn2 f_alarms_of)) := by
  refine mk_pure (N := ["net", "broken", "component", "own"]) (k := 2) FA sc_alarms_of rfl (fun _ _ _ _ _ _ us hl => match us, hl with | [_, _], _ => rfl) (fun f cdv A outer s H E C ds hn => ?_)
  obtain ⟨a0, a1, rfl⟩ := len2 hn
  refine ⟨D, Out.ret, f_alarms_of a0 a1, ?_, out_ret _⟩
  unfold f_alarms_of
  change SV _ _ _ [.val a0, .val a1, .junk, .junk] _ _ _
  exact sv_ret (inj := id) (fun _ => rfl) (ev_callTy cd_tuple (by rfl) B.tuple (by decide +kernel) (el_cons (ev_lc (own := [(("component" : Str), 2), (("own" : Str), 3)]) (dec := dec2) (g := gTup _ 2 (gCons (gName 2) (gCons (gName 3) gNil))) (Γz := fun z6 => [.val a0, .val a1, .val z6.1, .val z6.2]) C (ei_enum (by rfl) B.enumerate (el_cons (call C K_all_reaches ar1 (el_cons (vv 0) el_nil)) el_nil)) (blkOk_by (by rfl)) (tg_pair (by simp) (by simp)) (fun _ _ _ _ _ => pg_tup rfl (pgs_cons (pgn 2 C.nd) (pgs_cons (pgn 3 C.nd) pgs_nil))) (fun z6 _ _ _ _ _ => (ets_one (eb_val (call C.blk K_do_meet ar2 (el_cons (vv 3) (el_cons (vv 1) el_nil)))))) (fun z6 _ _ _ _ _ => (vv 2))) el_nil))
theorem ok_is_between (B : Bn mg) (FA : FunAt K mg "is_between" s_is_between) : Cal P w K mg base 1 "is_between" ["thing", "low", "high"] (spF K mg false 3 (fn3 f_is_between)) := by
  refine mk_pure (N := ["thing", "low", "high"]) (k := 0) FA sc_is_between rfl (fun _ _ _ _ _ _ us hl => match us, hl with | [_, _, _], _ => rfl) (fun f cdv A outer s H E C ds hn => ?_)
  obtain ⟨a0, a1, a2, rfl⟩ := len3 hn
  refine ⟨D, Out.ret, f_is_between a0 a1 a2, ?_, out_ret _⟩
  unfold f_is_between
  change SV _ _ _ [.val a0, .val a1, .val a2] _ _ _
  exact sv_ret (inj := id) (fun _ => rfl) (ev_and (ev_isi (T := "int") (by decide) (vv 0) (by rfl) B.isinstance (by rfl) B.int (by decide +kernel)) (ev_and (ev_not (ev_isi (T := "bool") (by decide) (vv 0) (by rfl) B.isinstance (by rfl) B.bool (by decide +kernel))) (ev_one (ev_chain od_le od_le (vv 1) (vv 0) (vv 2)))))
theorem ok_is_rising (B : Bn mg) (K_is_between : Cal P w K mg base 1 "is_between" ["thing", "low", "high"] (spF K mg false 3 (fn3 f_is_between))) (FA : FunAt K mg "is_rising" s_is_rising) : Cal P w K mg base 2 "is_rising" ["size", "thing"] (spF K mg false 2 (fn2 f_is_rising)) := by
  refine mk_pure (N := ["size", "thing", "one", "later"]) (k := 1) FA sc_is_rising rfl (fun _ _ _ _ _ _ us hl => match us, hl with | [_, _], _ => rfl) (fun f cdv A outer s H E C ds hn => ?_)
  obtain ⟨a0, a1, rfl⟩ := len2 hn
  refine ⟨D, Out.ret, f_is_rising a0 a1, ?_, out_ret _⟩
  unfold f_is_rising
  change SV _ _ _ [.val a0, .val a1, .junk, .junk] _ _ _
  refine sv_ifR (eb_bool (ew_or (eb_not (eb_val (ev_isi (T := "tuple") (by decide) (vv 1) (by rfl) B.isinstance (by rfl) B.tuple (by decide +kernel)))) (ew_or1 (eb_not (eb_val (ev_callB (cd_all C.calm) (by rfl) B.all (by decide +kernel) (el_cons (ev_lc (own := [(("one" : Str), 2)]) (dec := dec1) (g := gName 2) (Γz := fun z2 => [.val a0, .val a1, .val z2, .junk]) C (ei_seq (vv 1)) (blkOk_by (by rfl)) (tg_name (by simp)) (fun _ _ _ _ _ => pgn 2 C.nd) (fun z2 _ _ _ _ _ => ets_nil) (fun z2 _ _ _ _ _ => (call C.blk K_is_between ar3 (el_cons (vv 2) (el_cons ev_int (el_cons (ev_op od_sub (vv 0) ev_int) el_nil)))))) el_nil))))))) ?_ (by repeat first | exact nf_bad | exact nf_raise | exact nf_ret (fun _ => rfl) | refine nf_bind (fun _ => ?_) | refine nf_ite ?_ ?_) ?_
  · exact sv_ret (inj := id) (fun _ => rfl) ev_bl
  · exact sv_ret (inj := id) (fun _ => rfl) (ev_callB (cd_all C.calm) (by rfl) B.all (by decide +kernel) (el_cons (ev_lc (own := [(("one" : Str), 2), (("later" : Str), 3)]) (dec := dec2) (g := gTup _ 2 (gCons (gName 2) (gCons (gName 3) gNil))) (Γz := fun z27 => [.val a0, .val a1, .val z27.1, .val z27.2]) C (ei_zip (by rfl) B.zip (el_cons (vv 1) (el_cons (ev_slice (vv 1) (eo_some ev_int) eo_none) el_nil))) (blkOk_by (by rfl)) (tg_pair (by simp) (by simp)) (fun _ _ _ _ _ => pg_tup rfl (pgs_cons (pgn 2 C.nd) (pgs_cons (pgn 3 C.nd) pgs_nil))) (fun z27 _ _ _ _ _ => ets_nil) (fun z27 _ _ _ _ _ => (ev_cmp od_lt (vv 2) (vv 3) (nomark _)))) el_nil))
theorem ok_need_set (B : Bn mg) (E_SetError : ErrC K mg "SetError") (K_is_rising : Cal P w K mg base 2 "is_rising" ["size", "thing"] (spF K mg false 2 (fn2 f_is_rising))) (FA : FunAt K mg "need_set" s_need_set) : Cal P w K mg base 3 "need_set" ["net", "thing"] (spF K mg false 2 (fn2 f_need_set)) := by
  refine mk_pure (N := ["net", "thing"]) (k := 2) FA sc_need_set rfl (fun _ _ _ _ _ _ us hl => match us, hl with | [_, _], _ => rfl) (fun f cdv A outer s H E C ds hn => ?_)
  obtain ⟨a0, a1, rfl⟩ := len2 hn
  refine ⟨Unit, fun _ => Out.fall [.junk, .junk], g_need_set a0 a1, ?_, rfl⟩
  unfold g_need_set
  change SV _ _ _ [.val a0, .val a1] _ _ _
  refine sv_ifR (eb_not (eb_val (call C K_is_rising ar2 (el_cons (ev_callB cd_len (by rfl) B.len PySem.boot_len (el_cons (vv 0) el_nil)) (el_cons (vv 1) el_nil))))) ?_ (by repeat first | exact nf_bad | exact nf_raise | exact nf_ret (fun _ => rfl) | refine nf_bind (fun _ => ?_) | refine nf_ite ?_ ?_) ?_
  · exact sv_raise C E_SetError
  · exact sv_nil rfl (wj (wj wn))
theorem ok_Net_call (B : Bn mg) (NA_Net_own_needs : NoAttr K cNet "own_needs") (K_alarms_of : Cal P w K mg base 3 "alarms_of" ["net", "broken"] (spF K mg false 2 (fn2 f_alarms_of))) (K_need_set : Cal P w K mg base 3 "need_set" ["net", "thing"] (spF K mg false 2 (fn2 f_need_set))) (FA : MethF K cNet "__call__" "Net.__call__" s_Net_call) : CalM P w K mg base 4 cNet "__call__" ["self", "broken"] (spF K mg false 2 (fn2 f_Net_call)) := by
  refine mk_meth (N := ["self", "broken"]) (k := 3) FA sc_Net_call rfl (fun _ _ _ _ _ _ us hl => match us, hl with | [_, _], _ => rfl) (fun f cdv A outer s H E C ds hn => ?_)
  obtain ⟨a0, a1, rfl⟩ := len2 hn
  refine ⟨D, Out.ret, f_Net_call a0 a1, ?_, out_ret _⟩
  unfold f_Net_call
  change SV _ _ _ [.val a0, .val a1] _ _ _
  refine sv_expr (call C K_need_set ar2 (el_cons (ev_fldO NA_Net_own_needs (vv 0)) (el_cons (vv 1) el_nil))) ?_
  change SV _ _ _ [.val a0, .val a1] _ _ _
  exact sv_ret (inj := id) (fun _ => rfl) (call C K_alarms_of ar2 (el_cons (ev_fldO NA_Net_own_needs (vv 0)) (el_cons (vv 1) el_nil)))
theorem ok_need_component (B : Bn mg) (E_ComponentError : ErrC K mg "ComponentError") (K_is_between : Cal P w K mg base 1 "is_between" ["thing", "low", "high"] (spF K mg false 3 (fn3 f_is_between))) (FA : FunAt K mg "need_component" s_need_component) : Cal P w K mg base 2 "need_component" ["net", "thing"] (spF K mg false 2 (fn2 f_need_component)) := by
  refine mk_pure (N := ["net", "thing"]) (k := 1) FA sc_need_component rfl (fun _ _ _ _ _ _ us hl => match us, hl with | [_, _], _ => rfl) (fun f cdv A outer s H E C ds hn => ?_)
  obtain ⟨a0, a1, rfl⟩ := len2 hn
  refine ⟨Unit, fun _ => Out.fall [.junk, .junk], g_need_component a0 a1, ?_, rfl⟩
  unfold g_need_component
  change SV _ _ _ [.val a0, .val a1] _ _ _
  refine sv_ifR (eb_not (eb_val (call C K_is_between ar3 (el_cons (vv 1) (el_cons ev_int (el_cons (ev_op od_sub (ev_callB cd_len (by rfl) B.len PySem.boot_len (el_cons (vv 0) el_nil)) ev_int) el_nil)))))) ?_ (by repeat first | exact nf_bad | exact nf_raise | exact nf_ret (fun _ => rfl) | refine nf_bind (fun _ => ?_) | refine nf_ite ?_ ?_) ?_
  · exact sv_raise C E_ComponentError
  · exact sv_nil rfl (wj (wj wn))
theorem ok_Net_getitem (B : Bn mg) (NA_Net_own_needs : NoAttr K cNet "own_needs") (K_need_component : Cal P w K mg base 2 "need_component" ["net", "thing"] (spF K mg false 2 (fn2 f_need_component))) (K_reach_of : Cal P w K mg base 1 "reach_of" ["net", "component"] (spF K mg false 2 (fn2 f_reach_of))) (FA : MethF K cNet "__getitem__" "Net.__getitem__" s_Net_getitem) : CalM P w K mg base 3 cNet "__getitem__" ["self", "component"] (spF K mg false 2 (fn2 f_Net_getitem)) := by
  refine mk_meth (N := ["self", "component"]) (k := 2) FA sc_Net_getitem rfl (fun _ _ _ _ _ _ us hl => match us, hl with | [_, _], _ => rfl) (fun f cdv A outer s H E C ds hn => ?_)
  obtain ⟨a0, a1, rfl⟩ := len2 hn
  refine ⟨D, Out.ret, f_Net_getitem a0 a1, ?_, out_ret _⟩
  unfold f_Net_getitem
  change SV _ _ _ [.val a0, .val a1] _ _ _
  refine sv_expr (call C K_need_component ar2 (el_cons (ev_fldO NA_Net_own_needs (vv 0)) (el_cons (vv 1) el_nil))) ?_
  change SV _ _ _ [.val a0, .val a1] _ _ _
  exact sv_ret (inj := id) (fun _ => rfl) (call C K_reach_of ar2 (el_cons (ev_fldO NA_Net_own_needs (vv 0)) (el_cons (vv 1) el_nil)))
theorem ok_Net_needs (B : Bn mg) (NA_Net_own_needs : NoAttr K cNet "own_needs") (FA : PropF K cNet "needs" "Net.needs" s_Net_needs) : CalPr P w K mg base 1 cNet "needs" ["self"] (spF K mg false 1 (fn1 f_Net_needs)) := by
  refine mk_prop (N := ["self"]) (k := 0) FA sc_Net_needs rfl (fun _ _ _ _ _ _ us hl => match us, hl with | [_], _ => rfl) (fun f cdv A outer s H E C ds hn => ?_)
  obtain ⟨a0, rfl⟩ := len1 hn
  refine ⟨D, Out.ret, f_Net_needs a0, ?_, out_ret _⟩
  unfold f_Net_needs
  change SV _ _ _ [.val a0] _ _ _
  exact sv_ret (inj := id) (fun _ => rfl) (ev_fldO NA_Net_own_needs (vv 0))
theorem ok_is_net (B : Bn mg) (c_MOST_COMPONENTS : ∃ t, mg "MOST_COMPONENTS" = some (.int 8 t)) (K_is_rising : Cal P w K mg base 2 "is_rising" ["size", "thing"] (spF K mg false 2 (fn2 f_is_rising))) (FA : FunAt K mg "is_net" s_is_net) : Cal P w K mg base 3 "is_net" ["thing"] (spF K mg false 1 (fn1 f_is_net)) := by
  obtain ⟨_, c_MOST_COMPONENTS⟩ := c_MOST_COMPONENTS
  refine mk_pure (N := ["thing", "component", "needs"]) (k := 2) FA sc_is_net rfl (fun _ _ _ _ _ _ us hl => match us, hl with | [_], _ => rfl) (fun f cdv A outer s H E C ds hn => ?_)
  obtain ⟨a0, rfl⟩ := len1 hn
  refine ⟨D, Out.ret, f_is_net a0, ?_, out_ret _⟩
  unfold f_is_net
  change SV _ _ _ [.val a0, .junk, .junk] _ _ _
  refine sv_ifR (eb_bool (ew_or (eb_not (eb_val (ev_isi (T := "tuple") (by decide) (vv 0) (by rfl) B.isinstance (by rfl) B.tuple (by decide +kernel)))) (ew_or1 (eb_not (eb_chain od_le od_le ev_int (ev_callB cd_len (by rfl) B.len PySem.boot_len (el_cons (vv 0) el_nil)) (ev_glob (v := .int 8) (by rfl) c_MOST_COMPONENTS ⟨_, rfl⟩ fun _ => .int _)))))) ?_ (by repeat first | exact nf_bad | exact nf_raise | exact nf_ret (fun _ => rfl) | refine nf_bind (fun _ => ?_) | refine nf_ite ?_ ?_) ?_
  · exact sv_ret (inj := id) (fun _ => rfl) ev_bl
  · refine sv_forL (dec := dec2) (g := gTup _ 2 (gCons (gName 1) (gCons (gName 2) gNil))) (vs := [1, 2]) (mk := (fun (c15 : Unit) => [.val a0, .junk, .junk])) (c0 := ()) (inj := id) C (ei_enum (by rfl) B.enumerate (el_cons (vv 0) el_nil)) (pg_tup rfl (pgs_cons (pgn 1 C.nd) (pgs_cons (pgn 2 C.nd) pgs_nil))) (fun _ => tg_pair (by simp) (by simp)) (wk (wj (wj wn))) (fun _ => rfl) (fun c15 z16 => ?_) (fun c15 => ?_)
    · change SV _ _ _ [.val a0, .val z16.1, .val z16.2] _ _ _
      refine sv_ifR (eb_bool (ew_or (eb_not (eb_val (call C K_is_rising ar2 (el_cons (ev_callB cd_len (by rfl) B.len PySem.boot_len (el_cons (vv 0) el_nil)) (el_cons (vv 2) el_nil))))) (ew_or1 (eb_cmp (od_in C.room) (vv 1) (vv 2) (by rfl))))) ?_ (by repeat first | exact nf_bad | exact nf_raise | exact nf_ret (fun _ => rfl) | refine nf_bind (fun _ => ?_) | refine nf_ite ?_ ?_) ?_
      · exact sv_ret (inj := Lp.ret) (fun _ => rfl) ev_bl
      · exact sv_nil rfl (wk (wj (wj wn)))
    · change SV _ _ _ [.val a0, .junk, .junk] _ _ _
      exact sv_ret (inj := id) (fun _ => rfl) ev_bl
theorem ok_Net_init (B : Bn mg) (E_NetError : ErrC K mg "NetError") (NA_Net_own_needs : NoAttr K cNet "own_needs") (OC_Net : ObjC K cNet) (K_is_net : Cal P w K mg base 3 "is_net" ["thing"] (spF K mg false 1 (fn1 f_is_net))) (CA : ClsAt K mg "Net" cNet "Net.__init__" s_Net_init []) : MkC P w K mg base 4 "Net" cNet (spStar (spI K mg cNet ["own_needs"] 1 (fnL1 f_Net_init))) := by
  refine mkS (N := ["self", "needs"]) (k := 3) CA sc_Net_init (by decide) (fun kV doc pm an cdv ct => StX.bind_star1 (B := fun vs => bindArgs (PySem.W.fnOf "__init__" "Net.__init__" (defArgs s_Net_init) (defBody s_Net_init) (defScope s_Net_init) .none kV doc pm an cdv ct) ⟨vs, []⟩) (p1 := "self") (pv := "needs") (fun _ => rfl) (fun _ _ _ => rfl)) (fun f => ⟨fun cdv A outer s H E C x dx ds hn => ?_⟩)
  obtain ⟨a0, rfl⟩ := len1 hn
  refine ⟨fun fs => [insS x cNet dx ["own_needs"] fs, .junk], fun _ => rfl, ?_⟩
  change SV _ _ _ [insS x cNet dx ([] : List Str) ([] : List D), .val a0] _ _ (f_Net_init a0)
  unfold f_Net_init
  refine sv_ifR (eb_not (eb_val (call C K_is_net ar1 (el_cons (vv 1) el_nil)))) ?_ (by repeat first | exact nf_bad | exact nf_raise | exact nf_ret (fun _ => rfl) | refine nf_bind (fun _ => ?_) | refine nf_ite ?_ ?_) ?_
  · exact sv_raise C E_NetError
  · refine sv_fldNew 0 OC_Net.cl NA_Net_own_needs rfl (by decide) (by decide) (vv 1) (fun d6 => ?_)
    change SV _ _ _ [insS x cNet dx (([] : List Str) ++ [("own_needs" : Str)]) (([] : List D) ++ [d6]), .val a0] _ _ _
    exact sv_nil rfl (wk (wj wn))
theorem ok_Net_ring (B : Bn mg) (c_MOST_COMPONENTS : ∃ t, mg "MOST_COMPONENTS" = some (.int 8 t)) (E_NumberError : ErrC K mg "NumberError") (K_Net_init : MkC P w K mg base 4 "Net" cNet (spStar (spI K mg cNet ["own_needs"] 1 (fnL1 f_Net_init)))) (K_is_between : Cal P w K mg base 1 "is_between" ["thing", "low", "high"] (spF K mg false 3 (fn3 f_is_between))) (FA : StatF K mg "Net" cNet "ring" "Net.ring" s_Net_ring) : CalSt P w K mg base 6 "Net" cNet "ring" ["many"] (spF K mg false 1 (fn1 f_Net_ring)) := by
  obtain ⟨_, c_MOST_COMPONENTS⟩ := c_MOST_COMPONENTS
  refine mk_stat (N := ["many", "found", "component"]) (k := 5) FA sc_Net_ring rfl (fun _ _ _ _ _ _ us hl => match us, hl with | [_], _ => rfl) (fun f cdv A outer s H E C ds hn => ?_)
  obtain ⟨a0, rfl⟩ := len1 hn
  refine ⟨D, Out.ret, f_Net_ring a0, ?_, out_ret _⟩
  unfold f_Net_ring
  change SV _ _ _ [.val a0, .junk, .junk] _ _ _
  refine sv_ifR (eb_not (eb_val (call C K_is_between ar3 (el_cons (vv 0) (el_cons ev_int (el_cons (ev_glob (v := .int 8) (by rfl) c_MOST_COMPONENTS ⟨_, rfl⟩ fun _ => .int _) el_nil)))))) ?_ (by repeat first | exact nf_bad | exact nf_raise | exact nf_ret (fun _ => rfl) | refine nf_bind (fun _ => ?_) | refine nf_ite ?_ ?_) ?_
  · exact sv_raise C E_NumberError
  · refine sv_set 1 C.nd (ev_ifExp (eb_cmp od_gt (vv 0) ev_int (nomark _)) (ev_lc (own := [(("component" : Str), 2)]) (dec := dec1) (g := gName 2) (Γz := fun z15 => [.val a0, .junk, .val z15]) C (ei_range1 (by rfl) B.range (el_cons (vv 0) el_nil)) (blkOk_by (by rfl)) (tg_name (by simp)) (fun _ _ _ _ _ => pgn 2 C.nd) (fun z15 _ _ _ _ _ => ets_nil) (fun z15 _ _ _ _ _ => (ev_tup (el_cons (ev_op od_mod (ev_op od_add (vv 2) ev_int) (vv 0)) el_nil)))) (ev_lst (el_cons (ev_tup el_nil) el_nil))) (fun v10 => ?_)
    change SV _ _ _ [.val a0, .val v10, .junk] _ _ _
    exact sv_ret (inj := id) (fun _ => rfl) (newS1 C K_Net_init (vv 1))
theorem ok_rings_of (B : Bn mg) (K_all_reaches : Cal P w K mg base 2 "all_reaches" ["net"] (spF K mg false 1 (fn1 f_all_reaches))) (FA : FunAt K mg "rings_of" s_rings_of) : Cal P w K mg base 3 "rings_of" ["net"] (spF K mg false 1 (fn1 f_rings_of)) := by
  refine mk_pure (N := ["net", "reaches", "found", "component", "own", "ring", "other"]) (k := 2) FA sc_rings_of rfl (fun _ _ _ _ _ _ us hl => match us, hl with | [_], _ => rfl) (fun f cdv A outer s H E C ds hn => ?_)
  obtain ⟨a0, rfl⟩ := len1 hn
  refine ⟨D, Out.ret, f_rings_of a0, ?_, out_ret _⟩
  unfold f_rings_of
  change SV _ _ _ [.val a0, .junk, .junk, .junk, .junk, .junk, .junk] _ _ _
  refine sv_set 1 C.nd (call C K_all_reaches ar1 (el_cons (vv 0) el_nil)) (fun v1 => ?_)
  change SV _ _ _ [.val a0, .val v1, .junk, .junk, .junk, .junk, .junk] _ _ _
  refine sv_setO 2 (ps_o C.nd (eo_lst el_nil)) (fun xs5 => ?_)
  change SV _ _ _ [.val a0, .val v1, .own xs5, .junk, .junk, .junk, .junk] _ _ _
  refine sv_forS (dec := dec2) (g := gTup _ 2 (gCons (gName 3) (gCons (gName 4) gNil))) (vs := [3, 4]) (mk := (fun (c8 : List D) => [.val a0, .val v1, .own c8, .junk, .junk, .junk, .junk])) (c0 := xs5) C (ei_enum (by rfl) B.enumerate (el_cons (vv 1) el_nil)) (pg_tup rfl (pgs_cons (pgn 3 C.nd) (pgs_cons (pgn 4 C.nd) pgs_nil))) (fun _ => tg_pair (by simp) (by simp)) (wk (wk (wk (wj (wj (wj (wj wn))))))) (fun c8 z9 => ?_) (fun c8 => ?_)
  · change SV _ _ _ [.val a0, .val v1, .own c8, .val z9.1, .val z9.2, .junk, .junk] _ _ _
    refine sv_set 5 C.nd (ev_callTy cd_tuple (by rfl) B.tuple (by decide +kernel) (el_cons (ev_lc (own := [(("other" : Str), 6)]) (dec := dec1) (g := gName 6) (Γz := fun z12 => [.val a0, .val v1, .own c8, .val z9.1, .val z9.2, .junk, .val z12]) C (ei_seq (vv 4)) (blkOk_by (by rfl)) (tg_name (by simp)) (fun _ _ _ _ _ => pgn 6 C.nd) (fun z12 _ _ _ _ _ => (ets_one (eb_cmp (od_in C.blk.room) (vv 3) (ev_ix (vv 1) (vv 6) (fun _ _ => rfl)) (by rfl)))) (fun z12 _ _ _ _ _ => (vv 6))) el_nil)) (fun v11 => ?_)
    change SV _ _ _ [.val a0, .val v1, .own c8, .val z9.1, .val z9.2, .val v11, .junk] _ _ _
    refine sv_ifJ (mk := (fun (j25 : List D) => [.val a0, .val v1, .own j25, .val z9.1, .val z9.2, .val v11, .junk])) (peekB [.val a0, .val v1, .val (D.lst c8), .val z9.1, .val z9.2, .val v11, .junk] 2 (xs := c8) rfl rfl (eb_cmp (od_notIn C.room) (vv 5) (vv 2) (by rfl))) ?_ ?_ (fun j25 => ?_)
    · refine sv_append 2 (xs := c8) rfl (vv 5) (fun d26 => ?_)
      change SV _ _ _ [.val a0, .val v1, .own (c8 ++ [d26]), .val z9.1, .val z9.2, .val v11, .junk] _ _ _
      exact sv_nil rfl (wk (wk (wk (wk (wk (wk (wj wn)))))))
    · exact sv_nil rfl (wk (wk (wk (wk (wk (wk (wj wn)))))))
    · change SV _ _ _ [.val a0, .val v1, .own j25, .val z9.1, .val z9.2, .val v11, .junk] _ _ _
      exact sv_nil rfl (wk (wk (wk (wj (wj (wj (wj wn)))))))
  · change SV _ _ _ [.val a0, .val v1, .own c8, .junk, .junk, .junk, .junk] _ _ _
    refine sv_pub 2 (xs := c8) rfl ?_
    change SV _ _ _ [.val a0, .val v1, .val (D.lst c8), .junk, .junk, .junk, .junk] _ _ _
    exact sv_ret (inj := id) (fun _ => rfl) (ev_callTy cd_tuple (by rfl) B.tuple (by decide +kernel) (el_cons (vv 2) el_nil))
theorem ok_Net_rings (B : Bn mg) (NA_Net_own_needs : NoAttr K cNet "own_needs") (K_rings_of : Cal P w K mg base 3 "rings_of" ["net"] (spF K mg false 1 (fn1 f_rings_of))) (FA : PropF K cNet "rings" "Net.rings" s_Net_rings) : CalPr P w K mg base 4 cNet "rings" ["self"] (spF K mg false 1 (fn1 f_Net_rings)) := by
  refine mk_prop (N := ["self"]) (k := 3) FA sc_Net_rings rfl (fun _ _ _ _ _ _ us hl => match us, hl with | [_], _ => rfl) (fun f cdv A outer s H E C ds hn => ?_)
  obtain ⟨a0, rfl⟩ := len1 hn
  refine ⟨D, Out.ret, f_Net_rings a0, ?_, out_ret _⟩
  unfold f_Net_rings
  change SV _ _ _ [.val a0] _ _ _
  exact sv_ret (inj := id) (fun _ => rfl) (call C K_rings_of ar1 (el_cons (ev_fldO NA_Net_own_needs (vv 0)) el_nil))
theorem ok_law_cell (B : Bn mg) (FA : FunAt K mg "_law_cell" s_law_cell) : Cal P w K mg base 1 "_law_cell" ["_law_script", "_law_k"] (spS K mg 1 (fun ns => fn1 (f_law_cell ns))) := by
  refine mk_scr (N := ["_law_script", "_law_k"]) (k := 0) FA sc_law_cell rfl (fun _ _ _ _ _ _ us hl => match us, hl with | [_, _], _ => rfl) (fun f cdv A outer s H E C ns ds hn => ?_)
  obtain ⟨a0, rfl⟩ := len1 hn
  refine ⟨D, Out.ret, f_law_cell ns a0, ?_, out_ret _⟩
  unfold f_law_cell
  change SV _ _ _ [.scr ns, .val a0] _ _ _
  refine sv_ifR (eb_cmp od_lt (vv 1) (slen 0 B.len) (nomark _)) ?_ (by repeat first | exact nf_bad | exact nf_raise | exact nf_ret (fun _ => rfl) | refine nf_bind (fun _ => ?_) | refine nf_ite ?_ ?_) ?_
  · exact sv_ret (inj := id) (fun _ => rfl) (sget 0 (vv 1) (fun _ _ => rfl))
  · exact sv_ret (inj := id) (fun _ => rfl) ev_int
theorem ok_law_due (B : Bn mg) (FA : FunAt K mg "_law_due" s_law_due) : Cal P w K mg base 1 "_law_due" ["_law_many"] (spF K mg false 1 (fn1 f_law_due)) := by
  refine mk_pure (N := ["_law_many", "_law_one"]) (k := 0) FA sc_law_due rfl (fun _ _ _ _ _ _ us hl => match us, hl with | [_], _ => rfl) (fun f cdv A outer s H E C ds hn => ?_)
  obtain ⟨a0, rfl⟩ := len1 hn
  refine ⟨D, Out.ret, f_law_due a0, ?_, out_ret _⟩
  unfold f_law_due
  change SV _ _ _ [.val a0, .junk] _ _ _
  refine sv_ifR (eb_cmp (od_eq C.room) (vv 0) ev_int (nomark _)) ?_ (by repeat first | exact nf_bad | exact nf_raise | exact nf_ret (fun _ => rfl) | refine nf_bind (fun _ => ?_) | refine nf_ite ?_ ?_) ?_
  · exact sv_ret (inj := id) (fun _ => rfl) (ev_tup (el_cons (ev_tup el_nil) el_nil))
  · exact sv_ret (inj := id) (fun _ => rfl) (ev_op od_add (ev_callTy cd_tuple (by rfl) B.tuple (by decide +kernel) (el_cons (ev_lc (own := [(("_law_one" : Str), 1)]) (dec := dec1) (g := gName 1) (Γz := fun z11 => [.val a0, .val z11]) C (ei_range1 (by rfl) B.range (el_cons (ev_op od_sub (vv 0) ev_int) el_nil)) (blkOk_by (by rfl)) (tg_name (by simp)) (fun _ _ _ _ _ => pgn 1 C.nd) (fun z11 _ _ _ _ _ => ets_nil) (fun z11 _ _ _ _ _ => (ev_tup (el_cons (ev_op od_add (vv 1) ev_int) el_nil)))) el_nil)) (ev_tup (el_cons (ev_tup (el_cons ev_int el_nil)) el_nil)))
theorem ok_law_is_same_0 (FA : FunAt K mg "_law_is_same" s_law_is_same) : Cal P w K mg base 1 "_law_is_same" ["_law_actual", "_law_wanted"] (spF K mg false 2 (fn2 (f_law_is_same 0))) := by
  refine mk_pure (N := ["_law_actual", "_law_wanted", "_law_k"]) (k := 0) FA sc_law_is_same rfl (fun _ _ _ _ _ _ us hl => match us, hl with | [_, _], _ => rfl) (fun f cdv A outer s H E C ds hn => ?_)
  obtain ⟨a0, a1, rfl⟩ := len2 hn
  exact ⟨D, Out.ret, bad, sv_bad, rfl⟩
theorem ok_law_is_same_1 (B : Bn mg) (K_rec : Cal P w K mg base 1 "_law_is_same" ["_law_actual", "_law_wanted"] (spF K mg false 2 (fn2 (f_law_is_same 0)))) (FA : FunAt K mg "_law_is_same" s_law_is_same) : Cal P w K mg base 2 "_law_is_same" ["_law_actual", "_law_wanted"] (spF K mg false 2 (fn2 (f_law_is_same 1))) := by
  refine mk_pure (N := ["_law_actual", "_law_wanted", "_law_k"]) (k := 1) FA sc_law_is_same rfl (fun _ _ _ _ _ _ us hl => match us, hl with | [_, _], _ => rfl) (fun f cdv A outer s H E C ds hn => ?_)
  obtain ⟨a0, a1, rfl⟩ := len2 hn
  refine ⟨D, Out.ret, f_law_is_same_step (f_law_is_same 0) a0 a1, ?_, out_ret _⟩
  generalize f_law_is_same 0 = rec at K_rec ⊢
  unfold f_law_is_same_step
  change SV _ _ _ [.val a0, .val a1, .junk] _ _ _
  refine sv_ifR (eb_val (ev_isi (T := "tuple") (by decide) (vv 1) (by rfl) B.isinstance (by rfl) B.tuple (by decide +kernel))) ?_ (by repeat first | exact nf_bad | exact nf_raise | exact nf_ret (fun _ => rfl) | refine nf_bind (fun _ => ?_) | refine nf_ite ?_ ?_) ?_
  · refine sv_ifR (eb_bool (ew_or (eb_not (eb_val (ev_isi (T := "tuple") (by decide) (vv 0) (by rfl) B.isinstance (by rfl) B.tuple (by decide +kernel)))) (ew_or1 (eb_cmp (od_ne C.room) (ev_callB cd_len (by rfl) B.len PySem.boot_len (el_cons (vv 0) el_nil)) (ev_callB cd_len (by rfl) B.len PySem.boot_len (el_cons (vv 1) el_nil)) (nomark _))))) ?_ (by repeat first | exact nf_bad | exact nf_raise | exact nf_ret (fun _ => rfl) | refine nf_bind (fun _ => ?_) | refine nf_ite ?_ ?_) ?_
    · exact sv_ret (inj := id) (fun _ => rfl) ev_bl
    · exact sv_ret (inj := id) (fun _ => rfl) (ev_callB (cd_all C.calm) (by rfl) B.all (by decide +kernel) (el_cons (ev_lc (own := [(("_law_k" : Str), 2)]) (dec := dec1) (g := gName 2) (Γz := fun z16 => [.val a0, .val a1, .val z16]) C (ei_range1 (by rfl) B.range (el_cons (ev_callB cd_len (by rfl) B.len PySem.boot_len (el_cons (vv 1) el_nil)) el_nil)) (blkOk_by (by rfl)) (tg_name (by simp)) (fun _ _ _ _ _ => pgn 2 C.nd) (fun z16 _ _ _ _ _ => ets_nil) (fun z16 _ _ _ _ _ => (call C.blk K_rec ar2 (el_cons (ev_ix (vv 0) (vv 2) (fun _ _ => rfl)) (el_cons (ev_ix (vv 1) (vv 2) (fun _ _ => rfl)) el_nil))))) el_nil))
  · refine sv_ifR (eb_cmp od_isN (vv 1) ev_non (nomark _)) ?_ (by repeat first | exact nf_bad | exact nf_raise | exact nf_ret (fun _ => rfl) | refine nf_bind (fun _ => ?_) | refine nf_ite ?_ ?_) ?_
    · exact sv_ret (inj := id) (fun _ => rfl) (ev_cmp od_isN (vv 0) ev_non (nomark _))
    · refine sv_ifR (eb_val (ev_isi (T := "str") (by decide) (vv 1) (by rfl) B.isinstance (by rfl) B.str (by decide +kernel))) ?_ (by repeat first | exact nf_bad | exact nf_raise | exact nf_ret (fun _ => rfl) | refine nf_bind (fun _ => ?_) | refine nf_ite ?_ ?_) ?_
      · exact sv_ret (inj := id) (fun _ => rfl) (ev_and (ev_isi (T := "str") (by decide) (vv 0) (by rfl) B.isinstance (by rfl) B.str (by decide +kernel)) (ev_one (ev_cmp (od_eq C.room) (vv 0) (vv 1) (nomark _))))
      · refine sv_ifR (eb_bool (ew_or (eb_not (eb_val (ev_isi (T := "int") (by decide) (vv 0) (by rfl) B.isinstance (by rfl) B.int (by decide +kernel)))) (ew_or1 (eb_cmp (od_ne C.room) (ev_isi (T := "bool") (by decide) (vv 0) (by rfl) B.isinstance (by rfl) B.bool (by decide +kernel)) (ev_isi (T := "bool") (by decide) (vv 1) (by rfl) B.isinstance (by rfl) B.bool (by decide +kernel)) (nomark _))))) ?_ (by repeat first | exact nf_bad | exact nf_raise | exact nf_ret (fun _ => rfl) | refine nf_bind (fun _ => ?_) | refine nf_ite ?_ ?_) ?_
        · exact sv_ret (inj := id) (fun _ => rfl) ev_bl
        · exact sv_ret (inj := id) (fun _ => rfl) (ev_cmp (od_eq C.room) (vv 0) (vv 1) (nomark _))
theorem ok_law_is_same_2 (B : Bn mg) (K_rec : Cal P w K mg base 2 "_law_is_same" ["_law_actual", "_law_wanted"] (spF K mg false 2 (fn2 (f_law_is_same 1)))) (FA : FunAt K mg "_law_is_same" s_law_is_same) : Cal P w K mg base 3 "_law_is_same" ["_law_actual", "_law_wanted"] (spF K mg false 2 (fn2 (f_law_is_same 2))) := by
  refine mk_pure (N := ["_law_actual", "_law_wanted", "_law_k"]) (k := 2) FA sc_law_is_same rfl (fun _ _ _ _ _ _ us hl => match us, hl with | [_, _], _ => rfl) (fun f cdv A outer s H E C ds hn => ?_)
  obtain ⟨a0, a1, rfl⟩ := len2 hn
  refine ⟨D, Out.ret, f_law_is_same_step (f_law_is_same 1) a0 a1, ?_, out_ret _⟩
  generalize f_law_is_same 1 = rec at K_rec ⊢
  unfold f_law_is_same_step
  change SV _ _ _ [.val a0, .val a1, .junk] _ _ _
  refine sv_ifR (eb_val (ev_isi (T := "tuple") (by decide) (vv 1) (by rfl) B.isinstance (by rfl) B.tuple (by decide +kernel))) ?_ (by repeat first | exact nf_bad | exact nf_raise | exact nf_ret (fun _ => rfl) | refine nf_bind (fun _ => ?_) | refine nf_ite ?_ ?_) ?_
  · refine sv_ifR (eb_bool (ew_or (eb_not (eb_val (ev_isi (T := "tuple") (by decide) (vv 0) (by rfl) B.isinstance (by rfl) B.tuple (by decide +kernel)))) (ew_or1 (eb_cmp (od_ne C.room) (ev_callB cd_len (by rfl) B.len PySem.boot_len (el_cons (vv 0) el_nil)) (ev_callB cd_len (by rfl) B.len PySem.boot_len (el_cons (vv 1) el_nil)) (nomark _))))) ?_ (by repeat first | exact nf_bad | exact nf_raise | exact nf_ret (fun _ => rfl) | refine nf_bind (fun _ => ?_) | refine nf_ite ?_ ?_) ?_
    · exact sv_ret (inj := id) (fun _ => rfl) ev_bl
    · exact sv_ret (inj := id) (fun _ => rfl) (ev_callB (cd_all C.calm) (by rfl) B.all (by decide +kernel) (el_cons (ev_lc (own := [(("_law_k" : Str), 2)]) (dec := dec1) (g := gName 2) (Γz := fun z16 => [.val a0, .val a1, .val z16]) C (ei_range1 (by rfl) B.range (el_cons (ev_callB cd_len (by rfl) B.len PySem.boot_len (el_cons (vv 1) el_nil)) el_nil)) (blkOk_by (by rfl)) (tg_name (by simp)) (fun _ _ _ _ _ => pgn 2 C.nd) (fun z16 _ _ _ _ _ => ets_nil) (fun z16 _ _ _ _ _ => (call C.blk K_rec ar2 (el_cons (ev_ix (vv 0) (vv 2) (fun _ _ => rfl)) (el_cons (ev_ix (vv 1) (vv 2) (fun _ _ => rfl)) el_nil))))) el_nil))
  · refine sv_ifR (eb_cmp od_isN (vv 1) ev_non (nomark _)) ?_ (by repeat first | exact nf_bad | exact nf_raise | exact nf_ret (fun _ => rfl) | refine nf_bind (fun _ => ?_) | refine nf_ite ?_ ?_) ?_
    · exact sv_ret (inj := id) (fun _ => rfl) (ev_cmp od_isN (vv 0) ev_non (nomark _))
    · refine sv_ifR (eb_val (ev_isi (T := "str") (by decide) (vv 1) (by rfl) B.isinstance (by rfl) B.str (by decide +kernel))) ?_ (by repeat first | exact nf_bad | exact nf_raise | exact nf_ret (fun _ => rfl) | refine nf_bind (fun _ => ?_) | refine nf_ite ?_ ?_) ?_
      · exact sv_ret (inj := id) (fun _ => rfl) (ev_and (ev_isi (T := "str") (by decide) (vv 0) (by rfl) B.isinstance (by rfl) B.str (by decide +kernel)) (ev_one (ev_cmp (od_eq C.room) (vv 0) (vv 1) (nomark _))))
      · refine sv_ifR (eb_bool (ew_or (eb_not (eb_val (ev_isi (T := "int") (by decide) (vv 0) (by rfl) B.isinstance (by rfl) B.int (by decide +kernel)))) (ew_or1 (eb_cmp (od_ne C.room) (ev_isi (T := "bool") (by decide) (vv 0) (by rfl) B.isinstance (by rfl) B.bool (by decide +kernel)) (ev_isi (T := "bool") (by decide) (vv 1) (by rfl) B.isinstance (by rfl) B.bool (by decide +kernel)) (nomark _))))) ?_ (by repeat first | exact nf_bad | exact nf_raise | exact nf_ret (fun _ => rfl) | refine nf_bind (fun _ => ?_) | refine nf_ite ?_ ?_) ?_
        · exact sv_ret (inj := id) (fun _ => rfl) ev_bl
        · exact sv_ret (inj := id) (fun _ => rfl) (ev_cmp (od_eq C.room) (vv 0) (vv 1) (nomark _))
theorem ok_law_is_same_3 (B : Bn mg) (K_rec : Cal P w K mg base 3 "_law_is_same" ["_law_actual", "_law_wanted"] (spF K mg false 2 (fn2 (f_law_is_same 2)))) (FA : FunAt K mg "_law_is_same" s_law_is_same) : Cal P w K mg base 4 "_law_is_same" ["_law_actual", "_law_wanted"] (spF K mg false 2 (fn2 (f_law_is_same 3))) := by
  refine mk_pure (N := ["_law_actual", "_law_wanted", "_law_k"]) (k := 3) FA sc_law_is_same rfl (fun _ _ _ _ _ _ us hl => match us, hl with | [_, _], _ => rfl) (fun f cdv A outer s H E C ds hn => ?_)
  obtain ⟨a0, a1, rfl⟩ := len2 hn
  refine ⟨D, Out.ret, f_law_is_same_step (f_law_is_same 2) a0 a1, ?_, out_ret _⟩
  generalize f_law_is_same 2 = rec at K_rec ⊢
  unfold f_law_is_same_step
  change SV _ _ _ [.val a0, .val a1, .junk] _ _ _
  refine sv_ifR (eb_val (ev_isi (T := "tuple") (by decide) (vv 1) (by rfl) B.isinstance (by rfl) B.tuple (by decide +kernel))) ?_ (by repeat first | exact nf_bad | exact nf_raise | exact nf_ret (fun _ => rfl) | refine nf_bind (fun _ => ?_) | refine nf_ite ?_ ?_) ?_
  · refine sv_ifR (eb_bool (ew_or (eb_not (eb_val (ev_isi (T := "tuple") (by decide) (vv 0) (by rfl) B.isinstance (by rfl) B.tuple (by decide +kernel)))) (ew_or1 (eb_cmp (od_ne C.room) (ev_callB cd_len (by rfl) B.len PySem.boot_len (el_cons (vv 0) el_nil)) (ev_callB cd_len (by rfl) B.len PySem.boot_len (el_cons (vv 1) el_nil)) (nomark _))))) ?_ (by repeat first | exact nf_bad | exact nf_raise | exact nf_ret (fun _ => rfl) | refine nf_bind (fun _ => ?_) | refine nf_ite ?_ ?_) ?_
    · exact sv_ret (inj := id) (fun _ => rfl) ev_bl
    · exact sv_ret (inj := id) (fun _ => rfl) (ev_callB (cd_all C.calm) (by rfl) B.all (by decide +kernel) (el_cons (ev_lc (own := [(("_law_k" : Str), 2)]) (dec := dec1) (g := gName 2) (Γz := fun z16 => [.val a0, .val a1, .val z16]) C (ei_range1 (by rfl) B.range (el_cons (ev_callB cd_len (by rfl) B.len PySem.boot_len (el_cons (vv 1) el_nil)) el_nil)) (blkOk_by (by rfl)) (tg_name (by simp)) (fun _ _ _ _ _ => pgn 2 C.nd) (fun z16 _ _ _ _ _ => ets_nil) (fun z16 _ _ _ _ _ => (call C.blk K_rec ar2 (el_cons (ev_ix (vv 0) (vv 2) (fun _ _ => rfl)) (el_cons (ev_ix (vv 1) (vv 2) (fun _ _ => rfl)) el_nil))))) el_nil))
  · refine sv_ifR (eb_cmp od_isN (vv 1) ev_non (nomark _)) ?_ (by repeat first | exact nf_bad | exact nf_raise | exact nf_ret (fun _ => rfl) | refine nf_bind (fun _ => ?_) | refine nf_ite ?_ ?_) ?_
    · exact sv_ret (inj := id) (fun _ => rfl) (ev_cmp od_isN (vv 0) ev_non (nomark _))
    · refine sv_ifR (eb_val (ev_isi (T := "str") (by decide) (vv 1) (by rfl) B.isinstance (by rfl) B.str (by decide +kernel))) ?_ (by repeat first | exact nf_bad | exact nf_raise | exact nf_ret (fun _ => rfl) | refine nf_bind (fun _ => ?_) | refine nf_ite ?_ ?_) ?_
      · exact sv_ret (inj := id) (fun _ => rfl) (ev_and (ev_isi (T := "str") (by decide) (vv 0) (by rfl) B.isinstance (by rfl) B.str (by decide +kernel)) (ev_one (ev_cmp (od_eq C.room) (vv 0) (vv 1) (nomark _))))
      · refine sv_ifR (eb_bool (ew_or (eb_not (eb_val (ev_isi (T := "int") (by decide) (vv 0) (by rfl) B.isinstance (by rfl) B.int (by decide +kernel)))) (ew_or1 (eb_cmp (od_ne C.room) (ev_isi (T := "bool") (by decide) (vv 0) (by rfl) B.isinstance (by rfl) B.bool (by decide +kernel)) (ev_isi (T := "bool") (by decide) (vv 1) (by rfl) B.isinstance (by rfl) B.bool (by decide +kernel)) (nomark _))))) ?_ (by repeat first | exact nf_bad | exact nf_raise | exact nf_ret (fun _ => rfl) | refine nf_bind (fun _ => ?_) | refine nf_ite ?_ ?_) ?_
        · exact sv_ret (inj := id) (fun _ => rfl) ev_bl
        · exact sv_ret (inj := id) (fun _ => rfl) (ev_cmp (od_eq C.room) (vv 0) (vv 1) (nomark _))
theorem ok_law_is_same_4 (B : Bn mg) (K_rec : Cal P w K mg base 4 "_law_is_same" ["_law_actual", "_law_wanted"] (spF K mg false 2 (fn2 (f_law_is_same 3)))) (FA : FunAt K mg "_law_is_same" s_law_is_same) : Cal P w K mg base 5 "_law_is_same" ["_law_actual", "_law_wanted"] (spF K mg false 2 (fn2 (f_law_is_same 4))) := by
  refine mk_pure (N := ["_law_actual", "_law_wanted", "_law_k"]) (k := 4) FA sc_law_is_same rfl (fun _ _ _ _ _ _ us hl => match us, hl with | [_, _], _ => rfl) (fun f cdv A outer s H E C ds hn => ?_)
  obtain ⟨a0, a1, rfl⟩ := len2 hn
  refine ⟨D, Out.ret, f_law_is_same_step (f_law_is_same 3) a0 a1, ?_, out_ret _⟩
  generalize f_law_is_same 3 = rec at K_rec ⊢
  unfold f_law_is_same_step
  change SV _ _ _ [.val a0, .val a1, .junk] _ _ _
  refine sv_ifR (eb_val (ev_isi (T := "tuple") (by decide) (vv 1) (by rfl) B.isinstance (by rfl) B.tuple (by decide +kernel))) ?_ (by repeat first | exact nf_bad | exact nf_raise | exact nf_ret (fun _ => rfl) | refine nf_bind (fun _ => ?_) | refine nf_ite ?_ ?_) ?_
  · refine sv_ifR (eb_bool (ew_or (eb_not (eb_val (ev_isi (T := "tuple") (by decide) (vv 0) (by rfl) B.isinstance (by rfl) B.tuple (by decide +kernel)))) (ew_or1 (eb_cmp (od_ne C.room) (ev_callB cd_len (by rfl) B.len PySem.boot_len (el_cons (vv 0) el_nil)) (ev_callB cd_len (by rfl) B.len PySem.boot_len (el_cons (vv 1) el_nil)) (nomark _))))) ?_ (by repeat first | exact nf_bad | exact nf_raise | exact nf_ret (fun _ => rfl) | refine nf_bind (fun _ => ?_) | refine nf_ite ?_ ?_) ?_
    · exact sv_ret (inj := id) (fun _ => rfl) ev_bl
    · exact sv_ret (inj := id) (fun _ => rfl) (ev_callB (cd_all C.calm) (by rfl) B.all (by decide +kernel) (el_cons (ev_lc (own := [(("_law_k" : Str), 2)]) (dec := dec1) (g := gName 2) (Γz := fun z16 => [.val a0, .val a1, .val z16]) C (ei_range1 (by rfl) B.range (el_cons (ev_callB cd_len (by rfl) B.len PySem.boot_len (el_cons (vv 1) el_nil)) el_nil)) (blkOk_by (by rfl)) (tg_name (by simp)) (fun _ _ _ _ _ => pgn 2 C.nd) (fun z16 _ _ _ _ _ => ets_nil) (fun z16 _ _ _ _ _ => (call C.blk K_rec ar2 (el_cons (ev_ix (vv 0) (vv 2) (fun _ _ => rfl)) (el_cons (ev_ix (vv 1) (vv 2) (fun _ _ => rfl)) el_nil))))) el_nil))
  · refine sv_ifR (eb_cmp od_isN (vv 1) ev_non (nomark _)) ?_ (by repeat first | exact nf_bad | exact nf_raise | exact nf_ret (fun _ => rfl) | refine nf_bind (fun _ => ?_) | refine nf_ite ?_ ?_) ?_
    · exact sv_ret (inj := id) (fun _ => rfl) (ev_cmp od_isN (vv 0) ev_non (nomark _))
    · refine sv_ifR (eb_val (ev_isi (T := "str") (by decide) (vv 1) (by rfl) B.isinstance (by rfl) B.str (by decide +kernel))) ?_ (by repeat first | exact nf_bad | exact nf_raise | exact nf_ret (fun _ => rfl) | refine nf_bind (fun _ => ?_) | refine nf_ite ?_ ?_) ?_
      · exact sv_ret (inj := id) (fun _ => rfl) (ev_and (ev_isi (T := "str") (by decide) (vv 0) (by rfl) B.isinstance (by rfl) B.str (by decide +kernel)) (ev_one (ev_cmp (od_eq C.room) (vv 0) (vv 1) (nomark _))))
      · refine sv_ifR (eb_bool (ew_or (eb_not (eb_val (ev_isi (T := "int") (by decide) (vv 0) (by rfl) B.isinstance (by rfl) B.int (by decide +kernel)))) (ew_or1 (eb_cmp (od_ne C.room) (ev_isi (T := "bool") (by decide) (vv 0) (by rfl) B.isinstance (by rfl) B.bool (by decide +kernel)) (ev_isi (T := "bool") (by decide) (vv 1) (by rfl) B.isinstance (by rfl) B.bool (by decide +kernel)) (nomark _))))) ?_ (by repeat first | exact nf_bad | exact nf_raise | exact nf_ret (fun _ => rfl) | refine nf_bind (fun _ => ?_) | refine nf_ite ?_ ?_) ?_
        · exact sv_ret (inj := id) (fun _ => rfl) ev_bl
        · exact sv_ret (inj := id) (fun _ => rfl) (ev_cmp (od_eq C.room) (vv 0) (vv 1) (nomark _))
theorem ok_law_is_same_5 (B : Bn mg) (K_rec : Cal P w K mg base 5 "_law_is_same" ["_law_actual", "_law_wanted"] (spF K mg false 2 (fn2 (f_law_is_same 4)))) (FA : FunAt K mg "_law_is_same" s_law_is_same) : Cal P w K mg base 6 "_law_is_same" ["_law_actual", "_law_wanted"] (spF K mg false 2 (fn2 (f_law_is_same 5))) := by
  refine mk_pure (N := ["_law_actual", "_law_wanted", "_law_k"]) (k := 5) FA sc_law_is_same rfl (fun _ _ _ _ _ _ us hl => match us, hl with | [_, _], _ => rfl) (fun f cdv A outer s H E C ds hn => ?_)
  obtain ⟨a0, a1, rfl⟩ := len2 hn
  refine ⟨D, Out.ret, f_law_is_same_step (f_law_is_same 4) a0 a1, ?_, out_ret _⟩
  generalize f_law_is_same 4 = rec at K_rec ⊢
  unfold f_law_is_same_step
  change SV _ _ _ [.val a0, .val a1, .junk] _ _ _
  refine sv_ifR (eb_val (ev_isi (T := "tuple") (by decide) (vv 1) (by rfl) B.isinstance (by rfl) B.tuple (by decide +kernel))) ?_ (by repeat first | exact nf_bad | exact nf_raise | exact nf_ret (fun _ => rfl) | refine nf_bind (fun _ => ?_) | refine nf_ite ?_ ?_) ?_
  · refine sv_ifR (eb_bool (ew_or (eb_not (eb_val (ev_isi (T := "tuple") (by decide) (vv 0) (by rfl) B.isinstance (by rfl) B.tuple (by decide +kernel)))) (ew_or1 (eb_cmp (od_ne C.room) (ev_callB cd_len (by rfl) B.len PySem.boot_len (el_cons (vv 0) el_nil)) (ev_callB cd_len (by rfl) B.len PySem.boot_len (el_cons (vv 1) el_nil)) (nomark _))))) ?_ (by repeat first | exact nf_bad | exact nf_raise | exact nf_ret (fun _ => rfl) | refine nf_bind (fun _ => ?_) | refine nf_ite ?_ ?_) ?_
    · exact sv_ret (inj := id) (fun _ => rfl) ev_bl
    · exact sv_ret (inj := id) (fun _ => rfl) (ev_callB (cd_all C.calm) (by rfl) B.all (by decide +kernel) (el_cons (ev_lc (own := [(("_law_k" : Str), 2)]) (dec := dec1) (g := gName 2) (Γz := fun z16 => [.val a0, .val a1, .val z16]) C (ei_range1 (by rfl) B.range (el_cons (ev_callB cd_len (by rfl) B.len PySem.boot_len (el_cons (vv 1) el_nil)) el_nil)) (blkOk_by (by rfl)) (tg_name (by simp)) (fun _ _ _ _ _ => pgn 2 C.nd) (fun z16 _ _ _ _ _ => ets_nil) (fun z16 _ _ _ _ _ => (call C.blk K_rec ar2 (el_cons (ev_ix (vv 0) (vv 2) (fun _ _ => rfl)) (el_cons (ev_ix (vv 1) (vv 2) (fun _ _ => rfl)) el_nil))))) el_nil))
  · refine sv_ifR (eb_cmp od_isN (vv 1) ev_non (nomark _)) ?_ (by repeat first | exact nf_bad | exact nf_raise | exact nf_ret (fun _ => rfl) | refine nf_bind (fun _ => ?_) | refine nf_ite ?_ ?_) ?_
    · exact sv_ret (inj := id) (fun _ => rfl) (ev_cmp od_isN (vv 0) ev_non (nomark _))
    · refine sv_ifR (eb_val (ev_isi (T := "str") (by decide) (vv 1) (by rfl) B.isinstance (by rfl) B.str (by decide +kernel))) ?_ (by repeat first | exact nf_bad | exact nf_raise | exact nf_ret (fun _ => rfl) | refine nf_bind (fun _ => ?_) | refine nf_ite ?_ ?_) ?_
      · exact sv_ret (inj := id) (fun _ => rfl) (ev_and (ev_isi (T := "str") (by decide) (vv 0) (by rfl) B.isinstance (by rfl) B.str (by decide +kernel)) (ev_one (ev_cmp (od_eq C.room) (vv 0) (vv 1) (nomark _))))
      · refine sv_ifR (eb_bool (ew_or (eb_not (eb_val (ev_isi (T := "int") (by decide) (vv 0) (by rfl) B.isinstance (by rfl) B.int (by decide +kernel)))) (ew_or1 (eb_cmp (od_ne C.room) (ev_isi (T := "bool") (by decide) (vv 0) (by rfl) B.isinstance (by rfl) B.bool (by decide +kernel)) (ev_isi (T := "bool") (by decide) (vv 1) (by rfl) B.isinstance (by rfl) B.bool (by decide +kernel)) (nomark _))))) ?_ (by repeat first | exact nf_bad | exact nf_raise | exact nf_ret (fun _ => rfl) | refine nf_bind (fun _ => ?_) | refine nf_ite ?_ ?_) ?_
        · exact sv_ret (inj := id) (fun _ => rfl) ev_bl
        · exact sv_ret (inj := id) (fun _ => rfl) (ev_cmp (od_eq C.room) (vv 0) (vv 1) (nomark _))
theorem ok_law_draws (B : Bn mg) (FA : FunAt K mg "_law_draws" s_law_draws) : Cal P w K mg base 1 "_law_draws" ["_law_cell_here", "_law_bounds"] (spF K mg false 2 (fn2 f_law_draws)) := by
  refine mk_pure (N := ["_law_cell_here", "_law_bounds", "_law_found", "_law_left", "_law_below", "_law_k", "_law_mixed"]) (k := 0) FA sc_law_draws rfl (fun _ _ _ _ _ _ us hl => match us, hl with | [_, _], _ => rfl) (fun f cdv A outer s H E C ds hn => ?_)
  obtain ⟨a0, a1, rfl⟩ := len2 hn
  refine ⟨D, Out.ret, f_law_draws a0 a1, ?_, out_ret _⟩
  unfold f_law_draws
  change SV _ _ _ [.val a0, .val a1, .junk, .junk, .junk, .junk, .junk] _ _ _
  refine sv_setO 2 (ps_o C.nd (eo_lst el_nil)) (fun xs1 => ?_)
  change SV _ _ _ [.val a0, .val a1, .own xs1, .junk, .junk, .junk, .junk] _ _ _
  refine sv_ifR (eb_cmp od_ge (vv 0) (ev_op od_pow ev_int ev_int) (nomark _)) ?_ (by repeat first | exact nf_bad | exact nf_raise | exact nf_ret (fun _ => rfl) | refine nf_bind (fun _ => ?_) | refine nf_ite ?_ ?_) ?_
  · refine sv_set 3 C.nd (ev_op od_sub (vv 0) (ev_op od_pow ev_int ev_int)) (fun v7 => ?_)
    change SV _ _ _ [.val a0, .val a1, .own xs1, .val v7, .junk, .junk, .junk] _ _ _
    refine sv_forS (dec := dec1) (g := gName 4) (vs := [4]) (mk := (fun (c12 : D × List D) => [.val a0, .val a1, .own c12.2, .val c12.1, .junk, .junk, .junk])) (c0 := (v7, xs1)) C (ei_seq (vv 1)) (pgn 4 C.nd) (fun _ => tg_name (by simp)) (wk (wk (wk (wk (wj (wj (wj wn))))))) (fun c12 z13 => ?_) (fun c12 => ?_)
    · change SV _ _ _ [.val a0, .val a1, .own c12.2, .val c12.1, .val z13, .junk, .junk] _ _ _
      refine sv_append 2 (xs := c12.2) rfl (ev_op od_mod (vv 3) (vv 4)) (fun d17 => ?_)
      change SV _ _ _ [.val a0, .val a1, .own (c12.2 ++ [d17]), .val c12.1, .val z13, .junk, .junk] _ _ _
      refine sv_set 3 C.nd (ev_op od_fdiv (vv 3) (vv 4)) (fun v18 => ?_)
      change SV _ _ _ [.val a0, .val a1, .own (c12.2 ++ [d17]), .val v18, .val z13, .junk, .junk] _ _ _
      exact sv_nil rfl (wk (wk (wk (wk (wj (wj (wj wn)))))))
    · change SV _ _ _ [.val a0, .val a1, .own c12.2, .val c12.1, .junk, .junk, .junk] _ _ _
      refine sv_pub 2 (xs := c12.2) rfl ?_
      change SV _ _ _ [.val a0, .val a1, .val (D.lst c12.2), .val c12.1, .junk, .junk, .junk] _ _ _
      exact sv_ret (inj := id) (fun _ => rfl) (vv 2)
  · refine sv_forS (dec := dec1) (g := gName 5) (vs := [5]) (mk := (fun (c26 : List D) => [.val a0, .val a1, .own c26, .junk, .junk, .junk, .junk])) (c0 := xs1) C (ei_range1 (by rfl) B.range (el_cons (ev_callB cd_len (by rfl) B.len PySem.boot_len (el_cons (vv 1) el_nil)) el_nil)) (pgn 5 C.nd) (fun _ => tg_name (by simp)) (wk (wk (wk (wj (wj (wj (wj wn))))))) (fun c26 z27 => ?_) (fun c26 => ?_)
    · change SV _ _ _ [.val a0, .val a1, .own c26, .junk, .junk, .val z27, .junk] _ _ _
      refine sv_set 6 C.nd (ev_op od_mod (ev_op od_add (ev_op od_add (ev_op od_mul (vv 0) ev_int) (ev_op od_mul (vv 5) ev_int)) ev_int) ev_int) (fun v29 => ?_)
      change SV _ _ _ [.val a0, .val a1, .own c26, .junk, .junk, .val z27, .val v29] _ _ _
      refine sv_set 6 C.nd (ev_op od_mod (ev_op od_add (ev_op od_mul (vv 6) ev_int) (vv 5)) ev_int) (fun v40 => ?_)
      change SV _ _ _ [.val a0, .val a1, .own c26, .junk, .junk, .val z27, .val v40] _ _ _
      refine sv_append 2 (xs := c26) rfl (ev_op od_mod (vv 6) (ev_ix (vv 1) (vv 5) (fun _ _ => rfl))) (fun d51 => ?_)
      change SV _ _ _ [.val a0, .val a1, .own (c26 ++ [d51]), .junk, .junk, .val z27, .val v40] _ _ _
      exact sv_nil rfl (wk (wk (wk (wj (wj (wj (wj wn)))))))
    · change SV _ _ _ [.val a0, .val a1, .own c26, .junk, .junk, .junk, .junk] _ _ _
      refine sv_pub 2 (xs := c26) rfl ?_
      change SV _ _ _ [.val a0, .val a1, .val (D.lst c26), .junk, .junk, .junk, .junk] _ _ _
      exact sv_ret (inj := id) (fun _ => rfl) (vv 2)
theorem ok_law_set (B : Bn mg) (K_law_draws : Cal P w K mg base 1 "_law_draws" ["_law_cell_here", "_law_bounds"] (spF K mg false 2 (fn2 f_law_draws))) (FA : FunAt K mg "_law_set" s_law_set) : Cal P w K mg base 2 "_law_set" ["_law_cell_here", "_law_many"] (spF K mg false 2 (fn2 f_law_set)) := by
  refine mk_pure (N := ["_law_cell_here", "_law_many", "_law_numbers", "_law_one"]) (k := 1) FA sc_law_set rfl (fun _ _ _ _ _ _ us hl => match us, hl with | [_, _], _ => rfl) (fun f cdv A outer s H E C ds hn => ?_)
  obtain ⟨a0, a1, rfl⟩ := len2 hn
  refine ⟨D, Out.ret, f_law_set a0 a1, ?_, out_ret _⟩
  unfold f_law_set
  change SV _ _ _ [.val a0, .val a1, .junk, .junk] _ _ _
  refine sv_set 2 C.nd (call C K_law_draws ar2 (el_cons (vv 0) (el_cons (ev_op od_mulL (ev_lst (el_cons ev_int el_nil)) (vv 1)) el_nil))) (fun v1 => ?_)
  change SV _ _ _ [.val a0, .val a1, .val v1, .junk] _ _ _
  exact sv_ret (inj := id) (fun _ => rfl) (ev_callTy cd_tuple (by rfl) B.tuple (by decide +kernel) (el_cons (ev_lc (own := [(("_law_one" : Str), 3)]) (dec := dec1) (g := gName 3) (Γz := fun z13 => [.val a0, .val a1, .val v1, .val z13]) C (ei_range1 (by rfl) B.range (el_cons (vv 1) el_nil)) (blkOk_by (by rfl)) (tg_name (by simp)) (fun _ _ _ _ _ => pgn 3 C.nd) (fun z13 _ _ _ _ _ => (ets_one (eb_cmp (od_eq C.blk.room) (ev_ix (vv 2) (vv 3) (fun _ _ => rfl)) ev_int (nomark _)))) (fun z13 _ _ _ _ _ => (vv 3))) el_nil))
theorem ok_law {f c T : Addr} {fd : FuncData} (B : Bn mg) (S_law_said : SaidC8 P w K mg base 31 "_law_said") (K_Net_call : CalM P w K mg base 4 cNet "__call__" ["self", "broken"] (spF K mg false 2 (fn2 f_Net_call))) (K_Net_getitem : CalM P w K mg base 3 cNet "__getitem__" ["self", "component"] (spF K mg false 2 (fn2 f_Net_getitem))) (K_Net_needs : CalPr P w K mg base 1 cNet "needs" ["self"] (spF K mg false 1 (fn1 f_Net_needs))) (K_Net_ring : CalSt P w K mg base 6 "Net" cNet "ring" ["many"] (spF K mg false 1 (fn1 f_Net_ring))) (K_Net_rings : CalPr P w K mg base 4 cNet "rings" ["self"] (spF K mg false 1 (fn1 f_Net_rings))) (K_law_cell : Cal P w K mg base 1 "_law_cell" ["_law_script", "_law_k"] (spS K mg 1 (fun ns => fn1 (f_law_cell ns)))) (K_law_due : Cal P w K mg base 1 "_law_due" ["_law_many"] (spF K mg false 1 (fn1 f_law_due))) (K_law_is_same : Cal P w K mg base 6 "_law_is_same" ["_law_actual", "_law_wanted"] (spF K mg false 2 (fn2 (f_law_is_same 5)))) (K_law_set : Cal P w K mg base 2 "_law_set" ["_law_cell_here", "_law_many"] (spF K mg false 2 (fn2 f_law_set))) (FU : Fun K "law" "law" s_law f fd) (l1 : fd.code = .ref c) (l2 : LamX.TabB base mg c T) (l3 : NeedT K T) (l4 : tauK K T = ("law" ++ ".<locals>.") ++ "<lambda>") : FnG P w K mg base 34 f fd ["_law_script"] (spS K mg 0 (fun ns => fn0 (f_law ns))) := by
  refine fn_scrL (N := ["_law_script", "_law_many", "_law_made", "_law_every", "_law_told", "_law_k", "_law_broken", "_law_thing"]) (n := 0) FU l1 l2 l3 l4 sc_law rfl (fun cdv A outer s H E C LA ns ds hn => ?_)
  obtain rfl := len0 hn
  refine ⟨D, Out.ret, f_law ns, ?_, out_ret _⟩
  unfold f_law
  change SV _ _ _ [.scr ns, .junk, .junk, .junk, .junk, .junk, .junk, .junk] _ _ _
  refine sv_forL (dec := dec1) (g := gName 1) (vs := [1]) (mk := (fun (c5 : Option D) => [.scr ns, .junk, optS c5, .junk, .junk, .junk, .junk, .junk])) (c0 := none) (inj := id) C (ei_range2 (by rfl) B.range (el_cons ev_int (el_cons ev_int el_nil))) (pgn 1 C.nd) (fun _ => tg_name (by simp)) (wk (wj (wk (wj (wj (wj (wj (wj wn)))))))) (fun _ => rfl) (fun c5 z6 => ?_) (fun c5 => ?_)
  · change SV _ _ _ [.scr ns, .val z6, optS c5, .junk, .junk, .junk, .junk, .junk] _ _ _
    refine sv_set 2 C.nd (ev_stC C K_Net_ring ar1 (el_cons (vv 1) el_nil)) (fun v8 => ?_)
    change SV _ _ _ [.scr ns, .val z6, .val v8, .junk, .junk, .junk, .junk, .junk] _ _ _
    refine sv_set 3 C.nd (ev_tupRg1 C (by rfl) B.tuple (by rfl) B.range (vv 1)) (fun v12 => ?_)
    change SV _ _ _ [.scr ns, .val z6, .val v8, .val v12, .junk, .junk, .junk, .junk] _ _ _
    refine sv_set 4 C.nd (ev_tup (el_cons (ev_propC C K_Net_needs ar1 (vv 2)) (el_cons (ev_propC C K_Net_needs ar1 (ev_stO C K_Net_ring ar1 (vv 2) (el_cons (vv 1) el_nil))) (el_cons (ev_propC C K_Net_rings ar1 (vv 2)) (el_cons (ev_subO C K_Net_getitem ar2 (vv 2) (ev_op od_sub (vv 1) ev_int)) (el_cons (ev_callO C K_Net_call ar2 (vv 2) (el_cons (ev_tup el_nil) el_nil)) el_nil)))))) (fun v14 => ?_)
    change SV _ _ _ [.scr ns, .val z6, .val v8, .val v12, .val v14, .junk, .junk, .junk] _ _ _
    refine sv_ifR (eb_not (eb_val (call C K_law_is_same ar2 (el_cons (vv 4) (el_cons (ev_tup (el_cons (call C K_law_due ar1 (el_cons (vv 1) el_nil)) (el_cons (call C K_law_due ar1 (el_cons (vv 1) el_nil)) (el_cons (ev_tup (el_cons (vv 3) el_nil)) (el_cons (vv 3) (el_cons (ev_tup el_nil) el_nil)))))) el_nil))))) ?_ (by repeat first | exact nf_bad | exact nf_raise | exact nf_ret (fun _ => rfl) | refine nf_bind (fun _ => ?_) | refine nf_ite ?_ ?_) ?_
    · exact sv_ret (inj := Lp.ret) (fun _ => rfl) ev_bl
    · refine sv_forL (dec := dec1) (g := gName 5) (vs := [5]) (mk := (fun (c68 : Unit) => [.scr ns, .val z6, .val v8, .val v12, .val v14, .junk, .junk, .junk])) (c0 := ()) (inj := Lp.ret) C (ei_range1 (by rfl) B.range (el_cons ev_int el_nil)) (pgn 5 C.nd) (fun _ => tg_name (by simp)) (wk (wk (wk (wk (wk (wj (wj (wj wn)))))))) (fun _ => rfl) (fun c68 z69 => ?_) (fun c68 => ?_)
      · change SV _ _ _ [.scr ns, .val z6, .val v8, .val v12, .val v14, .val z69, .junk, .junk] _ _ _
        refine sv_set 6 C.nd (call C K_law_set ar2 (el_cons (callS 0 C K_law_cell (fun _ => ar1) (el_cons (vv 5) el_nil)) (el_cons (vv 1) el_nil))) (fun v71 => ?_)
        change SV _ _ _ [.scr ns, .val z6, .val v8, .val v12, .val v14, .val z69, .val v71, .junk] _ _ _
        refine sv_ifR (eb_not (eb_val (call C K_law_is_same ar2 (el_cons (ev_callO C K_Net_call ar2 (vv 2) (el_cons (vv 6) el_nil)) (el_cons (ev_ifExp (eb_cmp (od_ne C.room) (vv 6) (ev_tup el_nil) (nomark _)) (vv 3) (ev_tup el_nil)) el_nil))))) ?_ (by repeat first | exact nf_bad | exact nf_raise | exact nf_ret (fun _ => rfl) | refine nf_bind (fun _ => ?_) | refine nf_ite ?_ ?_) ?_
        · exact sv_ret (inj := Lp.ret) (fun _ => rfl) ev_bl
        · exact sv_nil rfl (wk (wk (wk (wk (wk (wj (wj (wj wn))))))))
      · change SV _ _ _ [.scr ns, .val z6, .val v8, .val v12, .val v14, .junk, .junk, .junk] _ _ _
        exact sv_nil rfl (wk (wj (wk (wj (wj (wj (wj (wj wn))))))))
  · change SV _ _ _ [.scr ns, .junk, optS c5, .junk, .junk, .junk, .junk, .junk] _ _ _
    refine sv_opt 2 (c := c5) rfl (fun v95 => ?_)
    change SV _ _ _ [.scr ns, .junk, .val v95, .junk, .junk, .junk, .junk, .junk] _ _ _
    refine sv_forL (dec := dec1) (g := gName 7) (vs := [7]) (mk := (fun (c129 : Unit) => [.scr ns, .junk, .val v95, .junk, .junk, .junk, .junk, .junk])) (c0 := ()) (inj := id) C (ei_seq (ev_lst (el_cons ev_non (el_cons ev_int (el_cons ev_int (el_cons (ev_neg ev_int) (el_cons ev_bl (el_cons ev_bl (el_cons ev_str (el_cons (ev_tup (el_cons ev_int el_nil)) (el_cons (ev_lst (el_cons ev_int el_nil)) (el_cons ev_dict0 (el_cons (ev_op od_pow ev_int ev_int) (el_cons (vv 2) (el_cons (ev_propC C K_Net_needs ar1 (vv 2)) el_nil))))))))))))))) (pgn 7 C.nd) (fun _ => tg_name (by simp)) (wk (wj (wk (wj (wj (wj (wj (wj wn)))))))) (fun _ => rfl) (fun c129 z130 => ?_) (fun c129 => ?_)
    · change SV _ _ _ [.scr ns, .junk, .val v95, .junk, .junk, .junk, .junk, .val z130] _ _ _
      refine sv_ifR (eb_cmp (od_ne C.room) (ev_saidC8 C S_law_said LA (fun _ _ _ _ _ _ _ Cl => (ev_stC Cl K_Net_ring ar1 (el_cons (vv 7) el_nil)))) ev_str (nomark _)) ?_ (by repeat first | exact nf_bad | exact nf_raise | exact nf_ret (fun _ => rfl) | refine nf_bind (fun _ => ?_) | refine nf_ite ?_ ?_) ?_
      · exact sv_ret (inj := Lp.ret) (fun _ => rfl) ev_bl
      · exact sv_nil rfl (wk (wj (wk (wj (wj (wj (wj (wj wn))))))))
    · change SV _ _ _ [.scr ns, .junk, .val v95, .junk, .junk, .junk, .junk, .junk] _ _ _
      exact sv_ret (inj := id) (fun _ => rfl) ev_bl
end
section
variable {P : Program} {w : World} {K : PySem.W.Frag} {mg : Str → Option Value} {base : Heap}
theorem end_law {f : Addr} {fd : FuncData} (B : Bn mg) (c_MOST_COMPONENTS : ∃ t, mg "MOST_COMPONENTS" = some (.int 8 t)) (A_reach_of : FunAt K mg "reach_of" s_reach_of) (A_all_reaches : FunAt K mg "all_reaches" s_all_reaches) (A_do_meet : FunAt K mg "do_meet" s_do_meet) (A_alarms_of : FunAt K mg "alarms_of" s_alarms_of) (A_is_between : FunAt K mg "is_between" s_is_between) (A_is_rising : FunAt K mg "is_rising" s_is_rising) (A_need_set : FunAt K mg "need_set" s_need_set) (A_Net_call : MethF K cNet "__call__" "Net.__call__" s_Net_call) (A_need_component : FunAt K mg "need_component" s_need_component) (A_Net_getitem : MethF K cNet "__getitem__" "Net.__getitem__" s_Net_getitem) (A_Net_needs : PropF K cNet "needs" "Net.needs" s_Net_needs) (A_is_net : FunAt K mg "is_net" s_is_net) (A_Net_ring : StatF K mg "Net" cNet "ring" "Net.ring" s_Net_ring) (A_rings_of : FunAt K mg "rings_of" s_rings_of) (A_Net_rings : PropF K cNet "rings" "Net.rings" s_Net_rings) (A_law_cell : FunAt K mg "_law_cell" s_law_cell) (A_law_due : FunAt K mg "_law_due" s_law_due) (A_law_is_same : FunAt K mg "_law_is_same" s_law_is_same) (A_law_draws : FunAt K mg "_law_draws" s_law_draws) (A_law_set : FunAt K mg "_law_set" s_law_set) (E_ComponentError : ErrC K mg "ComponentError") (E_NetError : ErrC K mg "NetError") (E_NumberError : ErrC K mg "NumberError") (E_SetError : ErrC K mg "SetError") (NA_Net_own_needs : NoAttr K cNet "own_needs") (OC_Net : ObjC K cNet) (CA_Net : ClsAt K mg "Net" cNet "Net.__init__" s_Net_init []) {CA CL CU : Addr} (hA : mg "AlarmError" = some (.ref CA)) (hL : mg "LimitError" = some (.ref CL)) (hU : mg "Unexplained" = some (.ref CU)) (hEr : ∀ j y, errsL[j]? = some y → ∃ D, mg y = some (.ref D) ∧ ErrX K mg CA CL CU D j) (A_law_said : FunAt K mg "_law_said" s_law_said) (FU : Fun K "law" "law" s_law f fd) {c T : Addr} (l1 : fd.code = .ref c) (l2 : LamX.TabB base mg c T) (l3 : NeedT K T) (l4 : tauK K T = ("law" ++ ".<locals>.") ++ "<lambda>") : FnG P w K mg base 34 f fd ["_law_script"] (spS K mg 0 (fun ns => fn0 (f_law ns))) := by
  have S_law_said := c_said (P := P) (w := w) (base := base) B hA hL hU hEr A_law_said
  have K_reach_of := ok_reach_of (P := P) (w := w) (base := base) B A_reach_of
  have K_all_reaches := ok_all_reaches (P := P) (w := w) (base := base) B K_reach_of A_all_reaches
  have K_do_meet := ok_do_meet (P := P) (w := w) (base := base) B A_do_meet
  have K_alarms_of := ok_alarms_of (P := P) (w := w) (base := base) B K_all_reaches K_do_meet A_alarms_of
  have K_is_between := ok_is_between (P := P) (w := w) (base := base) B A_is_between
  have K_is_rising := ok_is_rising (P := P) (w := w) (base := base) B K_is_between A_is_rising
  have K_need_set := ok_need_set (P := P) (w := w) (base := base) B E_SetError K_is_rising A_need_set
  have K_Net_call := ok_Net_call (P := P) (w := w) (base := base) B NA_Net_own_needs K_alarms_of K_need_set A_Net_call
  have K_need_component := ok_need_component (P := P) (w := w) (base := base) B E_ComponentError K_is_between A_need_component
  have K_Net_getitem := ok_Net_getitem (P := P) (w := w) (base := base) B NA_Net_own_needs K_need_component K_reach_of A_Net_getitem
  have K_Net_needs := ok_Net_needs (P := P) (w := w) (base := base) B NA_Net_own_needs A_Net_needs
  have K_is_net := ok_is_net (P := P) (w := w) (base := base) B c_MOST_COMPONENTS K_is_rising A_is_net
  have K_Net_init := ok_Net_init (P := P) (w := w) (base := base) B E_NetError NA_Net_own_needs OC_Net K_is_net CA_Net
  have K_Net_ring := ok_Net_ring (P := P) (w := w) (base := base) B c_MOST_COMPONENTS E_NumberError K_Net_init K_is_between A_Net_ring
  have K_rings_of := ok_rings_of (P := P) (w := w) (base := base) B K_all_reaches A_rings_of
  have K_Net_rings := ok_Net_rings (P := P) (w := w) (base := base) B NA_Net_own_needs K_rings_of A_Net_rings
  have K_law_cell := ok_law_cell (P := P) (w := w) (base := base) B A_law_cell
  have K_law_due := ok_law_due (P := P) (w := w) (base := base) B A_law_due
  have K_law_is_same_0 := ok_law_is_same_0 (P := P) (w := w) (base := base) A_law_is_same
  have K_law_is_same_1 := ok_law_is_same_1 (P := P) (w := w) (base := base) B K_law_is_same_0 A_law_is_same
  have K_law_is_same_2 := ok_law_is_same_2 (P := P) (w := w) (base := base) B K_law_is_same_1 A_law_is_same
  have K_law_is_same_3 := ok_law_is_same_3 (P := P) (w := w) (base := base) B K_law_is_same_2 A_law_is_same
  have K_law_is_same_4 := ok_law_is_same_4 (P := P) (w := w) (base := base) B K_law_is_same_3 A_law_is_same
  have K_law_is_same := ok_law_is_same_5 (P := P) (w := w) (base := base) B K_law_is_same_4 A_law_is_same
  have K_law_draws := ok_law_draws (P := P) (w := w) (base := base) B A_law_draws
  have K_law_set := ok_law_set (P := P) (w := w) (base := base) B K_law_draws A_law_set
  exact ok_law B S_law_said K_Net_call K_Net_getitem K_Net_needs K_Net_ring K_Net_rings K_law_cell K_law_due K_law_is_same K_law_set FU l1 l2 l3 l4
end
end Lw

end

open PySem PySem.W PyProof.Rows
theorem EV.x_na {K : Frag} {h : Heap} {C : Addr} {x : Str} (_ : K.In h) (r : findIn K (.ref C) x = some none) : L2.NoAttr K C x := r
theorem EV.x_oc {K : Frag} {h : Heap} {C : Addr} (_ : K.In h) (h1 : plainGet K C Str.empty = true) (h2 : hasDictIn K C = true) (h3 : plainOver K C = true) (h4 : findIn K (.ref C) "__setattr__" = some (some (.builtin "object.__setattr__"))) (h5 : findIn K (.ref C) "__class__" = some (some (.builtin "object.__class__"))) (h6 : specialIn K (.builtin "object.__class__") "__get__" = some (some (.builtin "getset_descriptor.__get__"))) (h7 : takesIn K (.builtin "object.__class__") = some true) (h8 : mroIn K C (.type "object") = some true) (h9 : EV.btB K C = true) : EV.ObjC K C := EV.objC_mk h1 h2 h3 h4 h5 h6 h7 h8 h9
def EV.kOf {K : Frag} {h : Heap} (_ : K.In h) : Frag := K
theorem EV.fun_uniq {K : Frag} {x q q2 : Str} {st : Stmt} {f : Addr} {fd fd2 : FuncData} (F : L2.Fun K x q st f fd) (F2 : L2.Fun K x q2 st f fd2) : fd2 = fd := by
  obtain ⟨_, _, _, _, _, _, _, _, _, _, lk, _⟩ := F.ex
  obtain ⟨_, _, _, _, _, _, _, _, _, _, lk2, _⟩ := F2.ex
  rw [lk] at lk2
  injection lk2 with z
  injection z with _ _ z _
  injection z with z
  exact z.symm
set_option maxHeartbeats 0 in
theorem PySem.Challenge.cw_rootalarms_k52_nets_in_a_ring_holds : PySem.Challenge.rw_rootalarms_k52_nets_in_a_ring.Holds := by
  w_on; o_law; k_head; (case hw => w_witness2)
  k_fill
  refine EV.law_end (l := PySem.Challenge.rw_rootalarms_k52_nets_in_a_ring) (n := 63) (k := 34) (x := "_law_script") (F := fun ns => EV.fn0 (Lw.f_law ns)) [(405, 401)] rfl (by decide) rfl ⟨rfl, by decide, by decide⟩ (fun w h Y => PySem.W.km_in_of Y) (fun w h Y p hp => by
    refine PySem.W.km_tabs_of Y p.2 ?_
    simp only [List.mem_cons, List.not_mem_nil, or_false] at hp
    rcases hp with rfl <;> simp) (fun w h X => (List.forall_mem_cons.mpr ⟨PySem.W.codeHd_of_K (c := 405) (P := 401) X (by kernel_rfl), (fun _ h => nomatch h)⟩)) (fun w => (List.forall_mem_cons.mpr ⟨(by kernel_rfl), (fun _ h => nomatch h)⟩)) (fun w P n => EV.need_of (by kernel_rfl) P n) ?F Lw.law_true
  intro w mg fa h KX G hmg
  have B : EV.Bn mg := ⟨PySem.W.mg_none_of KX G (by k_is), PySem.W.mg_none_of KX G (by k_is), PySem.W.mg_none_of KX G (by k_is), PySem.W.mg_none_of KX G (by k_is), PySem.W.mg_none_of KX G (by k_is), PySem.W.mg_none_of KX G (by k_is), PySem.W.mg_none_of KX G (by k_is), PySem.W.mg_none_of KX G (by k_is), PySem.W.mg_none_of KX G (by k_is), PySem.W.mg_none_of KX G (by k_is), PySem.W.mg_none_of KX G (by k_is), PySem.W.mg_none_of KX G (by k_is), PySem.W.mg_none_of KX G (by k_is), PySem.W.mg_none_of KX G (by k_is), PySem.W.mg_none_of KX G (by k_is), PySem.W.mg_none_of KX G (by k_is), PySem.W.mg_none_of KX G (by k_is), PySem.W.mg_none_of KX G (by k_is)⟩
  have c_MOST_COMPONENTS : ∃ t, mg "MOST_COMPONENTS" = some (.int 8 t) := by
    refine' EV.cstI KX G ?a
    case a => k_is
  have A_reach_of : EV.FunAt _ mg "reach_of" Lw.s_reach_of := EV.DefF.at KX G (by refine' EV.defF ?a ?l ?c ?k; (case a => k_is); (case l => k_is); (case c => k_is); (case k => k_is))
  have A_all_reaches : EV.FunAt _ mg "all_reaches" Lw.s_all_reaches := EV.DefF.at KX G (by refine' EV.defF ?a ?l ?c ?k; (case a => k_is); (case l => k_is); (case c => k_is); (case k => k_is))
  have A_do_meet : EV.FunAt _ mg "do_meet" Lw.s_do_meet := EV.DefF.at KX G (by refine' EV.defF ?a ?l ?c ?k; (case a => k_is); (case l => k_is); (case c => k_is); (case k => k_is))
  have A_alarms_of : EV.FunAt _ mg "alarms_of" Lw.s_alarms_of := EV.DefF.at KX G (by refine' EV.defF ?a ?l ?c ?k; (case a => k_is); (case l => k_is); (case c => k_is); (case k => k_is))
  have A_is_between : EV.FunAt _ mg "is_between" Lw.s_is_between := EV.DefF.at KX G (by refine' EV.defF ?a ?l ?c ?k; (case a => k_is); (case l => k_is); (case c => k_is); (case k => k_is))
  have A_is_rising : EV.FunAt _ mg "is_rising" Lw.s_is_rising := EV.DefF.at KX G (by refine' EV.defF ?a ?l ?c ?k; (case a => k_is); (case l => k_is); (case c => k_is); (case k => k_is))
  have A_need_set : EV.FunAt _ mg "need_set" Lw.s_need_set := EV.DefF.at KX G (by refine' EV.defF ?a ?l ?c ?k; (case a => k_is); (case l => k_is); (case c => k_is); (case k => k_is))
  have A_Net_call : EV.MethF (EV.kOf KX) EV.cNet "__call__" "Net.__call__" Lw.s_Net_call := by
    delta EV.kOf
    refine' EV.methF KX ?a ?m3 ?l ?c ?k ?fi; (case a => k_is); (case m3 => k_is); (case l => k_is); (case c => k_is); (case k => k_is); (case fi => k_is)
  have A_need_component : EV.FunAt _ mg "need_component" Lw.s_need_component := EV.DefF.at KX G (by refine' EV.defF ?a ?l ?c ?k; (case a => k_is); (case l => k_is); (case c => k_is); (case k => k_is))
  have A_Net_getitem : EV.MethF (EV.kOf KX) EV.cNet "__getitem__" "Net.__getitem__" Lw.s_Net_getitem := by
    delta EV.kOf
    refine' EV.methF KX ?a ?m3 ?l ?c ?k ?fi; (case a => k_is); (case m3 => k_is); (case l => k_is); (case c => k_is); (case k => k_is); (case fi => k_is)
  have A_Net_needs : EV.PropF (EV.kOf KX) EV.cNet "needs" "Net.needs" Lw.s_Net_needs := by
    delta EV.kOf
    refine' EV.propF KX ?a1 ?a2 ?a3 ?a4 ?l ?c ?k; (case a1 => k_is); (case a2 => k_is); (case a3 => k_is); (case a4 => k_is); (case l => k_is); (case c => k_is); (case k => k_is)
  have A_is_net : EV.FunAt _ mg "is_net" Lw.s_is_net := EV.DefF.at KX G (by refine' EV.defF ?a ?l ?c ?k; (case a => k_is); (case l => k_is); (case c => k_is); (case k => k_is))
  have A_Net_ring : EV.StatF (EV.kOf KX) mg "Net" EV.cNet "ring" "Net.ring" Lw.s_Net_ring := by
    delta EV.kOf
    refine' EV.statF KX G ?a0 ?a1 ?r1 ?r2 ?a2 ?a3 ?l ?c ?k ?a4 ?a5 ?a6 ?a7 ?a8 ?a9; (case a0 => k_is); (case a1 => k_is); (case r1 => k_is); (case r2 => k_is); (case a2 => k_is); (case a3 => k_is); (case l => k_is); (case c => k_is); (case k => k_is); (case a4 => k_is); (case a5 => k_is); (case a6 => k_is); (case a7 => decide +kernel); (case a8 => k_is); (case a9 => k_is)
  have A_rings_of : EV.FunAt _ mg "rings_of" Lw.s_rings_of := EV.DefF.at KX G (by refine' EV.defF ?a ?l ?c ?k; (case a => k_is); (case l => k_is); (case c => k_is); (case k => k_is))
  have A_Net_rings : EV.PropF (EV.kOf KX) EV.cNet "rings" "Net.rings" Lw.s_Net_rings := by
    delta EV.kOf
    refine' EV.propF KX ?a1 ?a2 ?a3 ?a4 ?l ?c ?k; (case a1 => k_is); (case a2 => k_is); (case a3 => k_is); (case a4 => k_is); (case l => k_is); (case c => k_is); (case k => k_is)
  have A_law_cell : EV.FunAt _ mg "_law_cell" Lw.s_law_cell := EV.DefF.at KX G (by refine' EV.defF ?a ?l ?c ?k; (case a => k_is); (case l => k_is); (case c => k_is); (case k => k_is))
  have A_law_due : EV.FunAt _ mg "_law_due" Lw.s_law_due := EV.DefF.at KX G (by refine' EV.defF ?a ?l ?c ?k; (case a => k_is); (case l => k_is); (case c => k_is); (case k => k_is))
  have A_law_is_same : EV.FunAt _ mg "_law_is_same" Lw.s_law_is_same := EV.DefF.at KX G (by refine' EV.defF ?a ?l ?c ?k; (case a => k_is); (case l => k_is); (case c => k_is); (case k => k_is))
  have A_law_draws : EV.FunAt _ mg "_law_draws" Lw.s_law_draws := EV.DefF.at KX G (by refine' EV.defF ?a ?l ?c ?k; (case a => k_is); (case l => k_is); (case c => k_is); (case k => k_is))
  have A_law_set : EV.FunAt _ mg "_law_set" Lw.s_law_set := EV.DefF.at KX G (by refine' EV.defF ?a ?l ?c ?k; (case a => k_is); (case l => k_is); (case c => k_is); (case k => k_is))
  have A_law : EV.FunAt _ mg "law" Lw.s_law := EV.DefF.at KX G (by refine' EV.defF ?a ?l ?c ?k; (case a => k_is); (case l => k_is); (case c => k_is); (case k => k_is))
  have A_law_said : EV.FunAt _ mg "_law_said" Lw.s_law_said := EV.DefF.at KX G (by refine' EV.defF ?a ?l ?c ?k; (case a => k_is); (case l => k_is); (case c => k_is); (case k => k_is))
  have hV : mg "ValueError" = none := PySem.W.mg_none_of KX G (by k_is)
  have hA : mg "AlarmError" = some (.ref 24) := PySem.W.mg_of KX G (by k_is)
  have hE0 : ∀ j y, EV.errsL[j]? = some y → ∃ D, mg y = some (.ref D) ∧ EV.ErrJ _ mg 24 D j := EV.errs_of (Ds := [37, 49, 61, 73, 85, 97, 109, 121, 142, 163]) KX G rfl (by kernel_rfl) (by kernel_rfl) (by kernel_rfl)
  have hL : mg "LimitError" = some (.ref 163) := PySem.W.mg_of KX G (by k_is)
  have hU : mg "Unexplained" = some (.ref 142) := PySem.W.mg_of KX G (by k_is)
  have hEr := EV.errs8_of (CL := 163) (CU := 142) (Ds := [37, 49, 61, 73, 85, 97, 109, 121, 142, 163]) hE0 KX G (by kernel_rfl) (by kernel_rfl)
  have E_ComponentError : EV.ErrC _ mg "ComponentError" := EV.errC_of (C := 49) KX G (by k_is) (by kernel_rfl)
  have E_NetError : EV.ErrC _ mg "NetError" := EV.errC_of (C := 37) KX G (by k_is) (by kernel_rfl)
  have E_NumberError : EV.ErrC _ mg "NumberError" := EV.errC_of (C := 97) KX G (by k_is) (by kernel_rfl)
  have E_SetError : EV.ErrC _ mg "SetError" := EV.errC_of (C := 61) KX G (by k_is) (by kernel_rfl)
  have NA_Net_own_needs := EV.x_na (C := EV.cNet) (x := "own_needs") KX (by kernel_rfl)
  have OC_Net := EV.x_oc (C := EV.cNet) KX (by kernel_rfl) (by kernel_rfl) (by kernel_rfl) (by kernel_rfl) (by kernel_rfl) (by kernel_rfl) (by kernel_rfl) (by kernel_rfl) (by kernel_rfl)
  have CA_Net : EV.ClsAt (EV.kOf KX) mg "Net" EV.cNet "Net.__init__" Lw.s_Net_init [] := by
    delta EV.kOf
    refine' EV.clsAt0 (Cl := 359) KX G ?a OC_Net ?m1 ?m2 ?m3 ?m4 ?l ?c ?k; (case a => k_is); (case m1 => k_is); (case m2 => k_is); (case m3 => k_is); (case m4 => k_is); (case l => k_is); (case c => k_is); (case k => k_is)
  obtain ⟨f, fd, FU, hm⟩ := A_law.ex
  have ef := hmg.symm.trans hm
  cases ef
  have bb := FU.binds (ps := ["_law_script"]) (fun _ _ _ _ _ _ us hl => match us, hl with | [_], _ => rfl)
  refine ⟨fd, fun s u => ?_, fun base hK hns hTB => ?_⟩
  · obtain ⟨_, _, _, _, _, _, _, _, _, rfl, _, _⟩ := FU.ex
    exact .of_eq rfl
  · have A_law : EV.FunL (EV.kOf KX) mg base "law" Lw.s_law := by
      delta EV.kOf
      refine' EV.funL (T := 401) KX G (hTB (405, 401) (by decide)) ?a ?l ?c ?k ?lb ?u ?m; (case a => k_is); (case l => k_is); (case c => k_is); (case k => k_is); (case lb => kernel_rfl); (case u => kernel_rfl); (case m => decide +kernel)
    obtain ⟨f3, fd3, c3, T3, FU3, hm3, l1, l2, l3, l4⟩ := A_law.ex
    have ef3 := hm.symm.trans hm3
    cases ef3
    have e3 := EV.fun_uniq FU FU3
    subst e3
    exact Lw.end_law B c_MOST_COMPONENTS A_reach_of A_all_reaches A_do_meet A_alarms_of A_is_between A_is_rising A_need_set A_Net_call A_need_component A_Net_getitem A_Net_needs A_is_net A_Net_ring A_rings_of A_Net_rings A_law_cell A_law_due A_law_is_same A_law_draws A_law_set E_ComponentError E_NetError E_NumberError E_SetError NA_Net_own_needs OC_Net CA_Net hA hL hU hEr A_law_said FU l1 l2 l3 l4

