import PyProof.Rows.All
import Wide.All
import OpenK.AllK
import Wide.FinOn
import HandS.ForMost
import HandS.ForExc
import HandS.CallSlots
import HandS.Deep
import HandS.TupAny
import HandS.IsInst
import HandS.SortInts
import HandS.Zip
import KE.DatumIndex
import KE.GoesEnum
import HandS.Style
import HandS.Set
import HandS.SetFor
import HandS.Strs
import HandS.Conv
import KE.SortData
import HandS.Star
import KE.DataFind
import KE.DataMinMax
import PyProof.ReprBulk
import PySem.Challenge.RW_rootalarms_k35_halves_counted
set_option Elab.async false
set_option linter.all false
set_option maxRecDepth 100000
/-! EV: a layer over HandS: expressions and statements read as small functions over data trees. -/
namespace EV
open PySem PySem.Spec PyProof.Rows L2

/-- data trees -/
inductive D where
  | non | bl (b : Bool) | int (i : Int) | str (x : Str)
  | tup (xs : List D) | lst (xs : List D)
  | dct (kvs : List (D × D)) | obj (c : Str) (fs : List (Str × D))

structure Ex where
  name : Str
  fs : List (Str × D)

/-- results, with the state of the pen -/
inductive R (α : Type) where
  | ok (a : α) (s : List Int) | exc (e : Ex) | bad

def PM (α : Type) : Type := List Int → R α
def PM.pure {α : Type} (a : α) : PM α := fun s => .ok a s
def PM.bind {α β : Type} (m : PM α) (f : α → PM β) : PM β := fun s => match m s with
  | .ok a s1 => f a s1
  | .exc e => .exc e
  | .bad => .bad
instance : Monad PM where
  pure := PM.pure
  bind := PM.bind
theorem PM.pure_def {α : Type} (a : α) : (Pure.pure a : PM α) = fun s => .ok a s := rfl
theorem PM.bind_def {α β : Type} (m : PM α) (f : α → PM β) (s : List Int) : (m >>= f) s = match m s with
  | .ok a s1 => f a s1
  | .exc e => .exc e
  | .bad => .bad := rfl
instance : LawfulMonad PM := LawfulMonad.mk'
  (id_map := fun x => by
    funext s
    show PM.bind x (fun a => PM.pure a) s = x s
    unfold PM.bind PM.pure
    cases x s <;> rfl)
  (pure_bind := fun _ _ => rfl)
  (bind_assoc := fun x f g => by
    funext s
    show PM.bind (PM.bind x f) g s = PM.bind x (fun a => PM.bind (f a) g) s
    unfold PM.bind
    cases x s <;> rfl)
  (bind_pure_comp := fun _ _ => rfl)
def bad {α : Type} : PM α := fun _ => .bad
def raiseP {α : Type} (e : Ex) : PM α := fun _ => .exc e
theorem bad_bind {α β : Type} (f : α → PM β) : (bad >>= f) = bad := rfl
/-- a def without the pen -/
def run0 {α : Type} (m : PM α) : PM α := fun s => match m [] with
  | .ok a _ => .ok a s
  | .exc e => .exc e
  | .bad => .bad
theorem run0_pure {α : Type} (a : α) : run0 (Pure.pure a) = Pure.pure a := rfl

/-! ### a value reads as a tree -/
inductive Rp (K : PySem.W.Frag) (G : Hp) : V → D → Prop
  | non : Rp K G .non .non
  | bl (b : Bool) : Rp K G (.bl b) (.bl b)
  | int (i : Int) : Rp K G (.int i) (.int i)
  | str (x : Str) : Rp K G (.str x) (.str x)
  | lst {a : Addr} {xs : List V} {ds : List D} (h : G a = some (.lst xs)) (n : xs.length = ds.length) (r : ∀ (i : Nat) v d, xs[i]? = some v → ds[i]? = some d → Rp K G v d) : Rp K G (.ref a) (.lst ds)
  | tup {a : Addr} {xs : List V} {ds : List D} (h : SqT K G a xs) (n : xs.length = ds.length) (r : ∀ (i : Nat) v d, xs[i]? = some v → ds[i]? = some d → Rp K G v d) : Rp K G (.ref a) (.tup ds)
/-- lists of them -/
def RpL (K : PySem.W.Frag) (G : Hp) (vs : List V) (ds : List D) : Prop := vs.length = ds.length ∧ ∀ (i : Nat) v d, vs[i]? = some v → ds[i]? = some d → Rp K G v d

section
variable {K : PySem.W.Frag} {G G' : Hp}
theorem sameT {a : Addr} {xs : List V} (e : Same G G') (h : SqT K G a xs) : SqT K G' a xs := by
  rcases h with (h | ⟨o, h⟩) | h
  · exact .inl (.inl (e _ _ h))
  · exact .inl (.inr ⟨o, e _ _ h⟩)
  · exact .inr h
theorem Rp.mono (e : Same G G') {v : V} {d : D} (h : Rp K G v d) : Rp K G' v d := by
  induction h with
  | non => exact .non
  | bl b => exact .bl b
  | int i => exact .int i
  | str x => exact .str x
  | lst h n _ ih => exact .lst (e _ _ h) n ih
  | tup h n _ ih => exact .tup (sameT e h) n ih
theorem RpL.mono (e : Same G G') {vs : List V} {ds : List D} (h : RpL K G vs ds) : RpL K G' vs ds := ⟨h.1, fun i v d h1 h2 => (h.2 i v d h1 h2).mono e⟩
theorem RpL.nil : RpL K G [] [] := ⟨rfl, fun i v d h _ => by simp at h⟩
theorem RpL.cons {v : V} {vs : List V} {d : D} {ds : List D} (h : Rp K G v d) (t : RpL K G vs ds) : RpL K G (v :: vs) (d :: ds) := by
  refine ⟨by simp [t.1], fun i w e h1 h2 => ?_⟩
  cases i with
  | zero => simp at h1 h2; subst h1; subst h2; exact h
  | succ i => exact t.2 i w e (by simpa using h1) (by simpa using h2)
theorem RpL.tail {v : V} {vs : List V} {d : D} {ds : List D} (h : RpL K G (v :: vs) (d :: ds)) : Rp K G v d ∧ RpL K G vs ds :=
  ⟨h.2 0 v d rfl rfl, by simpa using h.1, fun i w e h1 h2 => h.2 (i + 1) w e (by simpa using h1) (by simpa using h2)⟩
theorem RpL.app {vs ws : List V} {ds es : List D} (h : RpL K G vs ds) (t : RpL K G ws es) : RpL K G (vs ++ ws) (ds ++ es) := by
  refine ⟨by simp [h.1, t.1], fun i w e h1 h2 => ?_⟩
  by_cases hi : i < vs.length
  · rw [List.getElem?_append_left hi] at h1
    rw [List.getElem?_append_left (by rw [← h.1]; exact hi)] at h2
    exact h.2 i w e h1 h2
  · rw [List.getElem?_append_right (by omega)] at h1
    rw [List.getElem?_append_right (by rw [← h.1]; omega)] at h2
    exact t.2 (i - vs.length) w e h1 (by rw [h.1]; exact h2)
theorem RpL.get {vs : List V} {ds : List D} (h : RpL K G vs ds) {i : Nat} {d : D} (e : ds[i]? = some d) : ∃ v, vs[i]? = some v ∧ Rp K G v d := by
  have hi : i < vs.length := by
    rw [h.1]
    exact (List.getElem?_eq_some_iff.mp e).1
  exact ⟨vs[i], List.getElem?_eq_getElem hi, h.2 i _ d (List.getElem?_eq_getElem hi) e⟩
theorem RpL.getV {vs : List V} {ds : List D} (h : RpL K G vs ds) {i : Nat} {v : V} (e : vs[i]? = some v) : ∃ d, ds[i]? = some d ∧ Rp K G v d := by
  have hi : i < ds.length := by
    rw [← h.1]
    exact (List.getElem?_eq_some_iff.mp e).1
  exact ⟨ds[i], List.getElem?_eq_getElem hi, h.2 i v _ e (List.getElem?_eq_getElem hi)⟩
theorem RpL.take {vs : List V} {ds : List D} (h : RpL K G vs ds) (n : Nat) : RpL K G (vs.take n) (ds.take n) := by
  refine ⟨by simp [h.1], fun i v d h1 h2 => ?_⟩
  by_cases hi : i < n
  · rw [List.getElem?_take_of_lt hi] at h1 h2
    exact h.2 i v d h1 h2
  · rw [List.getElem?_take, if_neg hi] at h1
    cases h1
theorem RpL.drop {vs : List V} {ds : List D} (h : RpL K G vs ds) (n : Nat) : RpL K G (vs.drop n) (ds.drop n) := by
  refine ⟨by simp [h.1], fun i v d h1 h2 => ?_⟩
  rw [List.getElem?_drop] at h1 h2
  exact h.2 _ v d h1 h2
theorem RpL.map_of {α : Type} {f : α → V} {g : α → D} : ∀ (xs : List α), (∀ x ∈ xs, Rp K G (f x) (g x)) → RpL K G (xs.map f) (xs.map g)
  | [], _ => .nil
  | x :: xs, h => .cons (h x List.mem_cons_self) (RpL.map_of xs fun y hy => h y (List.mem_cons_of_mem _ hy))
theorem Rp.lstE {v : V} {ds : List D} (h : Rp K G v (.lst ds)) : ∃ a xs, v = .ref a ∧ G a = some (.lst xs) ∧ RpL K G xs ds := by
  cases h with
  | lst h n r => exact ⟨_, _, rfl, h, n, r⟩
theorem Rp.tupE {v : V} {ds : List D} (h : Rp K G v (.tup ds)) : ∃ a xs, v = .ref a ∧ SqT K G a xs ∧ RpL K G xs ds := by
  cases h with
  | tup h n r => exact ⟨_, _, rfl, h, n, r⟩
theorem Rp.mkL {a : Addr} {xs : List V} {ds : List D} (h : G a = some (.lst xs)) (r : RpL K G xs ds) : Rp K G (.ref a) (.lst ds) := .lst h r.1 r.2
theorem Rp.mkT {a : Addr} {xs : List V} {ds : List D} (h : SqT K G a xs) (r : RpL K G xs ds) : Rp K G (.ref a) (.tup ds) := .tup h r.1 r.2
end

/-! ### heaps -/
structure Ext (pa : Option Addr) (G H G' H' : Hp) : Prop where
  g : Same G G'
  h : ∀ a o, H a = some o → pa ≠ some a → H' a = some o
  t : ∀ a o, H a = some o → ∃ o', H' a = some o'
  n : ∀ a o, H a = some o → G a = none → G' a = none
  sub : Same G' H'
section
variable {pa : Option Addr} {G H G1 H1 G2 H2 : Hp}
theorem Ext.refl (h : Same G H) : Ext pa G H G H := ⟨Same.refl G, fun _ _ e _ => e, fun _ o e => ⟨o, e⟩, fun _ _ _ e => e, h⟩
theorem Ext.trans (a : Ext pa G H G1 H1) (b : Ext pa G1 H1 G2 H2) : Ext pa G H G2 H2 :=
  ⟨a.g.trans b.g, fun c o e n => b.h c o (a.h c o e n) n, fun c o e => by
    obtain ⟨o', e'⟩ := a.t c o e
    exact b.t c o' e', fun c o e n => by
    obtain ⟨o', e'⟩ := a.t c o e
    exact b.n c o' e' (a.n c o e n), b.sub⟩
/-- a new object is laid, and public -/
theorem Ext.new (hs : Same G H) {p : Addr} (hp : H p = none) (o : HO) : Ext pa G H (upd G p o) (upd H p o) := by
  have hg : G p = none := hs.free hp
  refine ⟨fun b x e => ?_, fun a x e _ => ?_, fun a x e => ⟨x, ?_⟩, fun a x e n => ?_, fun b x e => ?_⟩
  · rw [upd_ne (ne_of_none e hg)]; exact e
  · rw [upd_ne (ne_of_none e hp)]; exact e
  · rw [upd_ne (ne_of_none e hp)]; exact e
  · rw [upd_ne (ne_of_none e hp)]; exact n
  · by_cases hb : b = p
    · subst hb
      rw [upd_same] at e ⊢
      exact e
    · rw [upd_ne hb] at e ⊢
      exact hs _ _ e
/-- a new object is laid, not public -/
theorem Ext.newH (hs : Same G H) {p : Addr} (hp : H p = none) (o : HO) : Ext pa G H G (upd H p o) := by
  refine ⟨Same.refl G, fun a x e _ => ?_, fun a x e => ⟨x, ?_⟩, fun _ _ _ n => n, fun b x e => ?_⟩
  · rw [upd_ne (ne_of_none e hp)]; exact e
  · rw [upd_ne (ne_of_none e hp)]; exact e
  · have e' := hs _ _ e
    rw [upd_ne (ne_of_none e' hp)]; exact e'
end

def PenOk (pa : Option Addr) (G H : Hp) (s : List Int) : Prop := ∀ p, pa = some p → G p = none ∧ H p = some (.lst (s.map V.int))
theorem PenOk.none {G H : Hp} {s : List Int} : PenOk none G H s := fun p e => by cases e
theorem PenOk.upd {pa : Option Addr} {G H : Hp} {s : List Int} (h : PenOk pa G H s) {p : Addr} (hp : H p = Option.none) (o : HO) : PenOk pa (upd G p o) (upd H p o) s := fun q e => by
  obtain ⟨h1, h2⟩ := h q e
  have ne : q ≠ p := ne_of_none h2 hp
  rw [upd_ne ne, upd_ne ne]
  exact ⟨h1, h2⟩
theorem PenOk.updH {pa : Option Addr} {G H : Hp} {s : List Int} (h : PenOk pa G H s) {p : Addr} (hp : H p = Option.none) (o : HO) : PenOk pa G (L2.upd H p o) s := fun q e => by
  obtain ⟨h1, h2⟩ := h q e
  rw [upd_ne (ne_of_none h2 hp)]
  exact ⟨h1, h2⟩

/-- what is known of a slot -/
inductive Sl where
  | junk | val (d : D) | own (xs : List D) | pen | scr (ns : List Int)

structure Nv (K : PySem.W.Frag) (pa : Option Addr) (G0 H0 G H : Hp) (σ : L2.St) (Γ : List Sl) (s : List Int) : Prop where
  len : Γ.length = σ.length
  val : ∀ (i : Nat) d, Γ[i]? = some (.val d) → ∃ v, σ[i]? = some (some v) ∧ Rp K G v d
  own : ∀ (i : Nat) xs, Γ[i]? = some (.own xs) → ∃ p vs, σ[i]? = some (some (.ref p)) ∧ H p = some (.lst vs) ∧ G p = none ∧ RpL K G vs xs ∧ H0 p = none ∧ pa ≠ some p
  inj : ∀ (i j : Nat) p xs ys, Γ[i]? = some (.own xs) → Γ[j]? = some (.own ys) → σ[i]? = some (some (.ref p)) → σ[j]? = some (some (.ref p)) → i = j
  pen : ∀ (i : Nat), Γ[i]? = some .pen → ∃ p, pa = some p ∧ σ[i]? = some (some (.ref p))
  scr : ∀ (i : Nat) ns, Γ[i]? = some (.scr ns) → ∃ a, σ[i]? = some (some (.ref a)) ∧ SqL K G a (ns.map V.int)
  ps : PenOk pa G H s
  ext : Ext pa G0 H0 G H

section
variable {K : PySem.W.Frag} {pa : Option Addr} {G0 H0 G H G' H' : Hp} {σ : L2.St} {Γ : List Sl} {s s' : List Int}
theorem Nv.step (E : Nv K pa G0 H0 G H σ Γ s) (x : Ext pa G H G' H') (p : PenOk pa G' H' s') : Nv K pa G0 H0 G' H' σ Γ s' where
  len := E.len
  val := fun i d e => by
    obtain ⟨v, h1, h2⟩ := E.val i d e
    exact ⟨v, h1, h2.mono x.g⟩
  own := fun i xs e => by
    obtain ⟨p, vs, h1, h2, h3, h4, h5, h6⟩ := E.own i xs e
    exact ⟨p, vs, h1, x.h _ _ h2 h6, x.n _ _ h2 h3, h4.mono x.g, h5, h6⟩
  inj := E.inj
  pen := E.pen
  scr := fun i ns e => by
    obtain ⟨a, h1, h2⟩ := E.scr i ns e
    exact ⟨a, h1, x.g.seq h2⟩
  ps := p
  ext := E.ext.trans x
theorem Nv.sub (E : Nv K pa G0 H0 G H σ Γ s) : Same G H := E.ext.sub
/-- a slot holds a value -/
theorem Nv.set (E : Nv K pa G0 H0 G H σ Γ s) {v : V} {d : D} (i : Nat) (r : Rp K G v d) : Nv K pa G0 H0 G H (σ.set i (some v)) (Γ.set i (.val d)) s where
  len := by simp [E.len]
  val := fun j d' e => by
    by_cases hj : i = j
    · subst hj
      have hi : i < Γ.length := by
        have := (List.getElem?_eq_some_iff.mp e).1
        simpa using this
      rw [List.getElem?_set_self hi] at e
      cases e
      exact ⟨v, List.getElem?_set_self (by rw [← E.len]; exact hi), r⟩
    · rw [List.getElem?_set_ne hj] at e
      rw [List.getElem?_set_ne hj]
      exact E.val j d' e
  own := fun j xs e => by
    by_cases hj : i = j
    · subst hj
      have hi : i < Γ.length := by
        have := (List.getElem?_eq_some_iff.mp e).1
        simpa using this
      rw [List.getElem?_set_self hi] at e
      cases e
    · rw [List.getElem?_set_ne hj] at e
      rw [List.getElem?_set_ne hj]
      exact E.own j xs e
  inj := fun j k p xs ys e1 e2 => by
    by_cases hj : i = j
    · subst hj
      have hi : i < Γ.length := by
        have := (List.getElem?_eq_some_iff.mp e1).1
        simpa using this
      rw [List.getElem?_set_self hi] at e1
      cases e1
    · by_cases hk : i = k
      · subst hk
        have hi : i < Γ.length := by
          have := (List.getElem?_eq_some_iff.mp e2).1
          simpa using this
        rw [List.getElem?_set_self hi] at e2
        cases e2
      · rw [List.getElem?_set_ne hj] at e1
        rw [List.getElem?_set_ne hk] at e2
        rw [List.getElem?_set_ne hj, List.getElem?_set_ne hk]
        exact E.inj j k p xs ys e1 e2
  pen := fun j e => by
    by_cases hj : i = j
    · subst hj
      have hi : i < Γ.length := by
        have := (List.getElem?_eq_some_iff.mp e).1
        simpa using this
      rw [List.getElem?_set_self hi] at e
      cases e
    · rw [List.getElem?_set_ne hj] at e
      rw [List.getElem?_set_ne hj]
      exact E.pen j e
  scr := fun j ns e => by
    by_cases hj : i = j
    · subst hj
      have hi : i < Γ.length := by
        have := (List.getElem?_eq_some_iff.mp e).1
        simpa using this
      rw [List.getElem?_set_self hi] at e
      cases e
    · rw [List.getElem?_set_ne hj] at e
      rw [List.getElem?_set_ne hj]
      exact E.scr j ns e
  ps := E.ps
  ext := E.ext
/-- a slot holds a list of its own -/
theorem Nv.setOwn (E : Nv K pa G0 H0 G H σ Γ s) {p : Addr} {vs : List V} {xs : List D} (i : Nat) (hp : H p = some (.lst vs)) (hg : G p = none) (r : RpL K G vs xs) (h0 : H0 p = none) (hpa : pa ≠ some p)
    (hn : ∀ (j : Nat) ys, j ≠ i → Γ[j]? = some (.own ys) → σ[j]? ≠ some (some (.ref p))) : Nv K pa G0 H0 G H (σ.set i (some (.ref p))) (Γ.set i (.own xs)) s where
  len := by simp [E.len]
  val := fun j d' e => by
    by_cases hj : i = j
    · subst hj
      have hi : i < Γ.length := by
        have := (List.getElem?_eq_some_iff.mp e).1
        simpa using this
      rw [List.getElem?_set_self hi] at e
      cases e
    · rw [List.getElem?_set_ne hj] at e
      rw [List.getElem?_set_ne hj]
      exact E.val j d' e
  own := fun j xs' e => by
    by_cases hj : i = j
    · subst hj
      have hi : i < Γ.length := by
        have := (List.getElem?_eq_some_iff.mp e).1
        simpa using this
      rw [List.getElem?_set_self hi] at e
      cases e
      exact ⟨p, vs, List.getElem?_set_self (by rw [← E.len]; exact hi), hp, hg, r, h0, hpa⟩
    · rw [List.getElem?_set_ne hj] at e
      rw [List.getElem?_set_ne hj]
      exact E.own j xs' e
  inj := fun j k q ys zs e1 e2 e3 e4 => by
    by_cases hj : i = j
    · by_cases hk : i = k
      · exact hj.symm.trans hk
      · subst hj
        have hi : i < σ.length := by
          have := (List.getElem?_eq_some_iff.mp e3).1
          simpa using this
        rw [List.getElem?_set_self hi] at e3
        cases e3
        rw [List.getElem?_set_ne hk] at e2 e4
        exact absurd e4 (hn k zs (fun z => hk z.symm) e2)
    · by_cases hk : i = k
      · subst hk
        have hi : i < σ.length := by
          have := (List.getElem?_eq_some_iff.mp e4).1
          simpa using this
        rw [List.getElem?_set_self hi] at e4
        cases e4
        rw [List.getElem?_set_ne hj] at e1 e3
        exact absurd e3 (hn j ys (fun z => hj z.symm) e1)
      · rw [List.getElem?_set_ne hj] at e1 e3
        rw [List.getElem?_set_ne hk] at e2 e4
        exact E.inj j k q ys zs e1 e2 e3 e4
  pen := fun j e => by
    by_cases hj : i = j
    · subst hj
      have hi : i < Γ.length := by
        have := (List.getElem?_eq_some_iff.mp e).1
        simpa using this
      rw [List.getElem?_set_self hi] at e
      cases e
    · rw [List.getElem?_set_ne hj] at e
      rw [List.getElem?_set_ne hj]
      exact E.pen j e
  scr := fun j ns e => by
    by_cases hj : i = j
    · subst hj
      have hi : i < Γ.length := by
        have := (List.getElem?_eq_some_iff.mp e).1
        simpa using this
      rw [List.getElem?_set_self hi] at e
      cases e
    · rw [List.getElem?_set_ne hj] at e
      rw [List.getElem?_set_ne hj]
      exact E.scr j ns e
  ps := E.ps
  ext := E.ext
/-- less is known -/
def Weak : List Sl → List Sl → Prop
  | [], [] => True
  | x :: xs, y :: ys => (y = .junk ∨ x = y) ∧ Weak xs ys
  | _, _ => False
theorem Weak.refl : ∀ (l : List Sl), Weak l l
  | [] => trivial
  | _ :: xs => ⟨.inr rfl, Weak.refl xs⟩
theorem Weak.len : ∀ {a b : List Sl}, Weak a b → a.length = b.length
  | [], [], _ => rfl
  | _ :: xs, _ :: ys, h => by simp [Weak.len h.2]
theorem Weak.get : ∀ {a b : List Sl}, Weak a b → ∀ {i : Nat} {x : Sl}, b[i]? = some x → x ≠ .junk → a[i]? = some x
  | [], [], _, _, _, h, _ => by simp at h
  | _ :: xs, y :: ys, h, 0, x, e, n => by
    simp at e
    subst e
    rcases h.1 with z | z
    · exact absurd z n
    · subst z; rfl
  | _ :: xs, _ :: ys, h, i + 1, x, e, n => by
    simp at e ⊢
    exact Weak.get h.2 e n
theorem Nv.weak (E : Nv K pa G0 H0 G H σ Γ s) {Γ' : List Sl} (h : Weak Γ Γ') : Nv K pa G0 H0 G H σ Γ' s where
  len := h.len.symm.trans E.len
  val := fun i d e => E.val i d (h.get e (fun z => by cases z))
  own := fun i xs e => E.own i xs (h.get e (fun z => by cases z))
  inj := fun i j p xs ys e1 e2 => E.inj i j p xs ys (h.get e1 (fun z => by cases z)) (h.get e2 (fun z => by cases z))
  pen := fun i e => E.pen i (h.get e (fun z => by cases z))
  scr := fun i ns e => E.scr i ns (h.get e (fun z => by cases z))
  ps := E.ps
  ext := E.ext
end

/-! ### what is to hold behind a result -/
/-- an exception of the program -/
def ExcIs (K : PySem.W.Frag) (mg : Str → Option Value) (G H : Hp) (e : Ex) (cls : Value) (dx : Option Addr) : Prop :=
  mg e.name = some cls ∧ (e.fs = [] → dx = none) ∧ (e.fs ≠ [] → ∃ d fs, dx = some d ∧ H d = some (.xd fs) ∧ fs.map (·.1) = e.fs.map (·.1) ∧ RpL K G (fs.map (·.2)) (e.fs.map (·.2)))
def Pst (K : PySem.W.Frag) (W : WX) (mg : Str → Option Value) (pa : Option Addr) (σ : L2.St) {α : Type} (F : Hp → Hp → α → List Int → Prop) (G H : Hp) : R α → Prop
  | .ok a s => ∀ G' H', Ext pa G H G' H' → PenOk pa G' H' s → F G' H' a s
  | .exc e => ∀ cls dx G' H', Ext pa G H G' H' → ExcIs K mg G' H' e cls dx → W cls dx σ H'
  | .bad => False
section
variable {K : PySem.W.Frag} {W : WX} {mg : Str → Option Value} {pa : Option Addr} {σ : L2.St} {α β : Type} {F F' : Hp → Hp → α → List Int → Prop} {G H G' H' : Hp}
theorem Pst.mono {r : R α} (x : Ext pa G H G' H') (h : Pst K W mg pa σ F G H r) : Pst K W mg pa σ F G' H' r := by
  cases r with
  | ok a s => exact fun G2 H2 y p => h G2 H2 (x.trans y) p
  | exc e => exact fun cls dx G2 H2 y z => h cls dx G2 H2 (x.trans y) z
  | bad => exact h
theorem Pst.imp {r : R α} (h : Pst K W mg pa σ F G H r) (f : ∀ G' H' a s, Ext pa G H G' H' → PenOk pa G' H' s → F G' H' a s → F' G' H' a s) : Pst K W mg pa σ F' G H r := by
  cases r with
  | ok a s => exact fun G2 H2 y p => f _ _ _ _ y p (h G2 H2 y p)
  | exc e => exact h
  | bad => exact h
theorem Pst.bind {F : Hp → Hp → β → List Int → Prop} {m : PM α} {f : α → PM β} {s : List Int} (h : Pst K W mg pa σ F G H ((m >>= f) s)) : Pst K W mg pa σ (fun G' H' a s' => Pst K W mg pa σ F G' H' (f a s')) G H (m s) := by
  rw [PM.bind_def] at h
  cases e : m s with
  | ok a s1 =>
    rw [e] at h
    exact fun G' H' x p => h.mono x
  | exc x => rw [e] at h; exact h
  | bad => rw [e] at h; exact h
/-- a result at once -/
theorem Pst.now {a : α} {s : List Int} (h : Pst K W mg pa σ F G H ((Pure.pure a : PM α) s)) (hs : Same G H) (p : PenOk pa G H s) : F G H a s := h G H (Ext.refl hs) p
end

/-! ### judgements -/
def FD (K : PySem.W.Frag) (Q : VK) : Hp → Hp → D → List Int → Prop := fun G' H' d _ => ∀ v, Rp K G' v d → Q v H'
def FB (Q : Bool → Hp → Prop) : Hp → Hp → Bool → List Int → Prop := fun _ H' b _ => Q b H'
def FL (K : PySem.W.Frag) (Q : List V → Hp → Prop) : Hp → Hp → List D → List Int → Prop := fun G' H' ds _ => ∀ vs, RpL K G' vs ds → Q vs H'
def evT (X : Cx) (W : WX) (pa : Option Addr) (Γ : List Sl) (m : PM D) : TE := fun σ H Q => ∃ G0 H0 G s, Nv X.K pa G0 H0 G H σ Γ s ∧ Pst X.K W X.mg pa σ (FD X.K Q) G H (m s)
def evB (X : Cx) (W : WX) (pa : Option Addr) (Γ : List Sl) (m : PM Bool) : TT := fun σ H Q => ∃ G0 H0 G s, Nv X.K pa G0 H0 G H σ Γ s ∧ Pst X.K W X.mg pa σ (FB Q) G H (m s)
def evL (X : Cx) (W : WX) (pa : Option Addr) (Γ : List Sl) (m : PM (List D)) : TA := fun σ H Q => ∃ G0 H0 G s, Nv X.K pa G0 H0 G H σ Γ s ∧ Pst X.K W X.mg pa σ (FL X.K Q) G H (m s)
abbrev EV (X : Cx) (W : WX) (pa : Option Addr) (Γ : List Sl) (e : Expr) (m : PM D) : Prop := PE X e (evT X W pa Γ m)
abbrev EB (X : Cx) (W : WX) (pa : Option Addr) (Γ : List Sl) (e : Expr) (m : PM Bool) : Prop := PT X e (evB X W pa Γ m)
abbrev EL (X : Cx) (W : WX) (pa : Option Addr) (Γ : List Sl) (es : List Expr) (m : PM (List D)) : Prop := PA X es (evL X W pa Γ m)
theorem pe_imp {X : Cx} {e : Expr} {t t' : TE} (h : PE X e t) (i : ∀ σ H Q, t' σ H Q → t σ H Q) : PE X e t' := ⟨fun pins s σ H Q I q => h.run pins s σ H Q I (i σ H Q q)⟩
theorem pt_imp {X : Cx} {e : Expr} {t t' : TT} (h : PT X e t) (i : ∀ σ H Q, t' σ H Q → t σ H Q) : PT X e t' := ⟨fun pins s σ H Q I q => h.run pins s σ H Q I (i σ H Q q)⟩
end EV

/-! EV 2: expressions. -/
namespace EV
open PySem PySem.Spec PyProof.Rows L2

/-! ### trees as the library's data -/
mutual
def toPy : D → PyData
  | .non => .none
  | .bl b => .bool b
  | .int i => .int i
  | .str x => .str x
  | .tup xs => .tuple (toPyL xs)
  | .lst xs => .list (toPyL xs)
  | .dct _ => .dict []
  | .obj _ _ => .dict []
def toPyL : List D → List PyData
  | [] => []
  | x :: xs => toPy x :: toPyL xs
end
theorem toPyL_map : ∀ xs : List D, toPyL xs = xs.map toPy
  | [] => rfl
  | x :: xs => by simp only [toPyL, List.map_cons, toPyL_map xs]
def shp (d : D) : Bool := SeqAt.shaped (toPy d)
def eqvD (a b : D) : Bool := PyData.eqv (toPy a) (toPy b)
def shown (d : D) : Str := PyData.shown (toPy d)
section
variable {K : PySem.W.Frag} {G H : Hp}
theorem dpAll_of : ∀ {xs : List V} {ds : List D}, xs.length = ds.length → (∀ (i : Nat) v d, xs[i]? = some v → ds[i]? = some d → Dp K G v (toPy d)) → DpAll K G xs (ds.map toPy)
  | [], [], _, _ => .nil
  | [], _ :: _, n, _ => by simp at n
  | _ :: _, [], n, _ => by simp at n
  | x :: xs, d :: ds, n, h => .cons (h 0 x d rfl rfl) (dpAll_of (by simpa using n) fun i v e h1 h2 => h (i + 1) v e (by simpa using h1) (by simpa using h2))
theorem Rp.dp {v : V} {d : D} (h : Rp K G v d) : Dp K G v (toPy d) := by
  induction h with
  | non => exact .non
  | bl b => exact .bl b
  | int i => exact .int i
  | str x => exact .str x
  | lst h n _ ih =>
    simp only [toPy, toPyL_map]
    exact .lst (SqL.of h) (dpAll_of n ih)
  | tup h n _ ih =>
    simp only [toPy, toPyL_map]
    exact .tup h (dpAll_of n ih)
end

/-! ### contexts -/
structure Cok (X : Cx) (W : WX) (k : Nat) : Prop where
  calm : X.calm = true
  nd : X.N.Nodup
  takes : Takes X W
  room : Room k X.A
  guards : X.A.guards = some []
  passes : PassesOwn (model X.prog X.w) X.A X.env X.xe

section
variable {X : Cx} {W : WX} {pa : Option Addr} {Γ : List Sl} {k : Nat} {pos : Pos}

/-! ### names, constants -/
theorem ev_var {i : Nat} {x : Str} {d : D} (hΓ : Γ[i]? = some (.val d)) (hN : X.N[i]? = some x) (hv : Vis X.env.scope x) (hd : (x == ("__debug__" : Str)) = false := by decide) (hcd : (x == ("__classdict__" : Str)) = false := by decide) :
    EV X W pa Γ (.Name x pos) (pure d) := pe_imp (pe_var hN hv hd hcd) fun σ H Q ⟨G0, H0, G, s, E, P⟩ => by
  obtain ⟨v, h1, h2⟩ := E.val i d hΓ
  exact ⟨v, h1, P.now E.sub E.ps v h2⟩
theorem ev_const {e : Expr} {v : V} {d : D} (h : PE X e (tC v)) (r : ∀ K G, Rp K G v d) : EV X W pa Γ e (pure d) := pe_imp h fun σ H Q ⟨G0, H0, G, s, E, P⟩ => P.now E.sub E.ps v (r _ _)
theorem ev_int {i j} : EV X W pa Γ (.Constant (.int i) j pos) (pure (.int i)) := ev_const pe_int fun _ _ => .int i
theorem ev_bl {b j} : EV X W pa Γ (.Constant (.bool b) j pos) (pure (.bl b)) := ev_const pe_bl fun _ _ => .bl b
theorem ev_non {j} : EV X W pa Γ (.Constant .none j pos) (pure .non) := ev_const pe_non fun _ _ => .non
theorem ev_str {x j} : EV X W pa Γ (.Constant (.str x) j pos) (pure (.str x)) := ev_const pe_str fun _ _ => .str x
/-- a name of the module that holds a number or a text -/
theorem ev_glob {x : Str} {v : V} {u : Value} {d : D} (hg : Gl X x) (hm : X.mg x = some u) (r : RelV v u) (rp : ∀ G, Rp X.K G v d) (hd : (x == ("__debug__" : Str)) = false := by decide) : EV X W pa Γ (.Name x pos) (pure d) :=
  pe_imp (pe_glob hg hm r hd) fun σ H Q ⟨G0, H0, G, s, E, P⟩ => P.now E.sub E.ps v (rp _)

/-! ### argument lists -/
theorem pa_imp {es : List Expr} {t t' : TA} (h : PA X es t) (i : ∀ σ H Q, t' σ H Q → t σ H Q) : PA X es t' := ⟨fun p pins s σ H Q I q => h.run p pins s σ H Q I (i σ H Q q)⟩
theorem el_nil : EL X W pa Γ [] (pure []) := pa_imp pa_nil fun σ H Q ⟨G0, H0, G, s, E, P⟩ => P.now E.sub E.ps [] .nil
theorem el_cons {e : Expr} {es : List Expr} {m : PM D} {ml : PM (List D)} (h : EV X W pa Γ e m) (t : EL X W pa Γ es ml) (hs : starEach (e :: es) X.env = (false, eval e X.env) :: starEach es X.env := by rfl) :
    EL X W pa Γ (e :: es) (m >>= fun d => ml >>= fun ds => pure (d :: ds)) := pa_imp (pa_cons h t hs) fun σ H Q ⟨G0, H0, G, s, E, P⟩ =>
  ⟨G0, H0, G, s, E, P.bind.imp fun G1 H1 a s1 x1 p1 P1 v r => ⟨G0, H0, G1, s1, E.step x1 p1, P1.bind.imp fun G2 H2 as s2 x2 p2 P2 vs rs => P2.now x2.sub p2 (v :: vs) (.cons (r.mono x2.g) rs)⟩⟩

/-! ### operators by values -/
def OpD (X : Cx) (f : Value → Value → Sem Value) (g : D → D → PM D) : Prop := ∃ r : R2, OpR X f r ∧
  ∀ (W : WX) (pa : Option Addr) (σ : L2.St) (G H : Hp) (s : List Int) (x y : V) (a b : D) (Q : VK), Same G H → PenOk pa G H s → Rp X.K G x a → Rp X.K G y b → Pst X.K W X.mg pa σ (FD X.K Q) G H (g a b s) → r x y H Q
theorem OpD.or {f : Value → Value → Sem Value} {g g' : D → D → PM D} {c : D → D → Bool} (h : OpD X f g) (h' : OpD X f g') : OpD X f (fun a b => if c a b = true then g a b else g' a b) := by
  obtain ⟨r, h1, h2⟩ := h
  obtain ⟨r', h1', h2'⟩ := h'
  refine ⟨_, h1.or h1', fun W pa σ G H s x y a b Q hs hp ra rb P => ?_⟩
  by_cases hc : c a b = true
  · dsimp only at P
    rw [if_pos hc] at P
    exact .inl (h2 W pa σ G H s x y a b Q hs hp ra rb P)
  · dsimp only at P
    rw [if_neg hc] at P
    exact .inr (h2' W pa σ G H s x y a b Q hs hp ra rb P)
theorem OpD.to {f : Value → Value → Sem Value} {g g' : D → D → PM D} (h : OpD X f g) (e : ∀ a b s, g' a b s = g a b s ∨ g' a b s = .bad) : OpD X f g' := by
  obtain ⟨r, h1, h2⟩ := h
  refine ⟨r, h1, fun W pa σ G H s x y a b Q hs hp ra rb P => ?_⟩
  rcases e a b s with q | q
  · rw [q] at P
    exact h2 W pa σ G H s x y a b Q hs hp ra rb P
  · rw [q] at P
    exact P.elim
theorem ev_op {op : Operator} {g : D → D → PM D} {a b : Expr} {ma mb : PM D} (ho : OpD X (binaryOp op) g) (ha : EV X W pa Γ a ma) (hb : EV X W pa Γ b mb) : EV X W pa Γ (.BinOp a op b pos) (ma >>= fun x => mb >>= fun y => g x y) := by
  obtain ⟨r, h1, h2⟩ := ho
  exact pe_imp (pe_op h1 ha hb) fun σ H Q ⟨G0, H0, G, s, E, P⟩ =>
    ⟨G0, H0, G, s, E, P.bind.imp fun G1 H1 a s1 x1 p1 P1 v r => ⟨G0, H0, G1, s1, E.step x1 p1, P1.bind.imp fun G2 H2 b s2 x2 p2 P2 w rw => h2 W pa σ G2 H2 s2 v w a b Q x2.sub p2 (r.mono x2.g) rw P2⟩⟩
theorem ev_cmp {op : CmpOp} {g : D → D → PM D} {a b : Expr} {ma mb : PM D} (ho : OpD X (compareOp op) g) (ha : EV X W pa Γ a ma) (hb : EV X W pa Γ b mb) (hm : behindInMarks op b = false) : EV X W pa Γ (.Compare a [op] [b] pos) (ma >>= fun x => mb >>= fun y => g x y) := by
  obtain ⟨r, h1, h2⟩ := ho
  exact pe_imp (pe_cmpR h1 ha hb hm) fun σ H Q ⟨G0, H0, G, s, E, P⟩ =>
    ⟨G0, H0, G, s, E, P.bind.imp fun G1 H1 a s1 x1 p1 P1 v r => ⟨G0, H0, G1, s1, E.step x1 p1, P1.bind.imp fun G2 H2 b s2 x2 p2 P2 w rw => h2 W pa σ G2 H2 s2 v w a b Q x2.sub p2 (r.mono x2.g) rw P2⟩⟩
def asB : D → PM Bool
  | .bl b => pure b
  | _ => bad
theorem eb_cmp {op : CmpOp} {g : D → D → PM D} {a b : Expr} {ma mb : PM D} (ho : OpD X (compareOp op) g) (ha : EV X W pa Γ a ma) (hb : EV X W pa Γ b mb) (hm : behindInMarks op b = false) : EB X W pa Γ (.Compare a [op] [b] pos) (ma >>= fun x => mb >>= fun y => g x y >>= asB) := by
  obtain ⟨r, h1, h2⟩ := ho
  exact pt_imp (pt_cmpR h1 ha hb hm) fun σ H Q ⟨G0, H0, G, s, E, P⟩ =>
    ⟨G0, H0, G, s, E, P.bind.imp fun G1 H1 a s1 x1 p1 P1 v r => ⟨G0, H0, G1, s1, E.step x1 p1, P1.bind.imp fun G2 H2 b s2 x2 p2 P2 w rw => h2 W pa σ G2 H2 s2 v w a b _ x2.sub p2 (r.mono x2.g) rw
      (P2.bind.imp fun G3 H3 d s3 x3 p3 P3 u ru => by
        cases ru with
        | bl c => exact ⟨c, rfl, P3.now x3.sub p3⟩
        | _ => exact P3.elim)⟩⟩

/-! ### tests, and, or, not, if -/
/-- an expression whose value is a bool -/
theorem eb_val {e : Expr} {m : PM D} (h : EV X W pa Γ e m) (he : ∀ whole, isTrue e X.env whole = (do let v ← whole; standAt e.pos; holding [v] (truthy v)) := by intro _; rfl) : EB X W pa Γ e (m >>= asB) :=
  pt_imp (pt_val h he) fun σ H Q ⟨G0, H0, G, s, E, P⟩ => ⟨G0, H0, G, s, E, P.bind.imp fun G1 H1 d s1 x1 p1 P1 v r => by
    cases r with
    | bl c => exact ⟨c, rfl, P1.now x1.sub p1⟩
    | _ => exact P1.elim⟩
theorem eb_not {a : Expr} {m : PM Bool} (h : EB X W pa Γ a m) : EB X W pa Γ (.UnaryOp .Not a pos) (m >>= fun b => pure (!b)) :=
  pt_imp (pt_not h) fun σ H Q ⟨G0, H0, G, s, E, P⟩ => ⟨G0, H0, G, s, E, P.bind.imp fun G1 H1 d s1 x1 p1 P1 => P1.now x1.sub p1⟩
abbrev EW (X : Cx) (W : WX) (pa : Option Addr) (Γ : List Sl) (e : Expr) (m : PM Bool) : Prop := PW X e (evB X W pa Γ m)
theorem pw_imp {e : Expr} {t t' : TT} (h : PW X e t) (i : ∀ σ H Q, t' σ H Q → t σ H Q) : PW X e t' := ⟨fun wh pins s σ H Q I q => h.run wh pins s σ H Q I (i σ H Q q)⟩
theorem ew_and1 {a : Expr} {m : PM Bool} (h : EB X W pa Γ a m) : EW X W pa Γ (.BoolOp .And [a] pos) m := pw_and1 h
theorem ew_or1 {a : Expr} {m : PM Bool} (h : EB X W pa Γ a m) : EW X W pa Γ (.BoolOp .Or [a] pos) m := pw_or1 h
theorem ew_and {a b : Expr} {rest : List Expr} {m ml : PM Bool} (h : EB X W pa Γ a m) (t : EW X W pa Γ (.BoolOp .And (b :: rest) pos) ml) : EW X W pa Γ (.BoolOp .And (a :: b :: rest) pos) (m >>= fun c => if c = true then ml else pure false) :=
  pw_imp (pw_and h t) fun σ H Q ⟨G0, H0, G, s, E, P⟩ => ⟨G0, H0, G, s, E, P.bind.imp fun G1 H1 c s1 x1 p1 P1 => by
    cases c with
    | true => exact (show evB X W pa Γ ml σ H1 Q from ⟨G0, H0, G1, s1, E.step x1 p1, P1⟩)
    | false => exact (show Q false H1 from P1.now x1.sub p1)⟩
theorem ew_or {a b : Expr} {rest : List Expr} {m ml : PM Bool} (h : EB X W pa Γ a m) (t : EW X W pa Γ (.BoolOp .Or (b :: rest) pos) ml) : EW X W pa Γ (.BoolOp .Or (a :: b :: rest) pos) (m >>= fun c => if c = true then pure true else ml) :=
  pw_imp (pw_or h t) fun σ H Q ⟨G0, H0, G, s, E, P⟩ => ⟨G0, H0, G, s, E, P.bind.imp fun G1 H1 c s1 x1 p1 P1 => by
    cases c with
    | true => exact (show Q true H1 from P1.now x1.sub p1)
    | false => exact (show evB X W pa Γ ml σ H1 Q from ⟨G0, H0, G1, s1, E.step x1 p1, P1⟩)⟩
theorem eb_bool {e : Expr} {m : PM Bool} (h : EW X W pa Γ e m) : EB X W pa Γ e m := h.pt
/-- a test's value, as a value (an and, an or, a not of bools) -/
theorem ev_one {op} {a : Expr} {m : PM D} (h : EV X W pa Γ a m) : EV X W pa Γ (.BoolOp op [a] pos) m := pe_one h
theorem ev_and {a b : Expr} {rest : List Expr} {m ml : PM D} (h : EV X W pa Γ a m) (t : EV X W pa Γ (.BoolOp .And (b :: rest) pos) ml) : EV X W pa Γ (.BoolOp .And (a :: b :: rest) pos) (m >>= fun d => asB d >>= fun c => if c = true then ml else pure (.bl false)) :=
  pe_imp (pe_and h t) fun σ H Q ⟨G0, H0, G, s, E, P⟩ => ⟨G0, H0, G, s, E, P.bind.imp fun G1 H1 d s1 x1 p1 P1 v r => by
    cases r with
    | bl c =>
      refine ⟨c, rfl, ?_⟩
      have P2 := (P1.bind).now x1.sub p1
      cases c with
      | true => exact (show evT X W pa Γ ml σ H1 Q from ⟨G0, H0, G1, s1, E.step x1 p1, P2⟩)
      | false => exact (show Q (.bl false) H1 from P2.now x1.sub p1 _ (.bl false))
    | _ => exact P1.elim⟩
theorem ev_or {a b : Expr} {rest : List Expr} {m ml : PM D} (h : EV X W pa Γ a m) (t : EV X W pa Γ (.BoolOp .Or (b :: rest) pos) ml) : EV X W pa Γ (.BoolOp .Or (a :: b :: rest) pos) (m >>= fun d => asB d >>= fun c => if c = true then pure (.bl true) else ml) :=
  pe_imp (pe_or h t) fun σ H Q ⟨G0, H0, G, s, E, P⟩ => ⟨G0, H0, G, s, E, P.bind.imp fun G1 H1 d s1 x1 p1 P1 v r => by
    cases r with
    | bl c =>
      refine ⟨c, rfl, ?_⟩
      have P2 := (P1.bind).now x1.sub p1
      cases c with
      | true => exact (show Q (.bl true) H1 from P2.now x1.sub p1 _ (.bl true))
      | false => exact (show evT X W pa Γ ml σ H1 Q from ⟨G0, H0, G1, s1, E.step x1 p1, P2⟩)
    | _ => exact P1.elim⟩
theorem ev_not {a : Expr} {m : PM D} (h : EV X W pa Γ a m) : EV X W pa Γ (.UnaryOp .Not a pos) (m >>= fun d => asB d >>= fun c => pure (.bl (!c))) :=
  pe_imp (pe_not h) fun σ H Q ⟨G0, H0, G, s, E, P⟩ => ⟨G0, H0, G, s, E, P.bind.imp fun G1 H1 d s1 x1 p1 P1 v r => by
    cases r with
    | bl c => exact ⟨c, rfl, ((P1.bind).now x1.sub p1).now x1.sub p1 _ (.bl _)⟩
    | _ => exact P1.elim⟩
theorem ev_ifExp {c a b : Expr} {mc : PM Bool} {ma mb : PM D} (hc : EB X W pa Γ c mc) (ha : EV X W pa Γ a ma) (hb : EV X W pa Γ b mb) : EV X W pa Γ (.IfExp c a b pos) (mc >>= fun t => if t = true then ma else mb) :=
  pe_imp (pe_ifExp hc ha hb) fun σ H Q ⟨G0, H0, G, s, E, P⟩ => ⟨G0, H0, G, s, E, P.bind.imp fun G1 H1 t s1 x1 p1 P1 => by
    cases t with
    | true => exact (show evT X W pa Γ ma σ H1 Q from ⟨G0, H0, G1, s1, E.step x1 p1, P1⟩)
    | false => exact (show evT X W pa Γ mb σ H1 Q from ⟨G0, H0, G1, s1, E.step x1 p1, P1⟩)⟩
/-- the truth of a value -/
def truD : D → PM Bool
  | .non => pure false
  | .bl b => pure b
  | .int i => pure (i != 0)
  | .lst xs => pure (!xs.isEmpty)
  | .tup xs => pure (!xs.isEmpty)
  | _ => bad
theorem isEmpty_rp {K : PySem.W.Frag} {G : Hp} {vs : List V} {ds : List D} (h : RpL K G vs ds) : vs.isEmpty = ds.isEmpty := by
  have := h.1
  cases vs <;> cases ds <;> simp_all

/-! ### displays, calls of built-ins -/
abbrev lim : Nat := 1000000
theorem lim_le {n : Nat} (h : n ≤ lim) : n ≤ sizeLine := Nat.le_trans h (by decide)
theorem lim_lt {n : Nat} (h : n ≤ lim) : n < sizeLine := Nat.lt_of_le_of_lt h (by decide)
def mkT (xs : List D) : PM D := if xs.length ≤ lim then pure (.tup xs) else bad
def mkL (xs : List D) : PM D := if xs.length ≤ lim then pure (.lst xs) else bad
theorem mkT_ok {xs : List D} (h : xs.length ≤ lim) : mkT xs = pure (.tup xs) := if_pos h
theorem mkL_ok {xs : List D} (h : xs.length ≤ lim) : mkL xs = pure (.lst xs) := if_pos h
section
variable {mg : Str → Option Value} {K : PySem.W.Frag} {pa : Option Addr} {σ : L2.St} {G H : Hp} {s : List Int} {Q : VK}
theorem mkT_len {vs : List V} {ds : List D} (P : Pst K W mg pa σ (FD K Q) G H (mkT ds s)) (r : RpL K G vs ds) : vs.length ≤ sizeLine := by
  unfold mkT at P
  split at P
  · rename_i h
    rw [r.1]
    exact lim_le h
  · exact P.elim
theorem mkT_use {vs : List V} {ds : List D} (P : Pst K W mg pa σ (FD K Q) G H (mkT ds s)) (r : RpL K G vs ds) (hs : Same G H) (hp : PenOk pa G H s) {p : Addr} (np : H p = none) : Q (.ref p) (upd H p (.tup vs)) := by
  unfold mkT at P
  split at P
  · have x := Ext.new (pa := pa) hs np (.tup vs)
    exact P _ _ x (hp.upd np _) _ (.mkT (SqT.of upd_same) (r.mono x.g))
  · exact P.elim
theorem mkL_len {vs : List V} {ds : List D} (P : Pst K W mg pa σ (FD K Q) G H (mkL ds s)) (r : RpL K G vs ds) : vs.length ≤ sizeLine := by
  unfold mkL at P
  split at P
  · rename_i h
    rw [r.1]
    exact lim_le h
  · exact P.elim
theorem mkL_use {vs : List V} {ds : List D} (P : Pst K W mg pa σ (FD K Q) G H (mkL ds s)) (r : RpL K G vs ds) (hs : Same G H) (hp : PenOk pa G H s) {p : Addr} (np : H p = none) : Q (.ref p) (upd H p (.lst vs)) := by
  unfold mkL at P
  split at P
  · have x := Ext.new (pa := pa) hs np (.lst vs)
    exact P _ _ x (hp.upd np _) _ (.mkL upd_same (r.mono x.g))
  · exact P.elim
end
theorem ev_tup {es : List Expr} {x1} {ml : PM (List D)} (h : EL X W pa Γ es ml) : EV X W pa Γ (.Tuple es x1 pos) (ml >>= mkT) :=
  pe_imp (L2.pe_tup h) fun σ H Q ⟨G0, H0, G, s, E, P⟩ => ⟨G0, H0, G, s, E, P.bind.imp fun G1 H1 ds s1 x1 p1 P1 vs r =>
    ⟨mkT_len P1 r, fun p np => mkT_use P1 r x1.sub p1 np⟩⟩
theorem ev_lst {es : List Expr} {ml : PM (List D)} (h : EL X W pa Γ es ml) : EV X W pa Γ (.List es pos) (ml >>= mkL) :=
  pe_imp (L2.pe_lst h) fun σ H Q ⟨G0, H0, G, s, E, P⟩ => ⟨G0, H0, G, s, E, P.bind.imp fun G1 H1 ds s1 x1 p1 P1 vs r =>
    ⟨mkL_len P1 r, fun p np => mkL_use P1 r x1.sub p1 np⟩⟩

/-- a call by values -/
def CallD (X : Cx) (f : Value) (g : List D → PM D) : Prop := ∃ r : List V → Hp → VK → Prop, CallR X f r ∧
  ∀ (W : WX) (pa : Option Addr) (σ : L2.St) (G H : Hp) (s : List Int) (xs : List V) (ds : List D) (Q : VK), Same G H → PenOk pa G H s → RpL X.K G xs ds → Pst X.K W X.mg pa σ (FD X.K Q) G H (g ds s) → r xs H Q
theorem CallD.or {f : Value} {g g' : List D → PM D} {c : List D → Bool} (h : CallD X f g) (h' : CallD X f g') : CallD X f (fun a => if c a = true then g a else g' a) := by
  obtain ⟨r, h1, h2⟩ := h
  obtain ⟨r', h1', h2'⟩ := h'
  refine ⟨_, h1.or h1', fun W pa σ G H s x a Q hs hp ra P => ?_⟩
  by_cases hc : c a = true
  · dsimp only at P
    rw [if_pos hc] at P
    exact .inl (h2 W pa σ G H s x a Q hs hp ra P)
  · dsimp only at P
    rw [if_neg hc] at P
    exact .inr (h2' W pa σ G H s x a Q hs hp ra P)
theorem CallD.to {f : Value} {g g' : List D → PM D} (h : CallD X f g) (e : ∀ a s, g' a s = g a s ∨ g' a s = .bad) : CallD X f g' := by
  obtain ⟨r, h1, h2⟩ := h
  refine ⟨r, h1, fun W pa σ G H s x a Q hs hp ra P => ?_⟩
  rcases e a s with q | q
  · rw [q] at P
    exact h2 W pa σ G H s x a Q hs hp ra P
  · rw [q] at P
    exact P.elim
theorem ev_callB {x : Str} {id : String} {g : List D → PM D} {e : Expr} {es : List Expr} {p : Pos} {ml : PM (List D)} (hc : CallD X (.builtin id) g) (hg : Gl X x) (hm : X.mg x = none) (hv : bootBuiltins x = some (.builtin id)) (ha : EL X W pa Γ (e :: es) ml)
    (hn : x ≠ "__name__" := by decide) (hdb : (x == ("__debug__" : Str)) = false := by decide) (hs : starEach (e :: es) X.env = (false, eval e X.env) :: starEach es X.env := by rfl)
    (hpl : (backTo pos (starEach es X.env)).any (·.1) = false := by rfl) : EV X W pa Γ (.Call (.Name x p) (e :: es) [] pos) (ml >>= g) := by
  obtain ⟨r, h1, h2⟩ := hc
  exact pe_imp (pe_callB h1 hg hm hv ha hn hdb hs hpl) fun σ H Q ⟨G0, H0, G, s, E, P⟩ => ⟨G0, H0, G, s, E, P.bind.imp fun G1 H1 ds s1 x1 p1 P1 vs rs => h2 W pa σ G1 H1 s1 vs ds Q x1.sub p1 rs P1⟩
theorem ev_callTy {x : Str} {T : String} {g : List D → PM D} {e : Expr} {es : List Expr} {p : Pos} {ml : PM (List D)} (hc : CallD X (.type T) g) (hg : Gl X x) (hm : X.mg x = none) (hv : bootBuiltins x = some (.type T)) (ha : EL X W pa Γ (e :: es) ml)
    (hn : x ≠ "__name__" := by decide) (hdb : (x == ("__debug__" : Str)) = false := by decide) (hs : starEach (e :: es) X.env = (false, eval e X.env) :: starEach es X.env := by rfl)
    (hpl : (backTo pos (starEach es X.env)).any (·.1) = false := by rfl) : EV X W pa Γ (.Call (.Name x p) (e :: es) [] pos) (ml >>= g) := by
  obtain ⟨r, h1, h2⟩ := hc
  exact pe_imp (pe_callTy h1 hg hm hv ha hn hdb hs hpl) fun σ H Q ⟨G0, H0, G, s, E, P⟩ => ⟨G0, H0, G, s, E, P.bind.imp fun G1 H1 ds s1 x1 p1 P1 vs rs => h2 W pa σ G1 H1 s1 vs ds Q x1.sub p1 rs P1⟩
end
end EV

/-! EV 3: operators, built-ins. -/
namespace EV
open PySem PySem.Spec PyProof.Rows L2
section
variable {X : Cx} {k : Nat}

theorem od_i0 {f : Value → Value → Sem Value} {v : Int → Int → V} {d : Int → Int → D} (h : OpR X f (rI0 v)) (r : ∀ K G i j, Rp K G (v i j) (d i j)) {g : D → D → PM D}
    (e : ∀ a b s, (∃ i j, a = .int i ∧ b = .int j ∧ g a b s = .ok (d i j) s) ∨ g a b s = .bad) : OpD X f g := by
  refine ⟨_, h, fun W pa σ G H s x y a b Q hs hp ra rb P => ?_⟩
  rcases e a b s with ⟨i, j, rfl, rfl, q⟩ | q
  · rw [q] at P
    cases ra
    cases rb
    exact ⟨i, j, rfl, rfl, P G H (Ext.refl hs) hp _ (r _ _ _ _)⟩
  · rw [q] at P
    exact P.elim
theorem od_i {f : Value → Value → Sem Value} {C : Int → Int → Prop} {v : Int → Int → V} {d : Int → Int → D} (h : OpR X f (rI C v)) (r : ∀ K G i j, Rp K G (v i j) (d i j)) {g : D → D → PM D}
    (e : ∀ a b s, (∃ i j, a = .int i ∧ b = .int j ∧ C i j ∧ g a b s = .ok (d i j) s) ∨ g a b s = .bad) : OpD X f g := by
  refine ⟨_, h, fun W pa σ G H s x y a b Q hs hp ra rb P => ?_⟩
  rcases e a b s with ⟨i, j, rfl, rfl, c, q⟩ | q
  · rw [q] at P
    cases ra
    cases rb
    exact ⟨i, j, rfl, rfl, c, P G H (Ext.refl hs) hp _ (r _ _ _ _)⟩
  · rw [q] at P
    exact P.elim

/-! ### + - * // % ** -/
def strLim (x : Str) : Prop := x.length ≤ lim
instance (x : Str) : Decidable (strLim x) := inferInstanceAs (Decidable (x.length ≤ lim))
def addD : D → D → PM D
  | .int i, .int j => pure (.int (i + j))
  | .lst a, .lst b => mkL (a ++ b)
  | .tup a, .tup b => mkT (a ++ b)
  | .str a, .str b => if a.length + b.length ≤ lim then pure (.str (a ++ b)) else bad
  | _, _ => bad
theorem mkT_same {mg : Str → Option Value} {K : PySem.W.Frag} {W : WX} {pa : Option Addr} {σ : L2.St} {G H : Hp} {s : List Int} {Q : VK} {a : Addr} {vs : List V} {ds : List D} (P : Pst K W mg pa σ (FD K Q) G H (mkT ds s)) (h : SqT K G a vs) (r : RpL K G vs ds) (hs : Same G H) (hp : PenOk pa G H s) : Q (.ref a) H := by
  unfold mkT at P
  split at P
  · exact P G H (Ext.refl hs) hp _ (.mkT h r)
  · exact P.elim
theorem nil_of {vs : List V} {ds : List D} {K : PySem.W.Frag} {G : Hp} (h : RpL K G vs ds) (e : vs = []) : ds = [] := by
  have := h.1
  subst e
  cases ds with
  | nil => rfl
  | cons _ _ => simp at this
theorem od_add : OpD X (binaryOp .Add) addD := by
  refine ⟨_, op_add.or (op_cat.or (op_catA.or op_add_str)), fun W pa σ G H s x y a b Q hs hp ra rb P => ?_⟩
  cases ra with
  | int i =>
    cases rb with
    | int j => exact .inl ⟨i, j, rfl, rfl, P G H (Ext.refl hs) hp _ (.int _)⟩
    | _ => exact P.elim
  | str i =>
    cases rb with
    | str j =>
      have P : Pst X.K W X.mg pa σ (FD X.K Q) G H ((if i.length + j.length ≤ lim then pure (.str (i ++ j)) else bad : PM D) s) := P
      split at P
      · rename_i hl
        exact .inr (.inr (.inr ⟨i, j, rfl, rfl, lim_le hl, P G H (Ext.refl hs) hp _ (.str _)⟩))
      · exact P.elim
    | _ => exact P.elim
  | lst h n r =>
    cases rb with
    | lst h' n' r' =>
      have q : RpL X.K G _ _ := RpL.app ⟨n, r⟩ ⟨n', r'⟩
      have z := mkL_len P q
      rw [List.length_append] at z
      exact .inr (.inl ⟨_, _, _, _, rfl, rfl, hs _ _ h, hs _ _ h', z, fun p np => mkL_use P q hs hp np⟩)
    | _ => exact P.elim
  | tup h n r =>
    cases rb with
    | tup h' n' r' =>
      have q : RpL X.K G _ _ := RpL.app ⟨n, r⟩ ⟨n', r'⟩
      have z := mkT_len P q
      rw [List.length_append] at z
      refine .inr (.inr (.inl ⟨_, _, _, _, rfl, rfl, sameT hs h, sameT hs h', z, fun e => ?_, fun e1 e2 => ?_, fun e1 e2 p np => mkT_use P q hs hp np⟩))
      · have e' := nil_of ⟨n, r⟩ e
        subst e'
        exact mkT_same (P : Pst X.K W X.mg pa σ (FD X.K Q) G H (mkT ([] ++ _) s)) h' (by rw [List.nil_append]; exact ⟨n', r'⟩) hs hp
      · have e' := nil_of ⟨n', r'⟩ e2
        subst e'
        exact mkT_same (P : Pst X.K W X.mg pa σ (FD X.K Q) G H (mkT (_ ++ []) s)) h (by rw [List.append_nil]; exact ⟨n, r⟩) hs hp
    | _ => exact P.elim
  | _ => exact P.elim
def subD : D → D → PM D
  | .int i, .int j => pure (.int (i - j))
  | _, _ => bad
theorem od_sub : OpD X (binaryOp .Sub) subD := od_i0 op_sub (fun _ _ _ _ => .int _) fun a b s => by
  cases a <;> cases b <;> first | exact .inl ⟨_, _, rfl, rfl, rfl⟩ | exact .inr rfl
instance (i j : Int) : Decidable (CMul i j) := inferInstanceAs (Decidable ((-(2 ^ 64) < i ∧ i < 2 ^ 64) ∨ (-(2 ^ 64) < j ∧ j < 2 ^ 64)))
instance (i j : Int) : Decidable (CDivN i j) := inferInstanceAs (Decidable (j ≠ 0 ∧ j.natAbs < 1073741824))
instance (i j : Int) : Decidable (CPow i j) := inferInstanceAs (Decidable (0 ≤ j ∧ j ≤ 1000000 ∧ i.natAbs < 2 ^ 64))
def mulD : D → D → PM D
  | .int i, .int j => if CMul i j then pure (.int (i * j)) else bad
  | _, _ => bad
theorem od_mul : OpD X (binaryOp .Mult) mulD := od_i op_mul (fun _ _ _ _ => .int _) fun a b s => by
  cases a with
  | int i =>
    cases b with
    | int j =>
      by_cases h : CMul i j
      · exact .inl ⟨i, j, rfl, rfl, h, by show (if CMul i j then pure (.int (i * j)) else bad : PM D) s = _; rw [if_pos h]; rfl⟩
      · exact .inr (by show (if CMul i j then pure (.int (i * j)) else bad : PM D) s = _; rw [if_neg h]; rfl)
    | _ => exact .inr rfl
  | _ => exact .inr rfl
def fdivD : D → D → PM D
  | .int i, .int j => if CDivN i j then pure (.int (i.fdiv j)) else bad
  | _, _ => bad
theorem od_fdiv : OpD X (binaryOp .FloorDiv) fdivD := od_i op_fdivN (fun _ _ _ _ => .int _) fun a b s => by
  cases a with
  | int i =>
    cases b with
    | int j =>
      by_cases h : CDivN i j
      · exact .inl ⟨i, j, rfl, rfl, h, by show (if CDivN i j then pure (.int (i.fdiv j)) else bad : PM D) s = _; rw [if_pos h]; rfl⟩
      · exact .inr (by show (if CDivN i j then pure (.int (i.fdiv j)) else bad : PM D) s = _; rw [if_neg h]; rfl)
    | _ => exact .inr rfl
  | _ => exact .inr rfl
def modD : D → D → PM D
  | .int i, .int j => if j ≠ 0 then pure (.int (i.fmod j)) else bad
  | _, _ => bad
theorem od_mod : OpD X (binaryOp .Mod) modD := od_i op_modN (fun _ _ _ _ => .int _) fun a b s => by
  cases a with
  | int i =>
    cases b with
    | int j =>
      by_cases h : j ≠ 0
      · exact .inl ⟨i, j, rfl, rfl, h, by show (if j ≠ 0 then pure (.int (i.fmod j)) else bad : PM D) s = _; rw [if_pos h]; rfl⟩
      · exact .inr (by show (if j ≠ 0 then pure (.int (i.fmod j)) else bad : PM D) s = _; rw [if_neg h]; rfl)
    | _ => exact .inr rfl
  | _ => exact .inr rfl
def powD : D → D → PM D
  | .int i, .int j => if CPow i j then pure (.int (i ^ j.toNat)) else bad
  | _, _ => bad
theorem od_pow : OpD X (binaryOp .Pow) powD := od_i op_pow (fun _ _ _ _ => .int _) fun a b s => by
  cases a with
  | int i =>
    cases b with
    | int j =>
      by_cases h : CPow i j
      · exact .inl ⟨i, j, rfl, rfl, h, by show (if CPow i j then pure (.int (i ^ j.toNat)) else bad : PM D) s = _; rw [if_pos h]; rfl⟩
      · exact .inr (by show (if CPow i j then pure (.int (i ^ j.toNat)) else bad : PM D) s = _; rw [if_neg h]; rfl)
    | _ => exact .inr rfl
  | _ => exact .inr rfl

/-! ### comparisons -/
def eqD0 (a b : D) : PM D := if shp a = true ∧ shp b = true then pure (.bl (eqvD a b)) else bad
def neD0 (a b : D) : PM D := if shp a = true ∧ shp b = true then pure (.bl (!eqvD a b)) else bad
def twoS : D → D → Bool
  | .str _, .str _ => true
  | _, _ => false
/-- two texts: no more is asked -/
def eqD : D → D → PM D
  | .str x, .str y => pure (.bl (x == y))
  | a, b => eqD0 a b
def neD : D → D → PM D
  | .str x, .str y => pure (.bl (!(x == y)))
  | a, b => neD0 a b
theorem eqD_0 {a b : D} (h : twoS a b = false) : eqD a b = eqD0 a b := by
  cases a <;> cases b <;> first | rfl | cases h
theorem neD_0 {a b : D} (h : twoS a b = false) : neD a b = neD0 a b := by
  cases a <;> cases b <;> first | rfl | cases h
theorem twoS_rp {K : PySem.W.Frag} {G : Hp} {x y : V} {a b : D} (h : twoS a b = true) (ra : Rp K G x a) (rb : Rp K G y b) : ∃ z t, a = .str z ∧ b = .str t ∧ x = .str z ∧ y = .str t := by
  cases ra with
  | str z =>
    cases rb with
    | str t => exact ⟨z, t, rfl, rfl, rfl, rfl⟩
    | _ => cases h
  | _ => cases h
theorem od_eq (hr : Room k X.A) : OpD X (compareOp .Eq) eqD := by
  refine ⟨_, op_eq.or (op_eqD hr.units), fun W pa σ G H s x y a b Q hs hp ra rb P => ?_⟩
  cases e : twoS a b with
  | true =>
    obtain ⟨z, t, rfl, rfl, rfl, rfl⟩ := twoS_rp e ra rb
    exact .inl ⟨rfl, by rw [dec_str]; exact P G H (Ext.refl hs) hp _ (.bl _)⟩
  | false =>
    rw [eqD_0 e] at P
    unfold eqD0 at P
    split at P
    · rename_i h
      exact .inr ⟨toPy a, toPy b, (ra.mono hs).dp, (rb.mono hs).dp, h.1, h.2, P G H (Ext.refl hs) hp _ (.bl _)⟩
    · exact P.elim
theorem od_ne (hr : Room k X.A) : OpD X (compareOp .NotEq) neD := by
  refine ⟨_, op_ne.or (op_neD hr.units), fun W pa σ G H s x y a b Q hs hp ra rb P => ?_⟩
  cases e : twoS a b with
  | true =>
    obtain ⟨z, t, rfl, rfl, rfl, rfl⟩ := twoS_rp e ra rb
    exact .inl ⟨rfl, by rw [dec_str]; exact P G H (Ext.refl hs) hp _ (.bl _)⟩
  | false =>
    rw [neD_0 e] at P
    unfold neD0 at P
    split at P
    · rename_i h
      exact .inr ⟨toPy a, toPy b, (ra.mono hs).dp, (rb.mono hs).dp, h.1, h.2, P G H (Ext.refl hs) hp _ (.bl _)⟩
    · exact P.elim
def ltD : D → D → PM D
  | .int i, .int j => pure (.bl (decide (i < j)))
  | _, _ => bad
def leD : D → D → PM D
  | .int i, .int j => pure (.bl (decide (i ≤ j)))
  | _, _ => bad
def gtD : D → D → PM D
  | .int i, .int j => pure (.bl (decide (j < i)))
  | _, _ => bad
def geD : D → D → PM D
  | .int i, .int j => pure (.bl (decide (j ≤ i)))
  | _, _ => bad
theorem od_lt : OpD X (compareOp .Lt) ltD := od_i0 op_lt (fun _ _ _ _ => .bl _) fun a b s => by
  cases a <;> cases b <;> first | exact .inl ⟨_, _, rfl, rfl, rfl⟩ | exact .inr rfl
theorem od_le : OpD X (compareOp .LtE) leD := od_i0 op_le (fun _ _ _ _ => .bl _) fun a b s => by
  cases a <;> cases b <;> first | exact .inl ⟨_, _, rfl, rfl, rfl⟩ | exact .inr rfl
theorem od_gt : OpD X (compareOp .Gt) gtD := od_i0 op_gt (fun _ _ _ _ => .bl _) fun a b s => by
  cases a <;> cases b <;> first | exact .inl ⟨_, _, rfl, rfl, rfl⟩ | exact .inr rfl
theorem od_ge : OpD X (compareOp .GtE) geD := od_i0 op_ge (fun _ _ _ _ => .bl _) fun a b s => by
  cases a <;> cases b <;> first | exact .inl ⟨_, _, rfl, rfl, rfl⟩ | exact .inr rfl
/-- x is None -/
def isND : D → D → PM D
  | .non, .non => pure (.bl true)
  | _, .non => pure (.bl false)
  | _, _ => bad
def notND : D → D → PM D
  | .non, .non => pure (.bl false)
  | _, .non => pure (.bl true)
  | _, _ => bad
theorem od_isN : OpD X (compareOp .Is) isND := by
  refine ⟨_, op_isN, fun W pa σ G H s x y a b Q hs hp ra rb P => ?_⟩
  cases rb with
  | non =>
    refine ⟨rfl, ?_⟩
    cases ra <;> exact P G H (Ext.refl hs) hp _ (.bl _)
  | _ => cases ra <;> exact P.elim
theorem od_notN : OpD X (compareOp .IsNot) notND := by
  refine ⟨_, op_notN, fun W pa σ G H s x y a b Q hs hp ra rb P => ?_⟩
  cases rb with
  | non =>
    refine ⟨rfl, ?_⟩
    cases ra <;> exact P G H (Ext.refl hs) hp _ (.bl _)
  | _ => cases ra <;> exact P.elim

/-! ### in -/
theorem room65 {A : Around} (hr : Room k A) : A.units + 65 < cLine := by have := hr.un; omega
def rInT (K : PySem.W.Frag) : R2 := fun x y H Q => ∃ d ds, Dp K H x d ∧ Dp K H y (.tuple ds) ∧ SeqAt.shaped d = true ∧ SeqAt.shaped (.tuple ds) = true ∧ Q (.bl (ds.any fun z => PyData.eqv z d)) H
def rNotInT (K : PySem.W.Frag) : R2 := fun x y H Q => ∃ d ds, Dp K H x d ∧ Dp K H y (.tuple ds) ∧ SeqAt.shaped d = true ∧ SeqAt.shaped (.tuple ds) = true ∧ Q (.bl (!ds.any fun z => PyData.eqv z d)) H
def inD : D → D → PM D
  | a, .lst xs => if shp a = true ∧ shp (.lst xs) = true then pure (.bl (xs.any fun z => eqvD z a)) else bad
  | a, .tup xs => if shp a = true ∧ shp (.tup xs) = true then pure (.bl (xs.any fun z => eqvD z a)) else bad
  | .str a, .str b => pure (.bl (!(Builtin.Str.occurrences b a 0 b.length 1).isEmpty))
  | _, _ => bad
def notInD : D → D → PM D
  | a, .lst xs => if shp a = true ∧ shp (.lst xs) = true then pure (.bl (!xs.any fun z => eqvD z a)) else bad
  | a, .tup xs => if shp a = true ∧ shp (.tup xs) = true then pure (.bl (!xs.any fun z => eqvD z a)) else bad
  | _, _ => bad
theorem shpT {xs : List D} (h : shp (.tup xs) = true) : PyData.canLayAll0 (xs.map toPy) = true := by
  have z := SeqAt.canLay_of_shaped h
  simp only [toPy, PyData.canLay0, toPyL_map] at z
  exact z
theorem op_inT (hu : X.A.units + 65 < cLine) : OpR X (compareOp .In) (rInT X.K) := by
  intro pins s σ H x y v u Q I rx ry ⟨d, ds, hd, he, sd, se, q⟩
  obtain ⟨as, r1⟩ := Dp.reads I d x v hd rx
  obtain ⟨bs, r2⟩ := Dp.reads I (.tuple ds) y u he ry
  have sc : PyData.canLayAll0 ds = true := by
    have z := SeqAt.canLay_of_shaped se
    simpa only [PyData.canLay0] using z
  exact SeqAt.in_tuple_reads r2 r1 sc (SeqAt.canLay_of_shaped sd) (room_in_shaped sd hu) ⟨.bl _, H, I, rfl, q⟩
theorem op_notInT (hu : X.A.units + 65 < cLine) : OpR X (compareOp .NotIn) (rNotInT X.K) := by
  intro pins s σ H x y v u Q I rx ry ⟨d, ds, hd, he, sd, se, q⟩
  obtain ⟨as, r1⟩ := Dp.reads I d x v hd rx
  obtain ⟨bs, r2⟩ := Dp.reads I (.tuple ds) y u he ry
  have sc : PyData.canLayAll0 ds = true := by
    have z := SeqAt.canLay_of_shaped se
    simpa only [PyData.canLay0] using z
  exact SeqAt.notIn_tuple_reads r2 r1 sc (SeqAt.canLay_of_shaped sd) (room_in_shaped sd hu) ⟨.bl _, H, I, rfl, q⟩
theorem any_py (xs : List D) (a : D) : ((xs.map toPy).any fun z => PyData.eqv z (toPy a)) = xs.any fun z => eqvD z a := by
  rw [List.any_map]
  rfl
theorem od_in (hr : Room k X.A) : OpD X (compareOp .In) inD := by
  refine ⟨_, (op_inD (room65 hr)).or ((op_inT (room65 hr)).or op_in_str), fun W pa σ G H s x y a b Q hs hp ra rb P => ?_⟩
  cases rb with
  | @lst p vs ds h n r =>
    have P : Pst X.K W X.mg pa σ (FD X.K Q) G H ((if shp a = true ∧ shp (.lst ds) = true then pure (.bl (ds.any fun z => eqvD z a)) else bad : PM D) s) := by cases ra <;> exact P
    split at P
    · rename_i hh
      have dy : Dp X.K H (.ref p) (.list (ds.map toPy)) := by
        have z := (((Rp.lst h n r : Rp X.K G (.ref p) (.lst ds)).mono hs).dp)
        simpa only [toPy, toPyL_map] using z
      have sy : SeqAt.shaped (.list (ds.map toPy)) = true := by
        have z : SeqAt.shaped (toPy (.lst ds)) = true := hh.2
        simpa only [toPy, toPyL_map] using z
      refine .inl ⟨toPy a, ds.map toPy, (ra.mono hs).dp, dy, hh.1, sy, ?_⟩
      rw [any_py]
      exact P G H (Ext.refl hs) hp _ (.bl _)
    · exact P.elim
  | @tup p vs ds h n r =>
    have P : Pst X.K W X.mg pa σ (FD X.K Q) G H ((if shp a = true ∧ shp (.tup ds) = true then pure (.bl (ds.any fun z => eqvD z a)) else bad : PM D) s) := by cases ra <;> exact P
    split at P
    · rename_i hh
      have dy : Dp X.K H (.ref p) (.tuple (ds.map toPy)) := by
        have z := (((Rp.tup h n r : Rp X.K G (.ref p) (.tup ds)).mono hs).dp)
        simpa only [toPy, toPyL_map] using z
      have sy : SeqAt.shaped (.tuple (ds.map toPy)) = true := by
        have z : SeqAt.shaped (toPy (.tup ds)) = true := hh.2
        simpa only [toPy, toPyL_map] using z
      refine .inr (.inl ⟨toPy a, ds.map toPy, (ra.mono hs).dp, dy, hh.1, sy, ?_⟩)
      rw [any_py]
      exact P G H (Ext.refl hs) hp _ (.bl _)
    · exact P.elim
  | str z =>
    cases ra with
    | str y => exact .inr (.inr ⟨y, z, rfl, rfl, P G H (Ext.refl hs) hp _ (.bl _)⟩)
    | _ => exact P.elim
  | _ => cases ra <;> exact P.elim
theorem od_notIn (hr : Room k X.A) : OpD X (compareOp .NotIn) notInD := by
  refine ⟨_, (op_notInD (room65 hr)).or (op_notInT (room65 hr)), fun W pa σ G H s x y a b Q hs hp ra rb P => ?_⟩
  cases rb with
  | @lst p vs ds h n r =>
    have P : Pst X.K W X.mg pa σ (FD X.K Q) G H ((if shp a = true ∧ shp (.lst ds) = true then pure (.bl (!ds.any fun z => eqvD z a)) else bad : PM D) s) := by cases ra <;> exact P
    split at P
    · rename_i hh
      have dy : Dp X.K H (.ref p) (.list (ds.map toPy)) := by
        have z := (((Rp.lst h n r : Rp X.K G (.ref p) (.lst ds)).mono hs).dp)
        simpa only [toPy, toPyL_map] using z
      have sy : SeqAt.shaped (.list (ds.map toPy)) = true := by
        have z : SeqAt.shaped (toPy (.lst ds)) = true := hh.2
        simpa only [toPy, toPyL_map] using z
      refine .inl ⟨toPy a, ds.map toPy, (ra.mono hs).dp, dy, hh.1, sy, ?_⟩
      rw [any_py]
      exact P G H (Ext.refl hs) hp _ (.bl _)
    · exact P.elim
  | @tup p vs ds h n r =>
    have P : Pst X.K W X.mg pa σ (FD X.K Q) G H ((if shp a = true ∧ shp (.tup ds) = true then pure (.bl (!ds.any fun z => eqvD z a)) else bad : PM D) s) := by cases ra <;> exact P
    split at P
    · rename_i hh
      have dy : Dp X.K H (.ref p) (.tuple (ds.map toPy)) := by
        have z := (((Rp.tup h n r : Rp X.K G (.ref p) (.tup ds)).mono hs).dp)
        simpa only [toPy, toPyL_map] using z
      have sy : SeqAt.shaped (.tuple (ds.map toPy)) = true := by
        have z : SeqAt.shaped (toPy (.tup ds)) = true := hh.2
        simpa only [toPy, toPyL_map] using z
      refine .inr ⟨toPy a, ds.map toPy, (ra.mono hs).dp, dy, hh.1, sy, ?_⟩
      rw [any_py]
      exact P G H (Ext.refl hs) hp _ (.bl _)
    · exact P.elim
  | _ => cases ra <;> exact P.elim

/-! ### a <= b <= c -/
theorem ev_chain {W : WX} {pa : Option Addr} {Γ : List Sl} {pos : Pos} {op op' : CmpOp} {g g' : D → D → PM D} {a b c : Expr} {ma mb mc : PM D} (ho : OpD X (compareOp op) g) (ho' : OpD X (compareOp op') g') (ha : EV X W pa Γ a ma) (hb : EV X W pa Γ b mb) (hc : EV X W pa Γ c mc)
    (hm : lastMarks [op, op'] [b, c] = false := by with_unfolding_all rfl) : EV X W pa Γ (.Compare a [op, op'] [b, c] pos) (ma >>= fun x => mb >>= fun y => g x y >>= fun r => asB r >>= fun t => if t = true then mc >>= fun z => g' y z else pure (.bl false)) := by
  obtain ⟨r, h1, h2⟩ := ho
  obtain ⟨r', h1', h2'⟩ := ho'
  refine pe_imp (pe_chain h1 h1' ha hb hc hm) fun σ H Q ⟨G0, H0, G, s, E, P⟩ =>
    ⟨G0, H0, G, s, E, P.bind.imp fun G1 H1 a s1 x1 p1 P1 v rv => ⟨G0, H0, G1, s1, E.step x1 p1, P1.bind.imp fun G2 H2 b s2 x2 p2 P2 w rw => ?_⟩⟩
  refine h2 W pa σ G2 H2 s2 v w a b _ x2.sub p2 (rv.mono x2.g) rw (P2.bind.imp fun G3 H3 d s3 x3 p3 P3 u ru => ?_)
  cases ru with
  | bl t =>
    refine ⟨t, rfl, ?_⟩
    have P4 := (P3.bind).now x3.sub p3
    cases t with
    | false => exact (show Q (.bl false) H3 from P4.now x3.sub p3 _ (.bl _))
    | true =>
      refine (show evT X W pa Γ mc σ H3 _ from ⟨G0, H0, G3, s3, ((E.step x1 p1).step x2 p2).step x3 p3, (P4.bind : Pst X.K W X.mg pa σ _ G3 H3 (mc s3)).imp fun G5 H5 z s5 x5 p5 P5 u' ru' => ?_⟩)
      exact h2' W pa σ G5 H5 s5 w u' b z Q x5.sub p5 (rw.mono (x3.g.trans x5.g)) ru' P5
  | _ => exact P3.elim

/-! ### subscripts -/
def getD : D → D → PM D
  | .lst xs, .int i => match atI xs i with | some d => pure d | none => bad
  | .tup xs, .int i => match atI xs i with | some d => pure d | none => bad
  | .str z, .int i => if z.length ≤ lim then (match atI z.cps.toList i with | some c => pure (.str ⟨#[c]⟩) | none => bad) else bad
  | _, _ => bad
theorem atI_rp {K : PySem.W.Frag} {G : Hp} {vs : List V} {ds : List D} (h : RpL K G vs ds) {i : Int} {d : D} (e : atI ds i = some d) : ∃ v, atI vs i = some v ∧ Rp K G v d := by
  unfold atI at e ⊢
  rw [h.1]
  cases q : ixN ds.length i with
  | none => rw [q] at e; cases e
  | some j =>
    rw [q] at e
    exact h.get e
theorem ev_ix {W : WX} {pa : Option Addr} {Γ : List Sl} {pos : Pos} {a b : Expr} {ma mb : PM D} (ha : EV X W pa Γ a ma) (hb : EV X W pa Γ b mb) (hs : PlainIx b) : EV X W pa Γ (.Subscript a b pos) (ma >>= fun x => mb >>= fun y => getD x y) :=
  pe_imp (pe_ix ix_seq ha hb hs) fun σ H Q ⟨G0, H0, G, s, E, P⟩ =>
    ⟨G0, H0, G, s, E, P.bind.imp fun G1 H1 a s1 x1 p1 P1 v rv => ⟨G0, H0, G1, s1, E.step x1 p1, P1.bind.imp fun G2 H2 b s2 x2 p2 P2 w rw => by
      have rv := rv.mono x2.g
      cases rv with
      | lst h n r =>
        cases rw with
        | int i =>
          rename_i ds
          have P2 : Pst X.K W X.mg pa σ (FD X.K Q) G2 H2 ((match atI ds i with | some d => pure d | none => bad : PM D) s2) := P2
          cases e : atI ds i with
          | none => rw [e] at P2; exact P2.elim
          | some d =>
            rw [e] at P2
            obtain ⟨u, e', ru⟩ := atI_rp ⟨n, r⟩ e
            exact .inl ⟨_, _, i, u, rfl, rfl, SqL.of (x2.sub _ _ h), e', P2 G2 H2 (Ext.refl x2.sub) p2 u ru⟩
        | _ => exact P2.elim
      | tup h n r =>
        cases rw with
        | int i =>
          rename_i ds
          have P2 : Pst X.K W X.mg pa σ (FD X.K Q) G2 H2 ((match atI ds i with | some d => pure d | none => bad : PM D) s2) := P2
          cases e : atI ds i with
          | none => rw [e] at P2; exact P2.elim
          | some d =>
            rw [e] at P2
            obtain ⟨u, e', ru⟩ := atI_rp ⟨n, r⟩ e
            exact .inr (.inl ⟨_, _, i, u, rfl, rfl, sameT x2.sub h, e', P2 G2 H2 (Ext.refl x2.sub) p2 u ru⟩)
        | _ => exact P2.elim
      | str z =>
        cases rw with
        | int i =>
          have P2 : Pst X.K W X.mg pa σ (FD X.K Q) G2 H2 ((if z.length ≤ lim then (match atI z.cps.toList i with | some c => pure (.str ⟨#[c]⟩) | none => bad) else bad : PM D) s2) := P2
          split at P2
          · rename_i hl
            cases e : atI z.cps.toList i with
            | none => rw [e] at P2; exact P2.elim
            | some c =>
              rw [e] at P2
              exact .inr (.inr ⟨z, i, c, rfl, rfl, lim_le hl, e, P2 G2 H2 (Ext.refl x2.sub) p2 _ (.str _)⟩)
          · exact P2.elim
        | _ => exact P2.elim
      | _ => exact P2.elim⟩⟩
/-- the bounds of a slice -/
abbrev EO (X : Cx) (W : WX) (pa : Option Addr) (Γ : List Sl) (e : Option Expr) (m : PM (Option Int)) : Prop := PO X e (fun σ H Q => ∃ G0 H0 G s, Nv X.K pa G0 H0 G H σ Γ s ∧ Pst X.K W X.mg pa σ (fun _ H' o _ => Q o H') G H (m s))
theorem po_imp {e : Option Expr} {t t' : TO} (h : PO X e t) (i : ∀ σ H Q, t' σ H Q → t σ H Q) : PO X e t' := ⟨fun pins s σ H Q I q => h.run pins s σ H Q I (i σ H Q q)⟩
def asI : D → PM (Option Int)
  | .int i => pure (some i)
  | _ => bad
theorem eo_none {W : WX} {pa : Option Addr} {Γ : List Sl} : EO X W pa Γ none (pure none) := po_imp po_none fun σ H Q ⟨G0, H0, G, s, E, P⟩ => P.now E.sub E.ps
theorem eo_some {W : WX} {pa : Option Addr} {Γ : List Sl} {e : Expr} {m : PM D} (h : EV X W pa Γ e m) : EO X W pa Γ (some e) (m >>= asI) := po_imp (po_some h) fun σ H Q ⟨G0, H0, G, s, E, P⟩ =>
  ⟨G0, H0, G, s, E, P.bind.imp fun G1 H1 a s1 x1 p1 P1 v rv => by
    cases rv with
    | int i => exact ⟨i, rfl, P1.now x1.sub p1⟩
    | _ => exact P1.elim⟩
def cutD (xs : List D) (lo hi : Option Int) : List D := (xs.drop (HT.sIx xs.length 0 lo)).take (HT.sIx xs.length xs.length hi - HT.sIx xs.length 0 lo)
def sliceD : D → Option Int → Option Int → PM D
  | .lst xs, lo, hi => mkL (cutD xs lo hi)
  | .tup xs, lo, hi => mkT (cutD xs lo hi)
  | .str z, lo, hi => if z.length ≤ lim then pure (.str (cutS z lo hi)) else bad
  | _, _, _ => bad
theorem cut_rp {K : PySem.W.Frag} {G : Hp} {vs : List V} {ds : List D} (h : RpL K G vs ds) (lo hi : Option Int) : RpL K G (cutV vs lo hi) (cutD ds lo hi) := by
  unfold cutV cutD
  rw [h.1]
  exact (h.drop _).take _
theorem ev_slice {W : WX} {pa : Option Addr} {Γ : List Sl} {pos p2 : Pos} {a : Expr} {lo hi : Option Expr} {ma : PM D} {ml mh : PM (Option Int)} (ha : EV X W pa Γ a ma) (hl : EO X W pa Γ lo ml) (hh : EO X W pa Γ hi mh) :
    EV X W pa Γ (.Subscript a (.Slice lo hi none p2) pos) (ma >>= fun x => ml >>= fun l => mh >>= fun u => sliceD x l u) :=
  pe_imp (pe_slice (SlR.or sl_list (SlR.or sl_tupA sl_str)) ha hl hh) fun σ H Q ⟨G0, H0, G, s, E, P⟩ =>
    ⟨G0, H0, G, s, E, P.bind.imp fun G1 H1 a s1 x1 p1 P1 v rv => ⟨G0, H0, G1, s1, E.step x1 p1, P1.bind.imp fun G2 H2 l s2 x2 p2 P2 => ⟨G0, H0, G2, s2, (E.step x1 p1).step x2 p2, P2.bind.imp fun G3 H3 u s3 x3 p3 P3 => by
      have rv := rv.mono (x2.g.trans x3.g)
      cases rv with
      | lst h n r =>
        rename_i ds
        exact .inl ⟨_, _, rfl, SqL.of (x3.sub _ _ h), fun p np => mkL_use (P3 : Pst X.K W X.mg pa σ (FD X.K Q) G3 H3 (mkL (cutD ds l u) s3)) (cut_rp ⟨n, r⟩ l u) x3.sub p3 np⟩
      | tup h n r =>
        rename_i ds
        have P3 : Pst X.K W X.mg pa σ (FD X.K Q) G3 H3 (mkT (cutD ds l u) s3) := P3
        refine .inr (.inl ⟨_, _, rfl, sameT x3.sub h, fun hw => ?_, fun hw p np => mkT_use P3 (cut_rp ⟨n, r⟩ l u) x3.sub p3 np⟩)
        have e : cutD ds l u = ds := by
          rw [n] at hw
          unfold cutD
          rw [hw.1, hw.2]
          simp
        rw [e] at P3
        exact mkT_same P3 h ⟨n, r⟩ x3.sub p3
      | str z =>
        have P3 : Pst X.K W X.mg pa σ (FD X.K Q) G3 H3 ((if z.length ≤ lim then pure (.str (cutS z l u)) else bad : PM D) s3) := P3
        split at P3
        · rename_i hz
          exact .inr (.inr ⟨z, rfl, lim_le hz, P3 G3 H3 (Ext.refl x3.sub) p3 _ (.str _)⟩)
        · exact P3.elim
      | _ => exact P3.elim⟩⟩⟩

/-! ### built-in functions -/
def lenF : List D → PM D
  | [.lst xs] => pure (.int xs.length)
  | [.tup xs] => pure (.int xs.length)
  | [.str z] => if z.length ≤ lim then pure (.int z.length) else bad
  | _ => bad
theorem rp1 {K : PySem.W.Frag} {G : Hp} {vs : List V} {d : D} (h : RpL K G vs [d]) : ∃ v, vs = [v] ∧ Rp K G v d := by
  have n := h.1
  cases vs with
  | nil => simp at n
  | cons v r =>
    cases r with
    | nil => exact ⟨v, rfl, h.tail.1⟩
    | cons _ _ => simp at n
theorem rp2 {K : PySem.W.Frag} {G : Hp} {vs : List V} {d e : D} (h : RpL K G vs [d, e]) : ∃ v w, vs = [v, w] ∧ Rp K G v d ∧ Rp K G w e := by
  have n := h.1
  cases vs with
  | nil => simp at n
  | cons v r =>
    obtain ⟨w, rfl, r2⟩ := rp1 h.tail.2
    exact ⟨v, w, rfl, h.tail.1, r2⟩
theorem cd_len : CallD X (.builtin "len") lenF := by
  refine ⟨_, call_len_seq.or call_len_str, fun W pa σ G H s xs ds Q hs hp rs P => ?_⟩
  match ds, rs, P with
  | [d], rs, P =>
    obtain ⟨v, rfl, r⟩ := rp1 rs
    cases r with
    | lst h n r => exact .inl ⟨_, _, rfl, .inl (SqL.of (hs _ _ h)), by rw [n]; exact P G H (Ext.refl hs) hp _ (.int _)⟩
    | tup h n r => exact .inl ⟨_, _, rfl, .inr (sameT hs h), by rw [n]; exact P G H (Ext.refl hs) hp _ (.int _)⟩
    | str z =>
      have P : Pst X.K W X.mg pa σ (FD X.K Q) G H ((if z.length ≤ lim then pure (.int z.length) else bad : PM D) s) := P
      split at P
      · rename_i hz
        exact .inr ⟨z, rfl, lim_le hz, P G H (Ext.refl hs) hp _ (.int _)⟩
      · exact P.elim
    | _ => exact P.elim
  | [], _, P => exact P.elim
  | a :: _ :: _, _, P => cases a <;> exact P.elim
def tupleF : List D → PM D
  | [.lst xs] => mkT xs
  | [.tup xs] => mkT xs
  | _ => bad
theorem cd_tuple : CallD X (.type "tuple") tupleF := by
  refine ⟨_, call_tuple_of, fun W pa σ G H s xs ds Q hs hp rs P => ?_⟩
  match ds, rs, P with
  | [d], rs, P =>
    obtain ⟨v, rfl, r⟩ := rp1 rs
    cases r with
    | lst h n r => exact ⟨_, _, rfl, .inl ⟨SqL.of (hs _ _ h), fun p np => mkT_use (P : Pst X.K W X.mg pa σ (FD X.K Q) G H (mkT _ s)) ⟨n, r⟩ hs hp np⟩⟩
    | tup h n r => exact ⟨_, _, rfl, .inr ⟨sameT hs h, mkT_same (P : Pst X.K W X.mg pa σ (FD X.K Q) G H (mkT _ s)) h ⟨n, r⟩ hs hp⟩⟩
    | _ => exact P.elim
  | [], _, P => exact P.elim
  | a :: _ :: _, _, P => cases a <;> exact P.elim
def listF : List D → PM D
  | [.lst xs] => mkL xs
  | [.tup xs] => mkL xs
  | _ => bad
theorem cd_list : CallD X (.type "list") listF := by
  refine ⟨_, call_list_of, fun W pa σ G H s xs ds Q hs hp rs P => ?_⟩
  match ds, rs, P with
  | [d], rs, P =>
    obtain ⟨v, rfl, r⟩ := rp1 rs
    cases r with
    | lst h n r => exact ⟨_, _, rfl, .inl (SqL.of (hs _ _ h)), fun p np => mkL_use (P : Pst X.K W X.mg pa σ (FD X.K Q) G H (mkL _ s)) ⟨n, r⟩ hs hp np⟩
    | tup h n r => exact ⟨_, _, rfl, .inr (sameT hs h), fun p np => mkL_use (P : Pst X.K W X.mg pa σ (FD X.K Q) G H (mkL _ s)) ⟨n, r⟩ hs hp np⟩
    | _ => exact P.elim
  | [], _, P => exact P.elim
  | a :: _ :: _, _, P => cases a <;> exact P.elim
def maxF : List D → PM D
  | [.int i, .int j] => pure (.int (if j > i then j else i))
  | _ => bad
def minF : List D → PM D
  | [.int i, .int j] => pure (.int (if j < i then j else i))
  | _ => bad
theorem cd_max (hc : X.calm = true) : CallD X (.builtin "max") maxF := by
  refine ⟨_, call_max2 hc, fun W pa σ G H s xs ds Q hs hp rs P => ?_⟩
  match ds, rs, P with
  | [.int i, .int j], rs, P =>
    obtain ⟨v, w, rfl, r1, r2⟩ := rp2 rs
    cases r1
    cases r2
    exact ⟨i, j, rfl, P G H (Ext.refl hs) hp _ (.int _)⟩
  | [], _, P => exact P.elim
  | [a], _, P => cases a <;> exact P.elim
  | a :: b :: c :: r, _, P => cases a <;> cases b <;> exact P.elim
  | [.non, b], _, P => exact P.elim
  | [.bl _, b], _, P => exact P.elim
  | [.str _, b], _, P => exact P.elim
  | [.tup _, b], _, P => exact P.elim
  | [.lst _, b], _, P => exact P.elim
  | [.dct _, b], _, P => exact P.elim
  | [.obj _ _, b], _, P => exact P.elim
  | [.int _, .non], _, P => exact P.elim
  | [.int _, .bl _], _, P => exact P.elim
  | [.int _, .str _], _, P => exact P.elim
  | [.int _, .tup _], _, P => exact P.elim
  | [.int _, .lst _], _, P => exact P.elim
  | [.int _, .dct _], _, P => exact P.elim
  | [.int _, .obj _ _], _, P => exact P.elim
theorem cd_min (hc : X.calm = true) : CallD X (.builtin "min") minF := by
  refine ⟨_, call_min2 hc, fun W pa σ G H s xs ds Q hs hp rs P => ?_⟩
  match ds, rs, P with
  | [.int i, .int j], rs, P =>
    obtain ⟨v, w, rfl, r1, r2⟩ := rp2 rs
    cases r1
    cases r2
    exact ⟨i, j, rfl, P G H (Ext.refl hs) hp _ (.int _)⟩
  | [], _, P => exact P.elim
  | [a], _, P => cases a <;> exact P.elim
  | a :: b :: c :: r, _, P => cases a <;> cases b <;> exact P.elim
  | [.non, b], _, P => exact P.elim
  | [.bl _, b], _, P => exact P.elim
  | [.str _, b], _, P => exact P.elim
  | [.tup _, b], _, P => exact P.elim
  | [.lst _, b], _, P => exact P.elim
  | [.dct _, b], _, P => exact P.elim
  | [.obj _ _, b], _, P => exact P.elim
  | [.int _, .non], _, P => exact P.elim
  | [.int _, .bl _], _, P => exact P.elim
  | [.int _, .str _], _, P => exact P.elim
  | [.int _, .tup _], _, P => exact P.elim
  | [.int _, .lst _], _, P => exact P.elim
  | [.int _, .dct _], _, P => exact P.elim
  | [.int _, .obj _ _], _, P => exact P.elim
/-- lists of bools, of ints -/
def blsOf : List D → Option (List Bool)
  | [] => some []
  | .bl b :: r => (blsOf r).map (b :: ·)
  | _ :: _ => none
def intsOf : List D → Option (List Int)
  | [] => some []
  | .int b :: r => (intsOf r).map (b :: ·)
  | _ :: _ => none
theorem blsOf_map : ∀ bs : List Bool, blsOf (bs.map D.bl) = some bs
  | [] => rfl
  | b :: r => by simp only [List.map_cons, blsOf, blsOf_map r, Option.map_some]
theorem intsOf_map : ∀ bs : List Int, intsOf (bs.map D.int) = some bs
  | [] => rfl
  | b :: r => by simp only [List.map_cons, intsOf, intsOf_map r, Option.map_some]
theorem blsOf_rp {K : PySem.W.Frag} {G : Hp} : ∀ {vs : List V} {ds : List D} {bs : List Bool}, RpL K G vs ds → blsOf ds = some bs → vs = bs.map V.bl
  | [], [], bs, _, e => by cases e; rfl
  | [], _ :: _, _, r, _ => absurd r.1 (by simp)
  | _ :: _, [], _, r, _ => absurd r.1 (by simp)
  | v :: vs, d :: ds, bs, r, e => by
    cases r.tail.1 with
    | bl b =>
      simp only [blsOf] at e
      cases q : blsOf ds with
      | none => rw [q] at e; cases e
      | some cs =>
        rw [q] at e
        cases e
        rw [blsOf_rp r.tail.2 q]
        rfl
    | _ => cases e
theorem intsOf_rp {K : PySem.W.Frag} {G : Hp} : ∀ {vs : List V} {ds : List D} {bs : List Int}, RpL K G vs ds → intsOf ds = some bs → vs = bs.map V.int
  | [], [], bs, _, e => by cases e; rfl
  | [], _ :: _, _, r, _ => absurd r.1 (by simp)
  | _ :: _, [], _, r, _ => absurd r.1 (by simp)
  | v :: vs, d :: ds, bs, r, e => by
    cases r.tail.1 with
    | int b =>
      simp only [intsOf] at e
      cases q : intsOf ds with
      | none => rw [q] at e; cases e
      | some cs =>
        rw [q] at e
        cases e
        rw [intsOf_rp r.tail.2 q]
        rfl
    | _ => cases e
def anyF : List D → PM D
  | [.lst xs] => match blsOf xs with | some bs => pure (.bl (bs.any id)) | none => bad
  | _ => bad
def allF : List D → PM D
  | [.lst xs] => match blsOf xs with | some bs => pure (.bl (bs.all id)) | none => bad
  | _ => bad
theorem cd_any (hc : X.calm = true) : CallD X (.builtin "any") anyF := by
  refine ⟨_, cr_any hc, fun W pa σ G H s xs ds Q hs hp rs P => ?_⟩
  match ds, rs, P with
  | [d], rs, P =>
    obtain ⟨v, rfl, r⟩ := rp1 rs
    cases r with
    | @lst a vs es h n r =>
      have P : Pst X.K W X.mg pa σ (FD X.K Q) G H ((match blsOf es with | some bs => pure (.bl (bs.any id)) | none => bad : PM D) s) := P
      cases e : blsOf es with
      | none => rw [e] at P; exact P.elim
      | some bs =>
        rw [e] at P
        exact ⟨_, bs, rfl, by rw [← blsOf_rp ⟨n, r⟩ e]; exact SqL.of (hs _ _ h), P G H (Ext.refl hs) hp _ (.bl _)⟩
    | _ => exact P.elim
  | [], _, P => exact P.elim
  | a :: _ :: _, _, P => cases a <;> exact P.elim
theorem cd_all (hc : X.calm = true) : CallD X (.builtin "all") allF := by
  refine ⟨_, cr_all hc, fun W pa σ G H s xs ds Q hs hp rs P => ?_⟩
  match ds, rs, P with
  | [d], rs, P =>
    obtain ⟨v, rfl, r⟩ := rp1 rs
    cases r with
    | @lst a vs es h n r =>
      have P : Pst X.K W X.mg pa σ (FD X.K Q) G H ((match blsOf es with | some bs => pure (.bl (bs.all id)) | none => bad : PM D) s) := P
      cases e : blsOf es with
      | none => rw [e] at P; exact P.elim
      | some bs =>
        rw [e] at P
        exact ⟨_, bs, rfl, by rw [← blsOf_rp ⟨n, r⟩ e]; exact SqL.of (hs _ _ h), P G H (Ext.refl hs) hp _ (.bl _)⟩
    | _ => exact P.elim
  | [], _, P => exact P.elim
  | a :: _ :: _, _, P => cases a <;> exact P.elim
/-- sorted of ints -/
def insI (x : Int) : List Int → List Int
  | [] => [x]
  | y :: r => if x ≤ y then x :: y :: r else y :: insI x r
def sortI : List Int → List Int
  | [] => []
  | x :: r => insI x (sortI r)
theorem insI_perm (x : Int) : ∀ l, (insI x l).Perm (x :: l)
  | [] => .refl _
  | y :: r => by
    unfold insI
    split
    · exact .refl _
    · exact ((insI_perm x r).cons y).trans (.swap x y r)
theorem sortI_perm : ∀ l, (sortI l).Perm l
  | [] => .refl _
  | x :: r => (insI_perm x (sortI r)).trans ((sortI_perm r).cons x)
theorem insI_sorted (x : Int) : ∀ l, l.Pairwise (· ≤ ·) → (insI x l).Pairwise (· ≤ ·)
  | [], _ => by simp [insI]
  | y :: r, h => by
    unfold insI
    have h' := List.pairwise_cons.mp h
    split
    · rename_i hxy
      refine List.pairwise_cons.mpr ⟨fun z hz => ?_, h⟩
      rcases List.mem_cons.mp hz with rfl | hz
      · exact hxy
      · exact Int.le_trans hxy (h'.1 z hz)
    · rename_i hxy
      refine List.pairwise_cons.mpr ⟨fun z hz => ?_, insI_sorted x r h'.2⟩
      have hz' := (insI_perm x r).mem_iff.mp hz
      rcases List.mem_cons.mp hz' with rfl | hz'
      · omega
      · exact h'.1 z hz'
theorem sortI_sorted : ∀ l, (sortI l).Pairwise (· ≤ ·)
  | [] => .nil
  | x :: r => insI_sorted x _ (sortI_sorted r)
theorem sorted_eq {l r : List Int} (p : l.Perm r) (hl : l.Pairwise (· ≤ ·)) (hr : r.Pairwise (· ≤ ·)) : l = r :=
  List.Perm.eq_of_pairwise (fun a b _ _ h1 h2 => Int.le_antisymm h1 h2) hl hr p
def sortedF : List D → PM D
  | [.lst xs] => match intsOf xs with | some ns => mkL ((sortI ns).map D.int) | none => bad
  | _ => bad
theorem rpl_ints {K : PySem.W.Frag} {G : Hp} (ns : List Int) : RpL K G (ns.map V.int) (ns.map D.int) := RpL.map_of ns fun x _ => .int x
theorem cd_sortedI : CallD X (.builtin "sorted") sortedF := by
  refine ⟨_, cr_sortedI, fun W pa σ G H s xs ds Q hs hp rs P => ?_⟩
  match ds, rs, P with
  | [d], rs, P =>
    obtain ⟨v, rfl, r⟩ := rp1 rs
    cases r with
    | @lst a vs es h n r =>
      have P : Pst X.K W X.mg pa σ (FD X.K Q) G H ((match intsOf es with | some ns => mkL ((sortI ns).map D.int) | none => bad : PM D) s) := P
      cases e : intsOf es with
      | none => rw [e] at P; exact P.elim
      | some bs =>
        rw [e] at P
        refine ⟨_, bs, rfl, by rw [← intsOf_rp ⟨n, r⟩ e]; exact SqL.of (hs _ _ h), fun ns' p q1 q2 np => ?_⟩
        have e2 : ns' = sortI bs := sorted_eq (q1.trans (sortI_perm bs).symm) q2 (sortI_sorted bs)
        rw [e2]
        exact mkL_use (P : Pst X.K W X.mg pa σ (FD X.K Q) G H (mkL _ s)) (rpl_ints _) hs hp np
    | _ => exact P.elim
  | [], _, P => exact P.elim
  | a :: _ :: _, _, P => cases a <;> exact P.elim
/-! repr of data -/
mutual
def okD : D → Bool
  | .non => true
  | .bl _ => true
  | .int i => decide (i.natAbs.log2 < 1920)
  | .str _ => true
  | .tup xs => okDL xs
  | .lst xs => okDL xs
  | .dct _ => false
  | .obj _ _ => false
def okDL : List D → Bool
  | [] => true
  | x :: xs => okD x && okDL xs
end
mutual
theorem okD_py : ∀ d : D, okD d = true → (toPy d).showable = true ∧ (toPy d).hasDict = false
  | .non, _ => ⟨rfl, rfl⟩
  | .bl _, _ => ⟨rfl, rfl⟩
  | .int i, h => ⟨by simpa [toPy, PyData.showable, okD] using h, rfl⟩
  | .str _, _ => ⟨rfl, rfl⟩
  | .tup xs, h => by
    have z := okDL_py xs (by simpa [okD] using h)
    exact ⟨by simpa [toPy, PyData.showable] using z.1, by simpa [toPy, PyData.hasDict] using z.2⟩
  | .lst xs, h => by
    have z := okDL_py xs (by simpa [okD] using h)
    exact ⟨by simpa [toPy, PyData.showable] using z.1, by simpa [toPy, PyData.hasDict] using z.2⟩
  | .dct _, h => by simp [okD] at h
  | .obj _ _, h => by simp [okD] at h
theorem okDL_py : ∀ ds : List D, okDL ds = true → PyData.showableAll (toPyL ds) = true ∧ PyData.hasDictAll (toPyL ds) = false
  | [], _ => ⟨rfl, rfl⟩
  | x :: xs, h => by
    simp only [okDL, Bool.and_eq_true] at h
    have z1 := okD_py x h.1
    have z2 := okDL_py xs h.2
    exact ⟨by simp [toPyL, PyData.showableAll, z1.1, z2.1], by simp [toPyL, PyData.hasDictAll, z1.2, z2.2]⟩
end
def reprF : List D → PM D
  | [d] => if okD d = true ∧ (toPy d).depth ≤ 60 ∧ (shown d).length ≤ lim then pure (.str (shown d)) else bad
  | _ => bad
def rRepr (K : PySem.W.Frag) : List V → Hp → VK → Prop := fun xs H Q => ∃ x d, xs = [x] ∧ Dp K H x d ∧ d.showable = true ∧ d.hasDict = false ∧ d.depth ≤ 60 ∧ d.shown.length ≤ sizeLine ∧ Q (.str d.shown) H
theorem call_reprD (hr : Room k X.A) (hg : X.A.guards = some []) : CallR X (.builtin "repr") (rRepr X.K) := by
  intro pins s σ H xs us Q I r h
  obtain ⟨x, d, rfl, dp, h1, h2, h3, h4, q⟩ := h
  obtain ⟨u, rfl, ru⟩ := vals1 r
  obtain ⟨as, rd⟩ := Dp.reads I d x u dp ru
  have hu := hr.un
  cases rd with
  | none => exact PySem.P.repr_of_none ⟨.str _, H, I.tok _, ⟨_, rfl⟩, q⟩
  | bool b => exact PySem.P.repr_of_bool ⟨.str _, H, I.tok _, ⟨_, rfl⟩, by cases b <;> exact q⟩
  | int i t => exact PySem.P.repr_of_int (by simpa [PyData.showable] using h1) ⟨.str _, H, I.tok _, ⟨_, rfl⟩, q⟩
  | str z t => exact PySem.P.repr_of_str ⟨.str _, H, I.tok _, ⟨_, rfl⟩, q⟩ h4
  | list a1 a2 a3 a4 => exact repr_of_reads' (.list a1 a2 a3 a4) h1 (fun e => by rw [h2] at e; cases e) hg (by omega) (fun _ _ e => e) (fun h' u tk hk => ⟨.str _, H, I.kept (t' := tk) hk, ⟨_, rfl⟩, q⟩) h4
  | tuple a1 a2 a3 a4 => exact repr_of_reads' (.tuple a1 a2 a3 a4) h1 (fun e => by rw [h2] at e; cases e) hg (by omega) (fun _ _ e => e) (fun h' u tk hk => ⟨.str _, H, I.kept (t' := tk) hk, ⟨_, rfl⟩, q⟩) h4
  | dict a1 a2 a3 a4 a5 => simp [PyData.hasDict] at h2
theorem cd_repr (hr : Room k X.A) (hg : X.A.guards = some []) : CallD X (.builtin "repr") reprF := by
  refine ⟨_, call_reprD hr hg, fun W pa σ G H s xs ds Q hs hp rs P => ?_⟩
  match ds, rs, P with
  | [d], rs, P =>
    obtain ⟨v, rfl, r⟩ := rp1 rs
    have P : Pst X.K W X.mg pa σ (FD X.K Q) G H ((if okD d = true ∧ (toPy d).depth ≤ 60 ∧ (shown d).length ≤ lim then pure (.str (shown d)) else bad : PM D) s) := P
    split at P
    · rename_i hh
      have z := okD_py d hh.1
      exact ⟨v, toPy d, rfl, (r.mono hs).dp, z.1, z.2, hh.2.1, lim_le hh.2.2, P G H (Ext.refl hs) hp _ (.str _)⟩
    · exact P.elim
  | [], _, P => exact P.elim
  | a :: _ :: _, _, P => exact P.elim
end
end EV

/-! EV 4: what is walked; comprehensions. -/
namespace EV
open PySem PySem.Spec PyProof.Rows L2

/-! ### enumerate(tuple) -/
theorem newEnumB {v : Value} {o : Obj} {H : Heap → Prop} (B : Begins v o H) :
    Meets (Builtin.«enumerate.__new__» ⟨[.type "enumerate", v], []⟩)
      (fun _ R s => H s.heap ∧ R (.ok (.ret (.ref (s.heap.push o).objs.size)))
        { s with heap := (s.heap.push o).push { cls := .type "enumerate", data := .fields #[.none, .bool false, .ref s.heap.objs.size, rawInt 0, .none, .none] } }) :=
  .of_wp fun prog w A R s h => by
    obtain ⟨hp, g, d, tk, os⟩ := s
    obtain ⟨h1, h⟩ := h
    have hsub := sub_enumerate
    have q1 : ∀ {A' : Around} {E : Value → Shared → Prop} {Q : Value → Shared → Prop}, Q (.ref hp.objs.size) ⟨hp.push o, g, d, tk, os⟩ → wpAny (model prog w) A' (pyIter v) Q E ⟨hp, g, d, tk, os⟩ :=
      fun q => B.iter prog w _ _ ⟨hp, g, d, tk, os⟩ _ h1 q
    wp_walk using q1
    refine wpAny_stack_any fun st => wpAny_pure ?_
    split
    · rename_i c _ _ _ _ _
      cases (c == Value.type "enumerate") <;> (wp_walk using q1; exact ⟨_, rfl, h⟩)
    · wp_walk using q1
      exact ⟨_, rfl, h⟩
theorem callEnumT {prog : Program} {w : World} {A : Around} {E : Value → Shared → Prop} {s : Shared} {l : Addr} {items : Array Value} {Q : Value → Shared → Prop} (hT : s.heap.IsTuple l items)
    (h : ∀ h', IsEnum h' (s.heap.objs.size + 1) s.heap.objs.size 0 .none → h'.IsTupleIter s.heap.objs.size l 0 →
      (∀ b o, s.heap.get? b = some o → h'.get? b = some o) → Q (.ref (s.heap.objs.size + 1)) { s with heap := h' }) :
    wpAny (model prog w) A (call (.type "enumerate") [.ref l]) Q E s := by
  refine callType_new F.called_enumerate (by decide) (F.typeCall_enumerate_1 _) (F.newCall_enumerate_1 _) (fun obj => F.args_object_init_2 obj _)
    F.entry_enumerate_new (newEnumB (begins_tuple l items)) ⟨hT, ?_⟩
  generalize ho : ({ cls := .type "tuple_iterator", data := .fields #[.ref l, .int 0 0] } : Obj) = ob
  have hf : ob.isFreed = false := by rw [← ho]; rfl
  have hz : (s.heap.push ob).objs.size = s.heap.objs.size + 1 := Heap.size_push ..
  show _ ∧ _
  rw [hz]
  generalize he0 : ({ cls := .type "enumerate", data := .fields #[.none, .bool false, .ref s.heap.objs.size, rawInt 0, .none, .none] } : Obj) = oe
  have hfe : oe.isFreed = false := by rw [← he0]; rfl
  have he : ((s.heap.push ob).push oe).get? (s.heap.objs.size + 1) = some oe := by
    have := Heap.get?_push_size (s.heap.push ob) (o := oe) hfe
    rw [hz] at this
    exact this
  have he2 : IsEnum ((s.heap.push ob).push oe) (s.heap.objs.size + 1) s.heap.objs.size 0 .none := by
    subst he0
    exact he
  refine ⟨⟨_, he2, rfl⟩, h _ he2 ?_ fun b o x => Heap.get?_push_of_some _ (Heap.get?_push_of_some _ x)⟩
  subst ho
  exact ⟨_, Heap.get?_push_of_some _ (Heap.get?_push_size _ hf), rfl, rfl⟩
/-- the tuple at a, each item in a new pair -/
def IteT (K : PySem.W.Frag) (a : Addr) : It :=
  ⟨fun i H => ∃ (xs : List V) (x : V), SqT K H a xs ∧ xs[i]? = some x,
    fun i H v H' => ∃ T x, v = .ref T ∧ H T = none ∧ H' = upd H T (.tup [.int (i : Nat), x]) ∧ ∀ xs, SqT K H a xs → xs[i]? = some x,
    fun i H => ∃ xs : List V, SqT K H a xs ∧ xs.length ≤ i⟩
theorem turnEnumT {P : Program} {w : World} {K : PySem.W.Frag} {elts : List Expr} {kk : Nat} {tpos : Pos} (a e it : Addr) :
    Turn P w K (.Tuple elts kk tpos) (IteT K a) [e, it] e (fun i h => (∃ old, IsEnum h e it ((i : Nat) : Int) old) ∧ h.IsTupleIter it a i ∧ e ≠ it ∧ a ≠ it ∧ a ≠ e) where
  mem := by simp
  obj := fun i h st b hb => by
    obtain ⟨⟨old, he⟩, ⟨o, ho, hc, hd⟩, _⟩ := st
    have e' : b = e ∨ b = it := by simpa using hb
    rcases e' with z | z
    · rw [z]
      exact ⟨_, he, fun v q => nomatch q⟩
    · rw [z]
      exact ⟨o, ho, fun v q => by rw [hd] at q; cases q⟩
  keep := fun i h h' st k => by
    obtain ⟨⟨old, he⟩, hi, hne⟩ := st
    exact ⟨⟨old, k e (by simp) _ he⟩, hi.at fun o q => k it (by simp) o q, hne⟩
  item := by
    intro X hP hw hK hc i pins s σ H E I hf st hg
    subst hP hw hK
    obtain ⟨⟨old, he⟩, hit, hne, hai, hae⟩ := st
    obtain ⟨xs, x, hq, hx⟩ := hg
    obtain ⟨its, rv, p, hz⟩ := I.tuple hq
    have hlt : i < its.toArray.size := by
      have h1 := (List.getElem?_eq_some_iff.mp hx).1
      have h2 := rv.length
      simp only [List.size_toArray]
      omega
    have hel : e < s.heap.objs.size := Heap.lt_size he
    have hil : it < s.heap.objs.size := by
      obtain ⟨_, q, _⟩ := hit
      exact Heap.lt_size q
    refine wpAny_pyNext_enum_itemD (Draws.tuple (prog := X.prog) (w := X.w) (A := X.A.in1) (I.ok.hd hc) it a hai its.toArray) he ⟨hit, p⟩ hlt hne (by simp [hne, Ne.symm hae]) fun u h' tk hu ho hit' hT hsz hk => ?_
    obtain ⟨u', hu', ru'⟩ := rv.get hx
    have eu : u = u' := by
      have z : its[i]? = some u := by simpa using hu
      rw [hu'] at z
      exact (Option.some.inj z).symm
    subst eu
    refine ⟨_, rfl, wpAny_letOwnedTupleGo_enum (s := { s with heap := h', toks := tk + 1 }) ho fun h'' he' sb => ?_⟩
    have hT2 : h''.get? s.heap.objs.size = some { cls := .type "tuple", data := .seq #[.int i tk, u] } := (sb.2 _ (Nat.ne_of_gt hel)).trans hT
    have new : ObjOk X.prog X.w (upd H s.heap.objs.size (.tup [.int (i : Nat), x])) h'' s.heap.objs.size (.tup [.int (i : Nat), x]) :=
      ⟨(by show 2 ≤ sizeLine; decide), [.int i tk, u], .cons ⟨_, rfl⟩ (.cons ru' .nil), ⟨_, hT2, rfl, _, rfl⟩⟩
    have I1 : Inv X pins σ (upd H s.heap.objs.size (.tup [.int (i : Nat), x])) { s with heap := h'', toks := tk + 1 } := by
      refine I.turnedNew (ch := [e, it]) (fun b ob hb q => ?_) hf (Nat.le_refl _) new
      have n1 : b ≠ e := fun z => hb (by simp [z])
      have n2 : b ≠ it := fun z => hb (by simp [z])
      exact (sb.2 b n1).trans (hk b ob n1 n2 q)
    refine ⟨.ref s.heap.objs.size, _, I1, rfl, ⟨_, x, rfl, I.hok.fresh (Nat.le_refl _), rfl, fun ys hy => ?_⟩, ⟨⟨u, ?_⟩, ?_, hne, hai, hae⟩, fun b hb => ?_⟩
    · rw [I.tuple_inj hy hq]
      exact hx
    · have e1 : ((i + 1 : Nat) : Int) = (i : Int) + 1 := by omega
      rw [e1]
      exact he'
    · exact hit'.1.at fun o q => (sb.2 it (Ne.symm hne)).trans q
    · have hb' : b < s.heap.objs.size := by
        have e' : b = e ∨ b = it := by simpa using hb
        rcases e' with z | z <;> (rw [z]; assumption)
      rw [upd_ne (Nat.ne_of_lt hb')]
      exact (hf b hb).1
  done := by
    intro X hP hw hK hc i pins s σ H E I hf st hg
    subst hP hw hK
    obtain ⟨⟨old, he⟩, hit, hne, hai, hae⟩ := st
    obtain ⟨xs, hq, hx⟩ := hg
    obtain ⟨its, rv, p, hz⟩ := I.tuple hq
    obtain ⟨f0, f1, f2, f3, f4, f5⟩ := hf it (by simp)
    have hl := rv.length
    have D0 := Draws.tuple (prog := X.prog) (w := X.w) (A := X.A.in1) (I.ok.hd hc) it a hai its.toArray
    have D : Draws X.prog X.w X.A.in1 it [it, a] i (fun _ _ => True) (fun j h => j = i ∧ h.IsTupleIter it a i ∧ h.IsTuple a its.toArray) := by
      refine ⟨fun _ _ st => ?_, fun _ _ _ st hk => ⟨st.1, st.2.1.at fun o e => hk it (by simp) o e, st.2.2.at fun o e => hk a (by simp) o e⟩, fun j s Q E hj st => ?_, fun s Q E st hE => ?_⟩
      · obtain ⟨_, ⟨o, ho, _⟩, _⟩ := st
        exact ⟨o, ho⟩
      · have := st.1
        omega
      · exact wpAny_nextOf_tuple_end (I.ok.hd hc) st.2.1 st.2.2 (by simp; omega) hE
    exact wpAny_pyNext_enum_endD D he ⟨rfl, hit, p⟩ fun h' eb => ⟨rfl, I.turned (t' := s.toks) (fun b o hb q => eb b o hb q) f0 f1 f3 f4 f5⟩
  self := fun A i s Q E st h => by
    obtain ⟨⟨_, he⟩, _⟩ := st
    exact wpAny_pyIter_enum he h

/-! ### what is walked, as a list -/
def IterOk (K : PySem.W.Frag) (J : It) (G : Hp) (xs : List D) : Prop := ∀ G' H', Same G G' → Same G' H' →
  (∀ (i : Nat) x, xs[i]? = some x → J.go i H' ∧ ∀ v H'', J.yld i H' v H'' → ∃ G'', Ext none G' H' G'' H'' ∧ Rp K G'' v x) ∧ (∀ i : Nat, xs.length ≤ i → J.stop i H')
def evI (X : Cx) (W : WX) (pa : Option Addr) (Γ : List Sl) (m : PM (List D)) : TI := fun σ H R => ∃ G0 H0 G s, Nv X.K pa G0 H0 G H σ Γ s ∧ Pst X.K W X.mg pa σ (fun G' H' xs _ => ∀ J, IterOk X.K J G' xs → R J H') G H (m s)
abbrev EI (X : Cx) (W : WX) (pa : Option Addr) (Γ : List Sl) (tg iter : Expr) (m : PM (List D)) : Prop := PI X tg iter (evI X W pa Γ m)
theorem pi_imp {X : Cx} {tg iter : Expr} {t t' : TI} (h : PI X tg iter t) (i : ∀ σ H Q, t' σ H Q → t σ H Q) : PI X tg iter t' := ⟨fun pins s σ H Q I q => h.run pins s σ H Q I (i σ H Q q)⟩
theorem Ext.any {pa : Option Addr} {G H G' H' : Hp} (x : Ext none G H G' H') : Ext pa G H G' H' := ⟨x.g, fun a o e _ => x.h a o e (fun z => by cases z), x.t, x.n, x.sub⟩
theorem PenOk.ext {pa : Option Addr} {G H G' H' : Hp} {s : List Int} (p : PenOk pa G H s) (x : Ext Option.none G H G' H') : PenOk pa G' H' s := fun q e => by
  obtain ⟨h1, h2⟩ := p q e
  exact ⟨x.n _ _ h2 h1, x.h _ _ h2 (fun z => by cases z)⟩
section
variable {K : PySem.W.Frag} {G : Hp} {vs : List V} {ds : List D} {a : Addr}
theorem iter_list (h : G a = some (.lst vs)) (r : RpL K G vs ds) : IterOk K (Itl K a) G ds := fun G' H' g s => by
  refine ⟨fun i x e => ?_, fun i hi => ⟨vs, SqL.of (s _ _ (g _ _ h)), by rw [r.1]; exact hi⟩⟩
  obtain ⟨v, e', rv⟩ := r.get e
  refine ⟨⟨vs, v, SqL.of (s _ _ (g _ _ h)), e'⟩, fun w H'' y => ?_⟩
  obtain ⟨rfl, y⟩ := y
  have e2 := y vs (SqL.of (s _ _ (g _ _ h)))
  rw [e'] at e2
  cases e2
  exact ⟨G', Ext.refl s, rv.mono g⟩
theorem iter_tup (h : SqT K G a vs) (r : RpL K G vs ds) : IterOk K (Itt K a) G ds := fun G' H' g s => by
  refine ⟨fun i x e => ?_, fun i hi => ⟨vs, sameT s (sameT g h), by rw [r.1]; exact hi⟩⟩
  obtain ⟨v, e', rv⟩ := r.get e
  refine ⟨⟨vs, v, sameT s (sameT g h), e'⟩, fun w H'' y => ?_⟩
  obtain ⟨rfl, y⟩ := y
  have e2 := y vs (sameT s (sameT g h))
  rw [e'] at e2
  cases e2
  exact ⟨G', Ext.refl s, rv.mono g⟩
def pairsFrom : Nat → List D → List D
  | _, [] => []
  | n, x :: r => .tup [.int n, x] :: pairsFrom (n + 1) r
theorem pairsFrom_get : ∀ (xs : List D) (n i : Nat) (y : D), (pairsFrom n xs)[i]? = some y → ∃ x, xs[i]? = some x ∧ y = .tup [.int ((n + i : Nat) : Int), x]
  | [], _, _, _, h => by simp [pairsFrom] at h
  | x :: r, n, 0, y, h => by
    simp [pairsFrom] at h
    exact ⟨x, rfl, h.symm⟩
  | x :: r, n, i + 1, y, h => by
    simp only [pairsFrom, List.getElem?_cons_succ] at h
    obtain ⟨z, h1, h2⟩ := pairsFrom_get r (n + 1) i y h
    refine ⟨z, by simpa using h1, ?_⟩
    rw [h2]
    have : n + 1 + i = n + (i + 1) := by omega
    rw [this]
theorem pairsFrom_len : ∀ (xs : List D) (n : Nat), (pairsFrom n xs).length = xs.length
  | [], _ => rfl
  | x :: r, n => by simp [pairsFrom, pairsFrom_len r]
theorem pairNew {G' H' : Hp} {T : Addr} {u v : V} {d e : D} (s : Same G' H') (nT : H' T = none) (r1 : Rp K G' u d) (r2 : Rp K G' v e) : ∃ G'', Ext none G' H' G'' (upd H' T (.tup [u, v])) ∧ Rp K G'' (.ref T) (.tup [d, e]) := by
  have x := Ext.new (pa := none) s nT (.tup [u, v])
  exact ⟨_, x, .mkT (SqT.of upd_same) (.cons (r1.mono x.g) (.cons (r2.mono x.g) .nil))⟩
theorem iter_enumL (h : G a = some (.lst vs)) (r : RpL K G vs ds) : IterOk K (Ite K a) G (pairsFrom 0 ds) := fun G' H' g s => by
  have hq := SqL.of (K := K) (s _ _ (g _ _ h))
  refine ⟨fun i x e => ?_, fun i hi => ⟨vs, hq, by rw [r.1, ← pairsFrom_len ds 0]; exact hi⟩⟩
  obtain ⟨z, e1, rfl⟩ := pairsFrom_get ds 0 i x e
  obtain ⟨v, e', rv⟩ := r.get e1
  refine ⟨⟨vs, v, hq, e'⟩, fun w H'' y => ?_⟩
  obtain ⟨T, u, rfl, nT, rfl, y⟩ := y
  have e2 := y vs hq
  rw [e'] at e2
  cases e2
  rw [Nat.zero_add]
  exact pairNew s nT (.int _) (rv.mono g)
theorem iter_enumT (h : SqT K G a vs) (r : RpL K G vs ds) : IterOk K (IteT K a) G (pairsFrom 0 ds) := fun G' H' g s => by
  have hq := sameT s (sameT g h)
  refine ⟨fun i x e => ?_, fun i hi => ⟨vs, hq, by rw [r.1, ← pairsFrom_len ds 0]; exact hi⟩⟩
  obtain ⟨z, e1, rfl⟩ := pairsFrom_get ds 0 i x e
  obtain ⟨v, e', rv⟩ := r.get e1
  refine ⟨⟨vs, v, hq, e'⟩, fun w H'' y => ?_⟩
  obtain ⟨T, u, rfl, nT, rfl, y⟩ := y
  have e2 := y vs hq
  rw [e'] at e2
  cases e2
  rw [Nat.zero_add]
  exact pairNew s nT (.int _) (rv.mono g)
def zipT : List D → List D → List D
  | x :: xs, y :: ys => .tup [x, y] :: zipT xs ys
  | _, _ => []
theorem zipT_get : ∀ (xs ys : List D) (i : Nat) (p : D), (zipT xs ys)[i]? = some p → ∃ x y, xs[i]? = some x ∧ ys[i]? = some y ∧ p = .tup [x, y]
  | [], _, _, _, h => by simp [zipT] at h
  | _ :: _, [], _, _, h => by simp [zipT] at h
  | x :: xs, y :: ys, 0, p, h => by
    simp [zipT] at h
    exact ⟨x, y, rfl, rfl, h.symm⟩
  | x :: xs, y :: ys, i + 1, p, h => by
    simp only [zipT, List.getElem?_cons_succ] at h
    obtain ⟨a, b, h1, h2, h3⟩ := zipT_get xs ys i p h
    exact ⟨a, b, by simpa using h1, by simpa using h2, h3⟩
theorem zipT_len : ∀ (xs ys : List D) (i : Nat), (zipT xs ys).length ≤ i → xs.length ≤ i ∨ ys.length ≤ i
  | [], _, _, _ => .inl (Nat.zero_le _)
  | _ :: _, [], _, _ => .inr (Nat.zero_le _)
  | x :: xs, y :: ys, 0, h => by simp [zipT] at h
  | x :: xs, y :: ys, i + 1, h => by
    have := zipT_len xs ys i (by simpa [zipT] using h)
    simpa using this
theorem iter_zipL {b : Addr} {ws : List V} {es : List D} (h : G a = some (.lst vs)) (r : RpL K G vs ds) (h' : G b = some (.lst ws)) (r' : RpL K G ws es) : IterOk K (Itz K a b) G (zipT ds es) := fun G' H' g s => by
  have hq := SqL.of (K := K) (s _ _ (g _ _ h))
  have hq' := SqL.of (K := K) (s _ _ (g _ _ h'))
  refine ⟨fun i x e => ?_, fun i hi => ⟨vs, ws, hq, hq', by rw [r.1, r'.1]; exact zipT_len ds es i hi⟩⟩
  obtain ⟨z1, z2, e1, e2, rfl⟩ := zipT_get ds es i x e
  obtain ⟨v, ev, rv⟩ := r.get e1
  obtain ⟨w, ew, rw'⟩ := r'.get e2
  refine ⟨⟨vs, ws, v, w, hq, hq', ev, ew⟩, fun q H'' y => ?_⟩
  obtain ⟨T, u1, u2, rfl, nT, rfl, y1, y2⟩ := y
  have q1 := y1 vs hq
  have q2 := y2 ws hq'
  rw [ev] at q1
  rw [ew] at q2
  cases q1
  cases q2
  exact pairNew s nT (rv.mono g) (rw'.mono g)
theorem iter_zipT {b : Addr} {ws : List V} {es : List D} (h : SqT K G a vs) (r : RpL K G vs ds) (h' : SqT K G b ws) (r' : RpL K G ws es) : IterOk K (RZ.ItzT K a b) G (zipT ds es) := fun G' H' g s => by
  have hq := sameT s (sameT g h)
  have hq' := sameT s (sameT g h')
  refine ⟨fun i x e => ?_, fun i hi => ⟨vs, ws, hq, hq', by rw [r.1, r'.1]; exact zipT_len ds es i hi⟩⟩
  obtain ⟨z1, z2, e1, e2, rfl⟩ := zipT_get ds es i x e
  obtain ⟨v, ev, rv⟩ := r.get e1
  obtain ⟨w, ew, rw'⟩ := r'.get e2
  refine ⟨⟨vs, ws, v, w, hq, hq', ev, ew⟩, fun q H'' y => ?_⟩
  obtain ⟨T, u1, u2, rfl, nT, rfl, y1, y2⟩ := y
  have q1 := y1 vs hq
  have q2 := y2 ws hq'
  rw [ev] at q1
  rw [ew] at q2
  cases q1
  cases q2
  exact pairNew s nT (rv.mono g) (rw'.mono g)
def rangeL (lo : Int) (n : Nat) : List D := (List.range n).map fun (i : Nat) => D.int (lo + (i : Int))
theorem iter_range {lo : Int} {n : Nat} : IterOk K (Itr lo n) G (rangeL lo n) := fun G' H' g s => by
  refine ⟨fun i x e => ?_, fun i hi => by simpa [rangeL, Itr] using hi⟩
  unfold rangeL at e
  rw [List.getElem?_map] at e
  by_cases hi : i < n
  · rw [List.getElem?_range hi] at e
    cases e
    refine ⟨hi, fun v H'' y => ?_⟩
    obtain ⟨rfl, rfl⟩ := y
    exact ⟨G', Ext.refl s, .int _⟩
  · rw [List.getElem?_eq_none (by simpa using hi)] at e
    cases e
end
section
variable {X : Cx} {W : WX} {pa : Option Addr} {Γ : List Sl} {tg : Expr} {p pos : Pos}
def itemsD : D → PM (List D)
  | .lst xs => pure xs
  | .tup xs => pure xs
  | _ => bad
/-- a list or a tuple -/
theorem pi_seq {l : Expr} {tl : TE} (hl : PE X l tl) : PI X tg l (fun σ H R => tl σ H fun x H1 => ∃ a, x = .ref a ∧ ((∃ xs, SqL X.K H1 a xs ∧ R (Itl X.K a) H1) ∨ (∃ xs, SqT X.K H1 a xs ∧ R (Itt X.K a) H1))) := by
  refine ⟨fun pins s σ H R I h => ?_⟩
  refine thn (hl.run pins s σ H _ I h) fun v s1 ⟨x, H1, I1, r1, a, e, q⟩ => ?_
  subst e
  cases r1
  have fr := fun (b : Addr) (hb : b ∈ [s1.heap.objs.size]) => (by
    have e : b = s1.heap.objs.size := by simpa using hb
    subst e
    exact I1.fpOk (Nat.le_refl _) (I1.hok.fresh (Nat.le_refl _)) : FpOk X pins H1 b)
  rcases q with ⟨xs, hq, q⟩ | ⟨xs, hq, q⟩
  · obtain ⟨its, rv, pl, hz⟩ := I1.list hq
    refine wpAny_pyIter_list pl.isList ?_
    exact ⟨s1.heap.objs.size, [s1.heap.objs.size], _, _, H1, rfl, I1.kept (t' := s1.toks) fun b o e => Heap.get?_push_of_some _ e, turn_list a _, ⟨_, Heap.get?_push_size _ rfl, rfl, rfl⟩, fr, q⟩
  · obtain ⟨its, rv, pl, hz⟩ := I1.tuple hq
    refine wpAny_pyIter_tuple (show s1.heap.IsTuple a its.toArray from pl) ?_
    exact ⟨s1.heap.objs.size, [s1.heap.objs.size], _, _, H1, rfl, I1.kept (t' := s1.toks) fun b o e => Heap.get?_push_of_some _ e, turn_tuple a _, ⟨_, Heap.get?_push_size _ rfl, rfl, rfl⟩, fr, q⟩
theorem ei_seq {l : Expr} {m : PM D} (h : EV X W pa Γ l m) : EI X W pa Γ tg l (m >>= itemsD) := pi_imp (pi_seq h) fun σ H R ⟨G0, H0, G, s, E, P⟩ => ⟨G0, H0, G, s, E, P.bind.imp fun G1 H1 d s1 x1 p1 P1 v r => by
  cases r with
  | lst h n r => exact ⟨_, rfl, .inl ⟨_, SqL.of (x1.sub _ _ h), P1.now x1.sub p1 _ (iter_list h ⟨n, r⟩)⟩⟩
  | tup h n r => exact ⟨_, rfl, .inr ⟨_, sameT x1.sub h, P1.now x1.sub p1 _ (iter_tup h ⟨n, r⟩)⟩⟩
  | _ => exact P1.elim⟩
def rangeF : List D → PM (List D)
  | [.int j] => if -(2 ^ 62) ≤ j ∧ j < 2 ^ 62 then pure (rangeL 0 j.toNat) else bad
  | [.int i, .int j] => if -(2 ^ 62) ≤ i ∧ i < 2 ^ 62 ∧ -(2 ^ 62) ≤ j ∧ j < 2 ^ 62 then pure (rangeL i (j - i).toNat) else bad
  | _ => bad
def rangeF1 : List D → PM (List D)
  | [d] => rangeF [d]
  | _ => bad
def rangeF2 : List D → PM (List D)
  | [d, e] => rangeF [d, e]
  | _ => bad
theorem ei_range1 {a : Expr} {ml : PM (List D)} (hg : Gl X "range") (hm : X.mg "range" = none) (ha : EL X W pa Γ [a] ml) (hs : starEach [a] X.env = [(false, eval a X.env)] := by rfl) :
    EI X W pa Γ tg (.Call (.Name "range" p) [a] [] pos) (ml >>= rangeF1) := pi_imp (pi_range1 hg hm ha hs) fun σ H R ⟨G0, H0, G, s, E, P⟩ =>
  ⟨G0, H0, G, s, E, P.bind.imp fun G1 H1 ds s1 x1 p1 P1 vs rs => by
    match ds, rs, P1 with
    | [d], rs, P1 =>
      obtain ⟨v, rfl, r⟩ := rp1 rs
      cases r with
      | int j =>
        have P1 : Pst X.K W X.mg pa σ (fun G' H' xs _ => ∀ J, IterOk X.K J G' xs → R J H') G1 H1 ((if -(2 ^ 62) ≤ j ∧ j < 2 ^ 62 then pure (rangeL 0 j.toNat) else bad : PM (List D)) s1) := P1
        split at P1
        · rename_i hj
          exact ⟨j, rfl, hj.1, hj.2, P1.now x1.sub p1 _ iter_range⟩
        · exact P1.elim
      | _ => exact P1.elim
    | [], _, P1 => exact P1.elim
    | _ :: _ :: _, _, P1 => exact P1.elim⟩
theorem ei_range2 {a b : Expr} {ml : PM (List D)} (hg : Gl X "range") (hm : X.mg "range" = none) (ha : EL X W pa Γ [a, b] ml) (hs : starEach [a, b] X.env = [(false, eval a X.env), (false, eval b X.env)] := by rfl) (hs2 : starEach [b] X.env = [(false, eval b X.env)] := by rfl) :
    EI X W pa Γ tg (.Call (.Name "range" p) [a, b] [] pos) (ml >>= rangeF2) := pi_imp (pi_range2 hg hm ha hs hs2) fun σ H R ⟨G0, H0, G, s, E, P⟩ =>
  ⟨G0, H0, G, s, E, P.bind.imp fun G1 H1 ds s1 x1 p1 P1 vs rs => by
    match ds, rs, P1 with
    | [d, e], rs, P1 =>
      obtain ⟨v, w, rfl, r, r'⟩ := rp2 rs
      cases r with
      | int i =>
        cases r' with
        | int j =>
          have P1 : Pst X.K W X.mg pa σ (fun G' H' xs _ => ∀ J, IterOk X.K J G' xs → R J H') G1 H1 ((if -(2 ^ 62) ≤ i ∧ i < 2 ^ 62 ∧ -(2 ^ 62) ≤ j ∧ j < 2 ^ 62 then pure (rangeL i (j - i).toNat) else bad : PM (List D)) s1) := P1
          split at P1
          · rename_i hj
            exact ⟨i, j, rfl, hj, P1.now x1.sub p1 _ iter_range⟩
          · exact P1.elim
        | _ => exact P1.elim
      | _ => cases r' <;> exact P1.elim
    | [], _, P1 => exact P1.elim
    | [_], _, P1 => exact P1.elim
    | _ :: _ :: _ :: _, _, P1 => exact P1.elim⟩
def enumF : List D → PM (List D)
  | [.lst xs] => pure (pairsFrom 0 xs)
  | [.tup xs] => pure (pairsFrom 0 xs)
  | _ => bad
theorem pi_enumA {e : Expr} {ta : TA} {tpos : Pos} {elts : List Expr} {kk : Nat} (hg : Gl X "enumerate") (hm : X.mg "enumerate" = none) (ha : PA X [e] ta) (hs : starEach [e] X.env = [(false, eval e X.env)] := by rfl) :
    PI X (.Tuple elts kk tpos) (.Call (.Name "enumerate" p) [e] [] pos) (fun σ H R => ta σ H fun vs H1 => ∃ a xs, vs = [.ref a] ∧ ((SqL X.K H1 a xs ∧ R (Ite X.K a) H1) ∨ (SqT X.K H1 a xs ∧ R (IteT X.K a) H1))) := by
  refine ⟨fun pins s σ H R I h => ?_⟩
  refine Call_ (ld_blt I hg hm boot_enumerate (PyProof.Rows.callWith_type1 (thn (ha.run pos pins s σ H _ I h) fun us s1 ⟨vs, H1, I1, r1, a, xs, ex, q⟩ => ?_) hs rfl))
  subst ex
  cases r1 with
  | cons r rr =>
    cases rr
    cases r
    have fr := fun (b : Addr) (hb : b ∈ [s1.heap.objs.size + 1, s1.heap.objs.size]) => (by
      have e' : b = s1.heap.objs.size + 1 ∨ b = s1.heap.objs.size := by simpa using hb
      have hle : s1.heap.objs.size ≤ b := by
        rcases e' with z | z
        · rw [z]; exact Nat.le_succ _
        · rw [z]; exact Nat.le_refl _
      exact I1.fpOk hle (I1.hok.fresh hle) : FpOk X pins H1 b)
    rcases q with ⟨hq, q⟩ | ⟨hq, q⟩
    · obtain ⟨its, rv, p', hz⟩ := I1.list hq
      refine call_enumerate_list p'.isList fun h' he hit hsz hk => wpAny_pyIter_enum he ?_
      exact ⟨s1.heap.objs.size + 1, [s1.heap.objs.size + 1, s1.heap.objs.size], _, _, H1, rfl, I1.kept (t' := s1.toks) hk, turn_enum a _ _, ⟨⟨.none, he⟩, hit, Nat.succ_ne_self _⟩, fr, q⟩
    · obtain ⟨its, rv, p', hz⟩ := I1.tuple hq
      have hlt : a < s1.heap.objs.size := by
        obtain ⟨o, ho, _⟩ := p'
        exact Heap.lt_size ho
      refine callEnumT (show s1.heap.IsTuple a its.toArray from p') fun h' he hit hk => wpAny_pyIter_enum he ?_
      exact ⟨s1.heap.objs.size + 1, [s1.heap.objs.size + 1, s1.heap.objs.size], _, _, H1, rfl, I1.kept (t' := s1.toks) hk, turnEnumT a _ _, ⟨⟨.none, he⟩, hit, Nat.succ_ne_self _, Nat.ne_of_lt hlt, Nat.ne_of_lt (Nat.lt_succ_of_lt hlt)⟩, fr, q⟩
theorem ei_enum {e : Expr} {ml : PM (List D)} {tpos : Pos} {elts : List Expr} {kk : Nat} (hg : Gl X "enumerate") (hm : X.mg "enumerate" = none) (ha : EL X W pa Γ [e] ml) (hs : starEach [e] X.env = [(false, eval e X.env)] := by rfl) :
    EI X W pa Γ (.Tuple elts kk tpos) (.Call (.Name "enumerate" p) [e] [] pos) (ml >>= enumF) := pi_imp (pi_enumA hg hm ha hs) fun σ H R ⟨G0, H0, G, s, E, P⟩ =>
  ⟨G0, H0, G, s, E, P.bind.imp fun G1 H1 ds s1 x1 p1 P1 vs rs => by
    match ds, rs, P1 with
    | [d], rs, P1 =>
      obtain ⟨v, rfl, r⟩ := rp1 rs
      cases r with
      | lst h n r => exact ⟨_, _, rfl, .inl ⟨SqL.of (x1.sub _ _ h), P1.now x1.sub p1 _ (iter_enumL h ⟨n, r⟩)⟩⟩
      | tup h n r => exact ⟨_, _, rfl, .inr ⟨sameT x1.sub h, P1.now x1.sub p1 _ (iter_enumT h ⟨n, r⟩)⟩⟩
      | _ => exact P1.elim
    | [], _, P1 => exact P1.elim
    | a :: _ :: _, _, P1 => cases a <;> exact P1.elim⟩
def zipF : List D → PM (List D)
  | [.lst xs, .lst ys] => pure (zipT xs ys)
  | [.tup xs, .tup ys] => pure (zipT xs ys)
  | _ => bad
theorem ei_zip {e e2 : Expr} {ml : PM (List D)} {tpos : Pos} {elts : List Expr} {kk : Nat} (hg : Gl X "zip") (hm : X.mg "zip" = none) (ha : EL X W pa Γ [e, e2] ml) (hs : starEach [e, e2] X.env = [(false, eval e X.env), (false, eval e2 X.env)] := by rfl)
    (hs2 : starEach [e2] X.env = [(false, eval e2 X.env)] := by rfl) :
    EI X W pa Γ (.Tuple elts kk tpos) (.Call (.Name "zip" p) [e, e2] [] pos) (ml >>= zipF) := pi_imp (RZ.pi_zipA hg hm ha (by rw [hs, hs2]) (by rw [hs2]; rfl)) fun σ H R ⟨G0, H0, G, s, E, P⟩ =>
  ⟨G0, H0, G, s, E, P.bind.imp fun G1 H1 ds s1 x1 p1 P1 vs rs => by
    match ds, rs, P1 with
    | [d, d'], rs, P1 =>
      obtain ⟨v, w, rfl, r, r'⟩ := rp2 rs
      cases r with
      | lst h n r =>
        cases r' with
        | lst h' n' r' => exact ⟨_, _, _, _, rfl, .inl ⟨SqL.of (x1.sub _ _ h), SqL.of (x1.sub _ _ h'), P1.now x1.sub p1 _ (iter_zipL h ⟨n, r⟩ h' ⟨n', r'⟩)⟩⟩
        | _ => exact P1.elim
      | tup h n r =>
        cases r' with
        | tup h' n' r' => exact ⟨_, _, _, _, rfl, .inr ⟨sameT x1.sub h, sameT x1.sub h', P1.now x1.sub p1 _ (iter_zipT h ⟨n, r⟩ h' ⟨n', r'⟩)⟩⟩
        | _ => exact P1.elim
      | _ => cases r' <;> exact P1.elim
    | [], _, P1 => exact P1.elim
    | [a], _, P1 => cases a <;> exact P1.elim
    | a :: b :: _ :: _, _, P1 => cases a <;> cases b <;> exact P1.elim⟩
end
end EV

/-! EV 5: comprehensions, calls of defs, isinstance. -/
namespace EV
open PySem PySem.Spec PyProof.Rows L2

/-! ### comprehensions -/
abbrev W0 : WX := fun _ _ _ _ => False
def noExc {α : Type} (m : PM α) : PM α := fun s => match m s with
  | .ok a s1 => .ok a s1
  | _ => .bad
theorem noExc_pure {α : Type} (a : α) : noExc (pure a : PM α) = pure a := rfl
theorem noExc_bind {α β : Type} (m : PM α) (f : α → PM β) : noExc (m >>= f) = noExc m >>= fun a => noExc (f a) := by
  funext s
  show (match (match m s with | .ok a s1 => f a s1 | .exc e => .exc e | .bad => .bad) with | .ok a s1 => R.ok a s1 | _ => .bad) = (match (match m s with | .ok a s1 => R.ok a s1 | _ => .bad) with | .ok a s1 => _ | .exc e => .exc e | .bad => .bad)
  cases m s <;> rfl
def compG {ι : Type} (dec : D → Option ι) (mt : ι → PM Bool) (me : ι → PM D) : List D → PM (List D)
  | [] => pure []
  | x :: xs => match dec x with
    | none => bad
    | some z => noExc (mt z) >>= fun b => if b = true then noExc (me z) >>= fun y => compG dec mt me xs >>= fun r => pure (y :: r) else compG dec mt me xs
def compL {ι : Type} (dec : D → Option ι) (mt : ι → PM Bool) (me : ι → PM D) (xs : List D) : PM (List D) := if xs.length ≤ lim then compG dec mt me xs else bad
/-- one name, a pair of names, three -/
def dec1 : D → Option D := some
def dec2 : D → Option (D × D)
  | .tup [a, b] => some (a, b)
  | _ => none
def wipeG (Γ : List Sl) : List Nat → List Sl
  | [] => Γ
  | v :: vs => (wipeG Γ vs).set v .junk
section
variable {K : PySem.W.Frag} {W : WX} {mg : Str → Option Value} {pa : Option Addr} {σ : L2.St} {G0 H0 G H G1 H1 : Hp} {Γ : List Sl} {s : List Int}
theorem Nv.wipe1 (E : Nv K pa G0 H0 G H σ Γ s) (v : Nat) : Nv K pa G0 H0 G H (σ.set v none) (Γ.set v .junk) s where
  len := by simp [E.len]
  val := fun i d e => by
    by_cases hi : v = i
    · subst hi
      have := (List.getElem?_eq_some_iff.mp e).1
      rw [List.getElem?_set_self (by simpa using this)] at e
      cases e
    · rw [List.getElem?_set_ne hi] at e ⊢
      exact E.val i d e
  own := fun i d e => by
    by_cases hi : v = i
    · subst hi
      have := (List.getElem?_eq_some_iff.mp e).1
      rw [List.getElem?_set_self (by simpa using this)] at e
      cases e
    · rw [List.getElem?_set_ne hi] at e ⊢
      exact E.own i d e
  inj := fun i j p xs ys e1 e2 => by
    have n1 : v ≠ i := fun hi => by
      subst hi
      have := (List.getElem?_eq_some_iff.mp e1).1
      rw [List.getElem?_set_self (by simpa using this)] at e1
      cases e1
    have n2 : v ≠ j := fun hi => by
      subst hi
      have := (List.getElem?_eq_some_iff.mp e2).1
      rw [List.getElem?_set_self (by simpa using this)] at e2
      cases e2
    rw [List.getElem?_set_ne n1] at e1 ⊢
    rw [List.getElem?_set_ne n2] at e2 ⊢
    exact E.inj i j p xs ys e1 e2
  pen := fun i e => by
    have n1 : v ≠ i := fun hi => by
      subst hi
      have := (List.getElem?_eq_some_iff.mp e).1
      rw [List.getElem?_set_self (by simpa using this)] at e
      cases e
    rw [List.getElem?_set_ne n1] at e ⊢
    exact E.pen i e
  scr := fun i ns e => by
    have n1 : v ≠ i := fun hi => by
      subst hi
      have := (List.getElem?_eq_some_iff.mp e).1
      rw [List.getElem?_set_self (by simpa using this)] at e
      cases e
    rw [List.getElem?_set_ne n1] at e ⊢
    exact E.scr i ns e
  ps := E.ps
  ext := E.ext
theorem Nv.wipe (E : Nv K pa G0 H0 G H σ Γ s) : ∀ vs : List Nat, Nv K pa G0 H0 G H (L2.wipe σ vs) (wipeG Γ vs) s
  | [] => E
  | v :: vs => (E.wipe vs).wipe1 v
theorem Pst.bind0 {α β : Type} {F : Hp → Hp → β → List Int → Prop} {m : PM α} {f : α → PM β} {s : List Int} (x : Ext pa G1 H1 G H) (h : Pst K W mg pa σ F G1 H1 ((m >>= f) s)) : Pst K W mg pa σ (fun _ _ a s' => Pst K W mg pa σ F G1 H1 (f a s')) G H (m s) := by
  rw [PM.bind_def] at h
  cases e : m s with
  | ok a s1 =>
    rw [e] at h
    exact fun _ _ _ _ => h
  | exc z =>
    rw [e] at h
    exact fun cls dx G' H' y q => h cls dx G' H' (x.trans y) q
  | bad => rw [e] at h; exact h
theorem Pst.noExc {α : Type} {W' : WX} {F : Hp → Hp → α → List Int → Prop} {m : PM α} {s : List Int} {σ' : L2.St} (h : Pst K W mg pa σ F G H (noExc m s)) : Pst K W' mg pa σ' F G H (m s) := by
  unfold EV.noExc at h
  cases e : m s with
  | ok a s1 => rw [e] at h; exact h
  | exc z => rw [e] at h; exact h.elim
  | bad => rw [e] at h; exact h.elim
end
/-- the target of a comprehension or of a loop: from an item to what the slots know -/
def TgOk (X : Cx) (pa : Option Addr) {ι : Type} (dec : D → Option ι) (g : TG) (vs : List Nat) (Γ : List Sl) (Γz : ι → List Sl) : Prop :=
  ∀ (G0 H0 G H : Hp) (σ : L2.St) (s : List Int) (v : V) (d : D) (z : ι) (Q : L2.St → Hp → Prop), Nv X.K pa G0 H0 G H σ Γ s → Rp X.K G v d → dec d = some z →
    (∀ σ', Nv X.K pa G0 H0 G H σ' (Γz z) s → L2.wipe σ' vs = L2.wipe σ vs → Q σ' H) → g v σ H Q
theorem wipe_set {σ : L2.St} {i : Nat} {x : Option V} : ∀ {vs : List Nat}, i ∈ vs → L2.wipe (σ.set i x) vs = L2.wipe σ vs
  | v :: vs, h => by
    unfold L2.wipe
    by_cases hv : i ∈ vs
    · rw [wipe_set hv]
    · have e : i = v := by
        rcases List.mem_cons.mp h with z | z
        · exact z
        · exact absurd z hv
      subst e
      clear h
      have step : ∀ us : List Nat, i ∉ us → (L2.wipe (σ.set i x) us) = (L2.wipe σ us).set i x := by
        intro us
        induction us with
        | nil => intro _; rfl
        | cons u us ih =>
          intro hu
          have h1 : u ≠ i := fun z => hu (by simp [z])
          have h2 : i ∉ us := fun z => hu (List.mem_cons_of_mem _ z)
          unfold L2.wipe
          rw [ih h2, List.set_comm _ _ (Ne.symm h1)]
      rw [step vs hv]
      simp
theorem tg_name {X : Cx} {pa : Option Addr} {i : Nat} {Γ : List Sl} {vs : List Nat} (hi : i ∈ vs) : TgOk X pa dec1 (gName i) vs Γ (fun d => Γ.set i (.val d)) := by
  intro G0 H0 G H σ s v d z Q E r e h
  cases e
  exact h _ (E.set i r) (wipe_set hi)
theorem tg_pair {X : Cx} {pa : Option Addr} {i j : Nat} {Γ : List Sl} {vs : List Nat} (hi : i ∈ vs) (hj : j ∈ vs) : TgOk X pa dec2 (gTup X.K 2 (gCons (gName i) (gCons (gName j) gNil))) vs Γ (fun z => (Γ.set i (.val z.1)).set j (.val z.2)) := by
  intro G0 H0 G H σ s v d z Q E r e h
  cases r with
  | tup hq n rr =>
    rename_i vs' ds
    match ds, e, n, rr with
    | [a, b], e, n, rr =>
      cases e
      obtain ⟨x, y, rfl, r1, r2⟩ := rp2 ⟨n, rr⟩
      refine ⟨_, _, rfl, sameT E.sub hq, rfl, x, [y], rfl, y, [], rfl, rfl, ?_⟩
      exact h _ ((E.set i r1).set j r2) (by rw [wipe_set hj, wipe_set hi])
    | [], e, _, _ => cases e
    | [_], e, _, _ => cases e
    | _ :: _ :: _ :: _, e, _, _ => cases e
  | _ => cases e
theorem pt_ex {X : Cx} {ι : Type} {e : Expr} {t : ι → TT} (h : ∀ z, PT X e (t z)) : PT X e (fun σ H Q => ∃ z, t z σ H Q) := ⟨fun pins s σ H Q I ⟨z, q⟩ => (h z).run pins s σ H Q I q⟩
theorem pe_ex {X : Cx} {ι : Type} {e : Expr} {t : ι → TE} (h : ∀ z, PE X e (t z)) : PE X e (fun σ H Q => ∃ z, t z σ H Q) := ⟨fun pins s σ H Q I ⟨z, q⟩ => (h z).run pins s σ H Q I q⟩
theorem pts_ex {X : Cx} {ι : Type} {e : List Expr} {t : ι → TT} (h : ∀ z, PTs X e (t z)) : PTs X e (fun σ H Q => ∃ z, t z σ H Q) := ⟨fun pins s σ H Q I ⟨z, q⟩ => (h z).run pins s σ H Q I q⟩
theorem pts_imp {X : Cx} {e : List Expr} {t t' : TT} (h : PTs X e t) (i : ∀ σ H Q, t' σ H Q → t σ H Q) : PTs X e t' := ⟨fun pins s σ H Q I q => h.run pins s σ H Q I (i σ H Q q)⟩
abbrev ETs (X : Cx) (W : WX) (pa : Option Addr) (Γ : List Sl) (es : List Expr) (m : PM Bool) : Prop := PTs X es (evB X W pa Γ m)
theorem ets_nil {X : Cx} {W : WX} {pa : Option Addr} {Γ : List Sl} : ETs X W pa Γ [] (pure true) := pts_imp pts_nil fun σ H Q ⟨G0, H0, G, s, E, P⟩ => P.now E.sub E.ps
theorem ets_one {X : Cx} {W : WX} {pa : Option Addr} {Γ : List Sl} {e : Expr} {m : PM Bool} (h : EB X W pa Γ e m) : ETs X W pa Γ [e] m := pts_one h

theorem lcCore {X : Cx} {W : WX} {pa : Option Addr} {Γ : List Sl} {ι β : Type} {dec : D → Option ι} {mt : ι → PM Bool} {me : ι → PM D} {g : TG} {vs : List Nat} {Γz : ι → List Sl} {σ : L2.St} {J : It} {xs : List D} {D0 : Addr}
    {G0 H0 G1 H1 : Hp} {s1 : List Int} {F : Hp → Hp → β → List Int → Prop} {cont : List D → PM β} {Qd : Hp → Prop}
    (hg : TgOk X pa dec g vs (wipeG Γ vs) Γz) (E : Nv X.K pa G0 H0 G1 H1 σ Γ s1) (hJ : IterOk X.K J G1 xs) (nD : H1 D0 = none)
    (P : Pst X.K W X.mg pa σ F G1 H1 ((compL dec mt me xs >>= cont) s1))
    (fin : ∀ G H accV accD s', Ext pa G1 H1 G H → PenOk pa G H s' → H D0 = some (.lst accV) → G D0 = none → RpL X.K G accV accD → Pst X.K W X.mg pa σ F G1 H1 (cont accD s') → Qd H) :
    ∃ Wv : Nat → Nat → Hp → Prop, (∃ m, Wv 0 m (upd H1 D0 (.lst []))) ∧ ∀ i m H, Wv i m H →
      (J.stop i H ∧ Qd H) ∨ (J.go i H ∧ ∃ Nx : Hp → Prop, (∀ H', Nx H' → ∃ m', m' < m ∧ Wv (i + 1) m' H') ∧ ∀ x H', J.yld i H x H' → g x (L2.wipe σ vs) H' fun σ2 H2 => L2.wipe σ2 vs = L2.wipe σ vs ∧
        (fun σ H Q => ∃ z, evB X W0 pa (Γz z) (mt z) σ H Q : TT) σ2 H2 fun b H3 =>
          if b = true then (fun σ H Q => ∃ z, evT X W0 pa (Γz z) (me z) σ H Q : TE) σ2 H3 fun y H4 => ∃ acc, H4 D0 = some (.lst acc) ∧ acc.length < sizeLine ∧ Nx (upd H4 D0 (.lst (acc ++ [y]))) else Nx H3) := by
  have hlen : xs.length ≤ lim := by
    by_cases h : xs.length ≤ lim
    · exact h
    · unfold compL at P
      rw [if_neg h] at P
      exact P.elim
  unfold compL at P
  rw [if_pos hlen] at P
  let Wv : Nat → Nat → Hp → Prop := fun i m H => m = xs.length - i ∧ i ≤ xs.length ∧ ∃ G accV accD s', Ext pa G1 H1 G H ∧ PenOk pa G H s' ∧ H D0 = some (.lst accV) ∧ G D0 = none ∧ RpL X.K G accV accD ∧ accD.length ≤ i ∧
    Pst X.K W X.mg pa σ F G1 H1 ((compG dec mt me (xs.drop i) >>= fun r => cont (accD ++ r)) s')
  refine ⟨Wv, ⟨xs.length, by simp, Nat.zero_le _, G1, [], [], s1, Ext.newH E.sub nD _, E.ps.updH nD _, upd_same, E.sub.free nD, .nil, Nat.le_refl _, by simpa using P⟩, ?_⟩
  rintro i m H ⟨rfl, hi, G, accV, accD, s', x1, p1, hD, gD, racc, hacc, P⟩
  by_cases hlt : i < xs.length
  · obtain ⟨x, hx⟩ : ∃ x, xs[i]? = some x := ⟨_, List.getElem?_eq_getElem hlt⟩
    obtain ⟨hgo, hyld⟩ := (hJ G H x1.g x1.sub).1 i x hx
    have hdrop : xs.drop i = x :: xs.drop (i + 1) := by
      rw [List.drop_eq_getElem_cons hlt]
      congr 1
      rw [List.getElem?_eq_getElem hlt] at hx
      exact Option.some.inj hx
    rw [hdrop] at P
    refine .inr ⟨hgo, fun H' => Wv (i + 1) (xs.length - (i + 1)) H', fun H' w => ⟨_, by omega, w⟩, fun v H2 hy => ?_⟩
    obtain ⟨G2, x2, rv⟩ := hyld v H2 hy
    have x2 : Ext pa G H G2 H2 := x2.any
    have hD2 : H2 D0 = some (.lst accV) := (by assumption : Ext none G H G2 H2).h _ _ hD (fun z => by cases z)
    have gD2 : G2 D0 = none := x2.n _ _ hD gD
    have p2 : PenOk pa G2 H2 s' := p1.ext (by assumption)
    have E2 : Nv X.K pa G0 H0 G2 H2 σ Γ s' := E.step (x1.trans x2) p2
    unfold compG at P
    cases hd : dec x with
    | none => rw [hd] at P; exact P.elim
    | some z =>
      rw [hd] at P
      dsimp only at P
      have P : Pst X.K W X.mg pa σ F G1 H1 ((noExc (mt z) >>= fun b => (if b = true then noExc (me z) >>= fun y => compG dec mt me (xs.drop (i + 1)) >>= fun r => pure (y :: r) else compG dec mt me (xs.drop (i + 1))) >>= fun r => cont (accD ++ r)) s') := by
        rw [bind_assoc] at P
        exact P
      refine hg G0 H0 G2 H2 (L2.wipe σ vs) s' v x z _ (E2.wipe vs) rv hd fun σ3 E3 hw => ⟨?_, z, G0, H0, G2, s', E3, ?_⟩
      · have ww : L2.wipe (L2.wipe σ vs) vs = L2.wipe σ vs := by
          have : ∀ us : List Nat, (∀ u ∈ us, u ∈ vs) → L2.wipe (L2.wipe σ us) vs = L2.wipe σ vs := by
            intro us
            induction us with
            | nil => intro _; rfl
            | cons u us ih =>
              intro hu
              show L2.wipe ((L2.wipe σ us).set u none) vs = _
              rw [wipe_set (hu u List.mem_cons_self)]
              exact ih fun w hw => hu w (List.mem_cons_of_mem _ hw)
          exact this vs fun _ h => h
        rw [hw, ww]
      · have Q1 := P.bind0 (x1.trans x2)
        refine (Pst.noExc Q1).imp fun G3 H3 b s3 x3 p3 P3 => ?_
        have hD3 : H3 D0 = some (.lst accV) := x3.h _ _ hD2 (fun z => by
          have := (p1 D0 z).2
          have := p1 D0 z
          have e1 := E.ps D0 z
          rw [e1.2] at nD
          cases nD)
        have gD3 : G3 D0 = none := x3.n _ _ hD2 gD2
        cases b with
        | false =>
          rw [if_neg Bool.false_ne_true] at P3
          show Wv (i + 1) (xs.length - (i + 1)) H3
          exact ⟨rfl, hlt, G3, accV, accD, s3, (x1.trans x2).trans x3, p3, hD3, gD3, racc.mono (x2.g.trans x3.g), by omega, P3⟩
        | true =>
          rw [if_pos rfl] at P3
          rw [bind_assoc] at P3
          show ∃ z, evT X W0 pa (Γz z) (me z) σ3 H3 _
          refine ⟨z, G0, H0, G3, s3, E3.step x3 p3, ?_⟩
          have Q3 := P3.bind0 ((x1.trans x2).trans x3)
          refine (Pst.noExc Q3).imp fun G4 H4 y s4 x4 p4 P4 => fun w rw4 => ?_
          have hD4 : H4 D0 = some (.lst accV) := x4.h _ _ hD3 (fun z => by
            have e1 := E.ps D0 z
            rw [e1.2] at nD
            cases nD)
          have gD4 : G4 D0 = none := x4.n _ _ hD3 gD3
          have xx := ((x1.trans x2).trans x3).trans x4
          have racc4 := racc.mono ((x2.g.trans x3.g).trans x4.g)
          have hl : accV.length < sizeLine := by
            rw [racc.1]
            exact lim_lt (by omega)
          refine ⟨accV, hD4, hl, rfl, hlt, G4, accV ++ [w], accD ++ [y], s4, ?_, ?_, upd_same, gD4, racc4.app (.cons rw4 .nil), by simp; omega, ?_⟩
          · refine ⟨xx.g, fun a o e np => ?_, fun a o e => ?_, xx.n, fun a o e => ?_⟩
            · rw [upd_ne (ne_of_none e nD)]
              exact xx.h a o e np
            · rw [upd_ne (ne_of_none e nD)]
              exact xx.t a o e
            · have : a ≠ D0 := ne_of_none e gD4
              rw [upd_ne this]
              exact xx.sub a o e
          · intro q e
            obtain ⟨q1, q2⟩ := p4 q e
            have : q ≠ D0 := fun z => by
              rw [z] at e
              have e1 := E.ps D0 e
              rw [e1.2] at nD
              cases nD
            rw [upd_ne this]
            exact ⟨q1, q2⟩
          · rw [bind_assoc] at P4
            have e5 : (fun r => cont (accD ++ [y] ++ r)) = fun r => (pure (y :: r) : PM (List D)) >>= fun r => cont (accD ++ r) := by
              funext r
              rw [pure_bind]
              simp
            rw [e5]
            exact P4
  · have e : i = xs.length := by omega
    subst e
    refine .inl ⟨(hJ G H x1.g x1.sub).2 _ (Nat.le_refl _), fin G H accV accD s' x1 p1 hD gD racc ?_⟩
    rw [List.drop_length] at P
    have P : Pst X.K W X.mg pa σ F G1 H1 (((pure [] : PM (List D)) >>= fun r => cont (accD ++ r)) s') := P
    rw [pure_bind, List.append_nil] at P
    exact P
end EV

/-! EV 6: comprehensions as values, isinstance, defs and their calls. -/
namespace EV
open PySem PySem.Spec PyProof.Rows L2

theorem Cok.blk {X : Cx} {W : WX} {k : Nat} (C : Cok X W k) {s : Shared} {H : Hp} {scope : Scope} {cenv : PySem.Env} {fp : List Addr} : Cok (X.blk s H scope cenv fp) W0 k where
  calm := C.calm
  nd := C.nd
  takes := takes0
  room := C.room
  guards := C.guards
  passes := PassesOwn.never
theorem Cok.mono {X : Cx} {W : WX} {j k : Nat} (C : Cok X W k) (h : j ≤ k) : Cok X W j := ⟨C.calm, C.nd, C.takes, C.room.mono h, C.guards, C.passes⟩
/-- the rest after a list that is made: it is public -/
theorem lc_pub {X : Cx} {W : WX} {pa : Option Addr} {σ : L2.St} {G1 H1 : Hp} {D0 : Addr} {Q : VK} {s1 : List Int} (nD : H1 D0 = none) (hs1 : Same G1 H1) (hp1 : PenOk pa G1 H1 s1) (G H : Hp) (accV : List V) (accD : List D) (s' : List Int) (x : Ext pa G1 H1 G H) (p : PenOk pa G H s') (hD : H D0 = some (.lst accV))
    (gD : G D0 = none) (r : RpL X.K G accV accD) (P : Pst X.K W X.mg pa σ (FD X.K Q) G1 H1 ((pure (.lst accD) : PM D) s')) : Q (.ref D0) H := by
  have sg : Same G (upd G D0 (.lst accV)) := fun a o e => by
    rw [upd_ne (ne_of_none e gD)]
    exact e
  have x' : Ext pa G1 H1 (upd G D0 (.lst accV)) H := by
    refine ⟨x.g.trans sg, x.h, x.t, fun a o e n => ?_, fun a o e => ?_⟩
    · rw [upd_ne (ne_of_none e nD)]
      exact x.n a o e n
    · by_cases h : a = D0
      · subst h
        rw [upd_same] at e
        rw [← e]
        exact hD
      · rw [upd_ne h] at e
        exact x.sub a o e
  refine P _ _ x' (fun q e => ?_) _ (.mkL upd_same (r.mono sg))
  obtain ⟨q1, q2⟩ := p q e
  refine ⟨?_, q2⟩
  rw [upd_ne (ne_of_none (hp1 q e).2 nD)]
  exact q1

section
variable {X : Cx} {W : WX} {pa : Option Addr} {Γ : List Sl} {k : Nat} {pos : Pos} {ι : Type}
theorem lc_read {dec : D → Option ι} {mt : ι → PM Bool} {me : ι → PM D} {mi : PM (List D)} {g : TG} {vs : List Nat} {Γz : ι → List Sl} (hg : TgOk X pa dec g vs (wipeG Γ vs) Γz) (σ : L2.St) (H : Hp) (Q : VK)
    (h : evT X W pa Γ (mi >>= fun xs => compL dec mt me xs >>= fun r => pure (.lst r)) σ H Q) :
    tLc (evI X W pa Γ mi) g (fun σ H Q => ∃ z, evB X W0 pa (Γz z) (mt z) σ H Q) (fun σ H Q => ∃ z, evT X W0 pa (Γz z) (me z) σ H Q) vs σ H Q := by
  obtain ⟨G0, H0, G, s, E, P⟩ := h
  refine ⟨G0, H0, G, s, E, P.bind.imp fun G1 H1 xs s1 x1 p1 P1 J hJ D0 nD => ?_⟩
  exact lcCore hg (E.step x1 p1) hJ nD P1 fun G H accV accD s' x p hD gD r P => lc_pub nD x1.sub p1 G H accV accD s' x p hD gD r P
/-- [elt for tg in iter if ..] -/
theorem ev_lc {elt tg iter : Expr} {ifs : List Expr} {scope : Scope} {own : List (Str × Nat)} {dec : D → Option ι} {mt : ι → PM Bool} {me : ι → PM D} {mi : PM (List D)} {g : TG} {Γz : ι → List Sl} (C : Cok X W k) (hi : EI X W pa Γ tg iter mi) (ok : BlkOk X.N X.env.scope scope own)
    (hg : TgOk X pa dec g (own.map (·.2)) (wipeG Γ (own.map (·.2))) Γz)
    (hp : ∀ (s : Shared) (H : Hp) (C : Addr) (cl : List (Str × Addr)) (fp : List Addr), PG (X.blk s H scope (compEnvC scope cl C X.env) fp) tg g)
    (ht : ∀ (z : ι) (s : Shared) (H : Hp) (C : Addr) (cl : List (Str × Addr)) (fp : List Addr), ETs (X.blk s H scope (compEnvC scope cl C X.env) fp) W0 pa (Γz z) ifs (mt z))
    (he : ∀ (z : ι) (s : Shared) (H : Hp) (C : Addr) (cl : List (Str × Addr)) (fp : List Addr), EV (X.blk s H scope (compEnvC scope cl C X.env) fp) W0 pa (Γz z) elt (me z))
    (hs : ∀ x, foldedSetIterable iter X.env x = pure x := by intro _; rfl) :
    EV X W pa Γ (.ListComp elt [⟨tg, iter, ifs, 0⟩] scope pos) (mi >>= fun xs => compL dec mt me xs >>= fun r => pure (.lst r)) :=
  pe_imp (pe_lc C.calm C.nd hi ok hp (fun s H C cl fp => pts_ex fun z => ht z s H C cl fp) (fun s H C cl fp => pe_ex fun z => he z s H C cl fp) hs) fun σ H Q h => lc_read hg σ H Q h

/-! ### isinstance -/
def tyName : D → String
  | .non => "NoneType"
  | .bl _ => "bool"
  | .int _ => "int"
  | .str _ => "str"
  | .tup _ => "tuple"
  | .lst _ => "list"
  | .dct _ => "dict"
  | .obj _ _ => "object"
theorem Rp.ty {K : PySem.W.Frag} {G H : Hp} {v : V} {d : D} (hs : Same G H) (h : Rp K G v d) : TyX K H v (.type (tyName d)) := by
  cases h with
  | non => exact .base .non
  | bl b => exact .base (.bl b)
  | int i => exact .base (.int i)
  | str x => exact .base (.str x)
  | lst h _ _ => exact .base (.lst (hs _ _ h))
  | tup h _ _ =>
    rcases h with (h | ⟨o, h⟩) | ⟨o, its, n, h1, h2, _⟩
    · exact .base (.tup (hs _ _ h))
    · exact .fTuple (hs _ _ h)
    · exact .kTuple h1 h2
/-- one of int, bool, tuple, str, list -/
def isTy (T : String) (d : D) : Bool := tyName d == T || (tyName d == "bool" && T == "int")
def isF (T : String) : D → PM D
  | .obj _ _ => bad
  | .dct _ => bad
  | d => pure (.bl (isTy T d))
theorem kitTable : ∀ a ∈ ["NoneType", "bool", "int", "str", "tuple", "list"], ∀ T ∈ ["int", "bool", "tuple", "str", "list"], kitB a T = some (a == T || (a == "bool" && T == "int")) := by decide +kernel
theorem kit_isTy (T : String) (hT : T ∈ ["int", "bool", "tuple", "str", "list"]) (d : D) (K : PySem.W.Frag) (h : ∀ c fs, d ≠ .obj c fs) (h' : ∀ kvs, d ≠ .dct kvs) : PySem.W.kitOne K (.type (tyName d)) (.type T) = some (isTy T d) := by
  refine kit_ty (kitTable (tyName d) ?_ T hT)
  cases d with
  | obj c fs => exact absurd rfl (h c fs)
  | dct kvs => exact absurd rfl (h' kvs)
  | _ => simp [tyName]
theorem ev_isi {e : Expr} {T : String} {x : Str} {m : PM D} {p p2 : Pos} (hT : T ∈ ["int", "bool", "tuple", "str", "list"]) (h : EV X W pa Γ e m) (hg : Gl X "isinstance") (hm : X.mg "isinstance" = none) (hg2 : Gl X x) (hm2 : X.mg x = none) (hv : bootBuiltins x = some (.type T))
    (hn : x ≠ "__name__" := by decide) (hdb : (x == ("__debug__" : Str)) = false := by decide)
    (hs : starEach [e, .Name x p2] X.env = (false, eval e X.env) :: starEach [.Name x p2] X.env := by rfl) (hs2 : starEach [.Name x p2] X.env = (false, eval (.Name x p2) X.env) :: starEach [] X.env := by rfl)
    (hpl : (backTo pos (starEach [.Name x p2] X.env)).any (·.1) = false := by rfl) :
    EV X W pa Γ (.Call (.Name "isinstance" p) [e, .Name x p2] [] pos) (m >>= isF T) := by
  have hb : PE X (.Name x p2) (tC (.ty T)) := pe_bltn hg2 hm2 hv rfl hn hdb
  refine pe_imp (pe_callB call_isi hg hm (by decide +kernel) (pa_cons h (pa_cons hb pa_nil hs2) hs) (by decide) (by decide) hs hpl) fun σ H Q ⟨G0, H0, G, s, E, P⟩ =>
    ⟨G0, H0, G, s, E, P.bind.imp fun G1 H1 d s1 x1 p1 P1 v r => ?_⟩
  by_cases ho : ∃ c fs, d = .obj c fs
  · obtain ⟨c, fs, rfl⟩ := ho
    exact P1.elim
  · by_cases hd : ∃ kvs, d = .dct kvs
    · obtain ⟨kvs, rfl⟩ := hd
      exact P1.elim
    · have e : isF T d = pure (.bl (isTy T d)) := by
        cases d <;> first | rfl | exact absurd ⟨_, _, rfl⟩ ho | exact absurd ⟨_, rfl⟩ hd
      rw [e] at P1
      exact ⟨v, .ty T, _, _, isTy T d, rfl, .ty T, r.ty x1.sub, kit_isTy T hT d X.K (fun c fs z => ho ⟨c, fs, z⟩) (fun kvs z => hd ⟨kvs, z⟩), P1.now x1.sub p1 _ (.bl _)⟩
end

/-! ### defs -/
/-- a def's promise, where no guard is held around -/
structure FnG (P : Program) (w : World) (K : PySem.W.Frag) (mg : Str → Option Value) (base : Heap) (k : Nat) (f : Addr) (fd : FuncData) (ps : List Str) (sp : Sp) : Prop where
  len : ∀ vs H Q E, sp vs H Q E → vs.length = ps.length
  run : ∀ (A : Around) (outer : List PySem.Env) (s : Shared) (H : Hp) (args : Args) (us : List Value) (vs : List V) (Q : VK) (E : XK), A.guards = some [] → Room k A →
    Env0 P w K mg base A outer s H → BindsTo s fd args (ps.zip us) → Vals vs us → sp vs H Q E → codeAny (model P w) A (.call (.ref f) args) (CR (L2.CX P w) outer P w H s Q E) s
theorem FnG.mono {P : Program} {w : World} {K : PySem.W.Frag} {mg : Str → Option Value} {base : Heap} {j k : Nat} {f : Addr} {fd : FuncData} {ps : List Str} {sp : Sp} (F : FnG P w K mg base j f fd ps sp) (h : j ≤ k) : FnG P w K mg base k f fd ps sp :=
  ⟨F.len, fun A outer s H args us vs Q E hg hr => F.run A outer s H args us vs Q E hg (hr.mono h)⟩
section
variable {X : Cx} {W : WX} {pa : Option Addr} {Γ : List Sl} {k : Nat} {f : Addr} {fd : FuncData} {ps : List Str} {sp : Sp} {ds : List Value} {dvs : List V} {E : L2.St → XK}
/-- as CallSlots' run of a def, for these promises -/
theorem runG {pins : List (Addr × Obj)} {σ : L2.St} {H : Hp} {s : Shared} {Q : VK} {us : List Value} {vs : List V} (C : Cok X W k) (F : FnG X.prog X.w X.K X.mg X.base k f fd ps sp) (hb : Binds X.K fd ps []) (I : Inv X pins σ H s) (r : Vals vs us)
    (h : sp vs H Q (fun cls d H' => W cls d σ H')) : wpAny (model X.prog X.w) X.A (call (.ref f) us) (EP X pins σ Q) X.xe s := by
  have hl : us.length = ps.length := by
    rw [← r.length]
    exact F.len _ _ _ _ h
  have hbd := hb s us I.kIn (by rw [List.append_nil]; exact hl)
  rw [List.append_nil] at hbd
  have key := F.run X.A X.stack s H ⟨us, []⟩ us vs Q _ C.guards C.room I.env0 hbd r h
  refine wpAny_call (codeAny_mono key fun r s' hq => ?_)
  cases r with
  | error e => exact C.takes e s' (XE.of_call I (fun cls d H' q => q) hq)
  | ok fl =>
    cases fl with
    | ret u => exact I.after hq
    | next => exact hq.elim
    | brk => exact hq.elim
    | cont => exact hq.elim
theorem pe_callG {x : Str} {p pos : Pos} {e : Expr} {es : List Expr} {t : TA} (C : Cok X W k) (F : FnG X.prog X.w X.K X.mg X.base k f fd ps sp) (hg : Gl X x) (hm : X.mg x = some (.ref f)) (hk : PySem.W.keepIn X.K (.ref f) = true) (hb : Binds X.K fd ps []) (ha : PA X (e :: es) t)
    (hdb : (x == ("__debug__" : Str)) = false := by decide) (he : starEach (e :: es) X.env = (false, eval e X.env) :: starEach es X.env := by rfl) (hpl : (backTo pos (starEach es X.env)).any (·.1) = false := by rfl) :
    PE X (.Call (.Name x p) (e :: es) [] pos) (fun σ H Q => t σ H fun vs H1 => sp vs H1 Q (fun cls d H' => W cls d σ H')) := by
  refine ⟨fun pins s σ H Q I h => ?_⟩
  have step := fun (us : List Value) (s1 : Shared) (q : AP X pins σ (fun vs H1 => sp vs H1 Q (fun cls d H' => W cls d σ H')) us s1) => (by
    obtain ⟨vs, H1, I1, r, q⟩ := q
    exact ⟨I1.kIn, runG C F hb I1 r q⟩ : X.K.In s1.heap ∧ wpAny (model X.prog X.w) X.A (call (.ref f) us) (EP X pins σ Q) X.xe s1)
  exact wpAny_Call_Name_kw (ld_glob I hg hm (PySem.W.callWith_K (h₀ := X.base) I.ok.mod.kin hk (thn (ha.run pos pins s σ H _ I h) step) he hpl) hdb)
theorem pe_callG0 {x : Str} {p pos : Pos} (C : Cok X W k) (F : FnG X.prog X.w X.K X.mg X.base k f fd ps sp) (hg : Gl X x) (hm : X.mg x = some (.ref f)) (hk : PySem.W.keepIn X.K (.ref f) = true) (hb : Binds X.K fd ps []) (hdb : (x == ("__debug__" : Str)) = false := by decide) :
    PE X (.Call (.Name x p) [] [] pos) (fun σ H Q => sp [] H Q (fun cls d H' => W cls d σ H')) := by
  refine ⟨fun pins s σ H Q I h => ?_⟩
  refine wpAny_Call_Name_kw (ld_glob I hg hm ?_ hdb)
  exact PySem.W.callWith_K0 I.kIn hk (runG (us := []) C F hb I .nil h)
end
end EV

/-! EV 7: promises by functions on trees; statements. -/
namespace EV
open PySem PySem.Spec PyProof.Rows L2

/-! ### functions of so many arguments -/
def fn0 (g : PM D) : List D → PM D
  | [] => g
  | _ => bad
def fn1 (g : D → PM D) : List D → PM D
  | [a] => g a
  | _ => bad
def fn2 (g : D → D → PM D) : List D → PM D
  | [a, b] => g a b
  | _ => bad
def fn3 (g : D → D → D → PM D) : List D → PM D
  | [a, b, c] => g a b c
  | _ => bad
def fn4 (g : D → D → D → D → PM D) : List D → PM D
  | [a, b, c, d] => g a b c d
  | _ => bad
def fn5 (g : D → D → D → D → D → PM D) : List D → PM D
  | [a, b, c, d, e] => g a b c d e
  | _ => bad
def Arity (n : Nat) (f : List D → PM D) : Prop := ∀ ds s, ds.length ≠ n → f ds s = .bad
theorem ar0 {g} : Arity 0 (fn0 g) := fun ds s h => by
  match ds, h with
  | [], h => exact absurd rfl h
  | _ :: _, _ => rfl
theorem ar1 {g} : Arity 1 (fn1 g) := fun ds s h => by
  match ds, h with
  | [_], h => exact absurd rfl h
  | [], _ => rfl
  | _ :: _ :: _, _ => rfl
theorem ar2 {g} : Arity 2 (fn2 g) := fun ds s h => by
  match ds, h with
  | [_, _], h => exact absurd rfl h
  | [], _ => rfl
  | [_], _ => rfl
  | _ :: _ :: _ :: _, _ => rfl
theorem ar3 {g} : Arity 3 (fn3 g) := fun ds s h => by
  match ds, h with
  | [_, _, _], h => exact absurd rfl h
  | [], _ => rfl
  | [_], _ => rfl
  | [_, _], _ => rfl
  | _ :: _ :: _ :: _ :: _, _ => rfl
theorem ar4 {g} : Arity 4 (fn4 g) := fun ds s h => by
  match ds, h with
  | [_, _, _, _], h => exact absurd rfl h
  | [], _ => rfl
  | [_], _ => rfl
  | [_, _], _ => rfl
  | [_, _, _], _ => rfl
  | _ :: _ :: _ :: _ :: _ :: _, _ => rfl
theorem ar5 {g} : Arity 5 (fn5 g) := fun ds s h => by
  match ds, h with
  | [_, _, _, _, _], h => exact absurd rfl h
  | [], _ => rfl
  | [_], _ => rfl
  | [_, _], _ => rfl
  | [_, _, _], _ => rfl
  | [_, _, _, _], _ => rfl
  | _ :: _ :: _ :: _ :: _ :: _ :: _, _ => rfl
/-- what a def with a pen (pn) or without makes of its arguments -/
def spF (K : PySem.W.Frag) (mg : Str → Option Value) (pn : Bool) (n : Nat) (f : List D → PM D) : Sp := fun vs H Q E => ∃ (pa : Option Addr) (G : Hp) (s : List Int) (vs' : List V) (ds : List D),
  pa.isSome = pn ∧ vs = pa.toList.map V.ref ++ vs' ∧ Same G H ∧ PenOk pa G H s ∧ RpL K G vs' ds ∧ ds.length = n ∧
    Pst K (fun cls dx _ H' => E cls dx H') mg pa [] (FD K Q) G H (f ds s)
section
variable {X : Cx} {W : WX} {pa : Option Addr} {Γ : List Sl} {k : Nat} {f : Addr} {fd : FuncData} {ps : List Str} {n : Nat} {F : List D → PM D} {x : Str} {p pos : Pos}
theorem pst_run0 {K : PySem.W.Frag} {mg : Str → Option Value} {σ : L2.St} {G H : Hp} {s : List Int} {Q : VK} {m : PM D} (hp : PenOk pa G H s) (hP : Pst K W mg pa σ (FD K Q) G H (run0 m s)) : Pst K (fun cls dx _ H' => W cls dx σ H') mg none [] (FD K Q) G H (m []) := by
  unfold run0 at hP
  cases e : m [] with
  | ok a s1 =>
    rw [e] at hP
    exact fun G' H' y _ => hP G' H' y.any (hp.ext y)
  | exc z =>
    rw [e] at hP
    exact fun cls dx G' H' y q => hP cls dx G' H' y.any q
  | bad => rw [e] at hP; exact hP.elim
theorem run0_len {m : List D → PM D} (ar : Arity n m) {ds : List D} {K : PySem.W.Frag} {mg : Str → Option Value} {σ : L2.St} {G H : Hp} {s : List Int} {Q : VK} (hP : Pst K W mg pa σ (FD K Q) G H (run0 (m ds) s)) : ds.length = n := by
  by_cases h : ds.length = n
  · exact h
  · unfold run0 at hP
    rw [ar ds [] h] at hP
    exact hP.elim
/-- f(e, ..), a def without a pen -/
theorem ev_call {e : Expr} {es : List Expr} {ml : PM (List D)} (C : Cok X W k) (FG : FnG X.prog X.w X.K X.mg X.base k f fd ps (spF X.K X.mg false n F)) (ar : Arity n F) (hg : Gl X x) (hm : X.mg x = some (.ref f)) (hk : PySem.W.keepIn X.K (.ref f) = true) (hb : Binds X.K fd ps [])
    (ha : EL X W pa Γ (e :: es) ml) (hdb : (x == ("__debug__" : Str)) = false := by decide) (he : starEach (e :: es) X.env = (false, eval e X.env) :: starEach es X.env := by rfl) (hpl : (backTo pos (starEach es X.env)).any (·.1) = false := by rfl) :
    EV X W pa Γ (.Call (.Name x p) (e :: es) [] pos) (ml >>= fun ds => run0 (F ds)) :=
  pe_imp (pe_callG C FG hg hm hk hb ha hdb he hpl) fun σ H Q ⟨G0, H0, G, s, E, P⟩ => ⟨G0, H0, G, s, E, P.bind.imp fun G1 H1 ds s1 x1 p1 P1 vs r =>
    ⟨none, G1, [], vs, ds, rfl, rfl, x1.sub, PenOk.none, r, run0_len ar P1, pst_run0 p1 P1⟩⟩
theorem ev_call0 (C : Cok X W k) (FG : FnG X.prog X.w X.K X.mg X.base k f fd ps (spF X.K X.mg false n F)) (ar : Arity n F) (hg : Gl X x) (hm : X.mg x = some (.ref f)) (hk : PySem.W.keepIn X.K (.ref f) = true) (hb : Binds X.K fd ps [])
    (hdb : (x == ("__debug__" : Str)) = false := by decide) : EV X W pa Γ (.Call (.Name x p) [] [] pos) (run0 (F [])) :=
  pe_imp (pe_callG0 C FG hg hm hk hb hdb) fun σ H Q ⟨G0, H0, G, s, E, P⟩ =>
    ⟨none, G, [], [], [], rfl, rfl, E.sub, PenOk.none, .nil, run0_len ar P, pst_run0 E.ps P⟩
/-- f(pen, e, ..), a def with the pen -/
theorem ev_callP {q : Addr} {i : Nat} {y : Str} {p2 : Pos} {es : List Expr} {ml : PM (List D)} (C : Cok X W k) (FG : FnG X.prog X.w X.K X.mg X.base k f fd ps (spF X.K X.mg true n F)) (ar : Arity n F) (hg : Gl X x) (hm : X.mg x = some (.ref f)) (hk : PySem.W.keepIn X.K (.ref f) = true) (hb : Binds X.K fd ps [])
    (hΓ : Γ[i]? = some .pen) (hN : X.N[i]? = some y) (hv : Vis X.env.scope y) (ha : EL X W (some q) Γ es ml) (hdb : (x == ("__debug__" : Str)) = false := by decide)
    (he : starEach (.Name y p2 :: es) X.env = (false, eval (.Name y p2) X.env) :: starEach es X.env := by rfl) (hpl : (backTo pos (starEach es X.env)).any (·.1) = false := by rfl)
    (hd : (y == ("__debug__" : Str)) = false := by decide) (hcd : (y == ("__classdict__" : Str)) = false := by decide) :
    EV X W (some q) Γ (.Call (.Name x p) (.Name y p2 :: es) [] pos) (ml >>= F) :=
  pe_imp (pe_callG C FG hg hm hk hb (pa_cons (pe_var hN hv hd hcd) ha he) hdb he hpl) fun σ H Q ⟨G0, H0, G, s, E, P⟩ => by
    obtain ⟨q', e1, e2⟩ := E.pen i hΓ
    cases e1
    refine ⟨.ref q, e2, G0, H0, G, s, E, P.bind.imp fun G1 H1 ds s1 x1 p1 P1 vs r => ?_⟩
    refine ⟨some q, G1, s1, vs, ds, rfl, rfl, x1.sub, p1, r, ?_, ?_⟩
    · by_cases h : ds.length = n
      · exact h
      · rw [ar ds s1 h] at P1
        exact P1.elim
    · cases e : F ds s1 with
      | ok a s2 => rw [e] at P1; exact P1
      | exc z => rw [e] at P1; exact P1
      | bad => rw [e] at P1; exact P1.elim
end

/-! ### statements -/
inductive Out where
  | fall (Γ : List Sl) | ret (d : D) | brk (Γ : List Sl) | cnt (Γ : List Sl)
def SPost (K : PySem.W.Frag) (W : WX) (mg : Str → Option Value) (pa : Option Addr) (G0 H0 : Hp) (Dn : Ends) : R Out → Prop
  | .ok (.fall Γ') s => ∀ σ' G' H', Nv K pa G0 H0 G' H' σ' Γ' s → Dn.nx σ' H'
  | .ok (.ret d) s => ∀ v G' H', Ext pa G0 H0 G' H' → PenOk pa G' H' s → Rp K G' v d → Dn.rt v H'
  | .ok (.brk Γ') s => ∀ σ' G' H', Nv K pa G0 H0 G' H' σ' Γ' s → Dn.bk σ' H'
  | .ok (.cnt Γ') s => ∀ σ' G' H', Nv K pa G0 H0 G' H' σ' Γ' s → Dn.ct σ' H'
  | .exc e => ∀ cls dx σ' G' H', Ext pa G0 H0 G' H' → ExcIs K mg G' H' e cls dx → W cls dx σ' H'
  | .bad => False
def svT (X : Cx) (W : WX) (pa : Option Addr) (Γ : List Sl) (m : PM Out) : TS := fun Dn σ H => ∃ G0 H0 G s, Nv X.K pa G0 H0 G H σ Γ s ∧ SPost X.K W X.mg pa G0 H0 Dn (m s)
/-- a block, its outcome m read by out -/
def SV (X : Cx) (W : WX) (pa : Option Addr) (Γ : List Sl) {α : Type} (out : α → Out) (sts : List Stmt) (m : PM α) : Prop := PSs X sts (svT X W pa Γ (m >>= fun a => pure (out a)))
section
variable {K : PySem.W.Frag} {W : WX} {mg : Str → Option Value} {pa : Option Addr} {G0 H0 G H : Hp} {Dn : Ends} {σ : L2.St} {Γ : List Sl} {s : List Int}
theorem SPost.bind {α : Type} {m : PM α} {f : α → PM Out} (E : Nv K pa G0 H0 G H σ Γ s) (h : SPost K W mg pa G0 H0 Dn ((m >>= f) s)) : Pst K W mg pa σ (fun _ _ a s' => SPost K W mg pa G0 H0 Dn (f a s')) G H (m s) := by
  rw [PM.bind_def] at h
  cases e : m s with
  | ok a s1 =>
    rw [e] at h
    exact fun _ _ _ _ => h
  | exc z =>
    rw [e] at h
    exact fun cls dx G' H' y q => h cls dx σ G' H' (E.ext.trans y) q
  | bad => rw [e] at h; exact h
end
theorem pss_imp {X : Cx} {sts : List Stmt} {t t' : TS} (h : PSs X sts t) (i : ∀ Dn σ H, t' Dn σ H → t Dn σ H) : PSs X sts t' := ⟨fun pins s σ H D I q => h.run pins s σ H D I (i D σ H q)⟩
theorem pss_ex {X : Cx} {ι : Type} {sts : List Stmt} {t : ι → TS} (h : ∀ z, PSs X sts (t z)) : PSs X sts (fun D σ H => ∃ z, t z D σ H) := ⟨fun pins s σ H D I ⟨z, q⟩ => (h z).run pins s σ H D I q⟩
section
variable {X : Cx} {W : WX} {pa : Option Addr} {Γ Γ' : List Sl} {k : Nat} {pos : Pos} {α β : Type} {out : α → Out} {rest : List Stmt}
/-- the block's end -/
theorem sv_nil {a : α} (h : out a = .fall Γ') (w : Weak Γ Γ') : SV X W pa Γ out [] (pure a) := by
  unfold SV
  rw [pure_bind, h]
  exact pss_imp pss_nil fun Dn σ H ⟨G0, H0, G, s, E, P⟩ => P σ G H (E.weak w)
/-- less is known -/
theorem sv_weak {sts : List Stmt} {m : PM α} (w : Weak Γ Γ') (h : SV X W pa Γ' out sts m) : SV X W pa Γ out sts m := pss_imp h fun Dn σ H ⟨G0, H0, G, s, E, P⟩ => ⟨G0, H0, G, s, E.weak w, P⟩
/-- x = e -/
theorem sv_set (i : Nat) {x : Str} {e : Expr} {pos' : Pos} {me : PM D} {kk : D → PM α} (hN : X.N.Nodup) (he : EV X W pa Γ e me) (hr : ∀ d, SV X W pa (Γ.set i (.val d)) out rest (kk d)) (hi : X.N[i]? = some x := by rfl) (hx : Loc X.env.scope x := by first | exact Or.inl rfl | exact Or.inr rfl)
    (hs : swapsWith e (some (.Name x pos')) pos.line X.env = pure false := by rfl) (hf : X.fn x = true ∨ X.env.scope.names.lookup x = some .local := by first | exact .inl rfl | exact .inr rfl) :
    SV X W pa Γ out (.Assign [.Name x pos'] e pos :: rest) (me >>= kk) := by
  unfold SV
  rw [bind_assoc]
  exact pss_imp (pss_cons (ps_set (i := i) hN hi hx he hs hf) (pss_ex hr)) fun Dn σ H ⟨G0, H0, G, s, E, P⟩ =>
    ⟨G0, H0, G, s, E, (P.bind E).imp fun G1 H1 d s1 x1 p1 P1 v r => ⟨d, G0, H0, G1, s1, (E.step x1 p1).set i r, P1⟩⟩
/-- return e -/
theorem sv_ret {e : Expr} {me : PM D} {inj : D → α} (hi : ∀ d, out (inj d) = .ret d) (he : EV X W pa Γ e me) : SV X W pa Γ out (.Return (some e) pos :: rest) (me >>= fun d => pure (inj d)) := by
  unfold SV
  rw [bind_assoc]
  refine pss_imp (pss_cons (ps_ret he) (pss_never (sts := rest))) fun Dn σ H ⟨G0, H0, G, s, E, P⟩ => ⟨G0, H0, G, s, E, (P.bind E).imp fun G1 H1 d s1 x1 p1 P1 v r => ?_⟩
  rw [pure_bind, hi] at P1
  exact P1 v G1 H1 (E.ext.trans x1) p1 r
/-- an expression alone -/
theorem sv_expr {e : Expr} {me : PM D} {kk : PM α} (he : EV X W pa Γ e me) (hr : SV X W pa Γ out rest kk) (hs : swapsWith e none pos.line X.env = pure false := by rfl) : SV X W pa Γ out (.Expr e pos :: rest) (me >>= fun _ => kk) := by
  unfold SV
  rw [bind_assoc]
  exact pss_imp (pss_cons (ps_expr he hs) hr) fun Dn σ H ⟨G0, H0, G, s, E, P⟩ => ⟨G0, H0, G, s, E, (P.bind E).imp fun G1 H1 d s1 x1 p1 P1 v r => ⟨G0, H0, G1, s1, E.step x1 p1, P1⟩⟩
/-- if c: .. that leaves the block by return; then the rest -/
theorem sv_ifR {c : Expr} {A : List Stmt} {mc : PM Bool} {mA kk : PM α} (hc : EB X W pa Γ c mc) (hA : SV X W pa Γ out A mA) (hn : ∀ a s s' Γ', mA s = .ok a s' → out a ≠ .fall Γ') (hr : SV X W pa Γ out rest kk) :
    SV X W pa Γ out (.If c A [] pos :: rest) (mc >>= fun b => if b = true then mA else kk) := by
  unfold SV
  rw [bind_assoc]
  refine pss_imp (pss_cons (ps_if hc hA pss_nil) hr) fun Dn σ H ⟨G0, H0, G, s, E, P⟩ => ⟨G0, H0, G, s, E, (P.bind E).imp fun G1 H1 b s1 x1 p1 P1 => ?_⟩
  cases b with
  | false => exact (show svT X W pa Γ (kk >>= fun a => pure (out a)) Dn σ H1 from ⟨G0, H0, G1, s1, E.step x1 p1, P1⟩)
  | true =>
    refine (show svT X W pa Γ (mA >>= fun a => pure (out a)) _ σ H1 from ⟨G0, H0, G1, s1, E.step x1 p1, ?_⟩)
    have P1 : SPost X.K W X.mg pa G0 H0 Dn ((mA >>= fun a => pure (out a)) s1) := P1
    rw [PM.bind_def] at P1 ⊢
    cases e : mA s1 with
    | ok a s2 =>
      rw [e] at P1
      have h := hn a s1 s2
      show SPost X.K W X.mg pa G0 H0 _ (.ok (out a) s2)
      have P1 : SPost X.K W X.mg pa G0 H0 Dn (.ok (out a) s2) := P1
      cases q : out a with
      | fall Γ' => exact absurd q (h Γ' e)
      | ret d => rw [q] at P1; exact P1
      | brk Γ' => rw [q] at P1; exact P1
      | cnt Γ' => rw [q] at P1; exact P1
    | exc z => rw [e] at P1; exact P1
    | bad => rw [e] at P1; exact P1.elim
/-- if c: A else: B at the block's end -/
theorem sv_ifE {c : Expr} {A B : List Stmt} {mc : PM Bool} {mA mB : PM α} (hc : EB X W pa Γ c mc) (hA : SV X W pa Γ out A mA) (hB : SV X W pa Γ out B mB) : SV X W pa Γ out [.If c A B pos] (mc >>= fun b => if b = true then mA else mB) := by
  unfold SV
  rw [bind_assoc]
  refine pss_imp (pss_one (ps_if hc hA hB)) fun Dn σ H ⟨G0, H0, G, s, E, P⟩ => ⟨G0, H0, G, s, E, (P.bind E).imp fun G1 H1 b s1 x1 p1 P1 => ?_⟩
  cases b with
  | false => exact (show svT X W pa Γ (mB >>= fun a => pure (out a)) Dn σ H1 from ⟨G0, H0, G1, s1, E.step x1 p1, P1⟩)
  | true => exact (show svT X W pa Γ (mA >>= fun a => pure (out a)) Dn σ H1 from ⟨G0, H0, G1, s1, E.step x1 p1, P1⟩)
/-- if c: A else: B, both fall into the rest; a tells what they changed -/
theorem sv_ifJ {c : Expr} {A B : List Stmt} {mc : PM Bool} {mA mB : PM β} {mk : β → List Sl} {kk : β → PM α} (hc : EB X W pa Γ c mc) (hA : SV X W pa Γ (fun b => Out.fall (mk b)) A mA) (hB : SV X W pa Γ (fun b => Out.fall (mk b)) B mB)
    (hr : ∀ b, SV X W pa (mk b) out rest (kk b)) : SV X W pa Γ out (.If c A B pos :: rest) (mc >>= fun b => (if b = true then mA else mB) >>= kk) := by
  unfold SV
  rw [bind_assoc]
  refine pss_imp (pss_cons (ps_if hc hA hB) (pss_ex hr)) fun Dn σ H ⟨G0, H0, G, s, E, P⟩ => ⟨G0, H0, G, s, E, (P.bind E).imp fun G1 H1 b s1 x1 p1 P1 => ?_⟩
  have go : ∀ m : PM β, SPost X.K W X.mg pa G0 H0 Dn (((m >>= kk) >>= fun a => pure (out a)) s1) →
      svT X W pa Γ (m >>= fun b => pure (Out.fall (mk b))) { Dn with nx := fun σ H => ∃ z, svT X W pa (mk z) (kk z >>= fun a => pure (out a)) Dn σ H } σ H1 := fun m P => by
    refine ⟨G0, H0, G1, s1, E.step x1 p1, ?_⟩
    rw [bind_assoc, PM.bind_def] at P
    rw [PM.bind_def]
    cases e : m s1 with
    | ok a s2 =>
      rw [e] at P
      exact fun σ' G' H' E' => ⟨a, G0, H0, G', s2, E', P⟩
    | exc z => rw [e] at P; exact P
    | bad => rw [e] at P; exact P.elim
  cases b with
  | false => exact go mB P1
  | true => exact go mA P1
end
end EV

/-! EV 8: loops, own lists, the pen. -/
namespace EV
open PySem PySem.Spec PyProof.Rows L2

/-! ### no fall -/
def NF {α : Type} (out : α → Out) (m : PM α) : Prop := ∀ a s s' Γ', m s = .ok a s' → out a ≠ .fall Γ'
theorem nf_ret {α : Type} {out : α → Out} {inj : D → α} {m : PM D} (h : ∀ d, out (inj d) = .ret d) : NF out (m >>= fun d => pure (inj d)) := fun a s s' Γ' e q => by
  rw [PM.bind_def] at e
  cases h1 : m s with
  | ok d s1 =>
    rw [h1] at e
    cases e
    rw [h] at q
    cases q
  | exc z => rw [h1] at e; cases e
  | bad => rw [h1] at e; cases e
theorem nf_bad {α : Type} {out : α → Out} : NF out (bad : PM α) := fun a s s' Γ' e => by cases e
theorem nf_bind {α β : Type} {out : α → Out} {m : PM β} {f : β → PM α} (h : ∀ b, NF out (f b)) : NF out (m >>= f) := fun a s s' Γ' e => by
  rw [PM.bind_def] at e
  cases h1 : m s with
  | ok d s1 => rw [h1] at e; exact h d a s1 s' Γ' e
  | exc z => rw [h1] at e; cases e
  | bad => rw [h1] at e; cases e
theorem nf_ite {α : Type} {out : α → Out} {c : Prop} [Decidable c] {m n : PM α} (h : NF out m) (h' : NF out n) : NF out (if c then m else n) := by
  split <;> assumption

/-! ### another base -/
section
variable {K : PySem.W.Frag} {W : WX} {mg : Str → Option Value} {pa : Option Addr} {G0 H0 G1 H1 G H : Hp} {σ : L2.St} {Γ : List Sl} {s : List Int}
theorem Ext.base (x : Ext pa G0 H0 G1 H1) : Ext pa G1 H0 G1 H1 := ⟨Same.refl _, x.h, x.t, fun a o e n => n, x.sub⟩
theorem Ext.back (x : Ext pa G0 H0 G1 H1) (y : Ext pa G1 H0 G H) : Ext pa G0 H0 G H := ⟨x.g.trans y.g, y.h, y.t, fun a o e n => y.n a o e (x.n a o e n), y.sub⟩
theorem Nv.base (E : Nv K pa G0 H0 G1 H1 σ Γ s) : Nv K pa G1 H0 G1 H1 σ Γ s := ⟨E.len, E.val, E.own, E.inj, E.pen, E.scr, E.ps, E.ext.base⟩
theorem Nv.back (x : Ext pa G0 H0 G1 H1) (E : Nv K pa G1 H0 G H σ Γ s) : Nv K pa G0 H0 G H σ Γ s := ⟨E.len, E.val, E.own, E.inj, E.pen, E.scr, E.ps, x.back E.ext⟩
theorem SPost.base {Dn : Ends} {r : R Out} (x : Ext pa G0 H0 G1 H1) (h : SPost K W mg pa G0 H0 Dn r) : SPost K W mg pa G1 H0 Dn r := by
  cases r with
  | ok o s =>
    cases o with
    | fall Γ' => exact fun σ' G' H' E => h σ' G' H' (E.back x)
    | ret d => exact fun v G' H' y p r => h v G' H' (x.back y) p r
    | brk Γ' => exact fun σ' G' H' E => h σ' G' H' (E.back x)
    | cnt Γ' => exact fun σ' G' H' E => h σ' G' H' (E.back x)
  | exc e => exact fun cls dx σ' G' H' y q => h cls dx σ' G' H' (x.back y) q
  | bad => exact h
end

/-! ### for -/
inductive Lp (C : Type) where
  | go (c : C) | ret (d : D)
def forS {ι C : Type} (dec : D → Option ι) (mb : C → ι → PM C) : List D → C → PM C
  | [], c => pure c
  | x :: xs, c => match dec x with
    | none => bad
    | some z => mb c z >>= forS dec mb xs
def forL {ι C : Type} (dec : D → Option ι) (mb : C → ι → PM (Lp C)) : List D → C → PM (Lp C)
  | [], c => pure (.go c)
  | x :: xs, c => match dec x with
    | none => bad
    | some z => mb c z >>= fun r => match r with
      | .go c' => forL dec mb xs c'
      | .ret d => pure (.ret d)
def lpOut {C : Type} (mk : C → List Sl) : Lp C → Out
  | .go c => .fall (mk c)
  | .ret d => .ret d
def lpK {C α : Type} (inj : D → α) (kk : C → PM α) : Lp C → PM α
  | .go c => kk c
  | .ret d => pure (inj d)
section
variable {X : Cx} {W : WX} {pa : Option Addr} {Γ : List Sl} {k : Nat} {pos : Pos} {α : Type} {out : α → Out} {rest : List Stmt} {ι C : Type} {dec : D → Option ι} {tg iter : Expr} {body : List Stmt} {g : TG} {vs : List Nat} {mk : C → List Sl} {Γz : C → ι → List Sl} {mi : PM (List D)} {c0 : C}
theorem sv_forL {mb : C → ι → PM (Lp C)} {kk : C → PM α} {inj : D → α} (Cx : Cok X W k) (hi : EI X W pa Γ tg iter mi) (hp : PG X tg g) (hg : ∀ c, TgOk X pa dec g vs (mk c) (Γz c)) (w : Weak Γ (mk c0)) (hj : ∀ d, out (inj d) = .ret d)
    (hb : ∀ c z, SV X W pa (Γz c z) (lpOut mk) body (mb c z)) (hr : ∀ c, SV X W pa (mk c) out rest (kk c)) (hs : ∀ x, foldedSetIterable iter X.env x = pure x := by intro _; rfl) :
    SV X W pa Γ out (.For tg iter body [] pos :: rest) (mi >>= fun xs => forL dec mb xs c0 >>= lpK inj kk) := by
  have hbody : PSs X body (fun D σ H => ∃ p : C × ι, svT X W pa (Γz p.1 p.2) (mb p.1 p.2 >>= fun a => pure (lpOut mk a)) D σ H) := pss_ex (ι := C × ι) fun p => hb p.1 p.2
  unfold SV
  rw [bind_assoc]
  refine pss_imp (pss_cons (ps_for Cx.passes Cx.calm hi hp hbody hs) (pss_ex hr)) fun Dn σ H ⟨G0, H0, G, s, E, P⟩ => ⟨G0, H0, G, s, E, (P.bind E).imp fun G1 H1 xs s1 x1 p1 P1 J hJ => ?_⟩
  have E1 := (E.step x1 p1).weak w
  have P1 : SPost X.K W X.mg pa G1 H0 Dn (((forL dec mb xs c0 >>= lpK inj kk) >>= fun a => pure (out a)) s1) := P1.base E1.ext
  have E1b : Nv X.K pa G1 H0 G1 H1 σ (mk c0) s1 := E1.base
  refine ⟨fun i m σ H => m = xs.length - i ∧ i ≤ xs.length ∧ ∃ G c s', Nv X.K pa G1 H0 G H σ (mk c) s' ∧ SPost X.K W X.mg pa G1 H0 Dn (((forL dec mb (xs.drop i) c >>= lpK inj kk) >>= fun a => pure (out a)) s'),
    ⟨xs.length, by simp, Nat.zero_le _, G1, c0, s1, E1b, by simpa using P1⟩, ?_⟩
  rintro i m σ2 H2 ⟨rfl, hi', G2, c, s2, E2, P2⟩
  have jk := hJ G2 H2 E2.ext.g E2.sub
  by_cases hlt : i < xs.length
  · obtain ⟨x, hx⟩ : ∃ x, xs[i]? = some x := ⟨_, List.getElem?_eq_getElem hlt⟩
    obtain ⟨hgo, hyld⟩ := jk.1 i x hx
    have hdrop : xs.drop i = x :: xs.drop (i + 1) := by
      rw [List.drop_eq_getElem_cons hlt]
      congr 1
      rw [List.getElem?_eq_getElem hlt] at hx
      exact Option.some.inj hx
    rw [hdrop] at P2
    unfold forL at P2
    refine .inr ⟨hgo, fun σ H => ∃ G c s', Nv X.K pa G1 H0 G H σ (mk c) s' ∧ SPost X.K W X.mg pa G1 H0 Dn (((forL dec mb (xs.drop (i + 1)) c >>= lpK inj kk) >>= fun a => pure (out a)) s'), fun σ' H' q => ⟨_, by omega, rfl, hlt, q⟩, fun v H3 hy => ?_⟩
    obtain ⟨G3, x3, rv⟩ := hyld v H3 hy
    have p3 := E2.ps.ext x3
    have E3 := E2.step x3.any p3
    cases hd : dec x with
    | none => rw [hd] at P2; exact P2.elim
    | some z =>
      rw [hd] at P2
      dsimp only at P2
      refine hg c G1 H0 G3 H3 σ2 s2 v x z _ E3 rv hd fun σ4 E4 _ => ⟨(c, z), G1, H0, G3, s2, E4, ?_⟩
      rw [bind_assoc, bind_assoc, PM.bind_def] at P2
      rw [PM.bind_def]
      cases e : mb c z s2 with
      | ok r s5 =>
        rw [e] at P2
        dsimp only at P2
        cases r with
        | go c' => exact fun σ' G' H' E' => ⟨G', c', s5, E', by rw [bind_assoc]; exact P2⟩
        | ret d =>
          have P2 : SPost X.K W X.mg pa G1 H0 Dn ((((pure (.ret d) : PM (Lp C)) >>= lpK inj kk) >>= fun a => pure (out a)) s5) := by rw [bind_assoc]; exact P2
          rw [pure_bind] at P2
          have P2 : SPost X.K W X.mg pa G1 H0 Dn ((((pure (inj d)) : PM α) >>= fun a => pure (out a)) s5) := P2
          rw [pure_bind, hj] at P2
          exact P2
      | exc q => rw [e] at P2; exact P2
      | bad => rw [e] at P2; exact P2.elim
  · have e : i = xs.length := by omega
    subst e
    rw [List.drop_length] at P2
    exact .inl ⟨jk.2 _ (Nat.le_refl _), c, G1, H0, G2, s2, E2, P2⟩
theorem sv_forS {mb : C → ι → PM C} {kk : C → PM α} (Cx : Cok X W k) (hi : EI X W pa Γ tg iter mi) (hp : PG X tg g) (hg : ∀ c, TgOk X pa dec g vs (mk c) (Γz c)) (w : Weak Γ (mk c0))
    (hb : ∀ c z, SV X W pa (Γz c z) (fun c => Out.fall (mk c)) body (mb c z)) (hr : ∀ c, SV X W pa (mk c) out rest (kk c)) (hs : ∀ x, foldedSetIterable iter X.env x = pure x := by intro _; rfl) :
    SV X W pa Γ out (.For tg iter body [] pos :: rest) (mi >>= fun xs => forS dec mb xs c0 >>= kk) := by
  have hbody : PSs X body (fun D σ H => ∃ p : C × ι, svT X W pa (Γz p.1 p.2) (mb p.1 p.2 >>= fun a => pure (Out.fall (mk a))) D σ H) := pss_ex (ι := C × ι) fun p => hb p.1 p.2
  unfold SV
  rw [bind_assoc]
  refine pss_imp (pss_cons (ps_for Cx.passes Cx.calm hi hp hbody hs) (pss_ex hr)) fun Dn σ H ⟨G0, H0, G, s, E, P⟩ => ⟨G0, H0, G, s, E, (P.bind E).imp fun G1 H1 xs s1 x1 p1 P1 J hJ => ?_⟩
  have E1 := (E.step x1 p1).weak w
  have P1 : SPost X.K W X.mg pa G1 H0 Dn (((forS dec mb xs c0 >>= kk) >>= fun a => pure (out a)) s1) := P1.base E1.ext
  have E1b : Nv X.K pa G1 H0 G1 H1 σ (mk c0) s1 := E1.base
  refine ⟨fun i m σ H => m = xs.length - i ∧ i ≤ xs.length ∧ ∃ G c s', Nv X.K pa G1 H0 G H σ (mk c) s' ∧ SPost X.K W X.mg pa G1 H0 Dn (((forS dec mb (xs.drop i) c >>= kk) >>= fun a => pure (out a)) s'),
    ⟨xs.length, by simp, Nat.zero_le _, G1, c0, s1, E1b, by simpa using P1⟩, ?_⟩
  rintro i m σ2 H2 ⟨rfl, hi', G2, c, s2, E2, P2⟩
  have jk := hJ G2 H2 E2.ext.g E2.sub
  by_cases hlt : i < xs.length
  · obtain ⟨x, hx⟩ : ∃ x, xs[i]? = some x := ⟨_, List.getElem?_eq_getElem hlt⟩
    obtain ⟨hgo, hyld⟩ := jk.1 i x hx
    have hdrop : xs.drop i = x :: xs.drop (i + 1) := by
      rw [List.drop_eq_getElem_cons hlt]
      congr 1
      rw [List.getElem?_eq_getElem hlt] at hx
      exact Option.some.inj hx
    rw [hdrop] at P2
    unfold forS at P2
    refine .inr ⟨hgo, fun σ H => ∃ G c s', Nv X.K pa G1 H0 G H σ (mk c) s' ∧ SPost X.K W X.mg pa G1 H0 Dn (((forS dec mb (xs.drop (i + 1)) c >>= kk) >>= fun a => pure (out a)) s'), fun σ' H' q => ⟨_, by omega, rfl, hlt, q⟩, fun v H3 hy => ?_⟩
    obtain ⟨G3, x3, rv⟩ := hyld v H3 hy
    have p3 := E2.ps.ext x3
    have E3 := E2.step x3.any p3
    cases hd : dec x with
    | none => rw [hd] at P2; exact P2.elim
    | some z =>
      rw [hd] at P2
      dsimp only at P2
      refine hg c G1 H0 G3 H3 σ2 s2 v x z _ E3 rv hd fun σ4 E4 _ => ⟨(c, z), G1, H0, G3, s2, E4, ?_⟩
      rw [bind_assoc, bind_assoc, PM.bind_def] at P2
      rw [PM.bind_def]
      cases e : mb c z s2 with
      | ok c' s5 =>
        rw [e] at P2
        dsimp only at P2
        exact fun σ' G' H' E' => ⟨G', c', s5, E', by rw [bind_assoc]; exact P2⟩
      | exc q => rw [e] at P2; exact P2
      | bad => rw [e] at P2; exact P2.elim
  · have e : i = xs.length := by omega
    subst e
    rw [List.drop_length] at P2
    have P2 : SPost X.K W X.mg pa G1 H0 Dn ((((pure c : PM C) >>= kk) >>= fun a => pure (out a)) s2) := P2
    rw [pure_bind] at P2
    exact .inl ⟨jk.2 _ (Nat.le_refl _), c, G1, H0, G2, s2, E2, P2⟩
/-! ### while -/
def whileS {C : Type} (mc : C → PM Bool) (mb : C → PM C) : Nat → C → PM C
  | 0, _ => bad
  | n + 1, c => mc c >>= fun b => if b = true then mb c >>= whileS mc mb n else pure c
theorem sv_while (n : Nat) {cnd : Expr} {mc : C → PM Bool} {mb : C → PM C} {kk : C → PM α} (Cx : Cok X W k) (w : Weak Γ (mk c0)) (hc : ∀ c, EB X W pa (mk c) cnd (mc c)) (hb : ∀ c, SV X W pa (mk c) (fun c => Out.fall (mk c)) body (mb c)) (hr : ∀ c, SV X W pa (mk c) out rest (kk c)) :
    SV X W pa Γ out (.While cnd body [] pos :: rest) (whileS mc mb n c0 >>= kk) := by
  unfold SV
  rw [bind_assoc]
  have hcc : PT X cnd (fun σ H Q => ∃ c, evB X W pa (mk c) (mc c) σ H Q) := pt_ex hc
  have hbb : PSs X body (fun D σ H => ∃ c, svT X W pa (mk c) (mb c >>= fun a => pure (Out.fall (mk a))) D σ H) := pss_ex hb
  refine pss_imp (pss_cons (ps_while Cx.passes hcc hbb) (pss_ex hr)) fun Dn σ H ⟨G0, H0, G, s, E, P⟩ => ?_
  refine ⟨fun m σ H => ∃ G c s', Nv X.K pa G0 H0 G H σ (mk c) s' ∧ SPost X.K W X.mg pa G0 H0 Dn ((whileS mc mb m c >>= fun c => kk c >>= fun a => pure (out a)) s'), ⟨n, G, c0, s, E.weak w, P⟩, ?_⟩
  rintro m σ1 H1 ⟨G1, c, s1, E1, P1⟩
  cases m with
  | zero => exact P1.elim
  | succ m =>
    unfold whileS at P1
    rw [bind_assoc] at P1
    refine ⟨c, G0, H0, G1, s1, E1, (P1.bind E1).imp fun G2 H2 b s2 x2 p2 P2 => ?_⟩
    have E2 := E1.step x2 p2
    cases b with
    | false =>
      have P2 : SPost X.K W X.mg pa G0 H0 Dn (((pure c : PM C) >>= fun c => kk c >>= fun a => pure (out a)) s2) := P2
      rw [pure_bind] at P2
      exact (show ∃ z, svT X W pa (mk z) (kk z >>= fun a => pure (out a)) Dn σ1 H2 from ⟨c, G0, H0, G2, s2, E2, P2⟩)
    | true =>
      have P2 : SPost X.K W X.mg pa G0 H0 Dn (((mb c >>= whileS mc mb m) >>= fun c => kk c >>= fun a => pure (out a)) s2) := P2
      refine (show ∃ N : L2.St → Hp → Prop, _ from ⟨fun σ H => ∃ G c s', Nv X.K pa G0 H0 G H σ (mk c) s' ∧ SPost X.K W X.mg pa G0 H0 Dn ((whileS mc mb m c >>= fun c => kk c >>= fun a => pure (out a)) s'), fun σ' H' q => ⟨m, Nat.lt_succ_self _, q⟩, c, G0, H0, G2, s2, E2, ?_⟩)
      rw [bind_assoc, PM.bind_def] at P2
      rw [PM.bind_def]
      cases e : mb c s2 with
      | ok c' s5 =>
        rw [e] at P2
        exact fun σ' G' H' E' => ⟨G', c', s5, E', P2⟩
      | exc q => rw [e] at P2; exact P2
      | bad => rw [e] at P2; exact P2.elim
end
end EV

/-! EV 9: own lists, the pen, defs by their bodies. -/
namespace EV
open PySem PySem.Spec PyProof.Rows L2

section
variable {K : PySem.W.Frag} {pa : Option Addr} {G0 H0 G H : Hp} {σ : L2.St} {Γ : List Sl} {s : List Int}
theorem Nv.lt (E : Nv K pa G0 H0 G H σ Γ s) {i : Nat} {x : Sl} (h : Γ[i]? = some x) : i < Γ.length := (List.getElem?_eq_some_iff.mp h).1
/-- an own list seen as a value -/
theorem Nv.pubW (E : Nv K pa G0 H0 G H σ Γ s) {i : Nat} {xs : List D} (h : Γ[i]? = some (.own xs)) :
    ∃ p vs, σ[i]? = some (some (.ref p)) ∧ H p = some (.lst vs) ∧ G p = none ∧ RpL K G vs xs ∧ H0 p = none ∧ pa ≠ some p ∧ Nv K pa G0 H0 (upd G p (.lst vs)) H σ (Γ.set i (.val (.lst xs))) s := by
  obtain ⟨p, vs, h1, h2, h3, h4, h5, h6⟩ := E.own i xs h
  have sg : Same G (upd G p (.lst vs)) := fun a o e => by
    rw [upd_ne (ne_of_none e h3)]
    exact e
  refine ⟨p, vs, h1, h2, h3, h4, h5, h6, ?_⟩
  have hlt := E.lt h
  refine ⟨by simp [E.len], fun j d e => ?_, fun j ys e => ?_, fun j l q ys zs e1 e2 e3 e4 => ?_, fun j e => ?_, fun j ns e => ?_, fun q e => ?_, ?_⟩
  · by_cases hj : i = j
    · subst hj
      rw [List.getElem?_set_self hlt] at e
      cases e
      exact ⟨_, h1, .mkL upd_same (h4.mono sg)⟩
    · rw [List.getElem?_set_ne hj] at e
      obtain ⟨v, q1, q2⟩ := E.val j d e
      exact ⟨v, q1, q2.mono sg⟩
  · by_cases hj : i = j
    · subst hj
      rw [List.getElem?_set_self hlt] at e
      cases e
    · rw [List.getElem?_set_ne hj] at e
      obtain ⟨q, ws, q1, q2, q3, q4, q5, q6⟩ := E.own j ys e
      have : q ≠ p := fun z => by
        rw [z] at q1
        exact hj (E.inj i j p _ _ h e h1 q1)
      exact ⟨q, ws, q1, q2, by rw [upd_ne this]; exact q3, q4.mono sg, q5, q6⟩
  · have n1 : i ≠ j := fun z => by
      subst z
      rw [List.getElem?_set_self hlt] at e1
      cases e1
    have n2 : i ≠ l := fun z => by
      subst z
      rw [List.getElem?_set_self hlt] at e2
      cases e2
    rw [List.getElem?_set_ne n1] at e1
    rw [List.getElem?_set_ne n2] at e2
    exact E.inj j l q ys zs e1 e2 e3 e4
  · have n1 : i ≠ j := fun z => by
      subst z
      rw [List.getElem?_set_self hlt] at e
      cases e
    rw [List.getElem?_set_ne n1] at e
    exact E.pen j e
  · have n1 : i ≠ j := fun z => by
      subst z
      rw [List.getElem?_set_self hlt] at e
      cases e
    rw [List.getElem?_set_ne n1] at e
    obtain ⟨a, q1, q2⟩ := E.scr j ns e
    exact ⟨a, q1, sg.seq q2⟩
  · obtain ⟨q1, q2⟩ := E.ps q e
    have : q ≠ p := fun z => h6 (by rw [← z]; exact e)
    rw [upd_ne this]
    exact ⟨q1, q2⟩
  · refine ⟨E.ext.g.trans sg, E.ext.h, E.ext.t, fun a o e n => ?_, fun a o e => ?_⟩
    · rw [upd_ne (ne_of_none e h5)]
      exact E.ext.n a o e n
    · by_cases ha : a = p
      · subst ha
        rw [upd_same] at e
        rw [← e]
        exact h2
      · rw [upd_ne ha] at e
        exact E.sub a o e
/-- back from a peek -/
theorem unpeek {p : Addr} {vs : List V} {G' H' : Hp} (hG : G p = none) (hp : H p = some (.lst vs)) (x : Ext pa (upd G p (.lst vs)) H G' H') :
    ∃ G'', Ext pa G H G'' H' ∧ (∀ s, PenOk pa G' H' s → PenOk pa G'' H' s) := by
  refine ⟨fun a => if a = p then none else G' a, ⟨fun a o e => ?_, x.h, x.t, fun a o e n => ?_, fun a o e => ?_⟩, fun s q a e => ?_⟩
  · have : a ≠ p := ne_of_none e hG
    show (if a = p then none else G' a) = some o
    rw [if_neg this]
    refine x.g a o ?_
    rw [upd_ne this]
    exact e
  · show (if a = p then none else G' a) = none
    by_cases ha : a = p
    · rw [if_pos ha]
    · rw [if_neg ha]
      exact x.n a o e (by rw [upd_ne ha]; exact n)
  · have e : (if a = p then none else G' a) = some o := e
    by_cases ha : a = p
    · rw [if_pos ha] at e
      cases e
    · rw [if_neg ha] at e
      exact x.sub a o e
  · obtain ⟨q1, q2⟩ := q a e
    refine ⟨?_, q2⟩
    show (if a = p then none else G' a) = none
    by_cases ha : a = p
    · rw [if_pos ha]
    · rw [if_neg ha]
      exact q1
/-- an own list is changed -/
theorem Nv.mut (E : Nv K pa G0 H0 G H σ Γ s) {i : Nat} {xs : List D} {p : Addr} {vs : List V} {ys : List D} (h : Γ[i]? = some (.own xs)) (hp : σ[i]? = some (some (.ref p))) (r : RpL K G vs ys) :
    Nv K pa G0 H0 G (upd H p (.lst vs)) σ (Γ.set i (.own ys)) s := by
  obtain ⟨p', vs', h1, h2, h3, h4, h5, h6⟩ := E.own i xs h
  rw [hp] at h1
  cases h1
  have hlt := E.lt h
  refine ⟨by simp [E.len], fun j d e => ?_, fun j zs e => ?_, fun j l q ys' zs e1 e2 e3 e4 => ?_, fun j e => ?_, fun j ns e => ?_, fun q e => ?_, ?_⟩
  · by_cases hj : i = j
    · subst hj
      rw [List.getElem?_set_self hlt] at e
      cases e
    · rw [List.getElem?_set_ne hj] at e
      exact E.val j d e
  · by_cases hj : i = j
    · subst hj
      rw [List.getElem?_set_self hlt] at e
      cases e
      exact ⟨p, vs, hp, upd_same, h3, r, h5, h6⟩
    · rw [List.getElem?_set_ne hj] at e
      obtain ⟨q, ws, q1, q2, q3, q4, q5, q6⟩ := E.own j zs e
      have : q ≠ p := fun z => by
        rw [z] at q1
        exact hj (E.inj i j p _ _ h e hp q1)
      exact ⟨q, ws, q1, by rw [upd_ne this]; exact q2, q3, q4, q5, q6⟩
  · have back : ∀ (m : Nat) zs, (Γ.set i (.own ys))[m]? = some (.own zs) → ∃ zs', Γ[m]? = some (.own zs') := fun m zs e => by
      by_cases hm : i = m
      · subst hm
        exact ⟨xs, h⟩
      · rw [List.getElem?_set_ne hm] at e
        exact ⟨zs, e⟩
    obtain ⟨z1, f1⟩ := back j ys' e1
    obtain ⟨z2, f2⟩ := back l zs e2
    exact E.inj j l q z1 z2 f1 f2 e3 e4
  · have n1 : i ≠ j := fun z => by
      subst z
      rw [List.getElem?_set_self hlt] at e
      cases e
    rw [List.getElem?_set_ne n1] at e
    exact E.pen j e
  · have n1 : i ≠ j := fun z => by
      subst z
      rw [List.getElem?_set_self hlt] at e
      cases e
    rw [List.getElem?_set_ne n1] at e
    exact E.scr j ns e
  · obtain ⟨q1, q2⟩ := E.ps q e
    have : q ≠ p := fun z => h6 (by rw [← z]; exact e)
    rw [upd_ne this]
    exact ⟨q1, q2⟩
  · refine ⟨E.ext.g, fun a o e n => ?_, fun a o e => ?_, E.ext.n, fun a o e => ?_⟩
    · rw [upd_ne (ne_of_none e h5)]
      exact E.ext.h a o e n
    · rw [upd_ne (ne_of_none e h5)]
      exact E.ext.t a o e
    · rw [upd_ne (ne_of_none e h3)]
      exact E.sub a o e
end

section
variable {X : Cx} {W : WX} {pa : Option Addr} {Γ : List Sl} {k : Nat} {pos : Pos} {α : Type} {out : α → Out} {rest : List Stmt}
/-! ### peek, publish -/
theorem eb_peek (i : Nat) {xs : List D} {e : Expr} {m : PM Bool} (h : Γ[i]? = some (.own xs)) (he : EB X W pa (Γ.set i (.val (.lst xs))) e m) : EB X W pa Γ e (noExc m) :=
  pt_imp he fun σ H Q ⟨G0, H0, G, s, E, P⟩ => by
    obtain ⟨p, vs, h1, h2, h3, h4, h5, h6, E'⟩ := E.pubW h
    refine ⟨G0, H0, _, s, E', ?_⟩
    unfold noExc at P
    cases e : m s with
    | ok b s1 =>
      rw [e] at P
      intro G' H' x q
      obtain ⟨G'', y, z⟩ := unpeek h3 h2 x
      exact P G'' H' y (z _ q)
    | exc z => rw [e] at P; exact P.elim
    | bad => rw [e] at P; exact P.elim
def scalD : D → Bool
  | .non | .bl _ | .int _ | .str _ => true
  | _ => false
def scalO (d : D) : PM D := if scalD d = true then pure d else bad
theorem Rp.scal {K : PySem.W.Frag} {G G' : Hp} {v : V} {d : D} (h : scalD d = true) (r : Rp K G v d) : Rp K G' v d := by
  cases r with
  | non => exact .non
  | bl b => exact .bl b
  | int b => exact .int b
  | str b => exact .str b
  | lst _ _ _ => cases h
  | tup _ _ _ => cases h
theorem ev_peek (i : Nat) {xs : List D} {e : Expr} {m : PM D} (h : Γ[i]? = some (.own xs)) (he : EV X W pa (Γ.set i (.val (.lst xs))) e m) : EV X W pa Γ e (noExc m >>= scalO) :=
  pe_imp he fun σ H Q ⟨G0, H0, G, s, E, P⟩ => by
    obtain ⟨p, vs, h1, h2, h3, h4, h5, h6, E'⟩ := E.pubW h
    refine ⟨G0, H0, _, s, E', ?_⟩
    rw [PM.bind_def] at P
    unfold noExc at P
    cases e : m s with
    | ok d s1 =>
      rw [e] at P
      have P : Pst X.K W X.mg pa σ (FD X.K Q) G H ((if scalD d = true then pure d else bad : PM D) s1) := P
      split at P
      · rename_i hd
        intro G' H' x q v r
        obtain ⟨G'', y, z⟩ := unpeek h3 h2 x
        exact P G'' H' y (z _ q) v (r.scal hd)
      · exact P.elim
    | exc z => rw [e] at P; exact P.elim
    | bad => rw [e] at P; exact P.elim
theorem sv_pub (i : Nat) {xs : List D} {sts : List Stmt} {m : PM α} (h : Γ[i]? = some (.own xs)) (hr : SV X W pa (Γ.set i (.val (.lst xs))) out sts m) : SV X W pa Γ out sts m :=
  pss_imp hr fun Dn σ H ⟨G0, H0, G, s, E, P⟩ => by
    obtain ⟨p, vs, h1, h2, h3, h4, h5, h6, E'⟩ := E.pubW h
    exact ⟨G0, H0, _, s, E', P⟩
/-- nothing is said -/
theorem sv_bad {sts : List Stmt} : SV X W pa Γ out sts bad := pss_imp pss_never fun Dn σ H ⟨G0, H0, G, s, E, P⟩ => P.elim

/-! ### x.append(e), x.extend(e) -/
def okLen (xs : List D) : PM Unit := if xs.length ≤ lim then pure () else bad
theorem okLen_ok {xs : List D} (h : xs.length ≤ lim) : okLen xs = pure () := if_pos h
theorem sv_append (i : Nat) {x : Str} {e : Expr} {xs : List D} {me : PM D} {kk : D → PM α} {p1 apos cpos : Pos} (h : Γ[i]? = some (.own xs)) (he : EV X W pa Γ e me) (hr : ∀ d, SV X W pa (Γ.set i (.own (xs ++ [d]))) out rest (kk d))
    (hN : X.N[i]? = some x := by rfl) (hv : Vis X.env.scope x := by first | exact Or.inl rfl | exact Or.inr (Or.inl rfl) | exact Or.inr (Or.inr rfl)) (hd : (x == ("__debug__" : Str)) = false := by decide) (hcd : (x == ("__classdict__" : Str)) = false := by decide)
    (hbase : attributeBase (.Name x p1) "append" X.env (eval (.Name x p1) X.env) = eval (.Name x p1) X.env := by rfl)
    (hfew : ((backTo cpos (starEach [e] X.env)).all (fun x => !x.1) && (backToKw cpos (keywordEach [] X.env)).all (fun x => x.1.isSome)
      && decide ([e].length + ([] : List Keyword).length + (if ([] : List Keyword).isEmpty then 0 else 1) < 30)) = true := by rfl)
    (hline : (apos.endLine == cpos.line) = true := by rfl) (hs : starEach [e] X.env = (false, eval e X.env) :: starEach [] X.env := by rfl) (hplain : (backTo cpos (starEach [] X.env)).any (·.1) = false := by rfl)
    (hsw : swapsWith (.Call (.Attribute (.Name x p1) "append" apos) [e] [] cpos) none pos.line X.env = pure false := by rfl) :
    SV X W pa Γ out (.Expr (.Call (.Attribute (.Name x p1) "append" apos) [e] [] cpos) pos :: rest) (me >>= fun d => okLen (xs ++ [d]) >>= fun _ => kk d) := by
  unfold SV
  rw [bind_assoc]
  refine pss_imp (pss_cons (ps_expr (pe_bm PySem.F.plainAttrs_list PySem.F.slot_list_append PySem.F.type_list_append mt_append (pe_var hN hv hd hcd) (pa_cons he pa_nil hs) hbase hfew hline hs hplain) hsw) (pss_ex hr)) fun Dn σ H ⟨G0, H0, G, s, E, P⟩ => ?_
  obtain ⟨p, vs, h1, h2, h3, h4, h5, h6⟩ := E.own i xs h
  refine ⟨.ref p, h1, .inl ⟨rfl, vs, SqL.of h2⟩, G0, H0, G, s, E, (P.bind E).imp fun G1 H1 d s1 x1 p1 P1 v r => ?_⟩
  have h2' := x1.h _ _ h2 h6
  by_cases hl : (xs ++ [d]).length ≤ lim
  · rw [okLen_ok hl, pure_bind] at P1
    have hv' : vs.length < sizeLine := by
      rw [h4.1]
      rw [List.length_append, List.length_singleton] at hl
      exact lim_lt (by omega)
    have E1 := E.step x1 p1
    exact ⟨p, vs, v, rfl, rfl, h2', hv', d, G0, H0, G1, s1, E1.mut h h1 ((h4.mono x1.g).app (.cons r .nil)), P1⟩
  · unfold okLen at P1
    rw [if_neg hl] at P1
    exact P1.elim
def scalL : D → PM (List D)
  | .lst ys => if ys.all scalD = true then pure ys else bad
  | _ => bad
theorem rpl_scal {K : PySem.W.Frag} {G G' : Hp} {vs : List V} {ds : List D} (h : ds.all scalD = true) (r : RpL K G vs ds) : RpL K G' vs ds :=
  ⟨r.1, fun i v d h1 h2 => (r.2 i v d h1 h2).scal (List.all_eq_true.mp h d (List.mem_of_getElem? h2))⟩
/-- x.extend(e), e looks at x; its items are numbers, texts -/
theorem sv_extendP (i : Nat) {x : Str} {e : Expr} {xs : List D} {me : PM D} {kk : List D → PM α} {p1 apos cpos : Pos} (h : Γ[i]? = some (.own xs)) (he : EV X W pa (Γ.set i (.val (.lst xs))) e me) (hr : ∀ ys, SV X W pa (Γ.set i (.own (xs ++ ys))) out rest (kk ys))
    (hN : X.N[i]? = some x := by rfl) (hv : Vis X.env.scope x := by first | exact Or.inl rfl | exact Or.inr (Or.inl rfl) | exact Or.inr (Or.inr rfl)) (hd : (x == ("__debug__" : Str)) = false := by decide) (hcd : (x == ("__classdict__" : Str)) = false := by decide)
    (hbase : attributeBase (.Name x p1) "extend" X.env (eval (.Name x p1) X.env) = eval (.Name x p1) X.env := by rfl)
    (hfew : ((backTo cpos (starEach [e] X.env)).all (fun x => !x.1) && (backToKw cpos (keywordEach [] X.env)).all (fun x => x.1.isSome)
      && decide ([e].length + ([] : List Keyword).length + (if ([] : List Keyword).isEmpty then 0 else 1) < 30)) = true := by rfl)
    (hline : (apos.endLine == cpos.line) = true := by rfl) (hs : starEach [e] X.env = (false, eval e X.env) :: starEach [] X.env := by rfl) (hplain : (backTo cpos (starEach [] X.env)).any (·.1) = false := by rfl)
    (hsw : swapsWith (.Call (.Attribute (.Name x p1) "extend" apos) [e] [] cpos) none pos.line X.env = pure false := by rfl) :
    SV X W pa Γ out (.Expr (.Call (.Attribute (.Name x p1) "extend" apos) [e] [] cpos) pos :: rest) (noExc me >>= scalL >>= fun ys => okLen (xs ++ ys) >>= fun _ => kk ys) := by
  unfold SV
  rw [bind_assoc, bind_assoc]
  refine pss_imp (pss_cons (ps_expr (pe_bm PySem.F.plainAttrs_list PySem.F.slot_list_extend PySem.F.type_list_extend mt_extend (pe_var hN hv hd hcd) (pa_cons he pa_nil hs) hbase hfew hline hs hplain) hsw) (pss_ex hr)) fun Dn σ H ⟨G0, H0, G, s, E, P⟩ => ?_
  obtain ⟨p, vs, h1, h2, h3, h4, h5, h6, E'⟩ := E.pubW h
  refine ⟨.ref p, h1, .inl ⟨rfl, vs, SqL.of h2⟩, G0, H0, _, s, E', ?_⟩
  rw [PM.bind_def] at P
  unfold noExc at P
  cases em : me s with
  | exc z => rw [em] at P; exact P.elim
  | bad => rw [em] at P; exact P.elim
  | ok d s1 =>
    rw [em] at P
    intro G1 H1 x1 p1 v r
    cases r with
    | @lst b zs ys hb n rr =>
      have P : SPost X.K W X.mg pa G0 H0 Dn (((if ys.all scalD = true then pure ys else bad : PM (List D)) >>= fun ys => (okLen (xs ++ ys) >>= fun _ => kk ys) >>= fun a => pure (out a)) s1) := P
      by_cases hsc : ys.all scalD = true
      · rw [if_pos hsc, pure_bind] at P
        by_cases hl : (xs ++ ys).length ≤ lim
        · rw [okLen_ok hl, pure_bind] at P
          obtain ⟨G2, y2, z2⟩ := unpeek h3 h2 x1
          have h2' := x1.h _ _ h2 h6
          have E2 := E.step y2 (z2 _ p1)
          refine ⟨p, b, vs, zs, rfl, rfl, h2', x1.sub _ _ hb, ?_, ys, G0, H0, G2, s1, E2.mut h h1 ((h4.mono y2.g).app (rpl_scal hsc ⟨n, rr⟩)), P⟩
          rw [h4.1, n]
          rw [List.length_append] at hl
          exact lim_le hl
        · unfold okLen at P
          rw [if_neg hl] at P
          exact P.elim
      · rw [if_neg hsc] at P
        exact P.elim
    | _ => exact P.elim

/-! ### a list of one's own is made -/
def FO (K : PySem.W.Frag) (Hb : Hp) (Q : VK) : Hp → Hp → List D → List Int → Prop := fun G' H' ds _ => ∀ p vs, Hb p = none → H' p = some (.lst vs) → G' p = none → RpL K G' vs ds → Q (.ref p) H'
def evO (X : Cx) (W : WX) (pa : Option Addr) (Γ : List Sl) (m : PM (List D)) : TE := fun σ H Q => ∃ G0 H0 G s, Nv X.K pa G0 H0 G H σ Γ s ∧ Pst X.K W X.mg pa σ (FO X.K H Q) G H (m s)
abbrev EO' (X : Cx) (W : WX) (pa : Option Addr) (Γ : List Sl) (e : Expr) (m : PM (List D)) : Prop := PE X e (evO X W pa Γ m)
def okL (xs : List D) : PM (List D) := if xs.length ≤ lim then pure xs else bad
theorem eo_lst {es : List Expr} {ml : PM (List D)} (h : EL X W pa Γ es ml) : EO' X W pa Γ (.List es pos) (ml >>= okL) :=
  pe_imp (L2.pe_lst h) fun σ H Q ⟨G0, H0, G, s, E, P⟩ => ⟨G0, H0, G, s, E, P.bind.imp fun G1 H1 ds s1 x1 p1 P1 vs r => by
    unfold okL at P1
    split at P1
    · rename_i hl
      refine ⟨by rw [r.1]; exact lim_le hl, fun p np => ?_⟩
      have hb : H p = none := by
        cases q : H p with
        | none => rfl
        | some o =>
          obtain ⟨o', z⟩ := x1.t p o q
          rw [np] at z
          cases z
      exact P1 G1 _ (Ext.newH x1.sub np _) (p1.updH np _) p vs hb upd_same (x1.sub.free np) r
    · exact P1.elim⟩
theorem eo_lcR {ι : Type} {own : List (Str × Nat)} {dec : D → Option ι} {mt : ι → PM Bool} {me : ι → PM D} {mi : PM (List D)} {g : TG} {Γz : ι → List Sl} (hg : TgOk X pa dec g (own.map (·.2)) (wipeG Γ (own.map (·.2))) Γz) (σ : L2.St) (H : Hp) (Q : VK)
    (h : evO X W pa Γ (mi >>= fun xs => compL dec mt me xs) σ H Q) :
    tLc (evI X W pa Γ mi) g (fun σ H Q => ∃ z, evB X W0 pa (Γz z) (mt z) σ H Q) (fun σ H Q => ∃ z, evT X W0 pa (Γz z) (me z) σ H Q) (own.map (·.2)) σ H Q := by
  obtain ⟨G0, H0, G, s, E, P⟩ := h
  refine ⟨G0, H0, G, s, E, P.bind.imp fun G1 H1 xs s1 x1 p1 P1 J hJ D0 nD => ?_⟩
  have P1 : Pst X.K W X.mg pa σ (FO X.K H Q) G1 H1 ((compL dec mt me xs >>= fun r => (pure r : PM (List D))) s1) := by
    rw [bind_pure]
    exact P1
  refine lcCore hg (E.step x1 p1) hJ nD P1 fun G2 H2 accV accD s' x p hD gD r P2 => ?_
  have hb : H D0 = none := by
    cases q : H D0 with
    | none => rfl
    | some o =>
      obtain ⟨o', z⟩ := x1.t D0 o q
      rw [nD] at z
      cases z
  exact P2 G2 H2 x p D0 accV hb hD gD r
theorem eo_lc {ι : Type} {elt tg iter : Expr} {ifs : List Expr} {scope : Scope} {own : List (Str × Nat)} {dec : D → Option ι} {mt : ι → PM Bool} {me : ι → PM D} {mi : PM (List D)} {g : TG} {Γz : ι → List Sl} (C : Cok X W k) (hi : EI X W pa Γ tg iter mi) (ok : BlkOk X.N X.env.scope scope own)
    (hg : TgOk X pa dec g (own.map (·.2)) (wipeG Γ (own.map (·.2))) Γz)
    (hp : ∀ (s : Shared) (H : Hp) (C : Addr) (cl : List (Str × Addr)) (fp : List Addr), PG (X.blk s H scope (compEnvC scope cl C X.env) fp) tg g)
    (ht : ∀ (z : ι) (s : Shared) (H : Hp) (C : Addr) (cl : List (Str × Addr)) (fp : List Addr), ETs (X.blk s H scope (compEnvC scope cl C X.env) fp) W0 pa (Γz z) ifs (mt z))
    (he : ∀ (z : ι) (s : Shared) (H : Hp) (C : Addr) (cl : List (Str × Addr)) (fp : List Addr), EV (X.blk s H scope (compEnvC scope cl C X.env) fp) W0 pa (Γz z) elt (me z))
    (hs : ∀ x, foldedSetIterable iter X.env x = pure x := by intro _; rfl) :
    EO' X W pa Γ (.ListComp elt [⟨tg, iter, ifs, 0⟩] scope pos) (mi >>= fun xs => compL dec mt me xs) :=
  pe_imp (pe_lc C.calm C.nd hi ok hp (fun s H C cl fp => pts_ex fun z => ht z s H C cl fp) (fun s H C cl fp => pe_ex fun z => he z s H C cl fp) hs) fun σ H Q h => eo_lcR hg σ H Q h
theorem sv_setO (i : Nat) {st : Stmt} {me : PM (List D)} {kk : List D → PM α} (he : PS X st (tAsg (evO X W pa Γ me) (gName i))) (hr : ∀ ds, SV X W pa (Γ.set i (.own ds)) out rest (kk ds)) :
    SV X W pa Γ out (st :: rest) (me >>= kk) := by
  unfold SV
  rw [bind_assoc]
  refine pss_imp (pss_cons he (pss_ex hr)) fun Dn σ H ⟨G0, H0, G, s, E, P⟩ =>
    ⟨G0, H0, G, s, E, (P.bind E).imp fun G1 H1 ds s1 x1 p1 P1 p vs hb hp hg r => ⟨ds, G0, H0, G1, s1, ?_, P1⟩⟩
  have E1 := E.step x1 p1
  refine E1.setOwn i hp hg r ?_ (fun e => ?_) fun j ys hj e q => ?_
  · cases z : H0 p with
    | none => rfl
    | some o =>
      obtain ⟨o', z'⟩ := E.ext.t p o z
      rw [hb] at z'
      cases z'
  · have := (E.ps p e).2
    rw [hb] at this
    cases this
  · obtain ⟨p', vs', q1, q2, _⟩ := E.own j ys e
    rw [q] at q1
    cases q1
    rw [hb] at q2
    cases q2
theorem sv_setV (i : Nat) {st : Stmt} {me : PM D} {kk : D → PM α} (he : PS X st (tAsg (evT X W pa Γ me) (gName i))) (hr : ∀ d, SV X W pa (Γ.set i (.val d)) out rest (kk d)) :
    SV X W pa Γ out (st :: rest) (me >>= kk) := by
  unfold SV
  rw [bind_assoc]
  exact pss_imp (pss_cons he (pss_ex hr)) fun Dn σ H ⟨G0, H0, G, s, E, P⟩ =>
    ⟨G0, H0, G, s, E, (P.bind E).imp fun G1 H1 d s1 x1 p1 P1 v r => ⟨d, G0, H0, G1, s1, (E.step x1 p1).set i r, P1⟩⟩
theorem ps_imp {st : Stmt} {t t' : TS} (h : PS X st t) (i : ∀ Dn σ H, t' Dn σ H → t Dn σ H) : PS X st t' := ⟨fun pins s σ H D I q => h.run pins s σ H D I (i D σ H q)⟩
/-- y = [..] on one line, y a plain local: as a value, as a list of one's own -/
theorem ps_lcV {ι : Type} {i : Nat} {y : Str} {py spos : Pos} {elt tg iter : Expr} {ifs : List Expr} {scope : Scope} {own : List (Str × Nat)} {dec : D → Option ι} {mt : ι → PM Bool} {me : ι → PM D} {mi : PM (List D)} {g : TG} {Γz : ι → List Sl} (C : Cok X W k) (hy : X.N[i]? = some y) (hyl : X.env.scope.names.lookup y = some .local)
    (hsw : swapsWith (.ListComp elt [⟨tg, iter, ifs, 0⟩] scope pos) (some (.Name y py)) spos.line X.env = pure true) (hi : EI X W pa Γ tg iter mi) (ok : BlkOk X.N X.env.scope scope own)
    (hg : TgOk X pa dec g (own.map (·.2)) (wipeG Γ (own.map (·.2))) Γz)
    (hp : ∀ (s : Shared) (H : Hp) (C : Addr) (cl : List (Str × Addr)) (fp : List Addr), PG (X.blk s H scope (compEnvC scope cl C X.env) fp) tg g)
    (ht : ∀ (z : ι) (s : Shared) (H : Hp) (C : Addr) (cl : List (Str × Addr)) (fp : List Addr), ETs (X.blk s H scope (compEnvC scope cl C X.env) fp) W0 pa (Γz z) ifs (mt z))
    (he : ∀ (z : ι) (s : Shared) (H : Hp) (C : Addr) (cl : List (Str × Addr)) (fp : List Addr), EV (X.blk s H scope (compEnvC scope cl C X.env) fp) W0 pa (Γz z) elt (me z))
    (hs : ∀ x, foldedSetIterable iter X.env x = pure x := by intro _; rfl) :
    PS X (.Assign [.Name y py] (.ListComp elt [⟨tg, iter, ifs, 0⟩] scope pos) spos) (tAsg (evT X W pa Γ (mi >>= fun xs => compL dec mt me xs >>= fun r => pure (.lst r))) (gName i)) :=
  ps_imp (ps_setLc C.calm C.nd hy hyl hsw hi ok hp (fun s H C cl fp => pts_ex fun z => ht z s H C cl fp) (fun s H C cl fp => pe_ex fun z => he z s H C cl fp) hs) fun Dn σ H h => lc_read hg σ H _ h
theorem ps_lcO {ι : Type} {i : Nat} {y : Str} {py spos : Pos} {elt tg iter : Expr} {ifs : List Expr} {scope : Scope} {own : List (Str × Nat)} {dec : D → Option ι} {mt : ι → PM Bool} {me : ι → PM D} {mi : PM (List D)} {g : TG} {Γz : ι → List Sl} (C : Cok X W k) (hy : X.N[i]? = some y) (hyl : X.env.scope.names.lookup y = some .local)
    (hsw : swapsWith (.ListComp elt [⟨tg, iter, ifs, 0⟩] scope pos) (some (.Name y py)) spos.line X.env = pure true) (hi : EI X W pa Γ tg iter mi) (ok : BlkOk X.N X.env.scope scope own)
    (hg : TgOk X pa dec g (own.map (·.2)) (wipeG Γ (own.map (·.2))) Γz)
    (hp : ∀ (s : Shared) (H : Hp) (C : Addr) (cl : List (Str × Addr)) (fp : List Addr), PG (X.blk s H scope (compEnvC scope cl C X.env) fp) tg g)
    (ht : ∀ (z : ι) (s : Shared) (H : Hp) (C : Addr) (cl : List (Str × Addr)) (fp : List Addr), ETs (X.blk s H scope (compEnvC scope cl C X.env) fp) W0 pa (Γz z) ifs (mt z))
    (he : ∀ (z : ι) (s : Shared) (H : Hp) (C : Addr) (cl : List (Str × Addr)) (fp : List Addr), EV (X.blk s H scope (compEnvC scope cl C X.env) fp) W0 pa (Γz z) elt (me z))
    (hs : ∀ x, foldedSetIterable iter X.env x = pure x := by intro _; rfl) :
    PS X (.Assign [.Name y py] (.ListComp elt [⟨tg, iter, ifs, 0⟩] scope pos) spos) (tAsg (evO X W pa Γ (mi >>= fun xs => compL dec mt me xs)) (gName i)) :=
  ps_imp (ps_setLc C.calm C.nd hy hyl hsw hi ok hp (fun s H C cl fp => pts_ex fun z => ht z s H C cl fp) (fun s H C cl fp => pe_ex fun z => he z s H C cl fp) hs) fun Dn σ H h => eo_lcR hg σ H _ h
/-- y = [..], y a name that is captured -/
theorem ps_o {i : Nat} {x : Str} {e : Expr} {pos' : Pos} {me : PM (List D)} (hN : X.N.Nodup) (he : EO' X W pa Γ e me) (hi : X.N[i]? = some x := by rfl) (hx : Loc X.env.scope x := by first | exact Or.inl rfl | exact Or.inr rfl)
    (hs : swapsWith e (some (.Name x pos')) pos.line X.env = pure false := by rfl) (hf : X.fn x = true ∨ X.env.scope.names.lookup x = some .local := by first | exact .inl rfl | exact .inr rfl) :
    PS X (.Assign [.Name x pos'] e pos) (tAsg (evO X W pa Γ me) (gName i)) := ps_set hN hi hx he hs hf

/-! ### the pen -/
def penGet : D → PM D
  | .int i => fun s => match atI s i with
    | some n => .ok (.int n) s
    | none => .bad
  | _ => bad
def penSet (i : D) (d : D) : PM Unit := match i, d with
  | .int i, .int n => fun s => match ixN s.length i with
    | some j => .ok () (s.set j n)
    | none => .bad
  | _, _ => bad
theorem atI_map {α β : Type} (g : α → β) (xs : List α) (i : Int) : atI (xs.map g) i = (atI xs i).map g := by
  unfold atI
  rw [List.length_map]
  cases ixN xs.length i with
  | none => rfl
  | some j => simp
theorem ev_pen {q : Addr} {i : Nat} {y : Str} {b : Expr} {p2 : Pos} {mb : PM D} (hΓ : Γ[i]? = some .pen) (hN : X.N[i]? = some y) (hv : Vis X.env.scope y) (hb : EV X W (some q) Γ b mb) (hs : PlainIx b) (hd : (y == ("__debug__" : Str)) = false := by decide) (hcd : (y == ("__classdict__" : Str)) = false := by decide) :
    EV X W (some q) Γ (.Subscript (.Name y p2) b pos) (mb >>= penGet) := pe_imp (pe_ix ix_list (pe_var hN hv hd hcd) hb hs) fun σ H Q ⟨G0, H0, G, s, E, P⟩ => by
  obtain ⟨q', e1, e2⟩ := E.pen i hΓ
  cases e1
  refine ⟨.ref q, e2, G0, H0, G, s, E, P.bind.imp fun G1 H1 d s1 x1 p1 P1 v r => ?_⟩
  cases r with
  | int n =>
    have P1 : Pst X.K W X.mg (some q) σ (FD X.K Q) G1 H1 (match atI s1 n with | some n => R.ok (D.int n) s1 | none => .bad) := P1
    cases e : atI s1 n with
    | none => rw [e] at P1; exact P1.elim
    | some m =>
      rw [e] at P1
      exact ⟨q, s1.map V.int, n, .int m, rfl, rfl, SqL.of (p1 q rfl).2, by rw [atI_map, e]; rfl, P1 G1 H1 (Ext.refl x1.sub) p1 _ (.int m)⟩
  | _ => exact P1.elim
theorem Nv.pens {K : PySem.W.Frag} {q : Addr} {G0 H0 G H : Hp} {σ : L2.St} {s s' : List Int} (E : Nv K (some q) G0 H0 G H σ Γ s) : Nv K (some q) G0 H0 G (upd H q (.lst (s'.map V.int))) σ Γ s' := by
  have h := E.ps q rfl
  have hH : ∀ a o, H a = some o → a ≠ q → (upd H q (.lst (s'.map V.int))) a = some o := fun a o e n => by rw [upd_ne n]; exact e
  refine ⟨E.len, E.val, fun i xs e => ?_, E.inj, E.pen, E.scr, fun a e => ?_, ?_⟩
  · obtain ⟨p, vs, h1, h2, h3, h4, h5, h6⟩ := E.own i xs e
    exact ⟨p, vs, h1, hH _ _ h2 (fun z => h6 (by rw [z])), h3, h4, h5, h6⟩
  · cases e
    exact ⟨h.1, upd_same⟩
  · refine ⟨E.ext.g, fun a o e n => hH a o (E.ext.h a o e n) (fun z => n (by rw [z])), fun a o e => ?_, E.ext.n, fun a o e => ?_⟩
    · by_cases ha : a = q
      · subst ha
        exact ⟨_, upd_same⟩
      · rw [upd_ne ha]
        exact E.ext.t a o e
    · rw [upd_ne (ne_of_none e h.1)]
      exact E.sub a o e
/-- pen[i] = e -/
theorem sv_pen {q : Addr} {i : Nat} {y : Str} {b e : Expr} {p2 p3 : Pos} {mb me : PM D} {kk : PM α} (hΓ : Γ[i]? = some .pen) (hN : X.N[i]? = some y) (hv : Vis X.env.scope y) (he : EV X W (some q) Γ e me) (hb : EV X W (some q) Γ b mb) (hr : SV X W (some q) Γ out rest kk)
    (hd : (y == ("__debug__" : Str)) = false := by decide) (hcd : (y == ("__classdict__" : Str)) = false := by decide) (hs : swapsWithSole [.Subscript (.Name y p2) b p3] e pos.line X.env = pure false := by rfl) (hw : swappedStores [.Subscript (.Name y p2) b p3] e X.env = pure none := by rfl)
    (h1 : (assignEach [.Subscript (.Name y p2) b p3] X.env).map (·.2) = [assign (.Subscript (.Name y p2) b p3) X.env] := by rfl)
    (ha : ∀ v, assign (.Subscript (.Name y p2) b p3) X.env v = (do let ov ← holding [v] (eval (.Name y p2) X.env); let iv ← holding [v, ov] (eval b X.env); standAt p3; holding [v, ov, iv] (setItem ov iv v); release [v, ov, iv] []) := by intro _; rfl) :
    SV X W (some q) Γ out (.Assign [.Subscript (.Name y p2) b p3] e pos :: rest) (me >>= fun d => mb >>= fun ix => penSet ix d >>= fun _ => kk) := by
  unfold SV
  rw [bind_assoc]
  refine pss_imp (pss_cons (ps_asg he (pg_sub (pe_var hN hv hd hcd) hb set_list ha) hs hw h1) hr) fun Dn σ H ⟨G0, H0, G, s, E, P⟩ => ⟨G0, H0, G, s, E, (P.bind E).imp fun G1 H1 d s1 x1 p1 P1 v r => ?_⟩
  rw [bind_assoc] at P1
  have E1 := E.step x1 p1
  obtain ⟨q', e1, e2⟩ := E1.pen i hΓ
  cases e1
  refine ⟨.ref q, e2, G0, H0, G1, s1, E1, (P1.bind E1).imp fun G2 H2 ix s2 x2 p2 P2 w rw2 => ?_⟩
  have E2 := E1.step x2 p2
  cases rw2 with
  | int n =>
    cases r with
    | int m =>
      rw [bind_assoc, PM.bind_def] at P2
      have ee : penSet (.int n) (.int m) s2 = match ixN s2.length n with | some j => R.ok () (s2.set j m) | none => .bad := rfl
      rw [ee] at P2
      cases e : ixN s2.length n with
      | none => rw [e] at P2; exact P2.elim
      | some j =>
        rw [e] at P2
        refine ⟨q, s2.map V.int, n, j, rfl, rfl, (p2 q rfl).2, by rw [List.length_map]; exact e, G0, H0, G2, s2.set j m, ?_, P2⟩
        have z := E2.pens (s' := s2.set j m)
        rw [List.map_set] at z
        exact z
    | _ => exact P2.elim
  | _ => cases r <;> exact P2.elim
end
end EV

/-! EV 10: defs by their bodies, the script, new pens, pairs of names. -/
namespace EV
open PySem PySem.Spec PyProof.Rows L2

/-! ### a def by its body -/
section
variable {P : Program} {w : World} {K : PySem.W.Frag} {mg : Str → Option Value} {base : Heap}
theorem fnG_of {x qual : Str} {st : Stmt} {f : Addr} {fd : FuncData} {N ps : List Str} {k : Nat} {sp : Sp} (F : Fun K x qual st f fd) (S : FnScope N ps (defScope st)) (len : ∀ vs H Q E, sp vs H Q E → vs.length = ps.length)
    (hbody : ∀ (cdv : Value) (A : Around) (outer : List PySem.Env) (s : Shared) (H : Hp) (vs : List V) (Q : VK) (E : XK), A.guards = some [] → Room k (A.deeper (envOfC qual (defScope st) s.heap.objs.size f cdv)) → sp vs H Q E →
      ∃ t, PSs (cxOf (L2.CX P w) P w K mg base N qual (defScope st) f cdv A outer s H E) (defBody st) t ∧ t { nx := fun _ H' => Q .non H', rt := Q } (start N vs) H) :
    FnG P w K mg base (k + 1) f fd ps sp := by
  obtain ⟨oc, od, kV, doc, pm, an, cdv, ct, osl, rfl, lk, hcd⟩ := F.ex
  refine ⟨len, fun A outer s H args us vs Q E hgu hr e0 hb r hsp => ?_⟩
  have hl := len _ _ _ _ hsp
  have KX : K.In s.heap := e0.mod.kin.keeps fun b o e => (e0.bs b o e).1
  have lim : s.heap.NoLimit := e0.mod.nolimit.keeps fun b o e => (e0.bs b o e).1
  have hkind : ∀ y ∈ ps.zip us, (defScope st).names.lookup y.1 = some .local ∨ ((defScope st).names.lookup y.1 = some .cell ∧ ((cellsFrom (s.heap.objs.size + 1) (defScope st).names []).lookup y.1).isSome = true) := by
    intro y hy
    obtain ⟨n, v⟩ := y
    rcases S.par n (List.of_mem_zip hy).1 with q | q
    · exact .inl q
    · exact .inr ⟨q, PySem.W.cellsFrom_some _ _ _ (.inl q)⟩
  refine codeAny_call_function hr.depth (KX _ _ lk) rfl S.co S.gen rfl (PySem.W.codeRec_of KX hcd) (hb _ _ _ _ ?_)
  refine wpAny_newFunctionEnv_cells S.kind hkind fun env he s1 x => ?_
  subst he
  refine ⟨lim.keeps x.toInCall.keep, codeAny_func ?_⟩
  obtain ⟨t, ht, hq⟩ := hbody cdv A outer s H vs Q E hgu (hr.deeper _) hsp
  have I : Inv (cxOf (L2.CX P w) P w K mg base N qual (defScope st) f cdv A outer s H E) [] (start N vs) H s1 := inv_start S hr.hd e0 hl r x
  refine wpAny_mono (ht.run [] s1 (start N vs) H _ I hq) (fun fl s' hs => ?_) fun e s' hs => hs
  cases fl with
  | ret u =>
    obtain ⟨v, σ', H', J, rv, q⟩ := hs
    exact ⟨v, H', J.os, J.bare, J.base, J.hok, rv, q⟩
  | next =>
    obtain ⟨σ', H', J, q⟩ := hs
    exact ⟨V.non, H', J.os, J.bare, J.base, J.hok, rfl, q⟩
  | brk =>
    obtain ⟨_, _, _, q⟩ := hs
    exact q.elim
  | cont =>
    obtain ⟨_, _, _, q⟩ := hs
    exact q.elim
/-- the context of a def's body -/
theorem cok_fn {N : List Str} {qual : Str} {scope : Scope} {f : Addr} {cdv : Value} {A : Around} {outer : List PySem.Env} {s : Shared} {H : Hp} {E : XK} {k : Nat} (nd : N.Nodup) (hg : A.guards = some []) (hr : Room k (A.deeper (envOfC qual scope s.heap.objs.size f cdv))) :
    Cok (cxOf (L2.CX P w) P w K mg base N qual scope f cdv A outer s H E) (fun cls d _ H => E cls d H) k where
  calm := rfl
  nd := nd
  takes := takes_of rfl rfl rfl rfl
  room := hr
  guards := hg
  passes := passes_of rfl
end
section
variable {K : PySem.W.Frag} {W : WX} {mg : Str → Option Value} {G H : Hp} {s : List Int} {N : List Str} {vs : List V} {ds : List D}
theorem start_get {vs : List V} {i : Nat} {v : V} (h : vs[i]? = some v) : (start N vs)[i]? = some (some v) := by
  have hi := (List.getElem?_eq_some_iff.mp h).1
  unfold L2.start
  rw [List.getElem?_append_left (by simpa using hi), List.getElem?_map, h]
  rfl
theorem start_len {vs : List V} (h : vs.length ≤ N.length) : (start N vs).length = N.length := by
  unfold L2.start
  rw [List.length_append, List.length_map, List.length_replicate]
  omega
theorem get_vals {l : List Sl} {m i : Nat} {x : Sl} (h : (l ++ List.replicate m Sl.junk)[i]? = some x) (hx : x ≠ .junk) : l[i]? = some x := by
  by_cases hi : i < l.length
  · rwa [List.getElem?_append_left hi] at h
  · rw [List.getElem?_append_right (by omega), List.getElem?_replicate] at h
    split at h
    · cases h
      exact absurd rfl hx
    · cases h
def slots0 (N : List Str) (ds : List D) : List Sl := ds.map .val ++ List.replicate (N.length - ds.length) .junk
def slotsP (N : List Str) (ds : List D) : List Sl := (.pen :: ds.map .val) ++ List.replicate (N.length - (ds.length + 1)) .junk
def slotsS (N : List Str) (ns : List Int) (ds : List D) : List Sl := (.scr ns :: ds.map .val) ++ List.replicate (N.length - (ds.length + 1)) .junk
theorem nv_start0 (hs : Same G H) (r : RpL K G vs ds) (hn : vs.length ≤ N.length) : Nv K none G H G H (start N vs) (slots0 N ds) s where
  len := by
    rw [start_len hn]
    unfold slots0
    have := r.1
    simp
    omega
  val := fun i d e => by
    have e := get_vals e (fun z => by cases z)
    rw [List.getElem?_map] at e
    cases q : ds[i]? with
    | none => rw [q] at e; cases e
    | some d' =>
      rw [q] at e
      cases e
      obtain ⟨v, h1, h2⟩ := r.get q
      exact ⟨v, start_get h1, h2⟩
  own := fun i xs e => by
    have e := get_vals e (fun z => by cases z)
    rw [List.getElem?_map] at e
    cases q : ds[i]? <;> rw [q] at e <;> cases e
  inj := fun i j p xs ys e => by
    have e := get_vals e (fun z => by cases z)
    rw [List.getElem?_map] at e
    cases q : ds[i]? <;> rw [q] at e <;> cases e
  pen := fun i e => by
    have e := get_vals e (fun z => by cases z)
    rw [List.getElem?_map] at e
    cases q : ds[i]? <;> rw [q] at e <;> cases e
  scr := fun i ns e => by
    have e := get_vals e (fun z => by cases z)
    rw [List.getElem?_map] at e
    cases q : ds[i]? <;> rw [q] at e <;> cases e
  ps := PenOk.none
  ext := Ext.refl hs
theorem nv_startP {q : Addr} (hs : Same G H) (r : RpL K G vs ds) (hn : vs.length + 1 ≤ N.length) (hp : PenOk (some q) G H s) : Nv K (some q) G H G H (start N (.ref q :: vs)) (slotsP N ds) s where
  len := by
    rw [start_len (by simpa using hn)]
    unfold slotsP
    have := r.1
    simp
    omega
  val := fun i d e => by
    have e := get_vals e (fun z => by cases z)
    cases i with
    | zero => cases e
    | succ i =>
      rw [List.getElem?_cons_succ, List.getElem?_map] at e
      cases q : ds[i]? with
      | none => rw [q] at e; cases e
      | some d' =>
        rw [q] at e
        cases e
        obtain ⟨v, h1, h2⟩ := r.get q
        exact ⟨v, start_get (by simpa using h1), h2⟩
  own := fun i xs e => by
    have e := get_vals e (fun z => by cases z)
    cases i with
    | zero => cases e
    | succ i =>
      rw [List.getElem?_cons_succ, List.getElem?_map] at e
      cases q : ds[i]? <;> rw [q] at e <;> cases e
  inj := fun i j p xs ys e => by
    have e := get_vals e (fun z => by cases z)
    cases i with
    | zero => cases e
    | succ i =>
      rw [List.getElem?_cons_succ, List.getElem?_map] at e
      cases q : ds[i]? <;> rw [q] at e <;> cases e
  pen := fun i e => by
    have e := get_vals e (fun z => by cases z)
    cases i with
    | zero => exact ⟨q, rfl, start_get rfl⟩
    | succ i =>
      rw [List.getElem?_cons_succ, List.getElem?_map] at e
      cases q : ds[i]? <;> rw [q] at e <;> cases e
  scr := fun i ns e => by
    have e := get_vals e (fun z => by cases z)
    cases i with
    | zero => cases e
    | succ i =>
      rw [List.getElem?_cons_succ, List.getElem?_map] at e
      cases q : ds[i]? <;> rw [q] at e <;> cases e
  ps := hp
  ext := Ext.refl hs
theorem nv_startS {a : Addr} {ns : List Int} (hs : Same G H) (hq : SqL K G a (ns.map V.int)) (r : RpL K G vs ds) (hn : vs.length + 1 ≤ N.length) : Nv K none G H G H (start N (.ref a :: vs)) (slotsS N ns ds) s where
  len := by
    rw [start_len (by simpa using hn)]
    unfold slotsS
    have := r.1
    simp
    omega
  val := fun i d e => by
    have e := get_vals e (fun z => by cases z)
    cases i with
    | zero => cases e
    | succ i =>
      rw [List.getElem?_cons_succ, List.getElem?_map] at e
      cases q : ds[i]? with
      | none => rw [q] at e; cases e
      | some d' =>
        rw [q] at e
        cases e
        obtain ⟨v, h1, h2⟩ := r.get q
        exact ⟨v, start_get (by simpa using h1), h2⟩
  own := fun i xs e => by
    have e := get_vals e (fun z => by cases z)
    cases i with
    | zero => cases e
    | succ i =>
      rw [List.getElem?_cons_succ, List.getElem?_map] at e
      cases q : ds[i]? <;> rw [q] at e <;> cases e
  inj := fun i j p xs ys e => by
    have e := get_vals e (fun z => by cases z)
    cases i with
    | zero => cases e
    | succ i =>
      rw [List.getElem?_cons_succ, List.getElem?_map] at e
      cases q : ds[i]? <;> rw [q] at e <;> cases e
  pen := fun i e => by
    have e := get_vals e (fun z => by cases z)
    cases i with
    | zero => cases e
    | succ i =>
      rw [List.getElem?_cons_succ, List.getElem?_map] at e
      cases q : ds[i]? <;> rw [q] at e <;> cases e
  scr := fun i ns' e => by
    have e := get_vals e (fun z => by cases z)
    cases i with
    | zero =>
      cases e
      exact ⟨a, start_get rfl, hq⟩
    | succ i =>
      rw [List.getElem?_cons_succ, List.getElem?_map] at e
      cases q : ds[i]? <;> rw [q] at e <;> cases e
  ps := PenOk.none
  ext := Ext.refl hs
def outD : Out → PM D
  | .ret d => pure d
  | .fall _ => pure .non
  | _ => bad
theorem spost_fn {α : Type} {out : α → Out} {m : PM α} {pa : Option Addr} {Q : VK} {E : XK} (h : Pst K (fun cls dx _ H' => E cls dx H') mg pa [] (FD K Q) G H ((m >>= fun a => outD (out a)) s)) :
    SPost K (fun cls d _ H => E cls d H) mg pa G H { nx := fun _ H' => Q .non H', rt := Q } ((m >>= fun a => pure (out a)) s) := by
  rw [PM.bind_def] at h ⊢
  cases e : m s with
  | ok a s1 =>
    rw [e] at h
    have h : Pst K (fun cls dx _ H' => E cls dx H') mg pa [] (FD K Q) G H (outD (out a) s1) := h
    show SPost K _ mg pa G H _ (.ok (out a) s1)
    cases q : out a with
    | fall Γ' =>
      rw [q] at h
      exact fun σ' G' H' E' => h G' H' E'.ext E'.ps _ .non
    | ret d =>
      rw [q] at h
      exact fun v G' H' x p r => h G' H' x p v r
    | brk Γ' => rw [q] at h; exact h.elim
    | cnt Γ' => rw [q] at h; exact h.elim
  | exc z =>
    rw [e] at h
    exact fun cls dx σ' G' H' x q => h cls dx G' H' x q
  | bad => rw [e] at h; exact h.elim
end
section
variable {P : Program} {w : World} {K : PySem.W.Frag} {mg : Str → Option Value} {base : Heap} {x qual : Str} {st : Stmt} {f : Addr} {fd : FuncData} {N ps : List Str} {k n : Nat}
theorem scope_le {sc : Scope} (S : FnScope N ps sc) : ps.length ≤ N.length := by
  have := congrArg List.length S.pre
  rw [List.length_take] at this
  omega
/-- a def without a pen -/
theorem fn_pure {F : List D → PM D} (FU : Fun K x qual st f fd) (S : FnScope N ps (defScope st)) (hps : ps.length = n)
    (hb : ∀ (cdv : Value) (A : Around) (outer : List PySem.Env) (s : Shared) (H : Hp) (E : XK), Cok (cxOf (L2.CX P w) P w K mg base N qual (defScope st) f cdv A outer s H E) (fun cls d _ H => E cls d H) k → ∀ ds : List D, ds.length = n →
      ∃ (α : Type) (out : α → Out) (m : PM α), SV (cxOf (L2.CX P w) P w K mg base N qual (defScope st) f cdv A outer s H E) (fun cls d _ H => E cls d H) none (slots0 N ds) out (defBody st) m ∧ F ds = (m >>= fun a => outD (out a))) :
    FnG P w K mg base (k + 1) f fd ps (spF K mg false n F) := by
  refine fnG_of FU S (fun vs H Q E h => ?_) fun cdv A outer s H vs Q E hg hr h => ?_
  · obtain ⟨pa, G, s, vs', ds, hpa, rfl, _, _, r, hn, _⟩ := h
    cases pa with
    | some _ => cases hpa
    | none => rw [show (Option.toList (none : Option Addr)).map V.ref ++ vs' = vs' from rfl, r.1, hn, hps]
  · obtain ⟨pa, G, s', vs', ds, hpa, rfl, hs, hp, r, hn, hP⟩ := h
    cases pa with
    | some _ => cases hpa
    | none =>
      obtain ⟨α, out, m, sv, e⟩ := hb cdv A outer s H E (cok_fn S.nd hg hr) ds hn
      rw [e] at hP
      exact ⟨_, sv, G, H, G, s', nv_start0 hs r (by show vs'.length ≤ _; rw [r.1, hn, ← hps]; exact scope_le S), spost_fn hP⟩
/-- a def with the pen -/
theorem fn_pen {F : List D → PM D} (FU : Fun K x qual st f fd) (S : FnScope N ps (defScope st)) (hps : ps.length = n + 1)
    (hb : ∀ (cdv : Value) (A : Around) (outer : List PySem.Env) (s : Shared) (H : Hp) (E : XK), Cok (cxOf (L2.CX P w) P w K mg base N qual (defScope st) f cdv A outer s H E) (fun cls d _ H => E cls d H) k → ∀ (q : Addr) (ds : List D), ds.length = n →
      ∃ (α : Type) (out : α → Out) (m : PM α), SV (cxOf (L2.CX P w) P w K mg base N qual (defScope st) f cdv A outer s H E) (fun cls d _ H => E cls d H) (some q) (slotsP N ds) out (defBody st) m ∧ F ds = (m >>= fun a => outD (out a))) :
    FnG P w K mg base (k + 1) f fd ps (spF K mg true n F) := by
  refine fnG_of FU S (fun vs H Q E h => ?_) fun cdv A outer s H vs Q E hg hr h => ?_
  · obtain ⟨pa, G, s, vs', ds, hpa, rfl, _, _, r, hn, _⟩ := h
    cases pa with
    | none => cases hpa
    | some p =>
      show vs'.length + 1 = _
      rw [r.1, hn, hps]
  · obtain ⟨pa, G, s', vs', ds, hpa, rfl, hs, hp, r, hn, hP⟩ := h
    cases pa with
    | none => cases hpa
    | some p =>
      obtain ⟨α, out, m, sv, e⟩ := hb cdv A outer s H E (cok_fn S.nd hg hr) p ds hn
      rw [e] at hP
      exact ⟨_, sv, G, H, G, s', nv_startP hs r (by show vs'.length + 1 ≤ _; rw [r.1, hn, ← hps]; exact scope_le S) hp, spost_fn hP⟩
/-- a def of the script -/
def spS (K : PySem.W.Frag) (mg : Str → Option Value) (n : Nat) (f : List Int → List D → PM D) : Sp := fun vs H Q E => ∃ (a : Addr) (ns : List Int) (G : Hp) (vs' : List V) (ds : List D),
  vs = .ref a :: vs' ∧ Same G H ∧ SqL K G a (ns.map V.int) ∧ RpL K G vs' ds ∧ ds.length = n ∧ Pst K (fun cls dx _ H' => E cls dx H') mg none [] (FD K Q) G H (f ns ds [])
theorem fn_scr {F : List Int → List D → PM D} (FU : Fun K x qual st f fd) (S : FnScope N ps (defScope st)) (hps : ps.length = n + 1)
    (hb : ∀ (cdv : Value) (A : Around) (outer : List PySem.Env) (s : Shared) (H : Hp) (E : XK), Cok (cxOf (L2.CX P w) P w K mg base N qual (defScope st) f cdv A outer s H E) (fun cls d _ H => E cls d H) k → ∀ (ns : List Int) (ds : List D), ds.length = n →
      ∃ (α : Type) (out : α → Out) (m : PM α), SV (cxOf (L2.CX P w) P w K mg base N qual (defScope st) f cdv A outer s H E) (fun cls d _ H => E cls d H) none (slotsS N ns ds) out (defBody st) m ∧ F ns ds = (m >>= fun a => outD (out a))) :
    FnG P w K mg base (k + 1) f fd ps (spS K mg n F) := by
  refine fnG_of FU S (fun vs H Q E h => ?_) fun cdv A outer s H vs Q E hg hr h => ?_
  · obtain ⟨a, ns, G, vs', ds, rfl, _, _, r, hn, _⟩ := h
    show vs'.length + 1 = _
    rw [r.1, hn, hps]
  · obtain ⟨a, ns, G, vs', ds, rfl, hs, hq, r, hn, hP⟩ := h
    obtain ⟨α, out, m, sv, e⟩ := hb cdv A outer s H E (cok_fn S.nd hg hr) ns ds hn
    rw [e] at hP
    exact ⟨_, sv, G, H, G, [], nv_startS hs hq r (by rw [r.1, hn, ← hps]; exact scope_le S), spost_fn hP⟩
/-- a def that makes a pen -/
def spM (K : PySem.W.Frag) (mg : Str → Option Value) (n : Nat) (f : List D → PM (List Int)) : Sp := fun vs H Q E => ∃ (G : Hp) (ds : List D), Same G H ∧ RpL K G vs ds ∧ ds.length = n ∧
  Pst K (fun cls dx _ H' => E cls dx H') mg none [] (fun G' H' ns _ => ∀ p, H p = none → H' p = some (.lst (ns.map V.int)) → G' p = none → Q (.ref p) H') G H (f ds [])
def asInts (ds : List D) : PM (List Int) := match intsOf ds with
  | some ns => if ns.length ≤ lim then pure ns else bad
  | none => bad
theorem fn_mk {F : List D → PM (List Int)} {es : List Expr} {p1 p2 : Pos} (FU : Fun K x qual st f fd) (S : FnScope N ps (defScope st)) (hps : ps.length = n) (hst : defBody st = [.Return (some (.List es p1)) p2])
    (hb : ∀ (cdv : Value) (A : Around) (outer : List PySem.Env) (s : Shared) (H : Hp) (E : XK), Cok (cxOf (L2.CX P w) P w K mg base N qual (defScope st) f cdv A outer s H E) (fun cls d _ H => E cls d H) k → ∀ ds : List D, ds.length = n →
      ∃ m, EL (cxOf (L2.CX P w) P w K mg base N qual (defScope st) f cdv A outer s H E) (fun cls d _ H => E cls d H) none (slots0 N ds) es m ∧ F ds = (m >>= asInts)) :
    FnG P w K mg base (k + 1) f fd ps (spM K mg n F) := by
  refine fnG_of FU S (fun vs H Q E h => ?_) fun cdv A outer s H vs Q E hg hr h => ?_
  · obtain ⟨G, ds, _, r, hn, _⟩ := h
    rw [r.1, hn, hps]
  · obtain ⟨G, ds, hs, r, hn, hP⟩ := h
    obtain ⟨m, el, e⟩ := hb cdv A outer s H E (cok_fn S.nd hg hr) ds hn
    rw [e] at hP
    rw [hst]
    refine ⟨_, pss_one (ps_ret (L2.pe_lst el)), G, H, G, [], nv_start0 hs r (by rw [r.1, hn, ← hps]; exact scope_le S), ?_⟩
    have hP : Pst K (fun cls d _ H => E cls d H) mg none (L2.start N vs) (fun G' H' ns _ => ∀ p, H p = none → H' p = some (.lst (ns.map V.int)) → G' p = none → Q (.ref p) H') G H ((m >>= asInts) []) := by
      cases q : (m >>= asInts) [] with
      | ok a s => rw [q] at hP; exact hP
      | exc z => rw [q] at hP; exact hP
      | bad => rw [q] at hP; exact hP.elim
    refine hP.bind.imp fun G1 H1 ds1 s1 x1 p1 P1 vs1 r1 => ?_
    unfold asInts at P1
    cases q : intsOf ds1 with
    | none => rw [q] at P1; exact P1.elim
    | some ns =>
      rw [q] at P1
      have P1 : Pst K (fun cls d _ H => E cls d H) mg none (L2.start N vs) (fun G' H' ns _ => ∀ p, H p = none → H' p = some (.lst (ns.map V.int)) → G' p = none → Q (.ref p) H') G1 H1 ((if ns.length ≤ lim then pure ns else bad : PM (List Int)) s1) := P1
      split at P1
      · rename_i hl
        have ev := intsOf_rp r1 q
        refine ⟨by rw [ev, List.length_map]; exact lim_le hl, fun p np => ?_⟩
        have hb : H p = none := by
          cases q : H p with
          | none => rfl
          | some o =>
            obtain ⟨o', z⟩ := x1.t p o q
            rw [np] at z
            cases z
        exact P1 G1 _ (Ext.newH x1.sub np _) PenOk.none p hb (by rw [upd_same, ev]) (x1.sub.free np)
      · exact P1.elim
end
end EV

/-! EV 11: the script, new pens, pairs of names, the law's end. -/
namespace EV
open PySem PySem.Spec PyProof.Rows L2
section
variable {X : Cx} {W : WX} {pa : Option Addr} {Γ : List Sl} {k : Nat} {pos : Pos} {α : Type} {out : α → Out} {rest : List Stmt} {f : Addr} {fd : FuncData} {ps : List Str} {n : Nat} {x : Str} {p : Pos}
/-! ### the script -/
theorem ev_lenScr {i : Nat} {y : Str} {ns : List Int} {p2 : Pos} (hg : Gl X "len") (hm : X.mg "len" = none) (hΓ : Γ[i]? = some (.scr ns)) (hN : X.N[i]? = some y) (hv : Vis X.env.scope y)
    (hs : starEach [.Name y p2] X.env = (false, eval (.Name y p2) X.env) :: starEach [] X.env := by rfl) (hpl : (backTo pos (starEach [] X.env)).any (·.1) = false := by rfl) (hd : (y == ("__debug__" : Str)) = false := by decide) (hcd : (y == ("__classdict__" : Str)) = false := by decide) :
    EV X W pa Γ (.Call (.Name "len" p) [.Name y p2] [] pos) (pure (.int ns.length)) :=
  pe_imp (pe_callB call_len_seq hg hm PySem.boot_len (pa_cons (pe_var hN hv hd hcd) pa_nil hs) (by decide) (by decide) hs hpl) fun σ H Q ⟨G0, H0, G, s, E, P⟩ => by
    obtain ⟨a, h1, h2⟩ := E.scr i ns hΓ
    refine ⟨.ref a, h1, a, ns.map V.int, rfl, .inl (E.sub.seq h2), ?_⟩
    rw [List.length_map]
    exact P.now E.sub E.ps _ (.int _)
def scrGet (ns : List Int) : D → PM D
  | .int i => match atI ns i with
    | some m => pure (.int m)
    | none => bad
  | _ => bad
theorem ev_scr {i : Nat} {y : Str} {ns : List Int} {b : Expr} {p2 : Pos} {mb : PM D} (hΓ : Γ[i]? = some (.scr ns)) (hN : X.N[i]? = some y) (hv : Vis X.env.scope y) (hb : EV X W pa Γ b mb) (hs : PlainIx b) (hd : (y == ("__debug__" : Str)) = false := by decide) (hcd : (y == ("__classdict__" : Str)) = false := by decide) :
    EV X W pa Γ (.Subscript (.Name y p2) b pos) (mb >>= scrGet ns) := pe_imp (pe_ix ix_list (pe_var hN hv hd hcd) hb hs) fun σ H Q ⟨G0, H0, G, s, E, P⟩ => by
  obtain ⟨a, e2, h2⟩ := E.scr i ns hΓ
  refine ⟨.ref a, e2, G0, H0, G, s, E, P.bind.imp fun G1 H1 d s1 x1 p1 P1 v r => ?_⟩
  cases r with
  | int j =>
    have P1 : Pst X.K W X.mg pa σ (FD X.K Q) G1 H1 ((match atI ns j with | some m => pure (.int m) | none => bad : PM D) s1) := P1
    cases e : atI ns j with
    | none => rw [e] at P1; exact P1.elim
    | some m =>
      rw [e] at P1
      exact ⟨a, ns.map V.int, j, .int m, rfl, rfl, (x1.g.trans x1.sub).seq h2, by rw [atI_map, e]; rfl, P1.now x1.sub p1 _ (.int m)⟩
  | _ => exact P1.elim
/-- f(script, e, ..) -/
theorem ev_callS {F : List Int → List D → PM D} {i : Nat} {y : Str} {ns : List Int} {p2 : Pos} {es : List Expr} {ml : PM (List D)} (C : Cok X W k) (FG : FnG X.prog X.w X.K X.mg X.base k f fd ps (spS X.K X.mg n F)) (ar : ∀ ns, Arity n (F ns)) (hg : Gl X x) (hm : X.mg x = some (.ref f)) (hk : PySem.W.keepIn X.K (.ref f) = true) (hb : Binds X.K fd ps [])
    (hΓ : Γ[i]? = some (.scr ns)) (hN : X.N[i]? = some y) (hv : Vis X.env.scope y) (ha : EL X W pa Γ es ml) (hdb : (x == ("__debug__" : Str)) = false := by decide)
    (he : starEach (.Name y p2 :: es) X.env = (false, eval (.Name y p2) X.env) :: starEach es X.env := by rfl) (hpl : (backTo pos (starEach es X.env)).any (·.1) = false := by rfl)
    (hd : (y == ("__debug__" : Str)) = false := by decide) (hcd : (y == ("__classdict__" : Str)) = false := by decide) :
    EV X W pa Γ (.Call (.Name x p) (.Name y p2 :: es) [] pos) (ml >>= fun ds => run0 (F ns ds)) :=
  pe_imp (pe_callG C FG hg hm hk hb (pa_cons (pe_var hN hv hd hcd) ha he) hdb he hpl) fun σ H Q ⟨G0, H0, G, s, E, P⟩ => by
    obtain ⟨a, e2, h2⟩ := E.scr i ns hΓ
    exact ⟨.ref a, e2, G0, H0, G, s, E, P.bind.imp fun G1 H1 ds s1 x1 p1 P1 vs r => ⟨a, ns, G1, vs, ds, rfl, x1.sub, x1.g.seq h2, r, run0_len (ar ns) P1, pst_run0 p1 P1⟩⟩

/-! ### a new pen -/
def withPen {α : Type} (ns : List Int) (m : PM α) : PM α := fun s => match m ns with
  | .ok a _ => .ok a s
  | .exc e => .exc e
  | .bad => .bad
theorem withPen_ok {α : Type} {ns ns' : List Int} {m : PM α} {a : α} (h : m ns = .ok a ns') : withPen ns m = pure a := by
  funext s
  unfold withPen
  rw [h]
  rfl
def noPen : List Sl → Bool
  | [] => true
  | .pen :: _ => false
  | _ :: r => noPen r
theorem noPen_get : ∀ {l : List Sl} {i : Nat}, noPen l = true → l[i]? ≠ some .pen
  | [], _, _, h => by simp at h
  | x :: r, 0, h, e => by
    simp at e
    subst e
    cases h
  | x :: r, i + 1, h, e => by
    simp at e
    refine noPen_get (l := r) ?_ e
    cases x <;> first | exact h | cases h
theorem Nv.toPen {K : PySem.W.Frag} {G0 H0 G H : Hp} {σ : L2.St} {s : List Int} (E : Nv K none G0 H0 G H σ Γ s) (i : Nat) {q : Addr} {ns : List Int} (hq : H q = some (.lst (ns.map V.int))) (gq : G q = none) (h0 : H0 q = none)
    (hn : ∀ (j : Nat) xs, Γ[j]? = some (.own xs) → σ[j]? ≠ some (some (.ref q))) : Nv K (some q) G0 H0 G H (σ.set i (some (.ref q))) (Γ.set i .pen) ns where
  len := by simp [E.len]
  val := fun j d e => by
    by_cases hj : i = j
    · subst hj
      have := (List.getElem?_eq_some_iff.mp e).1
      rw [List.getElem?_set_self (by simpa using this)] at e
      cases e
    · rw [List.getElem?_set_ne hj] at e ⊢
      exact E.val j d e
  own := fun j d e => by
    by_cases hj : i = j
    · subst hj
      have := (List.getElem?_eq_some_iff.mp e).1
      rw [List.getElem?_set_self (by simpa using this)] at e
      cases e
    · rw [List.getElem?_set_ne hj] at e ⊢
      obtain ⟨p, vs, h1, h2, h3, h4, h5, h6⟩ := E.own j d e
      exact ⟨p, vs, h1, h2, h3, h4, h5, fun z => by
        cases z
        exact hn j d e h1⟩
  inj := fun j l p xs ys e1 e2 => by
    have n1 : i ≠ j := fun hj => by
      subst hj
      have := (List.getElem?_eq_some_iff.mp e1).1
      rw [List.getElem?_set_self (by simpa using this)] at e1
      cases e1
    have n2 : i ≠ l := fun hj => by
      subst hj
      have := (List.getElem?_eq_some_iff.mp e2).1
      rw [List.getElem?_set_self (by simpa using this)] at e2
      cases e2
    rw [List.getElem?_set_ne n1] at e1 ⊢
    rw [List.getElem?_set_ne n2] at e2 ⊢
    exact E.inj j l p xs ys e1 e2
  pen := fun j e => by
    by_cases hj : i = j
    · subst hj
      have hi := (List.getElem?_eq_some_iff.mp e).1
      exact ⟨q, rfl, List.getElem?_set_self (by rw [← E.len]; simpa using hi)⟩
    · rw [List.getElem?_set_ne hj] at e
      obtain ⟨p, h, _⟩ := E.pen j e
      cases h
  scr := fun j d e => by
    by_cases hj : i = j
    · subst hj
      have := (List.getElem?_eq_some_iff.mp e).1
      rw [List.getElem?_set_self (by simpa using this)] at e
      cases e
    · rw [List.getElem?_set_ne hj] at e ⊢
      exact E.scr j d e
  ps := fun a e => by
    cases e
    exact ⟨gq, hq⟩
  ext := E.ext.any
theorem Nv.unPen {K : PySem.W.Frag} {G0 H0 G H : Hp} {σ : L2.St} {s s' : List Int} {q : Addr} (E : Nv K (some q) G0 H0 G H σ Γ s) (h0 : H0 q = none) (hn : noPen Γ = true) : Nv K none G0 H0 G H σ Γ s' where
  len := E.len
  val := E.val
  own := fun j d e => by
    obtain ⟨p, vs, h1, h2, h3, h4, h5, h6⟩ := E.own j d e
    exact ⟨p, vs, h1, h2, h3, h4, h5, fun z => by cases z⟩
  inj := E.inj
  pen := fun j e => absurd e (noPen_get hn)
  scr := E.scr
  ps := PenOk.none
  ext := ⟨E.ext.g, fun a o e _ => E.ext.h a o e (fun z => by
    cases z
    rw [h0] at e
    cases e), E.ext.t, E.ext.n, E.ext.sub⟩
theorem sv_penNew (i : Nat) {F : List D → PM (List Int)} {y : Str} {p0 : Pos} {e : Expr} {es : List Expr} {ml : PM (List D)} {kk : PM α} (C : Cok X W k) (FG : FnG X.prog X.w X.K X.mg X.base k f fd ps (spM X.K X.mg n F)) (ar : ∀ ds s, ds.length ≠ n → F ds s = .bad) (hg : Gl X x) (hm : X.mg x = some (.ref f)) (hk : PySem.W.keepIn X.K (.ref f) = true) (hb : Binds X.K fd ps [])
    (ha : EL X W none Γ (e :: es) ml) (hr : ∀ q, SV X W (some q) (Γ.set i .pen) out rest kk) (hnp : ∀ a, match out a with | .fall Γ' => noPen Γ' = true | .ret _ => True | _ => False)
    (hi : X.N[i]? = some y := by rfl) (hx : Loc X.env.scope y := by first | exact Or.inl rfl | exact Or.inr rfl) (hdb : (x == ("__debug__" : Str)) = false := by decide) (he : starEach (e :: es) X.env = (false, eval e X.env) :: starEach es X.env := by rfl) (hpl : (backTo pos (starEach es X.env)).any (·.1) = false := by rfl)
    {spos : Pos} (hs : swapsWith (.Call (.Name x p) (e :: es) [] pos) (some (.Name y p0)) spos.line X.env = pure false := by rfl) (hf : X.fn y = true ∨ X.env.scope.names.lookup y = some .local := by first | exact .inl rfl | exact .inr rfl) :
    SV X W none Γ out (.Assign [.Name y p0] (.Call (.Name x p) (e :: es) [] pos) spos :: rest) (ml >>= fun ds => run0 (F ds) >>= fun ns => withPen ns kk) := by
  unfold SV
  rw [bind_assoc]
  have hrest : PSs X rest (fun D σ H => ∃ q, svT X W (some q) (Γ.set i .pen) (kk >>= fun a => pure (out a)) D σ H) := pss_ex hr
  refine pss_imp (pss_cons (ps_set (i := i) C.nd hi hx (pe_callG C FG hg hm hk hb ha hdb he hpl) hs hf) hrest) fun Dn σ H ⟨G0, H0, G, s, E, P⟩ => ⟨G0, H0, G, s, E, (P.bind E).imp fun G1 H1 ds s1 x1 p1 P1 vs r => ?_⟩
  have E1 := E.step x1 p1
  rw [bind_assoc, PM.bind_def] at P1
  unfold run0 at P1
  have hlen : ds.length = n := by
    by_cases h : ds.length = n
    · exact h
    · rw [ar ds [] h] at P1
      exact P1.elim
  refine ⟨G1, ds, x1.sub, r, hlen, ?_⟩
  cases q : F ds [] with
  | exc z =>
    rw [q] at P1
    exact fun cls dx G' H' y q' => P1 cls dx σ G' H' (E1.ext.trans y) q'
  | bad => rw [q] at P1; exact P1.elim
  | ok ns s2 =>
    rw [q] at P1
    have P1 : SPost X.K W X.mg none G0 H0 Dn ((withPen ns kk >>= fun a => pure (out a)) s1) := P1
    intro G' H' y yp p' np hp' gp'
    have E2 := E1.step (s' := s1) y PenOk.none
    have h0 : H0 p' = none := by
      cases z : H0 p' with
      | none => rfl
      | some o =>
        obtain ⟨o', z'⟩ := E1.ext.t p' o z
        rw [np] at z'
        cases z'
    have E3 := E2.toPen i hp' gp' h0 (fun j xs e z => by
      obtain ⟨p2, vs2, h1, h2, _⟩ := E1.own j xs e
      rw [z] at h1
      cases h1
      rw [np] at h2
      cases h2)
    refine ⟨p', G0, H0, G', ns, E3, ?_⟩
    rw [PM.bind_def] at P1 ⊢
    unfold withPen at P1
    cases e5 : kk ns with
    | exc z => rw [e5] at P1; exact fun cls dx σ' G' H' w q => P1 cls dx σ' G' H' ⟨w.g, fun a o e _ => w.h a o e (fun z => by
        cases z
        rw [h0] at e
        cases e), w.t, w.n, w.sub⟩ q
    | bad => rw [e5] at P1; exact P1.elim
    | ok a s3 =>
      rw [e5] at P1
      have P1 : SPost X.K W X.mg none G0 H0 Dn (.ok (out a) s1) := P1
      show SPost X.K W X.mg (some p') G0 H0 Dn (.ok (out a) s3)
      have cv : ∀ G' H', Ext (some p') G0 H0 G' H' → Ext none G0 H0 G' H' := fun G' H' w => ⟨w.g, fun a o e _ => w.h a o e (fun z => by
        cases z
        rw [h0] at e
        cases e), w.t, w.n, w.sub⟩
      have hnpa := hnp a
      cases e6 : out a with
      | fall Γ' =>
        rw [e6] at P1 hnpa
        exact fun σ' G' H' E' => P1 σ' G' H' (E'.unPen h0 hnpa)
      | ret d => rw [e6] at P1; exact fun v G' H' w _ r => P1 v G' H' (cv _ _ w) PenOk.none r
      | brk Γ' => rw [e6] at hnpa; exact hnpa.elim
      | cnt Γ' => rw [e6] at hnpa; exact hnpa.elim

/-! ### pairs of names -/
def two {β : Type} (kk : D → D → PM β) : List D → PM β
  | [a, b] => kk a b
  | _ => bad
def unp2 {β : Type} (kk : D → D → PM β) (d : D) : PM β := match dec2 d with
  | some z => kk z.1 z.2
  | none => bad
/-- a, b = e1, e2, plain locals -/
theorem sv_par (i j : Nat) {y z : Str} {a b : Expr} {px py pt : Pos} {kt k2 pt2} {ml : PM (List D)} {kk : D → D → PM α} (hc : X.calm = true) (hN : X.N.Nodup) (ha : EL X W pa Γ [a, b] ml) (hij : i ≠ j)
    (hr : ∀ u v, SV X W pa ((Γ.set i (.val u)).set j (.val v)) out rest (kk u v)) (hi : X.N[i]? = some y := by rfl) (hj : X.N[j]? = some z := by rfl)
    (hx : X.env.scope.names.lookup y = some .local := by rfl) (hy : X.env.scope.names.lookup z = some .local := by rfl)
    (hw : swappedStores [.Tuple [.Name y px, .Name z py] kt pt] (.Tuple [a, b] k2 pt2) X.env = pure (some [y, z]) := by rfl)
    (hs : swapsWithSole [.Tuple [.Name y px, .Name z py] kt pt] (.Tuple [a, b] k2 pt2) pos.line X.env = pure false := by rfl) :
    SV X W pa Γ out (.Assign [.Tuple [.Name y px, .Name z py] kt pt] (.Tuple [a, b] k2 pt2) pos :: rest) (ml >>= two kk) := by
  unfold SV
  rw [bind_assoc]
  have hrest : PSs X rest (fun D σ H => ∃ q : EV.D × EV.D, svT X W pa ((Γ.set i (.val q.1)).set j (.val q.2)) (kk q.1 q.2 >>= fun a => pure (out a)) D σ H) := pss_ex (ι := EV.D × EV.D) fun q => hr q.1 q.2
  refine pss_imp (pss_cons (ps_par (i := i) (j := j) hc hN hi hj hij hx hy ha hw hs) hrest) fun Dn σ H ⟨G0, H0, G, s, E, P⟩ => ⟨G0, H0, G, s, E, (P.bind E).imp fun G1 H1 ds s1 x1 p1 P1 vs r => ?_⟩
  match ds, r, P1 with
  | [u, v], r, P1 =>
    obtain ⟨v1, v2, rfl, r1, r2⟩ := rp2 r
    exact ⟨v1, v2, rfl, (u, v), G0, H0, G1, s1, ((E.step x1 p1).set i r1).set j r2, P1⟩
  | [], _, P1 => exact P1.elim
  | [_], _, P1 => exact P1.elim
  | _ :: _ :: _ :: _, _, P1 => exact P1.elim
/-- a, b = e, by a tuple -/
theorem sv_unp (i j : Nat) {y z : Str} {e : Expr} {px py pt : Pos} {kt : Nat} {me : PM D} {kk : D → D → PM α} (C : Cok X W k) (he : EV X W pa Γ e me)
    (hr : ∀ u v, SV X W pa ((Γ.set i (.val u)).set j (.val v)) out rest (kk u v)) (hp : PG X (.Tuple [.Name y px, .Name z py] kt pt) (gTup X.K 2 (gCons (gName i) (gCons (gName j) gNil))))
    (hs : swapsWithSole [.Tuple [.Name y px, .Name z py] kt pt] e pos.line X.env = pure false := by rfl) (hw : swappedStores [.Tuple [.Name y px, .Name z py] kt pt] e X.env = pure none := by rfl)
    (h1 : (assignEach [.Tuple [.Name y px, .Name z py] kt pt] X.env).map (·.2) = [assign (.Tuple [.Name y px, .Name z py] kt pt) X.env] := by rfl) :
    SV X W pa Γ out (.Assign [.Tuple [.Name y px, .Name z py] kt pt] e pos :: rest) (me >>= unp2 kk) := by
  unfold SV
  rw [bind_assoc]
  have hrest : PSs X rest (fun D σ H => ∃ q : EV.D × EV.D, svT X W pa ((Γ.set i (.val q.1)).set j (.val q.2)) (kk q.1 q.2 >>= fun a => pure (out a)) D σ H) := pss_ex (ι := EV.D × EV.D) fun q => hr q.1 q.2
  refine pss_imp (pss_cons (ps_asg he hp hs hw h1) hrest) fun Dn σ H ⟨G0, H0, G, s, E, P⟩ => ⟨G0, H0, G, s, E, (P.bind E).imp fun G1 H1 d s1 x1 p1 P1 v r => ?_⟩
  have E1 := E.step x1 p1
  cases e1 : dec2 d with
  | none =>
    unfold unp2 at P1
    rw [e1] at P1
    exact P1.elim
  | some q =>
    unfold unp2 at P1
    rw [e1] at P1
    exact tg_pair (vs := [i, j]) (by simp) (by simp) G0 H0 G1 H1 σ s1 v d q _ E1 r e1 fun σ' E' _ => ⟨q, G0, H0, G1, s1, E', P1⟩
end

/-! ### the law's end -/
theorem law_end {l : PySem.W.OpenLaw} {n k : Nat} {q : Program} {loose : List Str} {XP : (Str → Option Value) → Heap → Prop} {YP : World → Heap → Prop} {d : DefRec} {K : Params → PySem.W.Frag} {x : Str} {F : List Int → List D → PM D}
    (hn : l.most = some n) (hn2 : n ≤ sizeLine) (hdf : d.params.defaults = []) (hr : Room k callerA) (hY : ∀ (w : World) (h : Heap), YP w h → (K w.params).In h)
    (hF : ∀ (w : World) (mg : Str → Option Value) (fa : Addr) (h : Heap), (K w.params).In h → h.Ns mainGlobals mg → mg d.name = some (.ref fa) →
      ∃ fd : FuncData, (∀ (s : Shared) (u : Value), BindsTo s fd ⟨[u], []⟩ [(x, u)]) ∧ ∀ base : Heap, (K w.params).In base → base.Ns mainGlobals mg → FnG l.prog w (K w.params) mg base k fa fd [x] (spS (K w.params) mg 0 F))
    (hlaw : ∀ ns : List Int, ns.length ≤ n → ∃ s, F ns [] [] = .ok (.bl true) s) :
    PySem.W.WalkO q loose XP YP l.row.toRowW d [] (fun f vs => PySem.call f vs) := by
  refine Att.attach_call hn hdf fun w s₀ s₁ mg mb fa o pm cd doc a vs ns G Y ho hd hcd hmg hobj hints hlen hg => ?_
  have KX := hY w _ Y
  obtain ⟨fd, hb, hFF⟩ := hF w mg fa _ KX G.T.g hmg
  have rv := vals_ints hints
  have lenV := hints.length
  have lz : ns.length ≤ sizeLine := Nat.le_trans hlen hn2
  have core : ∀ H : Hp, Only H → SqL (K w.params) H a (ns.map V.int) → HOk l.prog w H s₁.heap → (∀ b, H b ≠ none → b = a) → (H a ≠ none → (K w.params).lookup a = none) →
      codeAny (model l.prog w) callerA (.call (.ref fa) ⟨[.ref a], []⟩) (fun r s' => r = .ok (.ret (.bool true)) ∧ OldK s₁.heap s'.heap ∧ s'.os = s₁.os ∧ AllBare s'.gens) s₁ := by
    intro H hO hS hok hA hK
    have nodict : ∀ {b : Addr} {ob : Obj} {es : Array DictEntry} {ep : Nat}, s₁.heap.get? b = some ob → ob.data = .dict es ep → H b = none := by
      intro b ob es ep e dd
      by_cases q : H b = none
      · exact q
      · have e' := hA b q
        subst e'
        rw [hobj] at e
        cases e
        cases (show Data.seq vs.toArray _ = Data.dict es ep from dd)
    have nsK : ∀ {b : Addr} {m : Str → Option Value}, s₁.heap.Ns b m → (hidT s₁.heap H).Ns b m := by
      intro b m hm
      obtain ⟨ob, es, ep, e, dd, r⟩ := hm
      exact ⟨ob, es, ep, hidT_get e (nodict e dd), dd, r⟩
    have hKb : (K w.params).In (hidT s₁.heap H) := by
      intro b ob e
      refine hidT_get (KX b ob e) ?_
      by_cases q : H b = none
      · exact q
      · have e' := hA b q
        subst e'
        rw [hK q] at e
        cases e
    have hM : Mod (K w.params) mg (hidT s₁.heap H) := by
      obtain ⟨mc, l1, l2⟩ := G.T.nolimit
      exact ⟨hKb, nsK G.T.g, ⟨mb, nsK G.T.b, G.T.builtins⟩, mc, nsK l1, l2⟩
    have nil0 : ∀ b : Addr, b ∉ frs [] := fun b hb => absurd (show b ∈ ([] : List Addr) from hb) (by simp)
    have e0 : Env0 l.prog w (K w.params) mg (hidT s₁.heap H) callerA [] s₁ H :=
      ⟨rfl, hM, fun b ob e => of_hidT e, Nat.le_of_eq (hidT_size _ _), trivial, fun b hb => absurd hb (nil0 b), hok, .of_eq hg⟩
    obtain ⟨sf, hlf⟩ := hlaw ns hlen
    have hsp : spS (K w.params) mg 0 F [.ref a] H (fun v _ => v = .bl true) (fun _ _ _ => False) := by
      refine ⟨a, ns, H, [], [], rfl, Same.refl H, hS, .nil, rfl, ?_⟩
      rw [hlf]
      intro G' H' _ _ v rr
      cases rr
      rfl
    refine codeAny_mono ((hFF _ hKb (nsK G.T.g)).run callerA [] s₁ H ⟨[.ref a], []⟩ [.ref a] [.ref a] _ _ rfl hr e0 (hb s₁ (.ref a)) (.cons rfl .nil) hsp) fun r s' h => ?_
    cases r with
    | error e =>
      obtain ⟨_, _, _, _, _, _, _, _, _, _, _, _, z⟩ := h
      exact z.elim
    | ok fl =>
      cases fl with
      | next => exact h.elim
      | brk => exact h.elim
      | cont => exact h.elim
      | ret u =>
        obtain ⟨v, H', os, bare, un, hok', r', q'⟩ := h
        have q' : v = .bl true := q'
        subst q'
        obtain rfl : u = Value.bool true := r'
        refine ⟨rfl, OldK.of_keep fun b ob e => ?_, os, bare⟩
        cases q : H b with
        | none => exact un.keep b ob e q (nil0 b) (by simp)
        | some hu =>
          rcases hO b with z | ⟨oz, xs, z⟩
          · rw [q] at z
            cases z
          · have z2 := un.frzs b oz _ z
            obtain ⟨e1, _⟩ := hok b _ z
            obtain ⟨e2, _⟩ := hok' b _ z2
            rw [e] at e1
            cases e1
            exact e2
  cases hk : (K w.params).lookup a with
  | some ok =>
    have e := KX a ok hk
    rw [hobj] at e
    cases e
    refine core (fun _ => none) (fun _ => .inl rfl) (.inr ⟨_, vs.toArray, _, hk, rfl, rfl, rfl, ?_, ?_⟩) (fun b u z => ?_) (fun b z => absurd rfl z) fun z => absurd rfl z
    · rw [List.size_toArray, lenV]
      exact lz
    · simpa using rv
    · cases (show (none : Option HO) = some u from z)
  | none =>
    refine core (fun b => if b = a then some (.frz { cls := .type "list", data := .seq vs.toArray } (.lst (ns.map V.int))) else none) (fun b => ?_) (.inl (.inr ⟨{ cls := .type "list", data := .seq vs.toArray }, if_pos rfl⟩)) (fun b u z => ?_) (fun b z => ?_) fun _ => hk
    · by_cases hb : b = a
      · exact .inr ⟨_, _, if_pos hb⟩
      · exact .inl (if_neg hb)
    · by_cases hb : b = a
      · have z' := (if_pos hb).symm.trans z
        cases z'
        subst hb
        refine ⟨hobj, ?_, vs, _, rv, hobj⟩
        rw [List.length_map]
        exact lz
      · cases (if_neg hb).symm.trans z
    · by_cases hb : b = a
      · exact hb
      · exact absurd (if_neg hb) z
end EV

/-! EV 12: short words for printed derivations. -/
namespace EV
open PySem PySem.Spec PyProof.Rows L2
section
variable {X : Cx} {W : WX} {pa : Option Addr} {Γ : List Sl} {k : Nat} {pos : Pos}
theorem vv (i : Nat) {x : Str} {d : D} (hΓ : Γ[i]? = some (.val d) := by rfl) (hN : X.N[i]? = some x := by rfl) (hv : Vis X.env.scope x := by first | exact Or.inl rfl | exact Or.inr (Or.inl rfl) | exact Or.inr (Or.inr rfl))
    (hd : (x == ("__debug__" : Str)) = false := by decide) (hcd : (x == ("__classdict__" : Str)) = false := by decide) : EV X W pa Γ (.Name x pos) (pure d) := ev_var hΓ hN hv hd hcd
/-- a def of the text that keeps its promise -/
structure Cal (P : Program) (w : World) (K : PySem.W.Frag) (mg : Str → Option Value) (base : Heap) (k : Nat) (x : Str) (ps : List Str) (sp : Sp) : Prop where
  ex : ∃ f fd, FnG P w K mg base k f fd ps sp ∧ mg x = some (.ref f) ∧ PySem.W.keepIn K (.ref f) = true ∧ Binds K fd ps []
theorem Cal.mono {P : Program} {w : World} {K : PySem.W.Frag} {mg : Str → Option Value} {base : Heap} {j k : Nat} {x : Str} {ps : List Str} {sp : Sp} (F : Cal P w K mg base j x ps sp) (h : j ≤ k) : Cal P w K mg base k x ps sp := by
  obtain ⟨f, fd, h1, h2, h3, h4⟩ := F.ex
  exact ⟨f, fd, h1.mono h, h2, h3, h4⟩
structure FunAt (K : PySem.W.Frag) (mg : Str → Option Value) (x : Str) (st : Stmt) : Prop where
  ex : ∃ f fd, Fun K x x st f fd ∧ mg x = some (.ref f)
theorem call {x : Str} {p : Pos} {n : Nat} {F : List D → PM D} {ps : List Str} {j : Nat} {e : Expr} {es : List Expr} {ml : PM (List D)} (C : Cok X W k) (FC : Cal X.prog X.w X.K X.mg X.base j x ps (spF X.K X.mg false n F)) (ar : Arity n F)
    (ha : EL X W pa Γ (e :: es) ml) (hj : j ≤ k := by decide) (hg : Gl X x := by rfl) (hdb : (x == ("__debug__" : Str)) = false := by decide) (he : starEach (e :: es) X.env = (false, eval e X.env) :: starEach es X.env := by rfl) (hpl : (backTo pos (starEach es X.env)).any (·.1) = false := by rfl) :
    EV X W pa Γ (.Call (.Name x p) (e :: es) [] pos) (ml >>= fun ds => run0 (F ds)) := by
  obtain ⟨f, fd, h1, h2, h3, h4⟩ := FC.ex
  exact ev_call C (h1.mono hj) ar hg h2 h3 h4 ha hdb he hpl
theorem callN {x : Str} {p : Pos} {n : Nat} {F : List D → PM D} {ps : List Str} {j : Nat} (C : Cok X W k) (FC : Cal X.prog X.w X.K X.mg X.base j x ps (spF X.K X.mg false n F)) (ar : Arity n F)
    (hj : j ≤ k := by decide) (hg : Gl X x := by rfl) (hdb : (x == ("__debug__" : Str)) = false := by decide) : EV X W pa Γ (.Call (.Name x p) [] [] pos) (run0 (F [])) := by
  obtain ⟨f, fd, h1, h2, h3, h4⟩ := FC.ex
  exact ev_call0 C (h1.mono hj) ar hg h2 h3 h4 hdb
theorem callP (i : Nat) {q : Addr} {x y : Str} {p p2 : Pos} {n : Nat} {F : List D → PM D} {ps : List Str} {j : Nat} {es : List Expr} {ml : PM (List D)} (C : Cok X W k) (FC : Cal X.prog X.w X.K X.mg X.base j x ps (spF X.K X.mg true n F)) (ar : Arity n F)
    (ha : EL X W (some q) Γ es ml) (hj : j ≤ k := by decide) (hΓ : Γ[i]? = some .pen := by rfl) (hN : X.N[i]? = some y := by rfl) (hv : Vis X.env.scope y := by first | exact Or.inl rfl | exact Or.inr (Or.inl rfl) | exact Or.inr (Or.inr rfl)) (hg : Gl X x := by rfl) (hdb : (x == ("__debug__" : Str)) = false := by decide)
    (he : starEach (.Name y p2 :: es) X.env = (false, eval (.Name y p2) X.env) :: starEach es X.env := by rfl) (hpl : (backTo pos (starEach es X.env)).any (·.1) = false := by rfl)
    (hd : (y == ("__debug__" : Str)) = false := by decide) (hcd : (y == ("__classdict__" : Str)) = false := by decide) :
    EV X W (some q) Γ (.Call (.Name x p) (.Name y p2 :: es) [] pos) (ml >>= F) := by
  obtain ⟨f, fd, h1, h2, h3, h4⟩ := FC.ex
  exact ev_callP C (h1.mono hj) ar hg h2 h3 h4 hΓ hN hv ha hdb he hpl hd hcd
theorem callS (i : Nat) {x y : Str} {ns : List Int} {p p2 : Pos} {n : Nat} {F : List Int → List D → PM D} {ps : List Str} {j : Nat} {es : List Expr} {ml : PM (List D)} (C : Cok X W k) (FC : Cal X.prog X.w X.K X.mg X.base j x ps (spS X.K X.mg n F)) (ar : ∀ ns, Arity n (F ns))
    (ha : EL X W pa Γ es ml) (hj : j ≤ k := by decide) (hΓ : Γ[i]? = some (.scr ns) := by rfl) (hN : X.N[i]? = some y := by rfl) (hv : Vis X.env.scope y := by first | exact Or.inl rfl | exact Or.inr (Or.inl rfl) | exact Or.inr (Or.inr rfl)) (hg : Gl X x := by rfl) (hdb : (x == ("__debug__" : Str)) = false := by decide)
    (he : starEach (.Name y p2 :: es) X.env = (false, eval (.Name y p2) X.env) :: starEach es X.env := by rfl) (hpl : (backTo pos (starEach es X.env)).any (·.1) = false := by rfl)
    (hd : (y == ("__debug__" : Str)) = false := by decide) (hcd : (y == ("__classdict__" : Str)) = false := by decide) :
    EV X W pa Γ (.Call (.Name x p) (.Name y p2 :: es) [] pos) (ml >>= fun ds => run0 (F ns ds)) := by
  obtain ⟨f, fd, h1, h2, h3, h4⟩ := FC.ex
  exact ev_callS C (h1.mono hj) ar hg h2 h3 h4 hΓ hN hv ha hdb he hpl hd hcd
theorem pget (i : Nat) {q : Addr} {y : Str} {b : Expr} {p2 : Pos} {mb : PM D} (hb : EV X W (some q) Γ b mb) (hs : PlainIx b) (hΓ : Γ[i]? = some .pen := by rfl) (hN : X.N[i]? = some y := by rfl) (hv : Vis X.env.scope y := by first | exact Or.inl rfl | exact Or.inr (Or.inl rfl) | exact Or.inr (Or.inr rfl)) (hd : (y == ("__debug__" : Str)) = false := by decide) (hcd : (y == ("__classdict__" : Str)) = false := by decide) :
    EV X W (some q) Γ (.Subscript (.Name y p2) b pos) (mb >>= penGet) := ev_pen hΓ hN hv hb hs hd hcd
theorem sget (i : Nat) {y : Str} {ns : List Int} {b : Expr} {p2 : Pos} {mb : PM D} (hb : EV X W pa Γ b mb) (hs : PlainIx b) (hΓ : Γ[i]? = some (.scr ns) := by rfl) (hN : X.N[i]? = some y := by rfl) (hv : Vis X.env.scope y := by first | exact Or.inl rfl | exact Or.inr (Or.inl rfl) | exact Or.inr (Or.inr rfl)) (hd : (y == ("__debug__" : Str)) = false := by decide) (hcd : (y == ("__classdict__" : Str)) = false := by decide) :
    EV X W pa Γ (.Subscript (.Name y p2) b pos) (mb >>= scrGet ns) := ev_scr hΓ hN hv hb hs hd hcd
theorem slen (i : Nat) {y : Str} {ns : List Int} {p p2 : Pos} (hm : X.mg "len" = none) (hg : Gl X "len" := by rfl) (hΓ : Γ[i]? = some (.scr ns) := by rfl) (hN : X.N[i]? = some y := by rfl) (hv : Vis X.env.scope y := by first | exact Or.inl rfl | exact Or.inr (Or.inl rfl) | exact Or.inr (Or.inr rfl))
    (hs : starEach [.Name y p2] X.env = (false, eval (.Name y p2) X.env) :: starEach [] X.env := by rfl) (hpl : (backTo pos (starEach [] X.env)).any (·.1) = false := by rfl) (hd : (y == ("__debug__" : Str)) = false := by decide) (hcd : (y == ("__classdict__" : Str)) = false := by decide) :
    EV X W pa Γ (.Call (.Name "len" p) [.Name y p2] [] pos) (pure (.int ns.length)) := ev_lenScr hg hm hΓ hN hv hs hpl hd hcd
def negD : D → PM D
  | .int i => pure (.int (-i))
  | _ => bad
theorem ev_neg {e : Expr} {m : PM D} (h : EV X W pa Γ e m) : EV X W pa Γ (.UnaryOp .USub e pos) (m >>= negD) := pe_imp (pe_un un_neg h) fun σ H Q ⟨G0, H0, G, s, E, P⟩ => ⟨G0, H0, G, s, E, P.bind.imp fun G1 H1 d s1 x1 p1 P1 v r => by
  cases r with
  | int i => exact ⟨i, rfl, P1.now x1.sub p1 _ (.int _)⟩
  | _ => exact P1.elim⟩
theorem eb_chain {op op' : CmpOp} {g g' : D → D → PM D} {a b c : Expr} {ma mb mc : PM D} (ho : OpD X (compareOp op) g) (ho' : OpD X (compareOp op') g') (ha : EV X W pa Γ a ma) (hb : EV X W pa Γ b mb) (hc : EV X W pa Γ c mc)
    (hm : lastMarks [op, op'] [b, c] = false := by with_unfolding_all rfl) : EB X W pa Γ (.Compare a [op, op'] [b, c] pos) (ma >>= fun x => mb >>= fun y => g x y >>= fun r => asB r >>= fun t => if t = true then mc >>= fun z => g' y z >>= asB else pure false) := by
  obtain ⟨r, h1, h2⟩ := ho
  obtain ⟨r', h1', h2'⟩ := ho'
  refine pt_imp (pt_chain h1 h1' ha hb hc hm) fun σ H Q ⟨G0, H0, G, s, E, P⟩ =>
    ⟨G0, H0, G, s, E, P.bind.imp fun G1 H1 a s1 x1 p1 P1 v rv => ⟨G0, H0, G1, s1, E.step x1 p1, P1.bind.imp fun G2 H2 b s2 x2 p2 P2 w rw => ?_⟩⟩
  refine h2 W pa σ G2 H2 s2 v w a b _ x2.sub p2 (rv.mono x2.g) rw (P2.bind.imp fun G3 H3 d s3 x3 p3 P3 u ru => ?_)
  cases ru with
  | bl t =>
    refine ⟨t, rfl, ?_⟩
    have P4 := (P3.bind).now x3.sub p3
    cases t with
    | false =>
      have q : Q false H3 := P4.now x3.sub p3
      exact (show ∃ k, V.bl false = V.bl k ∧ Q k H3 from ⟨false, rfl, q⟩)
    | true =>
      refine (show evT X W pa Γ mc σ H3 _ from ⟨G0, H0, G3, s3, ((E.step x1 p1).step x2 p2).step x3 p3, (P4.bind : Pst X.K W X.mg pa σ _ G3 H3 (mc s3)).imp fun G5 H5 z s5 x5 p5 P5 u' ru' => ?_⟩)
      refine h2' W pa σ G5 H5 s5 w u' b z _ x5.sub p5 (rw.mono (x3.g.trans x5.g)) ru' (P5.bind.imp fun G6 H6 d s6 x6 p6 P6 u2 ru2 => ?_)
      cases ru2 with
      | bl c => exact ⟨c, rfl, P6.now x6.sub p6⟩
      | _ => exact P6.elim
  | _ => exact P3.elim
end
section
variable {X : Cx} {pos : Pos}
theorem pgn (i : Nat) {x : Str} (nd : X.N.Nodup) (hi : X.N[i]? = some x := by rfl) (hx : Loc X.env.scope x := by first | exact Or.inl rfl | exact Or.inr rfl) (hf : X.fn x = true ∨ X.env.scope.names.lookup x = some .local := by first | exact .inl rfl | exact .inr rfl) : PG X (.Name x pos) (gName i) := pg_name nd hi hx hf
end
theorem wn : Weak [] [] := trivial
theorem wk {x : Sl} {xs ys : List Sl} (h : Weak xs ys) : Weak (x :: xs) (x :: ys) := ⟨.inr rfl, h⟩
theorem wj {x : Sl} {xs ys : List Sl} (h : Weak xs ys) : Weak (x :: xs) (.junk :: ys) := ⟨.inl rfl, h⟩
theorem out_ret (m : PM D) : m = (m >>= fun a => outD (Out.ret a)) := (bind_pure m).symm
/-- built-in names that the module leaves as they are -/
structure Bn (mg : Str → Option Value) : Prop where
  len : mg "len" = none
  tuple : mg "tuple" = none
  list : mg "list" = none
  sorted : mg "sorted" = none
  set : mg "set" = none
  range : mg "range" = none
  enumerate : mg "enumerate" = none
  zip : mg "zip" = none
  any : mg "any" = none
  all : mg "all" = none
  max : mg "max" = none
  min : mg "min" = none
  repr : mg "repr" = none
  isinstance : mg "isinstance" = none
  int : mg "int" = none
  bool : mg "bool" = none
  str : mg "str" = none
  dict : mg "dict" = none
theorem len0 {ds : List D} (h : ds.length = 0) : ds = [] := List.length_eq_zero_iff.mp h
theorem len1 {ds : List D} (h : ds.length = 1) : ∃ a, ds = [a] := List.length_eq_one_iff.mp h
theorem len2 {ds : List D} (h : ds.length = 2) : ∃ a b, ds = [a, b] := by
  match ds, h with
  | [a, b], _ => exact ⟨a, b, rfl⟩
theorem len3 {ds : List D} (h : ds.length = 3) : ∃ a b c, ds = [a, b, c] := by
  match ds, h with
  | [a, b, c], _ => exact ⟨a, b, c, rfl⟩
theorem len4 {ds : List D} (h : ds.length = 4) : ∃ a b c d, ds = [a, b, c, d] := by
  match ds, h with
  | [a, b, c, d], _ => exact ⟨a, b, c, d, rfl⟩
theorem len5 {ds : List D} (h : ds.length = 5) : ∃ a b c d e, ds = [a, b, c, d, e] := by
  match ds, h with
  | [a, b, c, d, e], _ => exact ⟨a, b, c, d, e, rfl⟩
section
variable {P : Program} {w : World} {K : PySem.W.Frag} {mg : Str → Option Value} {base : Heap} {x : Str} {st : Stmt} {N ps : List Str} {k n : Nat}
theorem mk_pure {F : List D → PM D} (FA : FunAt K mg x st) (S : FnScope N ps (defScope st)) (hps : ps.length = n)
    (hbd : ∀ (kV doc pm : Value) (an : Option Addr) (cdv ct : Value) (us : List Value), us.length = ps.length → bindArgs (PySem.W.fnOf x x (defArgs st) (defBody st) (defScope st) .none kV doc pm an cdv ct) ⟨us, []⟩ = pure (ps.zip us))
    (hb : ∀ (f : Addr) (cdv : Value) (A : Around) (outer : List PySem.Env) (s : Shared) (H : Hp) (E : XK), Cok (cxOf (L2.CX P w) P w K mg base N x (defScope st) f cdv A outer s H E) (fun cls d _ H => E cls d H) k → ∀ ds : List D, ds.length = n →
      ∃ (α : Type) (out : α → Out) (m : PM α), SV (cxOf (L2.CX P w) P w K mg base N x (defScope st) f cdv A outer s H E) (fun cls d _ H => E cls d H) none (slots0 N ds) out (defBody st) m ∧ F ds = (m >>= fun a => outD (out a))) :
    Cal P w K mg base (k + 1) x ps (spF K mg false n F) := by
  obtain ⟨f, fd, FU, hm⟩ := FA.ex
  exact ⟨f, fd, fn_pure FU S hps (hb f), hm, FU.kp, FU.binds hbd⟩
theorem mk_pen {F : List D → PM D} (FA : FunAt K mg x st) (S : FnScope N ps (defScope st)) (hps : ps.length = n + 1)
    (hbd : ∀ (kV doc pm : Value) (an : Option Addr) (cdv ct : Value) (us : List Value), us.length = ps.length → bindArgs (PySem.W.fnOf x x (defArgs st) (defBody st) (defScope st) .none kV doc pm an cdv ct) ⟨us, []⟩ = pure (ps.zip us))
    (hb : ∀ (f : Addr) (cdv : Value) (A : Around) (outer : List PySem.Env) (s : Shared) (H : Hp) (E : XK), Cok (cxOf (L2.CX P w) P w K mg base N x (defScope st) f cdv A outer s H E) (fun cls d _ H => E cls d H) k → ∀ (q : Addr) (ds : List D), ds.length = n →
      ∃ (α : Type) (out : α → Out) (m : PM α), SV (cxOf (L2.CX P w) P w K mg base N x (defScope st) f cdv A outer s H E) (fun cls d _ H => E cls d H) (some q) (slotsP N ds) out (defBody st) m ∧ F ds = (m >>= fun a => outD (out a))) :
    Cal P w K mg base (k + 1) x ps (spF K mg true n F) := by
  obtain ⟨f, fd, FU, hm⟩ := FA.ex
  exact ⟨f, fd, fn_pen FU S hps (hb f), hm, FU.kp, FU.binds hbd⟩
theorem mk_scr {F : List Int → List D → PM D} (FA : FunAt K mg x st) (S : FnScope N ps (defScope st)) (hps : ps.length = n + 1)
    (hbd : ∀ (kV doc pm : Value) (an : Option Addr) (cdv ct : Value) (us : List Value), us.length = ps.length → bindArgs (PySem.W.fnOf x x (defArgs st) (defBody st) (defScope st) .none kV doc pm an cdv ct) ⟨us, []⟩ = pure (ps.zip us))
    (hb : ∀ (f : Addr) (cdv : Value) (A : Around) (outer : List PySem.Env) (s : Shared) (H : Hp) (E : XK), Cok (cxOf (L2.CX P w) P w K mg base N x (defScope st) f cdv A outer s H E) (fun cls d _ H => E cls d H) k → ∀ (ns : List Int) (ds : List D), ds.length = n →
      ∃ (α : Type) (out : α → Out) (m : PM α), SV (cxOf (L2.CX P w) P w K mg base N x (defScope st) f cdv A outer s H E) (fun cls d _ H => E cls d H) none (slotsS N ns ds) out (defBody st) m ∧ F ns ds = (m >>= fun a => outD (out a))) :
    Cal P w K mg base (k + 1) x ps (spS K mg n F) := by
  obtain ⟨f, fd, FU, hm⟩ := FA.ex
  exact ⟨f, fd, fn_scr FU S hps (hb f), hm, FU.kp, FU.binds hbd⟩
theorem mk_mk {F : List D → PM (List Int)} {es : List Expr} {p1 p2 : Pos} (FA : FunAt K mg x st) (S : FnScope N ps (defScope st)) (hps : ps.length = n)
    (hbd : ∀ (kV doc pm : Value) (an : Option Addr) (cdv ct : Value) (us : List Value), us.length = ps.length → bindArgs (PySem.W.fnOf x x (defArgs st) (defBody st) (defScope st) .none kV doc pm an cdv ct) ⟨us, []⟩ = pure (ps.zip us)) (hst : defBody st = [.Return (some (.List es p1)) p2])
    (hb : ∀ (f : Addr) (cdv : Value) (A : Around) (outer : List PySem.Env) (s : Shared) (H : Hp) (E : XK), Cok (cxOf (L2.CX P w) P w K mg base N x (defScope st) f cdv A outer s H E) (fun cls d _ H => E cls d H) k → ∀ ds : List D, ds.length = n →
      ∃ m, EL (cxOf (L2.CX P w) P w K mg base N x (defScope st) f cdv A outer s H E) (fun cls d _ H => E cls d H) none (slots0 N ds) es m ∧ F ds = (m >>= asInts)) :
    Cal P w K mg base (k + 1) x ps (spM K mg n F) := by
  obtain ⟨f, fd, FU, hm⟩ := FA.ex
  exact ⟨f, fd, fn_mk FU S hps hst (hb f), hm, FU.kp, FU.binds hbd⟩
theorem sv_new {X : Cx} {W : WX} {Γ : List Sl} {pos : Pos} {α : Type} {out : α → Out} {rest : List Stmt} (i : Nat) {F : List D → PM (List Int)} {x y : Str} {p p0 : Pos} {e : Expr} {es : List Expr} {ml : PM (List D)} {kk : PM α} {j : Nat} (C : Cok X W k) (FC : Cal X.prog X.w X.K X.mg X.base j x ps (spM X.K X.mg n F)) (ar : ∀ ds s, ds.length ≠ n → F ds s = .bad)
    (ha : EL X W none Γ (e :: es) ml) (hnp : ∀ a, match out a with | .fall Γ' => noPen Γ' = true | .ret _ => True | _ => False) (hr : ∀ q, SV X W (some q) (Γ.set i .pen) out rest kk)
    (hj : j ≤ k := by decide) (hg : Gl X x := by rfl) (hi : X.N[i]? = some y := by rfl) (hx : Loc X.env.scope y := by first | exact Or.inl rfl | exact Or.inr rfl) (hdb : (x == ("__debug__" : Str)) = false := by decide) (he : starEach (e :: es) X.env = (false, eval e X.env) :: starEach es X.env := by rfl) (hpl : (backTo pos (starEach es X.env)).any (·.1) = false := by rfl)
    {spos : Pos} (hs : swapsWith (.Call (.Name x p) (e :: es) [] pos) (some (.Name y p0)) spos.line X.env = pure false := by rfl) (hf : X.fn y = true ∨ X.env.scope.names.lookup y = some .local := by first | exact .inl rfl | exact .inr rfl) :
    SV X W none Γ out (.Assign [.Name y p0] (.Call (.Name x p) (e :: es) [] pos) spos :: rest) (ml >>= fun ds => run0 (F ds) >>= fun ns => withPen ns kk) := by
  obtain ⟨f, fd, h1, h2, h3, h4⟩ := FC.ex
  exact sv_penNew i C (h1.mono hj) ar hg h2 h3 h4 ha hr hnp hi hx hdb he hpl hs hf
end
def mfn1 (g : D → PM (List Int)) : List D → PM (List Int)
  | [a] => g a
  | _ => bad
theorem mar1 {g} : ∀ ds s, ds.length ≠ 1 → mfn1 g ds s = .bad := fun ds s h => by
  match ds, h with
  | [_], h => exact absurd rfl h
  | [], _ => rfl
  | _ :: _ :: _, _ => rfl
/-! what the head tells of a def -/
structure DefF (K : PySem.W.Frag) (x : Str) (st : Stmt) : Prop where
  ex : ∃ f fd, Fun K x x st f fd ∧ PySem.W.nsIn K mainGlobals x = some (some (.ref f))
theorem defF {K : PySem.W.Frag} {x : Str} {st : Stmt} {f : Addr} {oc : Value} {od an : Option Addr} {osl : Array (Option Value)} {kV doc pm cdv ct : Value} (a : PySem.W.nsIn K mainGlobals x = some (some (.ref f)))
    (l : K.lookup f = some ⟨oc, od, .func (PySem.W.fnOf x x (defArgs st) (defBody st) (defScope st) .none kV doc pm an cdv ct), osl⟩) (c : PySem.W.codeIn K cdv x = true) (k : PySem.W.keepIn K (.ref f) = true) : DefF K x st := ⟨f, _, fun_mk l c k, a⟩
theorem DefF.at {K : PySem.W.Frag} {x : Str} {st : Stmt} {h : Heap} {mg : Str → Option Value} (X : K.In h) (G : h.Ns mainGlobals mg) (d : DefF K x st) : FunAt K mg x st := by
  obtain ⟨f, fd, F, a⟩ := d.ex
  exact ⟨f, fd, F, PySem.W.mg_of X G a⟩
section
variable {X : Cx} {W : WX} {pa : Option Addr} {Γ : List Sl} {k : Nat} {pos : Pos} {α : Type} {out : α → Out} {rest : List Stmt}
theorem peekB (Γ' : List Sl) (i : Nat) {xs : List D} {e : Expr} {m : PM Bool} (h : Γ[i]? = some (.own xs)) (hG : Γ.set i (.val (.lst xs)) = Γ') (he : EB X W pa Γ' e m) : EB X W pa Γ e (noExc m) :=
  eb_peek i h (hG ▸ he)
theorem peekV (Γ' : List Sl) (i : Nat) {xs : List D} {e : Expr} {m : PM D} (h : Γ[i]? = some (.own xs)) (hG : Γ.set i (.val (.lst xs)) = Γ') (he : EV X W pa Γ' e m) : EV X W pa Γ e (noExc m >>= scalO) :=
  ev_peek i h (hG ▸ he)
theorem sv_ext (Γ' : List Sl) (i : Nat) {x : Str} {e : Expr} {xs : List D} {me : PM D} {kk : List D → PM α} {p1 apos cpos : Pos} (h : Γ[i]? = some (.own xs)) (hG : Γ.set i (.val (.lst xs)) = Γ') (he : EV X W pa Γ' e me) (hr : ∀ ys, SV X W pa (Γ.set i (.own (xs ++ ys))) out rest (kk ys))
    (hN : X.N[i]? = some x := by rfl) (hv : Vis X.env.scope x := by first | exact Or.inl rfl | exact Or.inr (Or.inl rfl) | exact Or.inr (Or.inr rfl)) (hd : (x == ("__debug__" : Str)) = false := by decide) (hcd : (x == ("__classdict__" : Str)) = false := by decide)
    (hbase : attributeBase (.Name x p1) "extend" X.env (eval (.Name x p1) X.env) = eval (.Name x p1) X.env := by rfl)
    (hfew : ((backTo cpos (starEach [e] X.env)).all (fun x => !x.1) && (backToKw cpos (keywordEach [] X.env)).all (fun x => x.1.isSome)
      && decide ([e].length + ([] : List Keyword).length + (if ([] : List Keyword).isEmpty then 0 else 1) < 30)) = true := by rfl)
    (hline : (apos.endLine == cpos.line) = true := by rfl) (hs : starEach [e] X.env = (false, eval e X.env) :: starEach [] X.env := by rfl) (hplain : (backTo cpos (starEach [] X.env)).any (·.1) = false := by rfl)
    (hsw : swapsWith (.Call (.Attribute (.Name x p1) "extend" apos) [e] [] cpos) none pos.line X.env = pure false := by rfl) :
    SV X W pa Γ out (.Expr (.Call (.Attribute (.Name x p1) "extend" apos) [e] [] cpos) pos :: rest) (noExc me >>= scalL >>= fun ys => okLen (xs ++ ys) >>= fun _ => kk ys) :=
  sv_extendP i h (hG ▸ he) hr hN hv hd hcd hbase hfew hline hs hplain hsw
end
end EV

/-! EV 13: set(list) of ints. -/
namespace L2
open PySem PySem.Spec PyProof.Rows
abbrev nset (w : World) : Obj := { cls := .type "set", dict := none, data := .set #[] 0 (.fresh 0 0 (!w.params.followText "set-order")) }
section
variable {P : Program} {w : World} {A : Around} {E : Value → Shared → Prop} {s : Shared}
set_option maxHeartbeats 3000000 in
theorem call_set_lsI {l : Addr} {items0 : Array Value} (ns0 : List Int) {Q : Value → Shared → Prop} (hh0 : A.handled = none) (hl0 : s.heap.IsList l items0) (hit0 : IntsAre items0.toList ns0) (hb0 : ns0.length + 1 < scanBound)
    (h0 : ∀ (h' : Heap) (tk y62 : Nat), SetR w h' s.heap.objs.size (fun j => decide (j ∈ ns0)) y62 → y62 ≤ ns0.length → (∀ y54 y55, s.heap.get? y54 = some y55 → h'.get? y54 = some y55) → Q (.ref s.heap.objs.size) { s with heap := h', toks := tk }) :
    wpAny (model P w) A (call (.type "set") [Value.ref l]) Q E s := by
  have y5 : items0.size = ns0.length := by
    have y6 := IntsAre.length hit0
    rw [Array.length_toList] at y6
    exact y6
  obtain ⟨y62, y63, y7⟩ := F.called_set.mro
  have y8 := F.called_set.made
  have y9 := F.called_set.sub
  refine wpAny_call (codeAny_of_tree (show wpAny _ _ (callAny (.type "set") _) _ _ _ from ?_))
  refine wpAny_pure (And.intro (Code.quiet_builtin _ (by decide +kernel)) (codeAny_builtin F.entry_type_call ?_))
  rw [Around.under_plain (weight_type_call_type "set" [Value.ref l] []) rfl]
  have y10 := F.called_set.notType
  have y11 := F.called_set.canCreate
  have y12 := F.typeCall_set_1 (.ref l)
  repeat (any_goals first | assumption | wp_step)

  refine codeAny_mono (code_set_led1 (.ref l) (E := E) (Q₁ := fun y69 y64 => y69 = .ref s.heap.objs.size ∧ y64 = { s with heap := s.heap.push (nset w) }) ⟨rfl, rfl⟩) fun y70 y64 y13 => ?_
  cases y70 with
  | error y61 => exact y13
  | ok y68 =>
    cases y68 with
    | ret y69 =>
      obtain ⟨rfl, rfl⟩ := y13
      have y14 : (s.heap.push (nset w)).get? s.heap.objs.size = some (nset w) := Heap.get?_push_size _ rfl
      have y15 : Shared.TypeIs { s with heap := s.heap.push (nset w) } (.ref s.heap.objs.size) "set" := ⟨_, y14, rfl⟩
      have y16 := F.called_set.init.lookup
      have y17 := F.called_set.init.bind (.ref s.heap.objs.size)
      repeat (any_goals first | assumption | wp_step)

      refine codeAny_mono (codeAny_call_builtin (R := wants (fun y70 y65 => y70 = .none ∧ ∃ h' tk y62, y65 = { s with heap := h', toks := tk } ∧ SetR w h' s.heap.objs.size (fun j => decide (j ∈ ns0)) y62 ∧ y62 ≤ ns0.length ∧
          (∀ y54 y55, s.heap.get? y54 = some y55 → h'.get? y54 = some y55)) E) F.called_set.init.plain F.entry_set_init (check_set_init_1 y15 ?_)) fun y66 y65 y18 => ?_
      · obtain ⟨y19, y20, y21, y22, y23⟩ := hl0
        obtain ⟨y24, y25, y26, y27⟩ := y19
        simp only at y21 y23
        subst y21; subst y23
        have y28 : (s.heap.push (nset w)).get? l = some { cls := .type "list", dict := y25, data := .seq items0 y22, slots := y27 } := Heap.get?_push_of_some _ y20
        have y29 := F.sub_list_set
        have y30 := F.sub_list_frozenset
        have y31 : (Value.type "list" == Value.type "dict") = false := by decide
        have y32 : (s.heap.push (nset w)).IsList l items0 := ⟨_, y28, rfl, y22, rfl⟩
        unfold Builtin.«set.__init__» Builtin.Frozenset.updateFrom noKeywords
        generalize y34 : pyIter = y33
        wp_walk
        subst y34

        refine wpAny_pyIter_list y32 ?_
        refine wpAny_bind (wpAny_runValue (?_ : _))
        have y35 : l < s.heap.objs.size := Heap.lt_size y20
        have y36 : A.in1.in1.in1.handled = none := by simp [hh0]
        have y37 : (s.heap.push (nset w)).objs.size = s.heap.objs.size + 1 := Heap.size_push ..
        have y38 : l ≠ (s.heap.push (nset w)).objs.size := by
          rw [Heap.size_push]; exact Nat.ne_of_lt (Nat.lt_succ_of_lt y35)
        have y39 : s.heap.objs.size ∉ [(s.heap.push (nset w)).objs.size, l] := by
          simp only [Heap.size_push, List.mem_cons, List.mem_singleton, List.not_mem_nil, or_false, not_or]
          exact ⟨Nat.ne_of_lt (Nat.lt_succ_self _), Nat.ne_of_gt y35⟩
        have y40 : ∀ (i : Nat) (v : Value), items0[i]? = some v → ∃ k t, ns0[i]? = some k ∧ v = .int k t := fun i v y41 => by
          have y42 : i < ns0.length := by rw [← y5]; exact (Array.getElem?_eq_some_iff.mp y41).1
          obtain ⟨t, y61⟩ := PyProof.Rows.IntsAre.int_at hit0 i v (by rw [Array.getElem?_toList]; exact y41)
          refine ⟨ns0[i], t, List.getElem?_eq_getElem y42, ?_⟩
          rw [y61, List.getD_eq_getElem?_getD, List.getElem?_eq_getElem y42] <;> rfl
        refine set_update_ints ((Walks.list y36 _ l y38 items0).toS) s.heap.objs.size
          y39 ns0 y5 hb0 y40 (items0.size - 0) 0 _ (by omega) (Nat.zero_le _)
          ⟨⟨_, Heap.get?_push_size _ rfl, rfl, rfl⟩, (y32.push _)⟩ ?hS0 ?hR
        case hS0 =>
          have y43 : ((s.heap.push (nset w)).push { cls := .type "list_iterator", data := .fields #[.ref l, .int 0 0] }).get? s.heap.objs.size
              = some (nset w) := Heap.get?_push_of_some _ y14
          exact ⟨0, Nat.le_refl 0, setR_new_at y43⟩
        case hR =>
          intro y73 y60 y44 y46 y45
          obtain ⟨h', y47, y48, y49, y50⟩ := y73
          have y51 : y47 = s.gens := y44.gens
          have y52 : y48 = s.drawn := y44.drawn
          have y53 : y50 = s.os := y44.os
          subst y51; subst y52; subst y53
          show wpAny _ _ _ _ _ _
          refine wpAny_pure ?_
          show wpAny _ _ (ret (.none : Value)) _ _ _
          rw [y5] at y46
          refine wpAny_pure ⟨rfl, h', y49, y60, rfl, y45, y46, fun y54 y55 y61 => ?_⟩
          have y56 : y54 < s.heap.objs.size := Heap.lt_size y61
          have y57 : y54 ≠ s.heap.objs.size := Nat.ne_of_lt y56
          have y58 : y54 ≠ (s.heap.push (nset w)).objs.size := by
            rw [Heap.size_push]; exact Nat.ne_of_lt (Nat.lt_succ_of_lt y56)
          exact y44.heap y54 y55 (by simp only [List.mem_cons, List.mem_singleton, List.not_mem_nil, or_false, not_or]; exact ⟨y57, y58⟩) (Heap.get?_push_of_some _ (Heap.get?_push_of_some _ y61))

      · cases y66 with
        | error y61 => exact y18
        | ok y67 =>
          cases y67 with
          | ret y70 =>
            obtain ⟨rfl, h', tk, y60, rfl, y45, y46, y59⟩ := y18
            repeat (any_goals first | assumption | wp_step)
            exact h0 _ _ _ y45 y46 y59
          | _ => exact y18.elim
    | _ => exact y13.elim

end
end L2

/-! EV 14: sorted(set(e)) of ints. -/
namespace EV
open PySem PySem.Spec PyProof.Rows L2
def putI (x : Int) : List Int → List Int
  | [] => [x]
  | y :: r => if x < y then x :: y :: r else if x = y then y :: r else y :: putI x r
def setI : List Int → List Int
  | [] => []
  | x :: r => putI x (setI r)
theorem mem_putI {x k : Int} : ∀ {l : List Int}, k ∈ putI x l ↔ k = x ∨ k ∈ l
  | [] => by simp [putI]
  | y :: r => by
    unfold putI
    split
    · simp
    · split
      · rename_i h
        subst h
        simp
      · rw [List.mem_cons, mem_putI (l := r), List.mem_cons]
        constructor
        · rintro (h | h | h)
          · exact .inr (.inl h)
          · exact .inl h
          · exact .inr (.inr h)
        · rintro (h | h | h)
          · exact .inr (.inl h)
          · exact .inl h
          · exact .inr (.inr h)
theorem mem_setI {k : Int} : ∀ {l : List Int}, k ∈ setI l ↔ k ∈ l
  | [] => .rfl
  | x :: r => by
    unfold setI
    rw [mem_putI, mem_setI (l := r), List.mem_cons]
theorem putI_asc {x : Int} : ∀ {l : List Int}, l.Pairwise (· < ·) → (putI x l).Pairwise (· < ·)
  | [], _ => by simp [putI]
  | y :: r, h => by
    have q := List.pairwise_cons.mp h
    unfold putI
    split
    · rename_i h1
      refine List.pairwise_cons.mpr ⟨fun z hz => ?_, h⟩
      rcases List.mem_cons.mp hz with rfl | hz
      · exact h1
      · exact Int.lt_trans h1 (q.1 z hz)
    · split
      · exact h
      · refine List.pairwise_cons.mpr ⟨fun z hz => ?_, putI_asc q.2⟩
        rcases mem_putI.mp hz with rfl | hz
        · omega
        · exact q.1 z hz
theorem setI_asc : ∀ (l : List Int), (setI l).Pairwise (· < ·)
  | [] => .nil
  | x :: r => putI_asc (setI_asc r)
theorem asc_eq : ∀ {l r : List Int}, l.Pairwise (· < ·) → r.Pairwise (· < ·) → (∀ k, k ∈ l ↔ k ∈ r) → l = r
  | [], [], _, _, _ => rfl
  | [], y :: r, _, _, h => absurd ((h y).mpr List.mem_cons_self) (by simp)
  | x :: l, [], _, _, h => absurd ((h x).mp List.mem_cons_self) (by simp)
  | x :: l, y :: r, hl, hr, h => by
    have p := List.pairwise_cons.mp hl
    have q := List.pairwise_cons.mp hr
    have e : x = y := by
      rcases List.mem_cons.mp ((h x).mp List.mem_cons_self) with e | m
      · exact e
      · rcases List.mem_cons.mp ((h y).mpr List.mem_cons_self) with e | m'
        · exact e.symm
        · have h1 := q.1 x m
          have h2 := p.1 y m'
          omega
    subst e
    rw [asc_eq p.2 q.2 fun k => ?_]
    constructor
    · intro m
      rcases List.mem_cons.mp ((h k).mp (List.mem_cons_of_mem _ m)) with e | m'
      · have := p.1 k m
        omega
      · exact m'
    · intro m
      rcases List.mem_cons.mp ((h k).mpr (List.mem_cons_of_mem _ m)) with e | m'
      · have := q.1 k m
        omega
      · exact m'
section
variable {X : Cx} {W : WX} {pa : Option Addr} {Γ : List Sl} {k : Nat} {pos : Pos}
def tSetI (K : PySem.W.Frag) (ta : TE) : TE := fun σ H Q => ta σ H fun x H1 => ∃ (l : Addr) (ns : List Int), x = V.ref l ∧ (SqL K H1 l (ns.map V.int) ∨ SqT K H1 l (ns.map V.int)) ∧ (ns.length < 1000 ∧ (setI ns).length < 64) ∧ ∀ p, H1 p = none → Q (.ref p) (upd H1 p (.lst ((setI ns).map V.int)))
/-- as many as there are different ones -/
theorem setR_count {w : World} {h : Heap} {a : Addr} {ns : List Int} {c : Nat} (R : SetR w h a (fun j => decide (j ∈ ns)) c) : c = (setI ns).length := by
  obtain ⟨o, es, ep, t, _, _, _, _, nd, hm, _, _, hn, _, _⟩ := R
  have p : (es.toList.map keyOf).Perm (setI ns) := (List.perm_ext_iff_of_nodup nd ((setI_asc ns).imp fun h => by omega)).mpr fun k => by
    rw [← hm k, decide_eq_true_eq, mem_setI]
  have l := p.length_eq
  rw [List.length_map, Array.length_toList] at l
  omega
theorem sorted_setR {pins : List (Addr × Obj)} {σ : L2.St} {H : Hp} {s : Shared} {a : Addr} {S : Int → Bool} {n : Nat} {Q : VK} (I : Inv X pins σ H s) (hc : X.calm = true) (R : SetR X.w s.heap a S n) (h64 : n < 64)
    (q : ∀ (ns : List Int) (p : Addr), ns.Pairwise (· < ·) → (∀ k : Int, k ∈ ns ↔ S k = true) → ns.length = n → H p = none → Q (.ref p) (upd H p (.lst (ns.map V.int)))) :
    wpAny (model X.prog X.w) X.A (PySem.call (.builtin "sorted") [Value.ref a]) (EP X pins σ Q) X.xe s := by
  refine sorted_set R (I.ok.hd hc) h64 fun t p out c ns k g o hp hgt hi hs hm hl => ?_
  have hz : (ns.map V.int).length ≤ sizeLine := by
    rw [List.length_map, hl, sizeLine_eq]
    omega
  have hn : H p = none := I.hok.fresh hp
  have J : Inv X pins σ (upd H p (.lst (ns.map V.int))) { s with heap := t.heap, gens := t.gens, drawn := t.drawn, toks := t.toks } :=
    I.call (ch := []) (Un.laid k hp hn) (I.hok.laid k hp ⟨hz, out.toList, c, vals_of_ints hi, hgt⟩) (by rw [g]; exact I.bare) (fun _ z => nomatch z)
  have e : t = { s with heap := t.heap, gens := t.gens, drawn := t.drawn, toks := t.toks } := by
    cases t
    cases s
    cases o
    rfl
  rw [e]
  exact ⟨.ref p, _, J, rfl, q ns p hs hm hl hn⟩
theorem pe_setI {a : Expr} {ta : TE} {p p2 q pos : Pos} (hc : X.calm = true) (hg : Gl X "sorted") (hm : X.mg "sorted" = none) (hg2 : Gl X "set") (hm2 : X.mg "set" = none) (ha : PE X a ta)
    (na : starEach [a] X.env = (false, eval a X.env) :: starEach [] X.env := by rfl) : PE X (.Call (.Name "sorted" p) [.Call (.Name "set" p2) [a] [] q] [] pos) (tSetI X.K ta) := by
  refine ⟨fun pins s σ H Q I h => ?_⟩
  refine Call_ (ld_blt I hg hm (by decide +kernel : bootBuiltins ("sorted" : Str) = some (.builtin "sorted")) ?_)
  refine callWith_builtin1 (args_cons ?_ rfl) rfl rfl
  refine Call_ (ld_blt I hg2 hm2 boot_set ?_)
  refine callWith_type1 (args_cons (thn (ha.run pins s σ H _ I h) fun v s1 ⟨x, H1, I1, r1, q1⟩ => args_nil ?_) na) na rfl
  obtain ⟨l, ns, rfl, hq, ⟨h63, h64⟩, q1⟩ := q1
  cases r1
  have go : ∀ (h' : Heap) (tk c : Nat), SetR X.w h' s1.heap.objs.size (fun j => decide (j ∈ ns)) c → c ≤ ns.length → (∀ b o, s1.heap.get? b = some o → h'.get? b = some o) →
      wpAny (model X.prog X.w) X.A (PySem.call (.builtin "sorted") [Value.ref s1.heap.objs.size]) (EP X pins σ Q) X.xe { s1 with heap := h', toks := tk } := fun h' tk c R hc' k =>
    sorted_setR (I1.kept fun b o e => k b o e) hc R (by rw [setR_count R]; exact h64) fun ms p hs hm3 hl hn => by
      have e1 : ms = setI ns := asc_eq hs (setI_asc ns) fun j => by rw [hm3 j, decide_eq_true_eq, mem_setI]
      rw [e1]
      exact q1 p hn
  rcases hq with hq | hq
  · obtain ⟨its, r, pl, hz⟩ := I1.list hq
    exact call_set_lsI ns (I.ok.hd hc) pl.isList (by simpa using r.ints) (by unfold scanBound; omega) fun h' tk c R hc' k => args_nil (go h' tk c R hc' k)
  · obtain ⟨its, r, hT, hz⟩ := I1.tuple hq
    exact call_set_tupI ns (I.ok.hd hc) hT (by simpa using r.ints) (by unfold scanBound; omega) fun h' tk c R hc' k => args_nil (go h' tk c R hc' k)
/-- sorted(set(..)) -/
def sortSetD : D → PM D
  | .lst xs | .tup xs => match intsOf xs with
    | some ns => if ns.length < 1000 ∧ (setI ns).length < 64 then mkL ((setI ns).map D.int) else bad
    | none => bad
  | _ => bad
theorem ev_setI {a : Expr} {m : PM D} {p p2 q pos : Pos} (hc : X.calm = true) (hg : Gl X "sorted") (hm : X.mg "sorted" = none) (hg2 : Gl X "set") (hm2 : X.mg "set" = none) (ha : EV X W pa Γ a m)
    (na : starEach [a] X.env = (false, eval a X.env) :: starEach [] X.env := by rfl) : EV X W pa Γ (.Call (.Name "sorted" p) [.Call (.Name "set" p2) [a] [] q] [] pos) (m >>= sortSetD) :=
  pe_imp (pe_setI hc hg hm hg2 hm2 ha na) fun σ H Q ⟨G0, H0, G, s, E, P⟩ => ⟨G0, H0, G, s, E, P.bind.imp fun G1 H1 d s1 x1 p1 P1 v r => by
    have main : ∀ (l : Addr) (xs : List V) (ds : List D), RpL X.K G1 xs ds → (SqL X.K H1 l xs ∨ SqT X.K H1 l xs) → v = V.ref l →
        Pst X.K W X.mg pa σ (FD X.K Q) G1 H1 ((match intsOf ds with | some ns => if ns.length < 1000 ∧ (setI ns).length < 64 then mkL ((setI ns).map D.int) else bad | none => bad : PM D) s1) →
        ∃ (l : Addr) (ns : List Int), v = V.ref l ∧ (SqL X.K H1 l (ns.map V.int) ∨ SqT X.K H1 l (ns.map V.int)) ∧ (ns.length < 1000 ∧ (setI ns).length < 64) ∧ ∀ p, H1 p = none → Q (.ref p) (upd H1 p (.lst ((setI ns).map V.int))) := by
      intro l xs ds rr hq ev P2
      cases e : intsOf ds with
      | none => rw [e] at P2; exact P2.elim
      | some bs =>
        rw [e] at P2
        by_cases hb : bs.length < 1000 ∧ (setI bs).length < 64
        · have P2 : Pst X.K W X.mg pa σ (FD X.K Q) G1 H1 ((if bs.length < 1000 ∧ (setI bs).length < 64 then mkL ((setI bs).map D.int) else bad : PM D) s1) := P2
          rw [if_pos hb] at P2
          rw [intsOf_rp rr e] at hq
          exact ⟨l, bs, ev, hq, hb, fun p np => mkL_use P2 (rpl_ints _) x1.sub p1 np⟩
        · have P2 : Pst X.K W X.mg pa σ (FD X.K Q) G1 H1 ((if bs.length < 1000 ∧ (setI bs).length < 64 then mkL ((setI bs).map D.int) else bad : PM D) s1) := P2
          rw [if_neg hb] at P2
          exact P2.elim
    cases r with
    | @lst a vs es h n r => exact main a vs es ⟨n, r⟩ (.inl (SqL.of (x1.sub _ _ h))) rfl P1
    | @tup a vs es h n r => exact main a vs es ⟨n, r⟩ (.inr (sameT x1.sub h)) rfl P1
    | non => exact P1.elim
    | bl _ => exact P1.elim
    | int _ => exact P1.elim
    | str _ => exact P1.elim⟩
end
theorem cstI {K : PySem.W.Frag} {x : Str} {h : Heap} {mg : Str → Option Value} {i : Int} {t : Tok} (X : K.In h) (G : h.Ns mainGlobals mg) (a : PySem.W.nsIn K mainGlobals x = some (some (.int i t))) : ∃ t, mg x = some (.int i t) := ⟨t, PySem.W.mg_of X G a⟩
theorem cstS {K : PySem.W.Frag} {x : Str} {h : Heap} {mg : Str → Option Value} {i : Str} {t : Tok} (X : K.In h) (G : h.Ns mainGlobals mg) (a : PySem.W.nsIn K mainGlobals x = some (some (.str i t))) : ∃ t, mg x = some (.str i t) := ⟨t, PySem.W.mg_of X G a⟩
end EV

/-! EV 15: several targets, some of them lists of one's own; range as a list. -/
namespace EV
open PySem PySem.Spec PyProof.Rows L2

/-! ### tuple(range(..)), list(range(..)) -/
section
variable {X : Cx} {W : WX} {pa : Option Addr} {Γ : List Sl} {k : Nat} {pos : Pos}
theorem rgV_rp {K : PySem.W.Frag} {G : Hp} (a b : Int) : RpL K G (rgV a b) (rangeL a (b - a).toNat) := by
  refine ⟨by rw [rgV_length]; simp [rangeL], fun i v d h1 h2 => ?_⟩
  unfold rgV at h1
  unfold rangeL at h2
  rw [List.getElem?_map] at h1 h2
  cases e : (List.range (b - a).toNat)[i]? with
  | none => rw [e] at h1; cases h1
  | some j =>
    rw [e] at h1 h2
    cases h1
    cases h2
    exact .int _
def rgD (a b : Int) : PM (List D) := if -(2 ^ 62) ≤ a ∧ a < 2 ^ 62 ∧ -(2 ^ 62) ≤ b ∧ b < 2 ^ 62 ∧ (b - a).toNat ≤ lim then pure (rangeL a (b - a).toNat) else bad
def rg1 : D → PM (List D)
  | .int n => rgD 0 n
  | _ => bad
def rg2 : D → D → PM (List D)
  | .int a, .int b => rgD a b
  | _, _ => bad
theorem rg_use {K : PySem.W.Frag} {mg : Str → Option Value} {σ : L2.St} {F : Hp → Hp → D → List Int → Prop} {G H : Hp} {a b : Int} {f : List D → PM D} {s : List Int} (P : Pst K W mg pa σ F G H ((rgD a b >>= f) s)) : RgOk a b ∧ Pst K W mg pa σ F G H (f (rangeL a (b - a).toNat) s) := by
  unfold rgD at P
  by_cases h : -(2 ^ 62) ≤ a ∧ a < 2 ^ 62 ∧ -(2 ^ 62) ≤ b ∧ b < 2 ^ 62 ∧ (b - a).toNat ≤ lim
  · rw [if_pos h] at P
    obtain ⟨h1, h2, h3, h4, h5⟩ := h
    exact ⟨⟨h1, h2, h3, h4, Nat.le_trans h5 (by decide)⟩, P⟩
  · rw [if_neg h] at P
    exact P.elim
theorem ev_tupRg1 {a : Expr} {m : PM D} {p p2 pos2 : Pos} (C : Cok X W k) (hg : Gl X "tuple") (hm : X.mg "tuple" = none) (hg2 : Gl X "range") (hm2 : X.mg "range" = none) (h : EV X W pa Γ a m)
    (na : starEach [a] X.env = (false, eval a X.env) :: starEach [] X.env := by rfl) (na2 : starEach [.Call (.Name "range" p2) [a] [] pos2] X.env = (false, eval (.Call (.Name "range" p2) [a] [] pos2) X.env) :: starEach [] X.env := by rfl) :
    EV X W pa Γ (.Call (.Name "tuple" p) [.Call (.Name "range" p2) [a] [] pos2] [] pos) (m >>= fun d => rg1 d >>= mkT) :=
  pe_imp (pe_tupRg C.calm hg hm (prg_1 hg2 hm2 h na) na2) fun σ H Q ⟨G0, H0, G, s, E, P⟩ => ⟨G0, H0, G, s, E, P.bind.imp fun G1 H1 d s1 x1 p1 P1 v r => by
    cases r with
    | int n =>
      obtain ⟨h1, P2⟩ := rg_use (P1 : Pst X.K W X.mg pa σ (FD X.K Q) G1 H1 ((rgD 0 n >>= mkT) s1))
      exact ⟨n, rfl, h1, fun q nq => mkT_use P2 (rgV_rp 0 n) x1.sub p1 nq⟩
    | _ => exact P1.elim⟩
theorem ev_lstRg1 {a : Expr} {m : PM D} {p p2 pos2 : Pos} (C : Cok X W k) (hg : Gl X "list") (hm : X.mg "list" = none) (hg2 : Gl X "range") (hm2 : X.mg "range" = none) (h : EV X W pa Γ a m)
    (na : starEach [a] X.env = (false, eval a X.env) :: starEach [] X.env := by rfl) (na2 : starEach [.Call (.Name "range" p2) [a] [] pos2] X.env = (false, eval (.Call (.Name "range" p2) [a] [] pos2) X.env) :: starEach [] X.env := by rfl) :
    EV X W pa Γ (.Call (.Name "list" p) [.Call (.Name "range" p2) [a] [] pos2] [] pos) (m >>= fun d => rg1 d >>= mkL) :=
  pe_imp (pe_listRg C.calm hg hm (prg_1 hg2 hm2 h na) na2) fun σ H Q ⟨G0, H0, G, s, E, P⟩ => ⟨G0, H0, G, s, E, P.bind.imp fun G1 H1 d s1 x1 p1 P1 v r => by
    cases r with
    | int n =>
      obtain ⟨h1, P2⟩ := rg_use (P1 : Pst X.K W X.mg pa σ (FD X.K Q) G1 H1 ((rgD 0 n >>= mkL) s1))
      exact ⟨n, rfl, h1, fun q nq => mkL_use P2 (rgV_rp 0 n) x1.sub p1 nq⟩
    | _ => exact P1.elim⟩
end

/-! ### several values, some of them fresh lists -/
inductive Mv where
  | v (d : D) | o (xs : List D)
def mvS : Mv → Sl
  | .v d => .val d
  | .o xs => .own xs
/-- no list of one's own among these is p -/
def NoOwn (p : Addr) : List V → List Mv → Prop
  | v :: vs, .o _ :: ms => v ≠ .ref p ∧ NoOwn p vs ms
  | _ :: vs, .v _ :: ms => NoOwn p vs ms
  | _, _ => True
def MR (K : PySem.W.Frag) (pa : Option Addr) (G H Hb : Hp) : List V → List Mv → Prop
  | [], [] => True
  | v :: vs, .v d :: ms => Rp K G v d ∧ MR K pa G H Hb vs ms
  | v :: vs, .o xs :: ms => (∃ p ws, v = .ref p ∧ Hb p = none ∧ H p = some (.lst ws) ∧ G p = none ∧ RpL K G ws xs ∧ pa ≠ some p ∧ NoOwn p vs ms) ∧ MR K pa G H Hb vs ms
  | _, _ => False
theorem MR.base {K : PySem.W.Frag} {pa : Option Addr} {G H Hb Hb' : Hp} (i : ∀ p, Hb p = none → Hb' p = none) : ∀ {vs : List V} {ms : List Mv}, MR K pa G H Hb vs ms → MR K pa G H Hb' vs ms
  | [], [], h => h
  | _ :: _, .v _ :: _, h => ⟨h.1, MR.base i h.2⟩
  | _ :: _, .o _ :: _, h => by
    obtain ⟨⟨p, ws, h1, h2, h3⟩, h4⟩ := h
    exact ⟨⟨p, ws, h1, i p h2, h3⟩, MR.base i h4⟩
  | [], .v _ :: _, h => h.elim
  | [], .o _ :: _, h => h.elim
  | _ :: _, [], h => h.elim
theorem MR.noOwn {K : PySem.W.Frag} {pa : Option Addr} {G H Hb : Hp} {p : Addr} {o : HO} (e : Hb p = some o) : ∀ {vs : List V} {ms : List Mv}, MR K pa G H Hb vs ms → NoOwn p vs ms
  | [], [], h => trivial
  | _ :: vs, .v _ :: ms, h => by
    have z : NoOwn p vs ms := MR.noOwn (K := K) (pa := pa) (G := G) (H := H) e h.2
    exact z
  | _ :: _, .o _ :: _, h => by
    obtain ⟨⟨q, ws, h1, h2, h3⟩, h4⟩ := h
    refine ⟨fun z => ?_, MR.noOwn (K := K) (pa := pa) (G := G) (H := H) e h4⟩
    rw [h1] at z
    injection z with z
    rw [z, e] at h2
    cases h2
  | [], .v _ :: _, h => h.elim
  | [], .o _ :: _, h => h.elim
  | _ :: _, [], h => h.elim
section
variable {X : Cx} {W : WX} {pa : Option Addr} {Γ : List Sl} {k : Nat} {pos : Pos}
def FM (K : PySem.W.Frag) (pa : Option Addr) (Hb : Hp) (Q : List V → Hp → Prop) : Hp → Hp → List Mv → List Int → Prop := fun G' H' ms _ => ∀ vs, MR K pa G' H' Hb vs ms → Q vs H'
def evM (X : Cx) (W : WX) (pa : Option Addr) (Γ : List Sl) (m : PM (List Mv)) : TA := fun σ H Q => ∃ G0 H0 G s, Nv X.K pa G0 H0 G H σ Γ s ∧ Pst X.K W X.mg pa σ (FM X.K pa H Q) G H (m s)
abbrev EM (X : Cx) (W : WX) (pa : Option Addr) (Γ : List Sl) (es : List Expr) (m : PM (List Mv)) : Prop := PA X es (evM X W pa Γ m)
theorem em_nil : EM X W pa Γ [] (pure []) := pa_imp pa_nil fun σ H Q ⟨G0, H0, G, s, E, P⟩ => P.now E.sub E.ps [] trivial
theorem ext_free {G H G' H' : Hp} (x : Ext pa G H G' H') {p : Addr} (h : H' p = none) : H p = none := by
  cases e : H p with
  | none => rfl
  | some o =>
    obtain ⟨o', e'⟩ := x.t p o e
    rw [h] at e'
    cases e'
theorem em_v {e : Expr} {es : List Expr} {m : PM D} {ml : PM (List Mv)} (h : EV X W pa Γ e m) (t : EM X W pa Γ es ml) (hs : starEach (e :: es) X.env = (false, eval e X.env) :: starEach es X.env := by rfl) :
    EM X W pa Γ (e :: es) (m >>= fun d => ml >>= fun ds => pure (.v d :: ds)) := pa_imp (pa_cons h t hs) fun σ H Q ⟨G0, H0, G, s, E, P⟩ =>
  ⟨G0, H0, G, s, E, P.bind.imp fun G1 H1 a s1 x1 p1 P1 v r => ⟨G0, H0, G1, s1, E.step x1 p1, P1.bind.imp fun G2 H2 as s2 x2 p2 P2 vs rs => P2.now x2.sub p2 (v :: vs) ⟨r.mono x2.g, rs.base fun p h => ext_free x1 h⟩⟩⟩
theorem em_o {e : Expr} {es : List Expr} {m : PM (List D)} {ml : PM (List Mv)} (h : EO' X W pa Γ e m) (t : EM X W pa Γ es ml) (hs : starEach (e :: es) X.env = (false, eval e X.env) :: starEach es X.env := by rfl) :
    EM X W pa Γ (e :: es) (m >>= fun d => ml >>= fun ds => pure (.o d :: ds)) := pa_imp (pa_cons h t hs) fun σ H Q ⟨G0, H0, G, s, E, P⟩ =>
  ⟨G0, H0, G, s, E, P.bind.imp fun G1 H1 a s1 x1 p1 P1 p ws hb hp hg r => ⟨G0, H0, G1, s1, E.step x1 p1, P1.bind.imp fun G2 H2 as s2 x2 p2 P2 vs rs => by
    have hpa : pa ≠ some p := fun e => by
      have z := (E.ps p e).2
      rw [hb] at z
      cases z
    exact P2.now x2.sub p2 (.ref p :: vs) ⟨⟨p, ws, rfl, hb, x2.h _ _ hp hpa, x2.n _ _ hp hg, r.mono x2.g, hpa, rs.noOwn hp⟩, rs.base fun p h => ext_free x1 h⟩⟩⟩
end

/-! stores -/
section
variable {K : PySem.W.Frag} {pa : Option Addr} {G0 H0 G H : Hp} {σ : L2.St} {Γ : List Sl} {s : List Int}
def FreshIn (Γ : List Sl) (σ : L2.St) (p : Addr) : Prop := ∀ (j : Nat) ys, Γ[j]? = some (.own ys) → σ[j]? ≠ some (some (.ref p))
theorem Nv.freshIn (E : Nv K pa G0 H0 G H σ Γ s) {p : Addr} (h : H p = none) : FreshIn Γ σ p := fun j ys e q => by
  obtain ⟨p', vs', q1, q2, _⟩ := E.own j ys e
  rw [q] at q1
  cases q1
  rw [h] at q2
  cases q2
theorem FreshIn.set {p : Addr} (f : FreshIn Γ σ p) (i : Nat) {v : V} {m : Mv} (h : ∀ xs, m = .o xs → v ≠ .ref p) : FreshIn (Γ.set i (mvS m)) (σ.set i (some v)) p := fun j ys e q => by
  by_cases hj : i = j
  · subst hj
    have hi : i < Γ.length := by
      have := (List.getElem?_eq_some_iff.mp e).1
      simpa using this
    rw [List.getElem?_set_self hi] at e
    have hi2 : i < σ.length := by
      have := (List.getElem?_eq_some_iff.mp q).1
      simpa using this
    rw [List.getElem?_set_self hi2] at q
    cases m with
    | v d => cases e
    | o xs =>
      have := h xs rfl
      injection q with q
      injection q with q
      exact this q
  · rw [List.getElem?_set_ne hj] at e q
    exact f j ys e q
/-- one of them is stored -/
theorem Nv.setM (E : Nv K pa G0 H0 G H σ Γ s) {Hb : Hp} {v : V} {m : Mv} {vs : List V} {ms : List Mv} (i : Nat) (r : MR K pa G H Hb (v :: vs) (m :: ms)) (h0 : ∀ p, Hb p = none → H0 p = none) (f : ∀ p, v = .ref p → Hb p = none → FreshIn Γ σ p) :
    Nv K pa G0 H0 G H (σ.set i (some v)) (Γ.set i (mvS m)) s := by
  cases m with
  | v d => exact E.set i r.1
  | o xs =>
    obtain ⟨⟨p, ws, rfl, h1, h2, h3, h4, h5, h6⟩, _⟩ := r
    exact E.setOwn i h2 h3 h4 (h0 p h1) h5 fun j ys _ e => f p rfl h1 j ys e
theorem MR.tail {Hb : Hp} {v : V} {m : Mv} {vs : List V} {ms : List Mv} (r : MR K pa G H Hb (v :: vs) (m :: ms)) : MR K pa G H Hb vs ms := by
  cases m with
  | v d => exact r.2
  | o xs => exact r.2
theorem mr_one {Hb : Hp} {vs : List V} {m : Mv} (r : MR K pa G H Hb vs [m]) : ∃ v, vs = [v] := by
  match vs, r with
  | [v], _ => exact ⟨v, rfl⟩
  | [], r => cases m <;> exact r.elim
  | _ :: _ :: _, r => cases m <;> exact r.2.elim
theorem mr_two {Hb : Hp} {vs : List V} {m n : Mv} (r : MR K pa G H Hb vs [m, n]) : ∃ v w, vs = [v, w] := by
  match vs, r with
  | v :: vs, r =>
    obtain ⟨w, rfl⟩ := mr_one r.tail
    exact ⟨v, w, rfl⟩
  | [], r => cases m <;> exact r.elim
theorem mr_three {Hb : Hp} {vs : List V} {m n o : Mv} (r : MR K pa G H Hb vs [m, n, o]) : ∃ v w x, vs = [v, w, x] := by
  match vs, r with
  | v :: vs, r =>
    obtain ⟨w, x, rfl⟩ := mr_two r.tail
    exact ⟨v, w, x, rfl⟩
  | [], r => cases m <;> exact r.elim
theorem mr_ne {Hb : Hp} {v : V} {m : Mv} {vs : List V} {ms : List Mv} (r : MR K pa G H Hb (v :: vs) (m :: ms)) {p : Addr} (hp : NoOwn p (v :: vs) (m :: ms)) : ∀ xs, m = .o xs → v ≠ .ref p := fun xs e => by
  subst e
  exact hp.1
theorem noOwn_tail {p : Addr} {v : V} {m : Mv} {vs : List V} {ms : List Mv} (h : NoOwn p (v :: vs) (m :: ms)) : NoOwn p vs ms := by
  cases m with
  | v d => exact h
  | o xs => exact h.2
/-- a later one is not an earlier one -/
theorem mr_apart {Hb : Hp} {v w : V} {m n : Mv} {vs : List V} {ms : List Mv} (r : MR K pa G H Hb (v :: w :: vs) (m :: n :: ms)) {p : Addr} (e : w = .ref p) (hn : ∃ xs, n = .o xs) : ∀ xs, m = .o xs → v ≠ .ref p := fun xs em z => by
  subst em
  obtain ⟨ys, rfl⟩ := hn
  obtain ⟨⟨q, ws, h1, _, _, _, _, _, h6⟩, _⟩ := r
  rw [h1] at z
  injection z with z
  rw [z] at h6
  exact h6.1 e
theorem Nv.set2 (E : Nv K pa G0 H0 G H σ Γ s) {Hb : Hp} {v w : V} {m n : Mv} (i j : Nat) (r : MR K pa G H Hb [v, w] [m, n]) (h0 : ∀ p, Hb p = none → H0 p = none) (f : ∀ p, Hb p = none → FreshIn Γ σ p) :
    Nv K pa G0 H0 G H ((σ.set i (some v)).set j (some w)) ((Γ.set i (mvS m)).set j (mvS n)) s := by
  have E1 := E.setM i r h0 fun p _ hb => f p hb
  cases n with
  | v d => exact E1.set j r.tail.1
  | o xs => exact E1.setM j r.tail h0 fun p e hb => (f p hb).set i (mr_apart r e ⟨xs, rfl⟩)
end
section
variable {X : Cx} {W : WX} {pa : Option Addr} {Γ : List Sl} {k : Nat} {pos : Pos} {α : Type} {out : α → Out} {rest : List Stmt}
def two2 {β : Type} (kk : Mv → Mv → PM β) : List Mv → PM β
  | [a, b] => kk a b
  | _ => bad
def kVO {β : Type} (kk : D → List D → PM β) : Mv → Mv → PM β
  | .v d, .o xs => kk d xs
  | _, _ => bad
def kOV {β : Type} (kk : List D → D → PM β) : Mv → Mv → PM β
  | .o xs, .v d => kk xs d
  | _, _ => bad
theorem h_vo {i j : Nat} {kk : D → List D → PM α} (h : ∀ d xs, SV X W pa ((Γ.set i (.val d)).set j (.own xs)) out rest (kk d xs)) : ∀ a b, SV X W pa ((Γ.set i (mvS a)).set j (mvS b)) out rest (kVO kk a b)
  | .v d, .o xs => h d xs
  | .v _, .v _ => sv_bad
  | .o _, .v _ => sv_bad
  | .o _, .o _ => sv_bad
theorem h_ov {i j : Nat} {kk : List D → D → PM α} (h : ∀ xs d, SV X W pa ((Γ.set i (.own xs)).set j (.val d)) out rest (kk xs d)) : ∀ a b, SV X W pa ((Γ.set i (mvS a)).set j (mvS b)) out rest (kOV kk a b)
  | .o xs, .v d => h xs d
  | .v _, .v _ => sv_bad
  | .v _, .o _ => sv_bad
  | .o _, .o _ => sv_bad
/-- a, b = e1, e2, plain locals -/
theorem sv_parM (i j : Nat) {y z : Str} {a b : Expr} {px py pt : Pos} {kt k2 pt2} {ml : PM (List Mv)} {kk : Mv → Mv → PM α} (hc : X.calm = true) (hN : X.N.Nodup) (ha : EM X W pa Γ [a, b] ml) (hij : i ≠ j)
    (hr : ∀ u v, SV X W pa ((Γ.set i (mvS u)).set j (mvS v)) out rest (kk u v)) (hi : X.N[i]? = some y := by rfl) (hj : X.N[j]? = some z := by rfl)
    (hx : X.env.scope.names.lookup y = some .local := by rfl) (hy : X.env.scope.names.lookup z = some .local := by rfl)
    (hw : swappedStores [.Tuple [.Name y px, .Name z py] kt pt] (.Tuple [a, b] k2 pt2) X.env = pure (some [y, z]) := by rfl)
    (hs : swapsWithSole [.Tuple [.Name y px, .Name z py] kt pt] (.Tuple [a, b] k2 pt2) pos.line X.env = pure false := by rfl) :
    SV X W pa Γ out (.Assign [.Tuple [.Name y px, .Name z py] kt pt] (.Tuple [a, b] k2 pt2) pos :: rest) (ml >>= two2 kk) := by
  unfold SV
  rw [bind_assoc]
  have hrest : PSs X rest (fun D σ H => ∃ q : Mv × Mv, svT X W pa ((Γ.set i (mvS q.1)).set j (mvS q.2)) (kk q.1 q.2 >>= fun a => pure (out a)) D σ H) := pss_ex (ι := Mv × Mv) fun q => hr q.1 q.2
  refine pss_imp (pss_cons (ps_par (i := i) (j := j) hc hN hi hj hij hx hy ha hw hs) hrest) fun Dn σ H ⟨G0, H0, G, s, E, P⟩ => ⟨G0, H0, G, s, E, (P.bind E).imp fun G1 H1 ds s1 x1 p1 P1 vs r => ?_⟩
  match ds, r, P1 with
  | [u, v], r, P1 =>
    obtain ⟨v1, v2, rfl⟩ := mr_two r
    exact ⟨v1, v2, rfl, (u, v), G0, H0, G1, s1, (E.step x1 p1).set2 i j r (fun p h => ext_free E.ext h) (fun p h => E.freshIn h), P1⟩
  | [], _, P1 => exact P1.elim
  | [_], _, P1 => exact P1.elim
  | _ :: _ :: _ :: _, _, P1 => exact P1.elim
/-- a, b = e1, e2, by a tuple -/
theorem sv_unpM (i j : Nat) {y z : Str} {a b : Expr} {px py pt : Pos} {kt k2 pt2} {ml : PM (List Mv)} {kk : Mv → Mv → PM α} (C : Cok X W k) (ha : EM X W pa Γ [a, b] ml)
    (hr : ∀ u v, SV X W pa ((Γ.set i (mvS u)).set j (mvS v)) out rest (kk u v)) (hp : PG X (.Tuple [.Name y px, .Name z py] kt pt) (gTup X.K 2 (gCons (gName i) (gCons (gName j) gNil))))
    (hs : swapsWithSole [.Tuple [.Name y px, .Name z py] kt pt] (.Tuple [a, b] k2 pt2) pos.line X.env = pure false := by rfl) (hw : swappedStores [.Tuple [.Name y px, .Name z py] kt pt] (.Tuple [a, b] k2 pt2) X.env = pure none := by rfl)
    (h1 : (assignEach [.Tuple [.Name y px, .Name z py] kt pt] X.env).map (·.2) = [assign (.Tuple [.Name y px, .Name z py] kt pt) X.env] := by rfl) :
    SV X W pa Γ out (.Assign [.Tuple [.Name y px, .Name z py] kt pt] (.Tuple [a, b] k2 pt2) pos :: rest) (ml >>= two2 kk) := by
  unfold SV
  rw [bind_assoc]
  have hrest : PSs X rest (fun D σ H => ∃ q : Mv × Mv, svT X W pa ((Γ.set i (mvS q.1)).set j (mvS q.2)) (kk q.1 q.2 >>= fun a => pure (out a)) D σ H) := pss_ex (ι := Mv × Mv) fun q => hr q.1 q.2
  refine pss_imp (pss_cons (ps_asg (L2.pe_tup ha) hp hs hw h1) hrest) fun Dn σ H ⟨G0, H0, G, s, E, P⟩ => ⟨G0, H0, G, s, E, (P.bind E).imp fun G1 H1 ds s1 x1 p1 P1 vs r => ?_⟩
  match ds, r, P1 with
  | [u, v], r, P1 =>
    obtain ⟨v1, v2, rfl⟩ := mr_two r
    refine ⟨by show 2 ≤ sizeLine; decide, fun q nq => ⟨q, [v1, v2], rfl, .inl (.inl upd_same), rfl, v1, [v2], rfl, v2, [], rfl, rfl, (u, v), G0, H0, G1, s1, ?_, P1⟩⟩
    have E1 := (E.step x1 p1).set2 i j r (fun p h => ext_free E.ext h) (fun p h => E.freshIn h)
    exact E1.step (Ext.newH x1.sub nq _) (p1.updH nq _)
  | [], _, P1 => exact P1.elim
  | [_], _, P1 => exact P1.elim
  | _ :: _ :: _ :: _, _, P1 => exact P1.elim
def lstOf : D → PM (List D)
  | .lst ys => pure ys
  | _ => bad
/-- x.extend(e), e does not look at x -/
theorem sv_extV (i : Nat) {x : Str} {e : Expr} {xs : List D} {me : PM D} {kk : List D → PM α} {p1 apos cpos : Pos} (h : Γ[i]? = some (.own xs)) (he : EV X W pa Γ e me) (hr : ∀ ys, SV X W pa (Γ.set i (.own (xs ++ ys))) out rest (kk ys))
    (hN : X.N[i]? = some x := by rfl) (hv : Vis X.env.scope x := by first | exact Or.inl rfl | exact Or.inr (Or.inl rfl) | exact Or.inr (Or.inr rfl)) (hd : (x == ("__debug__" : Str)) = false := by decide) (hcd : (x == ("__classdict__" : Str)) = false := by decide)
    (hbase : attributeBase (.Name x p1) "extend" X.env (eval (.Name x p1) X.env) = eval (.Name x p1) X.env := by rfl)
    (hfew : ((backTo cpos (starEach [e] X.env)).all (fun x => !x.1) && (backToKw cpos (keywordEach [] X.env)).all (fun x => x.1.isSome)
      && decide ([e].length + ([] : List Keyword).length + (if ([] : List Keyword).isEmpty then 0 else 1) < 30)) = true := by rfl)
    (hline : (apos.endLine == cpos.line) = true := by rfl) (hs : starEach [e] X.env = (false, eval e X.env) :: starEach [] X.env := by rfl) (hplain : (backTo cpos (starEach [] X.env)).any (·.1) = false := by rfl)
    (hsw : swapsWith (.Call (.Attribute (.Name x p1) "extend" apos) [e] [] cpos) none pos.line X.env = pure false := by rfl) :
    SV X W pa Γ out (.Expr (.Call (.Attribute (.Name x p1) "extend" apos) [e] [] cpos) pos :: rest) (me >>= lstOf >>= fun ys => okLen (xs ++ ys) >>= fun _ => kk ys) := by
  unfold SV
  refine pss_imp (pss_cons (ps_expr (pe_bm PySem.F.plainAttrs_list PySem.F.slot_list_extend PySem.F.type_list_extend mt_extend (pe_var hN hv hd hcd) (pa_cons he pa_nil hs) hbase hfew hline hs hplain) hsw) (pss_ex hr)) fun Dn σ H ⟨G0, H0, G, s, E, P⟩ => ?_
  obtain ⟨p, vs, h1, h2, h3, h4, h5, h6⟩ := E.own i xs h
  rw [bind_assoc, bind_assoc] at P
  refine ⟨.ref p, h1, .inl ⟨rfl, vs, SqL.of h2⟩, G0, H0, G, s, E, (P.bind E).imp fun G1 H1 d s1 x1 p1 P1 v r => ?_⟩
  cases r with
  | @lst b zs ys hb n rr =>
    have P1 : SPost X.K W X.mg pa G0 H0 Dn ((((okLen (xs ++ ys) >>= fun _ => kk ys)) >>= fun a => pure (out a)) s1) := P1
    rw [bind_assoc] at P1
    have h2' := x1.h _ _ h2 h6
    by_cases hl : (xs ++ ys).length ≤ lim
    · rw [okLen_ok hl, pure_bind] at P1
      have E1 := E.step x1 p1
      refine ⟨p, b, vs, zs, rfl, rfl, h2', x1.sub _ _ hb, ?_, ys, G0, H0, G1, s1, E1.mut h h1 ((h4.mono x1.g).app ⟨n, rr⟩), P1⟩
      rw [h4.1, n]
      rw [List.length_append] at hl
      exact lim_le hl
    · unfold okLen at P1
      rw [if_neg hl] at P1
      exact P1.elim
  | _ => exact P1.elim
end
/-! a constant tuple of texts -/
structure CT (K : PySem.W.Frag) (mg : Str → Option Value) (x : Str) (d : D) : Prop where
  ex : ∃ a, mg x = some (.ref a) ∧ ∀ G, Rp K G (.ref a) d
def strsB : List Value → List Str → Bool
  | [], [] => true
  | .str s _ :: r, x :: xs => s == x && strsB r xs
  | _, _ => false
theorem strsB_vals : ∀ {us : List Value} {xs : List Str}, strsB us xs = true → Vals (xs.map V.str) us
  | [], [], _ => .nil
  | .str s t :: r, x :: xs, h => by
    unfold strsB at h
    rw [Bool.and_eq_true, beq_iff_eq] at h
    rw [h.1]
    exact .cons ⟨t, rfl⟩ (strsB_vals h.2)
  | [], _ :: _, h => by cases h
  | .str _ _ :: _, [], h => by cases h
  | .none :: _, xs, h => by cases xs <;> cases h
  | .bool _ :: _, xs, h => by cases xs <;> cases h
  | .int _ _ :: _, xs, h => by cases xs <;> cases h
  | .float _ _ :: _, xs, h => by cases xs <;> cases h
  | .bytes _ _ :: _, xs, h => by cases xs <;> cases h
  | .ref _ :: _, xs, h => by cases xs <;> cases h
  | .type _ :: _, xs, h => by cases xs <;> cases h
  | .builtin _ :: _, xs, h => by cases xs <;> cases h
  | .ellipsis :: _, xs, h => by cases xs <;> cases h
  | .notImplemented :: _, xs, h => by cases xs <;> cases h
theorem ctS {K : PySem.W.Frag} {x : Str} {h : Heap} {mg : Str → Option Value} {a : Addr} {od : Option Addr} {its : Array Value} {n : Nat} {sl : Array (Option Value)} {xs : List Str} (X : K.In h) (G : h.Ns mainGlobals mg)
    (e : PySem.W.nsIn K mainGlobals x = some (some (.ref a))) (l : K.lookup a = some ⟨.type "tuple", od, .seq its n, sl⟩) (v : strsB its.toList xs = true) (hz : xs.length ≤ sizeLine := by decide) : CT K mg x (.tup (xs.map .str)) := by
  have hv := strsB_vals v
  have hl : its.size ≤ sizeLine := by
    rw [← Array.length_toList, ← hv.length, List.length_map]
    exact hz
  exact ⟨a, PySem.W.mg_of X G e, fun G' => .tup (xs := xs.map V.str) (.inr ⟨_, its, n, l, rfl, rfl, hl, hv⟩) (by simp) fun i v d h1 h2 => by
    rw [List.getElem?_map] at h1 h2
    cases q : xs[i]? with
    | none => rw [q] at h1; cases h1
    | some y =>
      rw [q] at h1 h2
      cases h1
      cases h2
      exact .str y⟩
end EV

/-! EV 16: sorted of a list of tuples that begins with the empty tuple; of any list of alike data. -/
namespace PySem.SeqAt
open PySem PySem.Spec PyProof.Rows PySem.W
section
variable {prog : Program} {w : World} {A : Around} {E : Value → Shared → Prop} {s : Shared}
/-- the call of tuple's own __lt__ -/
theorem tup_lt_call {Q : Value → Shared → Prop} {l b : Addr} {us ts : Array Value} {e r : Nat → Bool} (hl : s.heap.IsTuple l us) (hb : s.heap.IsTuple b ts)
    (he : ∀ j (h1 : j < us.size) (h2 : j < ts.size), EqAt A.in1 s us[j] ts[j] (e j)) (hr : ∀ j (h1 : j < us.size) (h2 : j < ts.size), e j = false → RcLt A.in1 s us[j] ts[j] (r j))
    (h : Q (.bool (firstLt e r (decide (us.size < ts.size)) (List.range (min us.size ts.size)))) s) : wpAny (model prog w) A (call (.builtin "tuple.__lt__") [.ref l, .ref b]) Q E s := by
  obtain ⟨⟨c1, d1, x1, z1⟩, g1, q1, n1, r1⟩ := id hl
  obtain ⟨⟨c2, d2, x2, z2⟩, g2, q2, n2, r2⟩ := id hb
  simp only at q1 r1 q2 r2
  subst q1 r1 q2 r2
  exact call_meets F.slot_tuple_lt ⟨_, g1, rfl⟩ F.entry_tuple_lt (F.args_tuple_lt_2 _ _) (tuple_ltAt l b us ts n1 n2 d1 d2 z1 z2 e r) ⟨g1, g2, he, hr, h⟩
end
end PySem.SeqAt
namespace EV
open PySem PySem.Spec PyProof.Rows PySem.W PySem.SeqAt L2
section
variable {prog : Program} {w : World} {A : Around} {E : Value → Shared → Prop} {s : Shared}
theorem oneLt_tups {xs ys : List PyData} {a b : Value} {as bs : List Addr} {Q : Bool → Shared → Prop} (ra : Reads s.heap a (.tuple xs) as) (rb : Reads s.heap b (.tuple ys) bs) (h : alikeAll xs ys = true)
    (hu : A.units + min (PyData.tuple xs).depth (PyData.tuple ys).depth < cLine) (hq : Q (dataLt (.tuple xs) (.tuple ys)) s) : wpAny (model prog w) A (oneLt' true a b) Q E s := by
  cases ra with
  | @tuple l o vs n _ as₁ h1 h2 h3 h4 =>
    cases rb with
    | @tuple l' o' vs' n' _ bs₁ k1 k2 k3 k4 =>
      have n1 : vs.size = xs.length := by simpa using ReadsAll.length _ _ _ h4
      have n2 : vs'.size = ys.length := by simpa using ReadsAll.length _ _ _ k4
      rw [dataLt_tuple, ← firstLt_toks xs ys h, ← n1, ← n2] at hq
      rw [oneLt'_eq]
      simp only [if_true]
      refine wpAny_bind (wpAny_cRoomFor (room_here hu) ?_)
      refine wpAny_bind (wpAny_callSpecialIfBound?_slot (T := "tuple") ⟨_, h1, h2⟩ F.slot_tuple_lt (tup_lt_call (e := pairEq xs ys) (r := fun j => dataLt (xs.getD j .none) (ys.getD j .none)) ⟨_, h1, h2, _, h3⟩ ⟨_, k1, k2, _, k3⟩ (fun j j1 j2 => ?_) (fun j j1 j2 hj => ?_) ?_))
      · have z := eqAt_alikeAll xs ys A.in1 s vs.toList vs'.toList _ _ h4 k4 h (room_in hu) j (by simpa using j1) (by simpa using j2)
        simpa using z
      · have z := rcLt_alikeAll xs ys A.in1 s vs.toList vs'.toList _ _ h4 k4 h (room_in hu) j (by simpa using j1) (by simpa using j2) hj
        simpa using z
      · exact wpAny_truthy_bool hq
theorem mapM_each {M : Model} {α β : Type} {f : α → Sem β} {r : α → β} : ∀ (l : List α) {Q : List β → Shared → Prop}, (∀ v ∈ l, ∀ (Q' : β → Shared → Prop), Q' (r v) s → wpAny M A (f v) Q' E s) → Q (l.map r) s → wpAny M A (l.mapM f) Q E s
  | [], _, _, h => by
    rw [List.mapM_nil]
    exact wpAny_pure h
  | x :: l, Q, hf, h => by
    rw [List.mapM_cons]
    exact wpAny_bind (hf x (.head _) _ (wpAny_bind (mapM_each l (Q := fun bs s' => wpAny M A (pure (r x :: bs)) Q E s') (fun v hv => hf v (.tail _ hv)) (wpAny_pure h))))
def fstH (h : Heap) : Value → Option Value
  | .ref a => match h.get? a with
    | some ⟨_, _, .seq its _, _⟩ => its[0]?
    | _ => none
  | _ => none
theorem kind_tups {vs : List Value} {Q : SortKind → Shared → Prop} (h2 : 2 ≤ vs.length) (hT : ∀ v ∈ vs, ∃ a its, v = .ref a ∧ s.heap.IsTuple a its) (h0 : ∃ a, vs[0]? = some (.ref a) ∧ s.heap.IsTuple a #[]) (h : Q oneType' s) :
    wpAny (model prog w) A (keyKind' vs.toArray) Q E s := by
  obtain ⟨v₁, v₂, rest, rfl⟩ : ∃ v₁ v₂ rest, vs = v₁ :: v₂ :: rest := by
    match vs, h2 with
    | [], h2 => simp at h2
    | [_], h2 => simp at h2
    | v₁ :: v₂ :: rest, _ => exact ⟨v₁, v₂, rest, rfl⟩
  obtain ⟨a0, e0, t0⟩ := h0
  have e0 : v₁ = .ref a0 := Option.some.inj e0
  have z0 : fstH s.heap v₁ = none := by
    obtain ⟨⟨c, d, x, z⟩, g, q, n, r⟩ := t0
    simp only at q r
    subst q r
    rw [e0]
    unfold fstH
    simp only [g]
    rfl
  have lk : ∀ v ∈ v₁ :: v₂ :: rest, Looks (model prog w) s.heap (typeOf v) (Value.type "tuple") := fun v hv => by
    obtain ⟨a, its, rfl, ⟨o, g, q, n, r⟩⟩ := hT v hv
    exact q ▸ (Looks.ld g).andThen .now
  rw [keyKind'_eq, List.mapM_toArray, map_eq_pure_bind]
  refine wpAny_bind (wpAny_bind (mapM_each (r := fstH s.heap) _ (fun v hv Q' hq => ?_) (wpAny_pure ?_)))
  · rw [kas_first_eq]
    refine wpAny_bind ((lk v hv).here ?_)
    rw [if_neg (by simp)]
    obtain ⟨a, its, rfl, ⟨⟨c, d, x, z⟩, g, q, n, r⟩⟩ := hT v hv
    simp only at q r
    subst q r
    refine wpAny_bind (listItems_at g rfl (wpAny_pure ?_))
    have e : fstH s.heap (.ref a) = its[0]? := by
      unfold fstH
      simp only [g]
    rw [← e]
    exact hq
  · rw [if_neg (by simp [z0]), if_neg (by simp [z0])]
    rw [oneTypeOnly'_eq, List.mapM_toArray, map_eq_pure_bind]
    refine wpAny_bind (wpAny_bind (wpAny_bind (kas_mapM (r := Value.type "tuple") _ (fun v hv Q' hq => (lk v hv).here hq) (wpAny_pure ?_))))
    have hall : ((List.map (fun _ => Value.type "tuple") (v₁ :: v₂ :: rest)).toArray.all fun x => x == Value.type "tuple") = true := by
      simp only [List.all_toArray, List.all_map, List.all_eq_true]
      intro _ _
      exact beq_self_eq_true _
    have hh : (List.map (fun _ => Value.type "tuple") (v₁ :: v₂ :: rest)).toArray[0]? = some (Value.type "tuple") := by simp
    rw [hh]
    simp only [hall, if_true]
    exact wpAny_pure (wpAny_pure h)
/-- tuples, the first one without an item -/
def Tups0 (ds : List PyData) : Prop := (∀ d ∈ ds, ∃ xs, d = .tuple xs) ∧ ∃ r, ds = .tuple [] :: r
theorem reads_tup {h : Heap} {v : Value} {xs : List PyData} {as : List Addr} (r : Reads h v (.tuple xs) as) : ∃ a its, v = .ref a ∧ h.IsTuple a its ∧ its.size = xs.length := by
  cases r with
  | @tuple l o vs n _ as₁ h1 h2 h3 h4 => exact ⟨l, vs, rfl, ⟨o, h1, h2, n, h3⟩, by simpa using ReadsAll.length _ _ _ h4⟩
theorem sortsAt_tups {vs : List Value} {ds : List PyData} (e : EachIs (fun v d => ∃ as, Reads s.heap v d as) vs ds) (hal : AllAlike ds) (hk : Tups0 ds) (hu : ∀ d, d ∈ ds → A.units + d.depth < cLine) : SortsAt prog w A s (dataKind s.heap ds) vs := by
  refine ⟨fun v hv => ?_, oneType', ?_, fun h2 E Q hq => ?_⟩
  · obtain ⟨d, hd, as, r⟩ := e.left v hv
    exact ⟨_, dataKind_some hal hd r⟩
  · intro E x y a b Q ha hb hq
    obtain ⟨d, as, hd, ra, rfl⟩ := dataKind_inv ha
    obtain ⟨d', as', hd', rb, rfl⟩ := dataKind_inv hb
    rw [keyLt'_oneType]
    obtain ⟨xs, rfl⟩ := hk.1 d hd
    obtain ⟨ys, rfl⟩ := hk.1 d' hd'
    exact oneLt_tups ra rb (by simpa [alike] using hal _ hd _ hd') (Nat.lt_of_le_of_lt (Nat.add_le_add_left (Nat.min_le_left _ _) _) (hu _ hd)) hq
  · refine kind_tups h2 (fun v hv => ?_) ?_ hq
    · obtain ⟨d, hd, as, r⟩ := e.left v hv
      obtain ⟨xs, rfl⟩ := hk.1 d hd
      obtain ⟨a, its, e1, e2, _⟩ := reads_tup r
      exact ⟨a, its, e1, e2⟩
    · obtain ⟨r, rfl⟩ := hk.2
      cases e with
      | cons h1 t =>
        obtain ⟨as, h1⟩ := h1
        obtain ⟨a, its, rfl, e2, e3⟩ := reads_tup h1
        have : its = #[] := Array.size_eq_zero_iff.mp e3
        subst this
        exact ⟨a, rfl, e2⟩
theorem sorted_any {β : Type} {vs : List Value} {bs : List β} {enc : β → PyData} {R : Value → β → Prop} {l : Addr} {Q : Value → Shared → Prop} (hl : s.heap.IsList l vs.toArray) (e : EachIs R vs bs) (er : EachIs (fun v b => ∃ as, Reads s.heap v (enc b) as) vs bs) (hal : AllAlike (bs.map enc))
    (hk : Sortable (bs.map enc) ∨ Tups0 (bs.map enc)) (hL : bs.length ≤ sizeLine) (hu : ∀ b, b ∈ bs → A.units + 2 + (enc b).depth < cLine) (h : ∀ out, out.length = bs.length → EachIs R out (bs.mergeSort (dataLe false enc)) → Q (.ref (s.heap.objs.size + 1)) { s with heap := sortedAll s.heap vs (List.toArray out) }) :
    wpAny (model prog w) A (PySem.call (.builtin "sorted") [.ref l]) Q E s := by
  rcases hk with hk | hk
  · exact sorted_data hl e er hal hk hL hu h
  · have er' : EachIs (fun v b => ∃ as, Reads (sortingHeap (copyHeap s.heap vs) (s.heap.objs.size + 1) vs) v (enc b) as) vs bs := er.mono fun _ _ ⟨as, r⟩ => ⟨as, PyProof.Rows.Reads.keeps (fun _ _ => sorting_copy_old) r⟩
    refine sorted_vals hl (sortsAt_tups (s := { s with heap := sortingHeap (copyHeap s.heap vs) (s.heap.objs.size + 1) vs }) (each_map (R := fun v d => ∃ as, Reads (sortingHeap (copyHeap s.heap vs) (s.heap.objs.size + 1) vs) v d as) enc er') hal hk fun d hd => ?_) (by rw [e.length]; exact hL) (h _ (by rw [sortVals_length false rfl]; exact e.length) (sortVals_data false e er' hal))
    obtain ⟨b, hb, rfl⟩ := List.mem_map.mp hd
    exact hu b hb
end
/-! ### sorted, any alike data -/
def neTup : PyData → Bool
  | .tuple (_ :: _) => true
  | _ => false
def noTup : PyData → Bool
  | .tuple _ => false
  | .none => false
  | _ => true
def isTup : PyData → Bool
  | .tuple _ => true
  | _ => false
def tup0 : List PyData → Bool
  | .tuple [] :: _ => true
  | _ => false
def sortP (xs : List D) : Bool := (xs.all fun a => xs.all fun b => alike (toPy a) (toPy b)) && (xs.all fun a => decide ((toPy a).depth ≤ 60)) &&
  ((xs.all fun a => neTup (toPy a)) || (xs.all fun a => noTup (toPy a)) || ((xs.all fun a => isTup (toPy a)) && tup0 (xs.map toPy)))
def leD2 (a b : D) : Bool := !dataLt (toPy b) (toPy a)
def sortedA : List D → PM D
  | [.lst xs] => if sortP xs = true then mkL (xs.mergeSort leD2) else bad
  | _ => bad
theorem sortP_use {xs : List D} (h : sortP xs = true) : AllAlike (xs.map toPy) ∧ (∀ d ∈ xs, (toPy d).depth ≤ 60) ∧ (Sortable (xs.map toPy) ∨ Tups0 (xs.map toPy)) := by
  unfold sortP at h
  rw [Bool.and_eq_true, Bool.and_eq_true] at h
  obtain ⟨⟨h1, h2⟩, h3⟩ := h
  refine ⟨fun d hd d' hd' => ?_, fun d hd => of_decide_eq_true (List.all_eq_true.mp h2 d hd), ?_⟩
  · obtain ⟨a, ha, rfl⟩ := List.mem_map.mp hd
    obtain ⟨b, hb, rfl⟩ := List.mem_map.mp hd'
    exact List.all_eq_true.mp (List.all_eq_true.mp h1 a ha) b hb
  · rw [Bool.or_eq_true, Bool.or_eq_true, Bool.and_eq_true] at h3
    rcases h3 with (h3 | h3) | ⟨h3, h4⟩
    · refine .inl (.inl fun d hd => ?_)
      obtain ⟨a, ha, rfl⟩ := List.mem_map.mp hd
      have z := List.all_eq_true.mp h3 a ha
      cases e : toPy a with
      | tuple xs =>
        rw [e] at z
        cases xs with
        | nil => cases z
        | cons x r => exact ⟨x, r, rfl⟩
      | _ => rw [e] at z; cases z
    · refine .inl (.inr fun d hd => ?_)
      obtain ⟨a, ha, rfl⟩ := List.mem_map.mp hd
      have z := List.all_eq_true.mp h3 a ha
      refine ⟨fun e => ?_, fun xs e => ?_⟩
      · rw [e] at z
        cases z
      · rw [e] at z
        cases z
    · refine .inr ⟨fun d hd => ?_, ?_⟩
      · obtain ⟨a, ha, rfl⟩ := List.mem_map.mp hd
        have z := List.all_eq_true.mp h3 a ha
        cases e : toPy a with
        | tuple xs => exact ⟨xs, rfl⟩
        | _ => rw [e] at z; cases z
      · cases e : xs.map toPy with
        | nil => rw [e] at h4; cases h4
        | cons d r =>
          rw [e] at h4
          cases d with
          | tuple ys =>
            cases ys with
            | nil => exact ⟨r, rfl⟩
            | cons _ _ => cases h4
          | _ => cases h4
theorem each_of {K : PySem.W.Frag} {G : Hp} : ∀ {xs : List V} {us : List Value} {ds : List D}, Vals xs us → RpL K G xs ds → EachIs (fun u d => ∃ v, RelV v u ∧ Rp K G v d) us ds
  | [], _, [], .nil, _ => .nil
  | [], _, _ :: _, _, r => absurd r.1 (by simp)
  | _ :: _, _, [], _, r => absurd r.1 (by simp)
  | x :: xs, _, d :: ds, .cons h t, r => .cons ⟨x, h, (RpL.tail r).1⟩ (each_of t (RpL.tail r).2)
theorem of_each {K : PySem.W.Frag} {G : Hp} : ∀ {us : List Value} {ds : List D}, EachIs (fun u d => ∃ v, RelV v u ∧ Rp K G v d) us ds → ∃ xs : List V, Vals xs us ∧ RpL K G xs ds
  | _, _, .nil => ⟨[], .nil, .nil⟩
  | _, _, .cons ⟨v, h1, h2⟩ t => by
    obtain ⟨xs, q1, q2⟩ := of_each t
    exact ⟨v :: xs, .cons h1 q1, .cons h2 q2⟩
section
variable {X : Cx} {k : Nat}
def rSortA (K : PySem.W.Frag) : List V → Hp → VK → Prop := fun vs H Q => ∃ (G : Hp) (a : Addr) (xs : List V) (ds : List D), Same G H ∧ vs = [V.ref a] ∧ SqL K H a xs ∧ RpL K G xs ds ∧ sortP ds = true ∧
  ∀ (ys : List V) (p : Addr), RpL K G ys (ds.mergeSort leD2) → H p = none → Q (.ref p) (upd H p (.lst ys))
theorem cr_sortA (hr : Room k X.A) : CallR X (.builtin "sorted") (rSortA X.K) := by
  intro pins s σ H vs us Q I r h
  obtain ⟨G, a, xs, ds, hs, rfl, hq, rr, hp, q⟩ := h
  obtain ⟨h1, h2, h3⟩ := sortP_use hp
  obtain ⟨its, rv, hl, hz⟩ := I.list hq
  rw [Vals.ref1 r]
  have e := each_of rv rr
  have u := hr.units
  refine sorted_any (bs := ds) (enc := toPy) hl.isList e (e.mono fun v d ⟨x, z1, z2⟩ => Dp.reads I _ x v ((z2.mono hs).dp) z1) h1 h3 (by rw [← rr.1]; exact hz) (fun b hb => by have := h2 b hb; omega) fun out ho ho2 => ?_
  obtain ⟨ys, y1, y2⟩ := of_each ho2
  obtain ⟨ep, he'⟩ := PyProof.Rows.sortedAll_at s.heap its out.toArray
  have hlen : ys.length ≤ sizeLine := by
    rw [y1.length, ho, ← rr.1]
    exact hz
  exact ⟨.ref _, upd H (s.heap.objs.size + 1) (.lst ys), I.laid (t' := s.toks) (fun _ _ => PyProof.Rows.sortedAll_old) (Nat.le_succ _) ⟨hlen, out, ep, y1, he'⟩, rfl, q _ _ y2 (I.hok.fresh (Nat.le_succ _))⟩
theorem cd_sortedA (hr : Room k X.A) : CallD X (.builtin "sorted") sortedA := by
  refine ⟨_, cr_sortA hr, fun W pa σ G H s xs ds Q hs hp rs P => ?_⟩
  match ds, rs, P with
  | [d], rs, P =>
    obtain ⟨v, rfl, r⟩ := rp1 rs
    cases r with
    | @lst a vs es h n r =>
      have P : Pst X.K W X.mg pa σ (FD X.K Q) G H ((if sortP es = true then mkL (es.mergeSort leD2) else bad : PM D) s) := P
      by_cases hc : sortP es = true
      · rw [if_pos hc] at P
        exact ⟨G, a, vs, es, hs, rfl, SqL.of (hs _ _ h), ⟨n, r⟩, hc, fun ys p ry np => mkL_use P ry hs hp np⟩
      · rw [if_neg hc] at P
        exact P.elim
    | _ => exact P.elim
  | [], _, P => exact P.elim
  | a :: _ :: _, _, P => cases a <;> exact P.elim
/-- ints by their own way -/
def intsQ : List D → Bool
  | [.lst xs] => (intsOf xs).isSome
  | _ => false
def sortedG (a : List D) : PM D := if intsQ a = true then sortedF a else sortedA a
theorem cd_sortedG (hr : Room k X.A) : CallD X (.builtin "sorted") sortedG := cd_sortedI.or (cd_sortedA hr)
end
/-! what the head tells of a constant tuple of texts -/
structure DefC (K : PySem.W.Frag) (x : Str) (xs : List Str) : Prop where
  ex : ∃ a od its n sl, PySem.W.nsIn K mainGlobals x = some (some (.ref a)) ∧ K.lookup a = some ⟨.type "tuple", od, .seq its n, sl⟩ ∧ strsB its.toList xs = true
theorem defC {K : PySem.W.Frag} {x : Str} {xs : List Str} {a : Addr} {od : Option Addr} {its : Array Value} {n : Nat} {sl : Array (Option Value)} (e : PySem.W.nsIn K mainGlobals x = some (some (.ref a)))
    (l : K.lookup a = some ⟨.type "tuple", od, .seq its n, sl⟩) (v : strsB its.toList xs = true) : DefC K x xs := ⟨a, od, its, n, sl, e, l, v⟩
theorem DefC.at {K : PySem.W.Frag} {x : Str} {xs : List Str} {h : Heap} {mg : Str → Option Value} (X : K.In h) (G : h.Ns mainGlobals mg) (d : DefC K x xs) (hz : xs.length ≤ sizeLine := by decide) : CT K mg x (.tup (xs.map .str)) := by
  obtain ⟨a, od, its, n, sl, e, l, v⟩ := d.ex
  exact ctS X G e l v hz
end EV

/-! EV 17: three names. -/
namespace EV
open PySem PySem.Spec PyProof.Rows L2
theorem rp3 {K : PySem.W.Frag} {G : Hp} {vs : List V} {a b c : D} (h : RpL K G vs [a, b, c]) : ∃ x y z, vs = [x, y, z] ∧ Rp K G x a ∧ Rp K G y b ∧ Rp K G z c := by
  match vs, h with
  | x :: vs, h =>
    obtain ⟨h1, h2⟩ := RpL.tail h
    obtain ⟨y, z, rfl, h3, h4⟩ := rp2 h2
    exact ⟨x, y, z, rfl, h1, h3, h4⟩
  | [], h => exact absurd h.1 (by simp)
def three {β : Type} (kk : D → D → D → PM β) : List D → PM β
  | [a, b, c] => kk a b c
  | _ => bad
def unp3 {β : Type} (kk : D → D → D → PM β) : D → PM β
  | .tup [a, b, c] => kk a b c
  | _ => bad
section
variable {X : Cx} {W : WX} {pa : Option Addr} {Γ : List Sl} {k : Nat} {pos : Pos} {α : Type} {out : α → Out} {rest : List Stmt}
/-- a, b, c = e1, e2, e3, plain locals -/
theorem sv_par3 (i j l : Nat) {y z t : Str} {a b c : Expr} {px py pz pt : Pos} {kt k2 pt2} {ml : PM (List D)} {kk : D → D → D → PM α} (hc : X.calm = true) (hN : X.N.Nodup) (ha : EL X W pa Γ [a, b, c] ml) (hij : i ≠ j) (hil : i ≠ l) (hjl : j ≠ l)
    (hr : ∀ u v w, SV X W pa (((Γ.set i (.val u)).set j (.val v)).set l (.val w)) out rest (kk u v w)) (hi : X.N[i]? = some y := by rfl) (hj : X.N[j]? = some z := by rfl) (hl : X.N[l]? = some t := by rfl)
    (hx : X.env.scope.names.lookup y = some .local := by rfl) (hy : X.env.scope.names.lookup z = some .local := by rfl) (hz : X.env.scope.names.lookup t = some .local := by rfl)
    (hw : swappedStores [.Tuple [.Name y px, .Name z py, .Name t pz] kt pt] (.Tuple [a, b, c] k2 pt2) X.env = pure (some [y, z, t]) := by rfl)
    (hs : swapsWithSole [.Tuple [.Name y px, .Name z py, .Name t pz] kt pt] (.Tuple [a, b, c] k2 pt2) pos.line X.env = pure false := by rfl) :
    SV X W pa Γ out (.Assign [.Tuple [.Name y px, .Name z py, .Name t pz] kt pt] (.Tuple [a, b, c] k2 pt2) pos :: rest) (ml >>= three kk) := by
  unfold SV
  rw [bind_assoc]
  have hrest : PSs X rest (fun Dn σ H => ∃ q : EV.D × EV.D × EV.D, svT X W pa (((Γ.set i (.val q.1)).set j (.val q.2.1)).set l (.val q.2.2)) (kk q.1 q.2.1 q.2.2 >>= fun a => pure (out a)) Dn σ H) := pss_ex (ι := EV.D × EV.D × EV.D) fun q => hr q.1 q.2.1 q.2.2
  refine pss_imp (pss_cons (ps_par3 (i := i) (j := j) (l := l) hc hN hi hj hl hij hil hjl hx hy hz ha hw hs) hrest) fun Dn σ H ⟨G0, H0, G, s, E, P⟩ => ⟨G0, H0, G, s, E, (P.bind E).imp fun G1 H1 ds s1 x1 p1 P1 vs r => ?_⟩
  match ds, r, P1 with
  | [u, v, w], r, P1 =>
    obtain ⟨v1, v2, v3, rfl, r1, r2, r3⟩ := rp3 r
    exact ⟨v1, v2, v3, rfl, (u, v, w), G0, H0, G1, s1, (((E.step x1 p1).set i r1).set j r2).set l r3, P1⟩
  | [], _, P1 => exact P1.elim
  | [_], _, P1 => exact P1.elim
  | [_, _], _, P1 => exact P1.elim
  | _ :: _ :: _ :: _ :: _, _, P1 => exact P1.elim
/-- a, b, c = e, by a tuple -/
theorem sv_unp3 (i j l : Nat) {tg : Expr} {e : Expr} {me : PM D} {kk : D → D → D → PM α} (C : Cok X W k) (he : EV X W pa Γ e me)
    (hr : ∀ u v w, SV X W pa (((Γ.set i (.val u)).set j (.val v)).set l (.val w)) out rest (kk u v w)) (hp : PG X tg (gTup X.K 3 (gCons (gName i) (gCons (gName j) (gCons (gName l) gNil)))))
    (hs : swapsWithSole [tg] e pos.line X.env = pure false := by rfl) (hw : swappedStores [tg] e X.env = pure none := by rfl)
    (h1 : (assignEach [tg] X.env).map (·.2) = [assign tg X.env] := by rfl) :
    SV X W pa Γ out (.Assign [tg] e pos :: rest) (me >>= unp3 kk) := by
  unfold SV
  rw [bind_assoc]
  have hrest : PSs X rest (fun Dn σ H => ∃ q : EV.D × EV.D × EV.D, svT X W pa (((Γ.set i (.val q.1)).set j (.val q.2.1)).set l (.val q.2.2)) (kk q.1 q.2.1 q.2.2 >>= fun a => pure (out a)) Dn σ H) := pss_ex (ι := EV.D × EV.D × EV.D) fun q => hr q.1 q.2.1 q.2.2
  refine pss_imp (pss_cons (ps_asg he hp hs hw h1) hrest) fun Dn σ H ⟨G0, H0, G, s, E, P⟩ => ⟨G0, H0, G, s, E, (P.bind E).imp fun G1 H1 d s1 x1 p1 P1 v r => ?_⟩
  have E1 := E.step x1 p1
  cases r with
  | @tup a xs ds hq n rr =>
    match ds, n, rr, P1 with
    | [u, v, w], n, rr, P1 =>
      obtain ⟨v1, v2, v3, rfl, r1, r2, r3⟩ := rp3 ⟨n, rr⟩
      exact ⟨a, [v1, v2, v3], rfl, sameT x1.sub hq, rfl, v1, [v2, v3], rfl, v2, [v3], rfl, v3, [], rfl, rfl, (u, v, w), G0, H0, G1, s1, ((E1.set i r1).set j r2).set l r3, P1⟩
    | [], _, _, P1 => exact P1.elim
    | [_], _, _, P1 => exact P1.elim
    | [_, _], _, _, P1 => exact P1.elim
    | _ :: _ :: _ :: _ :: _, _, _, P1 => exact P1.elim
  | _ => exact P1.elim
end
end EV

/-! EV 18: starred parts. -/
namespace EV
open PySem PySem.Spec PyProof.Rows L2
section
variable {X : Cx} {W : WX} {pa : Option Addr} {Γ : List Sl} {k : Nat} {pos : Pos}
/-- (*e, ..) -/
theorem el_star {e : Expr} {p : Pos} {es : List Expr} {m : PM D} {ml : PM (List D)} (h : EV X W pa Γ e m) (t : EL X W pa Γ es ml) (hs : starEach (.Starred e p :: es) X.env = (true, eval e X.env) :: starEach es X.env := by rfl) :
    EL X W pa Γ (.Starred e p :: es) (m >>= itemsD >>= fun xs => ml >>= fun ds => pure (xs ++ ds)) := pa_imp (StX.pa_star h t hs) fun σ H Q ⟨G0, H0, G, s, E, P⟩ => by
  rw [bind_assoc] at P
  refine ⟨G0, H0, G, s, E, P.bind.imp fun G1 H1 d s1 x1 p1 P1 v r => ?_⟩
  have go : ∀ (xs : List V) (ds : List D), RpL X.K G1 xs ds → Pst X.K W X.mg pa σ (FL X.K Q) G1 H1 ((pure ds >>= fun xs => ml >>= fun ds => pure (xs ++ ds) : PM (List D)) s1) → evL X W pa Γ ml σ H1 fun vs H2 => Q (xs ++ vs) H2 := fun xs ds rr P2 => by
    rw [pure_bind] at P2
    exact ⟨G0, H0, G1, s1, E.step x1 p1, P2.bind.imp fun G2 H2 as s2 x2 p2 P3 vs rs => P3.now x2.sub p2 (xs ++ vs) ((rr.mono x2.g).app rs)⟩
  cases r with
  | @lst a xs ds h n rr => exact ⟨a, xs, rfl, .inr (SqL.of (x1.sub _ _ h)), go xs ds ⟨n, rr⟩ P1⟩
  | @tup a xs ds h n rr => exact ⟨a, xs, rfl, .inl (sameT x1.sub h), go xs ds ⟨n, rr⟩ P1⟩
  | _ => exact P1.elim
end
end EV

/-! EV 19: count and index of a list, max and min of a list or tuple of ints, int of a bool. -/
namespace EV
open PySem PySem.Spec PyProof.Rows L2
section
variable {X : Cx} {k : Nat}
/-! count -/
def rCntD (K : PySem.W.Frag) : V → List V → Hp → VK → Prop := fun x xs H Q => ∃ (a : Addr) (y : V) (d : PyData) (ds : List PyData), x = V.ref a ∧ xs = [y] ∧ Dp K H (V.ref a) (.list ds) ∧ Dp K H y d ∧
  SeqAt.shaped (.list ds) = true ∧ SeqAt.shaped d = true ∧ Q (.int ((ds.countP fun z => PyData.eqv z d : Nat) : Int)) H
theorem mt_countD (hu : X.A.units + 65 < cLine) : MtR X "list.count" (rCntD X.K) := fun pins s σ H x xs v us Q I rx rxs h => by
  obtain ⟨a, y, d, ds, rfl, rfl, hl, hy, sl, sd, q⟩ := h
  cases rx
  match us, rxs with
  | [uy], .cons ry .nil =>
    obtain ⟨bs, r1⟩ := Dp.reads I d y uy hy ry
    cases hl with
    | lst hs ha =>
      obtain ⟨its, rv, ⟨⟨cls, dd, data, sls⟩, n, ho, hc, hdn, hdt⟩, hlen⟩ := I.list hs
      cases hc
      cases hdt
      obtain ⟨as, h4⟩ := Dp.readsAll I ds _ its ha rv
      have hxs := SeqAt.canLay_of_shaped sl
      have hmap : its.map (SeqAt.readOf s.heap) = ds := SeqAt.readsAll_map ds its as hxs h4
      have ec : its.toArray.toList.countP (fun u => PyData.eqv (SeqAt.readOf s.heap u) d) = ds.countP fun z => PyData.eqv z d := by
        rw [← hmap, List.countP_map]
        rfl
      refine call_meets PySem.F.slot_list_count ⟨_, ho, rfl⟩ PySem.F.entry_list_count (PySem.F.args_list_count_2 _ _) (SeqAt.list_countAt a its.toArray n dd sls uy fun u => PyData.eqv (SeqAt.readOf s.heap u) d)
        ⟨ho, SeqAt.items_eqAt (vs := its.toArray) (show ReadsAll s.heap its.toArray.toList ds as from h4) r1 hxs (SeqAt.canLay_of_shaped sd) (room_in_shaped sd hu), ⟨.int ((ds.countP fun z => PyData.eqv z d : Nat) : Int), H, I.tok _, ⟨s.toks, ?_⟩, q⟩⟩
      show Value.int ((its.toArray.toList.countP _ : Nat) : Int) s.toks = _
      rw [ec]
end
/-- xs.count(y) of a list -/
def countD (xs : List D) (y : D) : PM D := if shp (.lst xs) = true ∧ shp y = true then pure (.int (xs.countP fun z => eqvD z y : Nat)) else bad
/-- xs.index(y) of a list, y in it -/
def indexD (xs : List D) (y : D) : PM D := if shp (.lst xs) = true ∧ shp y = true then (match xs.findIdx? fun z => eqvD z y with | some j => pure (.int (j : Nat)) | none => bad) else bad
section
variable {X : Cx} {W : WX} {pa : Option Addr} {Γ : List Sl} {k : Nat} {pos : Pos}
theorem dp_lst {K : PySem.W.Frag} {H : Hp} {a : Addr} {vs : List V} {ds : List D} (h : H a = some (.lst vs)) (r : RpL K H vs ds) : Dp K H (.ref a) (.list (ds.map toPy)) := by
  have z := (Rp.mkL h r).dp
  simp only [toPy, toPyL_map] at z
  exact z
theorem shp_lst {ds : List D} (h : shp (.lst ds) = true) : SeqAt.shaped (.list (ds.map toPy)) = true := by
  unfold shp at h
  simp only [toPy, toPyL_map] at h
  exact h
/-- a method of a list, of one value -/
theorem ev_lm {o e : Expr} {name : Str} {id : String} {mo me : PM D} {f : List D → D → PM D} {r : V → List V → Hp → VK → Prop} {apos cpos : Pos} (slot : Slot "list" name id) (hty : typeOf (.builtin id) = pure (.type "method_descriptor")) (hm : MtR X id r)
    (hf : ∀ (σ : L2.St) (G H : Hp) (s : List Int) (a : Addr) (vs : List V) (ds : List D) (w : V) (y : D) (Q : VK), Same G H → PenOk pa G H s → H a = some (.lst vs) → RpL X.K G vs ds → Rp X.K G w y → Pst X.K W X.mg pa σ (FD X.K Q) G H (f ds y s) → r (.ref a) [w] H Q)
    (ho : EV X W pa Γ o mo) (he : EV X W pa Γ e me) (hbase : attributeBase o name X.env (eval o X.env) = eval o X.env := by rfl)
    (hfew : ((backTo cpos (starEach [e] X.env)).all (fun x => !x.1) && (backToKw cpos (keywordEach [] X.env)).all (fun x => x.1.isSome)
      && decide ([e].length + ([] : List Keyword).length + (if ([] : List Keyword).isEmpty then 0 else 1) < 30)) = true := by rfl)
    (hline : (apos.endLine == cpos.line) = true := by rfl) (hs : starEach [e] X.env = (false, eval e X.env) :: starEach [] X.env := by rfl) (hplain : (backTo cpos (starEach [] X.env)).any (·.1) = false := by rfl) :
    EV X W pa Γ (.Call (.Attribute o name apos) [e] [] cpos) (mo >>= fun d => lstOf d >>= fun xs => me >>= fun y => f xs y) :=
  pe_imp (pe_bm PySem.F.plainAttrs_list slot hty hm ho (pa_cons he pa_nil hs) hbase hfew hline hs hplain) fun σ H Q ⟨G0, H0, G, s, E, P⟩ =>
    ⟨G0, H0, G, s, E, P.bind.imp fun G1 H1 d s1 x1 p1 P1 v rv => by
      cases rv with
      | @lst a vs ds h n rr =>
        have P1 : Pst X.K W X.mg pa σ (FD X.K Q) G1 H1 ((me >>= fun y => f ds y) s1) := P1
        exact ⟨.inl ⟨rfl, vs, SqL.of (x1.sub _ _ h)⟩, G0, H0, G1, s1, E.step x1 p1, P1.bind.imp fun G2 H2 d2 s2 x2 p2 P2 w rw => hf σ G2 H2 s2 a vs ds w d2 Q x2.sub p2 (x2.sub _ _ (x2.g _ _ h)) (RpL.mono x2.g ⟨n, rr⟩) rw P2⟩
      | _ => exact P1.elim⟩
theorem ev_count {o e : Expr} {mo me : PM D} {apos cpos : Pos} (C : Cok X W k) (ho : EV X W pa Γ o mo) (he : EV X W pa Γ e me)
    (hbase : attributeBase o "count" X.env (eval o X.env) = eval o X.env := by rfl)
    (hfew : ((backTo cpos (starEach [e] X.env)).all (fun x => !x.1) && (backToKw cpos (keywordEach [] X.env)).all (fun x => x.1.isSome)
      && decide ([e].length + ([] : List Keyword).length + (if ([] : List Keyword).isEmpty then 0 else 1) < 30)) = true := by rfl)
    (hline : (apos.endLine == cpos.line) = true := by rfl) (hs : starEach [e] X.env = (false, eval e X.env) :: starEach [] X.env := by rfl) (hplain : (backTo cpos (starEach [] X.env)).any (·.1) = false := by rfl) :
    EV X W pa Γ (.Call (.Attribute o "count" apos) [e] [] cpos) (mo >>= fun d => lstOf d >>= fun xs => me >>= fun y => countD xs y) :=
  ev_lm PySem.F.slot_list_count PySem.F.type_list_count (mt_countD (room65 C.room)) (fun σ G H s a vs ds w y Q hs hp h rr rw P => by
    unfold countD at P
    by_cases hc : shp (.lst ds) = true ∧ shp y = true
    · rw [if_pos hc] at P
      refine ⟨a, w, toPy y, ds.map toPy, rfl, rfl, dp_lst h (rr.mono hs), (rw.mono hs).dp, shp_lst hc.1, hc.2, ?_⟩
      rw [List.countP_map]
      exact P.now hs hp _ (.int _)
    · rw [if_neg hc] at P
      exact P.elim) ho he hbase hfew hline hs hplain
theorem ev_index {o e : Expr} {mo me : PM D} {apos cpos : Pos} (C : Cok X W k) (ho : EV X W pa Γ o mo) (he : EV X W pa Γ e me)
    (hbase : attributeBase o "index" X.env (eval o X.env) = eval o X.env := by rfl)
    (hfew : ((backTo cpos (starEach [e] X.env)).all (fun x => !x.1) && (backToKw cpos (keywordEach [] X.env)).all (fun x => x.1.isSome)
      && decide ([e].length + ([] : List Keyword).length + (if ([] : List Keyword).isEmpty then 0 else 1) < 30)) = true := by rfl)
    (hline : (apos.endLine == cpos.line) = true := by rfl) (hs : starEach [e] X.env = (false, eval e X.env) :: starEach [] X.env := by rfl) (hplain : (backTo cpos (starEach [] X.env)).any (·.1) = false := by rfl) :
    EV X W pa Γ (.Call (.Attribute o "index" apos) [e] [] cpos) (mo >>= fun d => lstOf d >>= fun xs => me >>= fun y => indexD xs y) :=
  ev_lm PySem.F.slot_list_index PySem.F.type_list_index (mt_indexD (room65 C.room)) (fun σ G H s a vs ds w y Q hs hp h rr rw P => by
    unfold indexD at P
    by_cases hc : shp (.lst ds) = true ∧ shp y = true
    · rw [if_pos hc] at P
      cases e : ds.findIdx? fun z => eqvD z y with
      | none => rw [e] at P; exact P.elim
      | some j =>
        rw [e] at P
        obtain ⟨hj, h1, h2⟩ := List.findIdx?_eq_some_iff_getElem.mp e
        refine ⟨a, w, toPy y, ds.map toPy, j, toPy ds[j], rfl, rfl, dp_lst h (rr.mono hs), (rw.mono hs).dp, shp_lst hc.1, hc.2, by rw [List.getElem?_map, List.getElem?_eq_getElem hj]; rfl, h1, fun m z' hm hz => ?_, P.now hs hp _ (.int _)⟩
        rw [List.getElem?_map, List.getElem?_eq_getElem (by omega)] at hz
        have hz := Option.some.inj hz
        subst hz
        have := h2 m hm
        simpa [eqvD] using this
    · rw [if_neg hc] at P
      exact P.elim) ho he hbase hfew hline hs hplain
end
/-! max, min -/
def minL (x : Int) (xs : List Int) : Int := xs.foldl (fun a y => if y < a then y else a) x
def maxL (x : Int) (xs : List Int) : Int := xs.foldl (fun a y => if a < y then y else a) x
theorem minL_spec : ∀ (xs : List Int) (x : Int), minL x xs ∈ x :: xs ∧ ∀ y ∈ x :: xs, minL x xs ≤ y
  | [], x => ⟨by simp [minL], by simp [minL]⟩
  | z :: xs, x => by
    have ih := minL_spec xs (if z < x then z else x)
    have e : minL x (z :: xs) = minL (if z < x then z else x) xs := rfl
    rw [e]
    refine ⟨?_, fun y m => ?_⟩
    · rcases List.mem_cons.mp ih.1 with q | q
      · rw [q]
        split <;> simp
      · simp [q]
    · have i0 := ih.2 _ List.mem_cons_self
      have i1 := ih.2
      generalize minL (if z < x then z else x) xs = q at i0 i1 ⊢
      rcases List.mem_cons.mp m with rfl | m
      · split at i0 <;> omega
      · rcases List.mem_cons.mp m with rfl | m
        · split at i0 <;> omega
        · exact i1 y (List.mem_cons_of_mem _ m)
theorem maxL_spec : ∀ (xs : List Int) (x : Int), maxL x xs ∈ x :: xs ∧ ∀ y ∈ x :: xs, y ≤ maxL x xs
  | [], x => ⟨by simp [maxL], by simp [maxL]⟩
  | z :: xs, x => by
    have ih := maxL_spec xs (if x < z then z else x)
    have e : maxL x (z :: xs) = maxL (if x < z then z else x) xs := rfl
    rw [e]
    refine ⟨?_, fun y m => ?_⟩
    · rcases List.mem_cons.mp ih.1 with q | q
      · rw [q]
        split <;> simp
      · simp [q]
    · have i0 := ih.2 _ List.mem_cons_self
      have i1 := ih.2
      generalize maxL (if x < z then z else x) xs = q at i0 i1 ⊢
      rcases List.mem_cons.mp m with rfl | m
      · split at i0 <;> omega
      · rcases List.mem_cons.mp m with rfl | m
        · split at i0 <;> omega
        · exact i1 y (List.mem_cons_of_mem _ m)
theorem minD_ints : ∀ (xs : List Int) (x : Int), PySem.W.minD (.int x) (xs.map PyData.int) = .int (minL x xs)
  | [], x => rfl
  | z :: xs, x => by
    have ih := minD_ints xs (if z < x then z else x)
    unfold PySem.W.minD at ih ⊢
    rw [List.map_cons, List.foldl_cons, PySem.W.dataLt_int]
    show _ = PyData.int (minL (if z < x then z else x) xs)
    rw [← ih]
    by_cases h : z < x
    · rw [decide_eq_true h, if_pos rfl, if_pos h]
    · rw [decide_eq_false h, if_neg (by decide), if_neg h]
theorem maxD_ints : ∀ (xs : List Int) (x : Int), PySem.W.maxD (.int x) (xs.map PyData.int) = .int (maxL x xs)
  | [], x => rfl
  | z :: xs, x => by
    have ih := maxD_ints xs (if x < z then z else x)
    unfold PySem.W.maxD at ih ⊢
    rw [List.map_cons, List.foldl_cons, PySem.W.dataLt_int]
    show _ = PyData.int (maxL (if x < z then z else x) xs)
    rw [← ih]
    by_cases h : x < z
    · rw [decide_eq_true h, if_pos rfl, if_pos h]
    · rw [decide_eq_false h, if_neg (by decide), if_neg h]
section
variable {X : Cx} {k : Nat}
theorem dpAll_ints {K : PySem.W.Frag} {H : Hp} : ∀ (xs : List Int), DpAll K H (xs.map V.int) (xs.map PyData.int)
  | [] => .nil
  | x :: xs => .cons (.int x) (dpAll_ints xs)
theorem alike_ints' (xs : List Int) : PySem.W.AlikeAll (xs.map PyData.int) := ⟨fun a ha b hb => by
  obtain ⟨x, _, rfl⟩ := List.mem_map.mp ha
  obtain ⟨y, _, rfl⟩ := List.mem_map.mp hb
  simp [PySem.W.alike], fun a ha => by
  obtain ⟨x, _, rfl⟩ := List.mem_map.mp ha
  simp⟩
def rMinA (K : PySem.W.Frag) : List V → Hp → VK → Prop := fun vs H Q => ∃ (a : Addr) (x : Int) (xs : List Int), vs = [V.ref a] ∧ (SqL K H a ((x :: xs).map V.int) ∨ SqT K H a ((x :: xs).map V.int)) ∧ Q (.int (minL x xs)) H
def rMaxA (K : PySem.W.Frag) : List V → Hp → VK → Prop := fun vs H Q => ∃ (a : Addr) (x : Int) (xs : List Int), vs = [V.ref a] ∧ (SqL K H a ((x :: xs).map V.int) ∨ SqT K H a ((x :: xs).map V.int)) ∧ Q (.int (maxL x xs)) H
theorem cr_minA (hr : Room k X.A) (hc : X.calm = true) : CallR X (.builtin "min") (rMinA X.K) := by
  intro pins s σ H vs us Q I r h
  obtain ⟨a, x, xs, rfl, hs, q⟩ := h
  rw [Vals.ref1 r]
  have u := hr.units
  have hd : PyData.depthAll ((x :: xs).map PyData.int) = 0 := PySem.W.depth_ints (x :: xs)
  have fin : ∀ (v : Value) (h' : Heap) (tk : Nat) (bs : List Addr), Reads h' v (PySem.W.minD (.int x) (xs.map PyData.int)) bs → (∀ b o, s.heap.get? b = some o → h'.get? b = some o) → EP X pins σ Q v { s with heap := h', toks := tk } := fun v h' tk bs rd hk => by
    rw [minD_ints] at rd
    cases rd
    exact ⟨.int _, H, I.kept hk, ⟨_, rfl⟩, q⟩
  rcases hs with hs | hs
  · obtain ⟨its, rv, hl, hz⟩ := I.list hs
    obtain ⟨as, ra⟩ := Dp.readsAll I _ _ its (dpAll_ints (x :: xs)) rv
    exact PySem.W.min_list_data (I.ok.hd hc) hl.isList (show ReadsAll s.heap its.toArray.toList ((x :: xs).map PyData.int) as from ra) (alike_ints' (x :: xs)) (by rw [List.map_cons] at hd; rw [hd]; omega) fun i v h' tk bs _ rd hk => fin v h' tk bs rd hk
  · obtain ⟨its, rv, hl, hz⟩ := I.tuple hs
    obtain ⟨as, ra⟩ := Dp.readsAll I _ _ its (dpAll_ints (x :: xs)) rv
    exact PySem.W.min_tuple_data (I.ok.hd hc) hl (show ReadsAll s.heap its.toArray.toList ((x :: xs).map PyData.int) as from ra) (alike_ints' (x :: xs)) (by rw [List.map_cons] at hd; rw [hd]; omega) fun i v h' tk bs _ rd hk => fin v h' tk bs rd hk
theorem cr_maxA (hr : Room k X.A) (hc : X.calm = true) : CallR X (.builtin "max") (rMaxA X.K) := by
  intro pins s σ H vs us Q I r h
  obtain ⟨a, x, xs, rfl, hs, q⟩ := h
  rw [Vals.ref1 r]
  have u := hr.units
  have hd : PyData.depthAll ((x :: xs).map PyData.int) = 0 := PySem.W.depth_ints (x :: xs)
  have fin : ∀ (v : Value) (h' : Heap) (tk : Nat) (bs : List Addr), Reads h' v (PySem.W.maxD (.int x) (xs.map PyData.int)) bs → (∀ b o, s.heap.get? b = some o → h'.get? b = some o) → EP X pins σ Q v { s with heap := h', toks := tk } := fun v h' tk bs rd hk => by
    rw [maxD_ints] at rd
    cases rd
    exact ⟨.int _, H, I.kept hk, ⟨_, rfl⟩, q⟩
  rcases hs with hs | hs
  · obtain ⟨its, rv, hl, hz⟩ := I.list hs
    obtain ⟨as, ra⟩ := Dp.readsAll I _ _ its (dpAll_ints (x :: xs)) rv
    exact PySem.W.max_list_data (I.ok.hd hc) hl.isList (show ReadsAll s.heap its.toArray.toList ((x :: xs).map PyData.int) as from ra) (alike_ints' (x :: xs)) (by rw [List.map_cons] at hd; rw [hd]; omega) fun i v h' tk bs _ rd hk => fin v h' tk bs rd hk
  · obtain ⟨its, rv, hl, hz⟩ := I.tuple hs
    obtain ⟨as, ra⟩ := Dp.readsAll I _ _ its (dpAll_ints (x :: xs)) rv
    exact PySem.W.max_tuple_data (I.ok.hd hc) hl (show ReadsAll s.heap its.toArray.toList ((x :: xs).map PyData.int) as from ra) (alike_ints' (x :: xs)) (by rw [List.map_cons] at hd; rw [hd]; omega) fun i v h' tk bs _ rd hk => fin v h' tk bs rd hk
/-- of one list or tuple of ints, or of two ints -/
def oneSeq : List D → Bool
  | [.lst _] => true
  | [.tup _] => true
  | _ => false
def minS : List D → PM D
  | [.lst ds] | [.tup ds] => match intsOf ds with | some (x :: xs) => pure (.int (minL x xs)) | _ => bad
  | _ => bad
def maxS : List D → PM D
  | [.lst ds] | [.tup ds] => match intsOf ds with | some (x :: xs) => pure (.int (maxL x xs)) | _ => bad
  | _ => bad
theorem cd_minS (hr : Room k X.A) (hc : X.calm = true) : CallD X (.builtin "min") minS := by
  refine ⟨_, cr_minA hr hc, fun W pa σ G H s xs ds Q hs hp rs P => ?_⟩
  have main : ∀ (a : Addr) (vs : List V) (es : List D), RpL X.K G vs es → (SqL X.K H a vs ∨ SqT X.K H a vs) → Pst X.K W X.mg pa σ (FD X.K Q) G H ((match intsOf es with | some (x :: xs) => pure (.int (minL x xs)) | _ => bad : PM D) s) → rMinA X.K [.ref a] H Q := fun a vs es rr hq P => by
    cases e : intsOf es with
    | none => rw [e] at P; exact P.elim
    | some bs =>
      rw [e] at P
      cases bs with
      | nil => exact P.elim
      | cons x xs =>
        rw [intsOf_rp rr e] at hq
        exact ⟨a, x, xs, rfl, hq, P.now hs hp _ (.int _)⟩
  match ds, rs, P with
  | [d], rs, P =>
    obtain ⟨v, rfl, r⟩ := rp1 rs
    cases r with
    | @lst a vs es h n r => exact main a vs es ⟨n, r⟩ (.inl (SqL.of (hs _ _ h))) P
    | @tup a vs es h n r => exact main a vs es ⟨n, r⟩ (.inr (sameT hs h)) P
    | _ => exact P.elim
  | [], _, P => exact P.elim
  | a :: _ :: _, _, P => cases a <;> exact P.elim
theorem cd_maxS (hr : Room k X.A) (hc : X.calm = true) : CallD X (.builtin "max") maxS := by
  refine ⟨_, cr_maxA hr hc, fun W pa σ G H s xs ds Q hs hp rs P => ?_⟩
  have main : ∀ (a : Addr) (vs : List V) (es : List D), RpL X.K G vs es → (SqL X.K H a vs ∨ SqT X.K H a vs) → Pst X.K W X.mg pa σ (FD X.K Q) G H ((match intsOf es with | some (x :: xs) => pure (.int (maxL x xs)) | _ => bad : PM D) s) → rMaxA X.K [.ref a] H Q := fun a vs es rr hq P => by
    cases e : intsOf es with
    | none => rw [e] at P; exact P.elim
    | some bs =>
      rw [e] at P
      cases bs with
      | nil => exact P.elim
      | cons x xs =>
        rw [intsOf_rp rr e] at hq
        exact ⟨a, x, xs, rfl, hq, P.now hs hp _ (.int _)⟩
  match ds, rs, P with
  | [d], rs, P =>
    obtain ⟨v, rfl, r⟩ := rp1 rs
    cases r with
    | @lst a vs es h n r => exact main a vs es ⟨n, r⟩ (.inl (SqL.of (hs _ _ h))) P
    | @tup a vs es h n r => exact main a vs es ⟨n, r⟩ (.inr (sameT hs h)) P
    | _ => exact P.elim
  | [], _, P => exact P.elim
  | a :: _ :: _, _, P => cases a <;> exact P.elim
end
end EV

/-! M1: what the small functions answer at small data. -/
namespace EV
open PySem PyProof.Rows L2

/-! ### small data -/
inductive Sm : Nat → Nat → D → Prop
  | non {h b : Nat} : Sm h b .non
  | bl {h b : Nat} (x : Bool) : Sm h b (.bl x)
  | int {h b : Nat} {i : Int} (h1 : -2 ≤ i) (h2 : i < 300) : Sm h b (.int i)
  | str {h b : Nat} {x : Str} (h1 : PyData.strOk x = true) (h2 : x.cps.size ≤ b) : Sm h b (.str x)
  | tup {h b c : Nat} {xs : List D} (h1 : ∀ x, x ∈ xs → Sm h c x) (h2 : xs.length * (c + 1) ≤ b) : Sm (h + 1) b (.tup xs)
  | lst {h b c : Nat} {xs : List D} (h1 : ∀ x, x ∈ xs → Sm h c x) (h2 : xs.length * (c + 1) ≤ b) : Sm (h + 1) b (.lst xs)
theorem all_lay : ∀ {xs : List D}, (∀ x ∈ xs, (toPy x).canLay0 = true) → PyData.canLayAll0 (toPyL xs) = true
  | [], _ => by simp only [toPyL, PyData.canLayAll0]
  | x :: xs, h => by
    simp only [toPyL, PyData.canLayAll0, h x List.mem_cons_self, all_lay (fun y m => h y (List.mem_cons_of_mem _ m)), Bool.and_self]
theorem all_short : ∀ {xs : List D}, (∀ x ∈ xs, (toPy x).leavesShort 13 = true) → PyData.leavesShortAll 13 (toPyL xs) = true
  | [], _ => by simp only [toPyL, PyData.leavesShortAll]
  | x :: xs, h => by
    simp only [toPyL, PyData.leavesShortAll, h x List.mem_cons_self, all_short (fun y m => h y (List.mem_cons_of_mem _ m)), Bool.and_self]
theorem all_ok : ∀ {xs : List D}, (∀ x ∈ xs, okD x = true) → okDL xs = true
  | [], _ => by simp only [okDL]
  | x :: xs, h => by
    simp only [okDL, h x List.mem_cons_self, all_ok (fun y m => h y (List.mem_cons_of_mem _ m)), Bool.and_self]
theorem all_deep {k : Nat} : ∀ {xs : List D}, (∀ x ∈ xs, (toPy x).depth ≤ k) → PyData.depthAll (toPyL xs) ≤ k
  | [], _ => by simp only [toPyL, PyData.depthAll]; omega
  | x :: xs, h => by
    have h1 := h x List.mem_cons_self
    have h2 := all_deep (xs := xs) (fun y m => h y (List.mem_cons_of_mem _ m))
    simp only [toPyL, PyData.depthAll]
    omega
theorem all_bulk {k : Nat} : ∀ {xs : List D}, (∀ x ∈ xs, (toPy x).bulk ≤ k) → PyData.bulkAll (toPyL xs) ≤ xs.length * (k + 1)
  | [], _ => by simp only [toPyL, PyData.bulkAll]; omega
  | x :: xs, h => by
    have h1 := h x List.mem_cons_self
    have h2 := all_bulk (xs := xs) (fun y m => h y (List.mem_cons_of_mem _ m))
    simp only [toPyL, PyData.bulkAll, List.length_cons, Nat.succ_mul]
    omega
theorem shortI : ∀ n : Fin 302, (PyData.shown (.int ((n.val : Int) - 2))).length ≤ 13 := by decide +kernel
theorem logI : ∀ n : Fin 302, decide ((((n.val : Int) - 2).natAbs).log2 < 1920) = true := by decide +kernel
theorem Sm.facts {h b : Nat} {d : D} (s : Sm h b d) : (toPy d).canLay0 = true ∧ (toPy d).leavesShort 13 = true ∧ okD d = true ∧ (toPy d).depth ≤ h ∧ (toPy d).bulk ≤ b := by
  induction s with
  | non => simp [toPy, PyData.canLay0, PyData.leavesShort, okD, PyData.depth, PyData.bulk]
  | bl => simp [toPy, PyData.canLay0, PyData.leavesShort, okD, PyData.depth, PyData.bulk]
  | @int h b i h1 h2 =>
    have e : i = (((⟨(i + 2).toNat, by omega⟩ : Fin 302).val : Nat) : Int) - 2 := by
      show i = (((i + 2).toNat : Nat) : Int) - 2
      omega
    refine ⟨by simp [toPy, PyData.canLay0], ?_, ?_, by simp [toPy, PyData.depth], by simp [toPy, PyData.bulk]⟩
    · simp only [toPy, PyData.leavesShort, decide_eq_true_eq]
      rw [e]
      exact shortI _
    · simp only [okD]
      rw [e]
      exact logI _
  | @str h b x h1 h2 =>
    refine ⟨by simpa [toPy, PyData.canLay0] using h1, ?_, by simp [okD], by simp [toPy, PyData.depth], by simpa [toPy, PyData.bulk] using h2⟩
    simp only [toPy, PyData.leavesShort, List.all_eq_true, decide_eq_true_eq]
    intro c hc
    unfold PyData.strOk at h1
    have z := Array.all_eq_true'.mp h1 c (by simpa using hc)
    have z : c < 0x110000 := by simpa using z
    omega
  | @tup h b c xs h1 h2 ih =>
    simp only [toPy, PyData.canLay0, PyData.leavesShort, okD, PyData.depth, PyData.bulk]
    have z := all_deep fun x m => (ih x m).2.2.2.1
    have y := all_bulk fun x m => (ih x m).2.2.2.2
    exact ⟨all_lay fun x m => (ih x m).1, all_short fun x m => (ih x m).2.1, all_ok fun x m => (ih x m).2.2.1, by omega, by omega⟩
  | @lst h b c xs h1 h2 ih =>
    simp only [toPy, PyData.canLay0, PyData.leavesShort, okD, PyData.depth, PyData.bulk]
    have z := all_deep fun x m => (ih x m).2.2.2.1
    have y := all_bulk fun x m => (ih x m).2.2.2.2
    exact ⟨all_lay fun x m => (ih x m).1, all_short fun x m => (ih x m).2.1, all_ok fun x m => (ih x m).2.2.1, by omega, by omega⟩
theorem Sm.mono {h b h' b' : Nat} {d : D} (s : Sm h b d) (e1 : h ≤ h') (e2 : b ≤ b') : Sm h' b' d := by
  induction s generalizing h' b' with
  | non => exact .non
  | bl x => exact .bl x
  | int h1 h2 => exact .int h1 h2
  | str h1 h2 => exact .str h1 (by omega)
  | @tup h b c xs h1 h2 ih =>
    obtain ⟨k, rfl⟩ : ∃ k, h' = k + 1 := ⟨h' - 1, by omega⟩
    exact .tup (c := c) (fun x m => ih x m (by omega) (Nat.le_refl _)) (by omega)
  | @lst h b c xs h1 h2 ih =>
    obtain ⟨k, rfl⟩ : ∃ k, h' = k + 1 := ⟨h' - 1, by omega⟩
    exact .lst (c := c) (fun x m => ih x m (by omega) (Nat.le_refl _)) (by omega)
theorem Sm.shp {h b : Nat} {d : D} (s : Sm h b d) (e : h ≤ 64 := by omega) : shp d = true := by
  have f := s.facts
  unfold EV.shp SeqAt.shaped
  rw [Bool.and_eq_true, decide_eq_true_eq]
  exact ⟨f.1, by omega⟩
theorem Sm.repr {h b : Nat} {d : D} (s : Sm h b d) (e1 : h ≤ 60 := by omega) (e2 : b ≤ 60000 := by omega) : reprF [d] = pure (.str (shown d)) := by
  have f := s.facts
  have l := PyData.shown_le_bulk 13 (by decide) (toPy d) f.2.1
  show (if okD d = true ∧ (toPy d).depth ≤ 60 ∧ (shown d).length ≤ lim then pure (.str (shown d)) else bad : PM D) = _
  exact if_pos ⟨f.2.2.1, by omega, by show (toPy d).shown.length ≤ 1000000; omega⟩

/-! ### ints -/
def iota (n : Nat) : List Int := (List.range n).map fun (i : Nat) => (i : Int)
theorem mem_iota {n : Nat} {x : Int} : x ∈ iota n ↔ 0 ≤ x ∧ x < n := by
  unfold iota
  rw [List.mem_map]
  constructor
  · rintro ⟨i, h, rfl⟩
    rw [List.mem_range] at h
    omega
  · rintro ⟨h1, h2⟩
    exact ⟨x.toNat, List.mem_range.mpr (by omega), by omega⟩
theorem len_iota (n : Nat) : (iota n).length = n := by simp [iota]
theorem iota_asc (n : Nat) : (iota n).Pairwise (· < ·) := by
  unfold iota
  rw [List.pairwise_map]
  exact List.pairwise_lt_range.imp fun h => by omega
theorem iota_get {n i : Nat} (h : i < n) : (iota n)[i]? = some (i : Int) := by
  simp [iota, h]
theorem rangeL_iota (n : Nat) : rangeL 0 n = (iota n).map D.int := by
  unfold rangeL iota
  rw [List.map_map]
  exact List.map_congr_left fun i _ => by simp
abbrev tI (ns : List Int) : D := .tup (ns.map .int)
abbrev lI (ns : List Int) : D := .lst (ns.map .int)
theorem range1 {n : Nat} (h : n ≤ lim := by omega) : rangeF1 [.int n] = pure ((iota n).map D.int) := by
  have h : n ≤ 1000000 := h
  unfold rangeF1 rangeF
  dsimp only
  rw [if_pos ⟨by omega, by omega⟩, Int.toNat_natCast, rangeL_iota]
theorem okL_ok {xs : List D} (h : xs.length ≤ lim) : okL xs = pure xs := if_pos h
theorem sortedI {ns : List Int} (h : ns.length ≤ lim) : sortedG [lI ns] = pure (lI (sortI ns)) := by
  have e : intsQ [lI ns] = true := by
    show (intsOf (ns.map D.int)).isSome = true
    rw [intsOf_map]
    rfl
  unfold sortedG
  rw [if_pos e]
  show (match intsOf (ns.map D.int) with | some ns => mkL ((sortI ns).map D.int) | none => bad : PM D) = _
  rw [intsOf_map]
  exact mkL_ok (by rw [List.length_map, (sortI_perm ns).length_eq]; exact h)
theorem tupleL {xs : List D} (h : xs.length ≤ lim) : tupleF [.lst xs] = pure (.tup xs) := mkT_ok h
theorem asc_of_sorted {l : List Int} (h1 : l.Pairwise (· ≤ ·)) (h2 : l.Nodup) : l.Pairwise (· < ·) := by
  have h2 : l.Pairwise (· ≠ ·) := h2
  exact (h1.and h2).imp fun h => by omega
theorem asc_nodup {l : List Int} (h : l.Pairwise (· < ·)) : l.Nodup := h.imp fun h => by omega
theorem sortI_nodup {l : List Int} (h : l.Nodup) : (sortI l).Pairwise (· < ·) := asc_of_sorted (sortI_sorted l) ((sortI_perm l).nodup_iff.mpr h)

/-! ### subscripts -/
def ix {α : Type} [Inhabited α] (l : List α) (i : Int) : α := l.getD i.toNat default
theorem ix_get {α : Type} [Inhabited α] {l : List α} {i : Int} (h0 : 0 ≤ i) (h1 : i < l.length) : l[i.toNat]? = some (ix l i) := by
  unfold ix
  rw [List.getD_eq_getElem?_getD, List.getElem?_eq_getElem (by omega)]
  rfl
theorem ix_mem {α : Type} [Inhabited α] {l : List α} {i : Int} (h0 : 0 ≤ i) (h1 : i < l.length) : ix l i ∈ l := List.mem_of_getElem? (ix_get h0 h1)
theorem atI_ix {α : Type} [Inhabited α] {l : List α} {i : Int} (h0 : 0 ≤ i) (h1 : i < l.length) : atI l i = some (ix l i) := by
  unfold atI ixN
  rw [if_pos h0, if_pos h1]
  exact ix_get h0 h1
theorem getT {α : Type} [Inhabited α] {l : List α} {f : α → D} {i : Int} (h0 : 0 ≤ i) (h1 : i < l.length) : getD (.tup (l.map f)) (.int i) = pure (f (ix l i)) := by
  show (match atI (l.map f) i with | some d => pure d | none => bad : PM D) = _
  rw [atI_map, atI_ix h0 h1]
  rfl
theorem getL {α : Type} [Inhabited α] {l : List α} {f : α → D} {i : Int} (h0 : 0 ≤ i) (h1 : i < l.length) : getD (.lst (l.map f)) (.int i) = pure (f (ix l i)) := by
  show (match atI (l.map f) i with | some d => pure d | none => bad : PM D) = _
  rw [atI_map, atI_ix h0 h1]
  rfl
theorem ix_map {α β : Type} [Inhabited α] [Inhabited β] {l : List α} {f : α → β} {i : Int} (h0 : 0 ≤ i) (h1 : i < l.length) : ix (l.map f) i = f (ix l i) := by
  have z := ix_get (l := l.map f) h0 (by simpa using h1)
  rw [List.getElem?_map, ix_get h0 h1] at z
  exact (Option.some.inj z).symm
theorem ix_iota {n : Nat} {i : Int} (h0 : 0 ≤ i) (h1 : i < n) : ix (iota n) i = i := by
  have z := ix_get (l := iota n) h0 (by rw [len_iota]; exact h1)
  rw [iota_get (by omega)] at z
  have z := Option.some.inj z
  omega

/-! ### in -/
theorem eqv_int {a b : Int} : eqvD (.int a) (.int b) = (a == b) := rfl
theorem any_int {x : Int} {ns : List Int} : ((ns.map D.int).any fun z => eqvD z (.int x)) = decide (x ∈ ns) := by
  rw [Bool.eq_iff_iff, List.any_eq_true, decide_eq_true_eq]
  constructor
  · rintro ⟨z, hz, e⟩
    obtain ⟨n, hn, rfl⟩ := List.mem_map.mp hz
    rw [eqv_int, beq_iff_eq] at e
    exact e ▸ hn
  · intro h
    exact ⟨.int x, List.mem_map.mpr ⟨x, h, rfl⟩, by rw [eqv_int, beq_iff_eq]⟩
/-- all of them small -/
def SmI (ns : List Int) : Prop := ∀ n ∈ ns, -2 ≤ n ∧ n < 300
theorem SmI.smT {ns : List Int} (h : SmI ns) : Sm 1 ns.length (tI ns) := .tup (c := 0) (fun x m => by
  obtain ⟨n, hn, rfl⟩ := List.mem_map.mp m
  exact .int (h n hn).1 (h n hn).2) (by rw [List.length_map]; omega)
theorem SmI.smL {ns : List Int} (h : SmI ns) : Sm 1 ns.length (lI ns) := .lst (c := 0) (fun x m => by
  obtain ⟨n, hn, rfl⟩ := List.mem_map.mp m
  exact .int (h n hn).1 (h n hn).2) (by rw [List.length_map]; omega)
theorem shpI {x : Int} : shp (.int x) = true := by
  unfold EV.shp SeqAt.shaped
  simp [toPy, PyData.canLay0, PyData.depth]
theorem allI_lay : ∀ ns : List Int, PyData.canLayAll0 (toPyL (ns.map D.int)) = true := fun ns => all_lay fun x m => by
  obtain ⟨n, hn, rfl⟩ := List.mem_map.mp m
  simp [toPy, PyData.canLay0]
theorem allI_deep (ns : List Int) : PyData.depthAll (toPyL (ns.map D.int)) ≤ 0 := all_deep fun x m => by
  obtain ⟨n, hn, rfl⟩ := List.mem_map.mp m
  simp [toPy, PyData.depth]
theorem shpTI (ns : List Int) : shp (tI ns) = true := by
  unfold EV.shp SeqAt.shaped
  have z := allI_deep ns
  simp only [toPy, PyData.canLay0, PyData.depth, allI_lay, Bool.true_and, decide_eq_true_eq]
  omega
theorem shpLI (ns : List Int) : shp (lI ns) = true := by
  unfold EV.shp SeqAt.shaped
  have z := allI_deep ns
  simp only [toPy, PyData.canLay0, PyData.depth, allI_lay, Bool.true_and, decide_eq_true_eq]
  omega
theorem inT (x : Int) (ns : List Int) : inD (.int x) (tI ns) = pure (.bl (decide (x ∈ ns))) := by
  show (if shp (.int x) = true ∧ shp (tI ns) = true then pure (.bl ((ns.map D.int).any fun z => eqvD z (.int x))) else bad : PM D) = _
  rw [if_pos ⟨shpI, shpTI ns⟩, any_int]
theorem inL (x : Int) (ns : List Int) : inD (.int x) (lI ns) = pure (.bl (decide (x ∈ ns))) := by
  show (if shp (.int x) = true ∧ shp (lI ns) = true then pure (.bl ((ns.map D.int).any fun z => eqvD z (.int x))) else bad : PM D) = _
  rw [if_pos ⟨shpI, shpLI ns⟩, any_int]
theorem ninT (x : Int) (ns : List Int) : notInD (.int x) (tI ns) = pure (.bl (!decide (x ∈ ns))) := by
  show (if shp (.int x) = true ∧ shp (tI ns) = true then pure (.bl (!(ns.map D.int).any fun z => eqvD z (.int x))) else bad : PM D) = _
  rw [if_pos ⟨shpI, shpTI ns⟩, any_int]
theorem ninL (x : Int) (ns : List Int) : notInD (.int x) (lI ns) = pure (.bl (!decide (x ∈ ns))) := by
  show (if shp (.int x) = true ∧ shp (lI ns) = true then pure (.bl (!(ns.map D.int).any fun z => eqvD z (.int x))) else bad : PM D) = _
  rw [if_pos ⟨shpI, shpLI ns⟩, any_int]
theorem neInt (a b : Int) : neD (.int a) (.int b) = pure (.bl (decide (a ≠ b))) := by
  show (if shp (.int a) = true ∧ shp (.int b) = true then pure (.bl (!eqvD (.int a) (.int b))) else bad : PM D) = _
  rw [if_pos ⟨shpI, shpI⟩, eqv_int, show (a == b) = decide (a = b) from by rw [Bool.eq_iff_iff, beq_iff_eq, decide_eq_true_eq]]
  by_cases h : a = b <;> simp [h]
theorem eqInt (a b : Int) : eqD (.int a) (.int b) = pure (.bl (decide (a = b))) := by
  show (if shp (.int a) = true ∧ shp (.int b) = true then pure (.bl (eqvD (.int a) (.int b))) else bad : PM D) = _
  rw [if_pos ⟨shpI, shpI⟩, eqv_int, show (a == b) = decide (a = b) from by rw [Bool.eq_iff_iff, beq_iff_eq, decide_eq_true_eq]]

/-! ### comprehensions, loops -/
theorem compG_pure {ι : Type} {dec : D → Option ι} {c : ι → PM Bool} {e : ι → PM D} (b : ι → Bool) (f : ι → D) : ∀ {ds : List D} {zs : List ι}, ds.map dec = zs.map some → (∀ z ∈ zs, c z = pure (b z)) → (∀ z ∈ zs, b z = true → e z = pure (f z)) →
    compG dec c e ds = pure ((zs.filter b).map f)
  | [], [], _, _, _ => rfl
  | [], _ :: _, h, _, _ => by simp at h
  | _ :: _, [], h, _, _ => by simp at h
  | d :: ds, z :: zs, h, hc, he => by
    rw [List.map_cons, List.map_cons] at h
    injection h with h1 h2
    have ih := compG_pure b f h2 (fun y m => hc y (List.mem_cons_of_mem _ m)) (fun y m => he y (List.mem_cons_of_mem _ m))
    unfold compG
    rw [h1]
    show (noExc (c z) >>= _) = _
    rw [hc z List.mem_cons_self, noExc_pure, pure_bind]
    by_cases q : b z = true
    · rw [if_pos q, he z List.mem_cons_self q, noExc_pure, pure_bind, ih, pure_bind, List.filter_cons_of_pos q, List.map_cons]
    · rw [if_neg q, ih, List.filter_cons_of_neg q]
theorem comp_pure {ι : Type} {dec : D → Option ι} {c : ι → PM Bool} {e : ι → PM D} (b : ι → Bool) (f : ι → D) {ds : List D} {zs : List ι} (h : ds.map dec = zs.map some) (hl : ds.length ≤ lim) (hc : ∀ z ∈ zs, c z = pure (b z)) (he : ∀ z ∈ zs, b z = true → e z = pure (f z)) :
    compL dec c e ds = pure ((zs.filter b).map f) := by
  unfold compL
  rw [if_pos hl]
  exact compG_pure b f h hc he
/-- over ints -/
theorem compI {c : D → PM Bool} {e : D → PM D} (b : Int → Bool) (f : Int → D) {ns : List Int} (hl : ns.length ≤ lim) (hc : ∀ n ∈ ns, c (.int n) = pure (b n)) (he : ∀ n ∈ ns, b n = true → e (.int n) = pure (f n)) :
    compL dec1 c e (ns.map D.int) = pure ((ns.filter b).map f) := by
  unfold compL
  rw [if_pos (by rw [List.length_map]; exact hl)]
  clear hl
  induction ns with
  | nil => rfl
  | cons n ns ih =>
    have ih := ih (fun y m => hc y (List.mem_cons_of_mem _ m)) (fun y m => he y (List.mem_cons_of_mem _ m))
    rw [List.map_cons]
    unfold compG
    show (noExc (c (.int n)) >>= _) = _
    rw [hc n List.mem_cons_self, noExc_pure, pure_bind]
    by_cases q : b n = true
    · rw [if_pos q, he n List.mem_cons_self q, noExc_pure, pure_bind, ih, pure_bind, List.filter_cons_of_pos q, List.map_cons]
    · rw [if_neg q, ih, List.filter_cons_of_neg q]
/-- no test -/
theorem compIm {c : D → PM Bool} {e : D → PM D} (f : Int → D) {ns : List Int} (hl : ns.length ≤ lim) (hc : ∀ z, c z = pure true) (he : ∀ n ∈ ns, e (.int n) = pure (f n)) :
    compL dec1 c e (ns.map D.int) = pure (ns.map f) := by
  rw [compI (fun _ => true) f hl (fun n _ => hc _) (fun n m _ => he n m), List.filter_eq_self.mpr fun _ _ => rfl]
theorem compPm {ι κ : Type} {dec : D → Option ι} {c : ι → PM Bool} {e : ι → PM D} (g : κ → ι) (f : κ → D) {ds : List D} {zs : List κ} (h : ds.map dec = zs.map fun z => some (g z)) (hl : ds.length ≤ lim) (hc : ∀ z, c z = pure true) (he : ∀ z ∈ zs, e (g z) = pure (f z)) :
    compL dec c e ds = pure (zs.map f) := by
  unfold compL
  rw [if_pos hl]
  clear hl
  induction zs generalizing ds with
  | nil =>
    cases ds with
    | nil => rfl
    | cons _ _ => simp at h
  | cons z zs ih =>
    cases ds with
    | nil => simp at h
    | cons d ds =>
      rw [List.map_cons, List.map_cons] at h
      injection h with h1 h2
      have ih := ih h2 (fun y m => he y (List.mem_cons_of_mem _ m))
      unfold compG
      rw [h1]
      show (noExc (c (g z)) >>= _) = _
      rw [hc, noExc_pure, pure_bind, if_pos rfl, he z List.mem_cons_self, noExc_pure, pure_bind, ih, pure_bind, List.map_cons]
/-- pairs, with a test -/
theorem compPf {ι κ : Type} {dec : D → Option ι} {c : ι → PM Bool} {e : ι → PM D} (g : κ → ι) (b : κ → Bool) (f : κ → D) {ds : List D} {zs : List κ} (h : ds.map dec = zs.map fun z => some (g z)) (hl : ds.length ≤ lim) (hc : ∀ z ∈ zs, c (g z) = pure (b z)) (he : ∀ z ∈ zs, b z = true → e (g z) = pure (f z)) :
    compL dec c e ds = pure ((zs.filter b).map f) := by
  unfold compL
  rw [if_pos hl]
  clear hl
  induction zs generalizing ds with
  | nil =>
    cases ds with
    | nil => rfl
    | cons _ _ => simp at h
  | cons z zs ih =>
    cases ds with
    | nil => simp at h
    | cons d ds =>
      rw [List.map_cons, List.map_cons] at h
      injection h with h1 h2
      have ih := ih h2 (fun y m => hc y (List.mem_cons_of_mem _ m)) (fun y m => he y (List.mem_cons_of_mem _ m))
      unfold compG
      rw [h1]
      show (noExc (c (g z)) >>= _) = _
      rw [hc z List.mem_cons_self, noExc_pure, pure_bind]
      by_cases q : b z = true
      · rw [if_pos q, he z List.mem_cons_self q, noExc_pure, pure_bind, ih, pure_bind, List.filter_cons_of_pos q, List.map_cons]
      · rw [if_neg q, ih, List.filter_cons_of_neg q]
theorem forL_goP {ι κ : Type} {dec : D → Option ι} {body : Unit → ι → PM (Lp Unit)} (g : κ → ι) {ds : List D} {zs : List κ} (h : ds.map dec = zs.map fun z => some (g z)) (hb : ∀ z ∈ zs, body () (g z) = pure (.go ())) : forL dec body ds () = pure (.go ()) := by
  induction zs generalizing ds with
  | nil =>
    cases ds with
    | nil => rfl
    | cons _ _ => simp at h
  | cons z zs ih =>
    cases ds with
    | nil => simp at h
    | cons d ds =>
      rw [List.map_cons, List.map_cons] at h
      injection h with h1 h2
      unfold forL
      rw [h1]
      show (body () (g z) >>= _) = _
      rw [hb z List.mem_cons_self, pure_bind]
      exact ih h2 fun y m => hb y (List.mem_cons_of_mem _ m)
theorem while_ok {C : Type} {mc : C → PM Bool} {mb : C → PM C} (I : C → Prop) (μ : C → Nat) (Q : C → Prop)
    (h : ∀ c, I c → (mc c = pure false ∧ Q c) ∨ (mc c = pure true ∧ ∃ c', mb c = pure c' ∧ I c' ∧ μ c' < μ c)) : ∀ n c, I c → μ c < n → ∃ c', whileS mc mb n c = pure c' ∧ Q c'
  | 0, c, _, hn => absurd hn (by omega)
  | n + 1, c, hi, hn => by
    rcases h c hi with ⟨e, q⟩ | ⟨e, c', e2, i2, lt⟩
    · exact ⟨c, by unfold whileS; rw [e, pure_bind]; rfl, q⟩
    · obtain ⟨c2, e3, q⟩ := while_ok I μ Q h n c' i2 (by omega)
      exact ⟨c2, by unfold whileS; rw [e, pure_bind, if_pos rfl, e2, pure_bind, e3], q⟩
theorem while_then {C β : Type} {mc : C → PM Bool} {mb : C → PM C} {kk : C → PM β} {v : PM β} {n : Nat} {c : C} (I : C → Prop) (μ : C → Nat) (Q : C → Prop)
    (h : ∀ c, I c → (mc c = pure false ∧ Q c) ∨ (mc c = pure true ∧ ∃ c', mb c = pure c' ∧ I c' ∧ μ c' < μ c)) (hi : I c) (hn : μ c < n) (hk : ∀ c, Q c → kk c = v) : (whileS mc mb n c >>= kk) = v := by
  obtain ⟨c', e, q⟩ := while_ok I μ Q h n c hi hn
  rw [e, pure_bind, hk c' q]
/-- pairs of an enumerate -/
theorem pairs_dec : ∀ (k : Nat) (xs : List D), (pairsFrom k xs).map dec2 = (xs.zipIdx k).map fun z => some (D.int z.2, z.1)
  | _, [] => rfl
  | k, x :: xs => by
    unfold pairsFrom
    rw [List.map_cons, pairs_dec (k + 1) xs, List.zipIdx_cons, List.map_cons]
    rfl
theorem pairs_len : ∀ (k : Nat) (xs : List D), (pairsFrom k xs).length = xs.length
  | _, [] => rfl
  | k, x :: xs => by
    unfold pairsFrom
    rw [List.length_cons, pairs_len (k + 1) xs, List.length_cons]
theorem asc_len : ∀ {l : List Int} {a b : Int}, l.Pairwise (· < ·) → (∀ x ∈ l, a ≤ x ∧ x < b) → l.length ≤ (b - a).toNat
  | [], _, _, _, _ => Nat.zero_le _
  | x :: r, a, b, h, hb => by
    have q := List.pairwise_cons.mp h
    have z := hb x List.mem_cons_self
    have ih := asc_len (l := r) (a := x + 1) (b := b) q.2 fun y m => ⟨by have := q.1 y m; omega, (hb y (List.mem_cons_of_mem _ m)).2⟩
    rw [List.length_cons]
    omega
theorem nodup_len {l : List Int} {n : Nat} (h : l.Nodup) (hb : ∀ x ∈ l, 0 ≤ x ∧ x < n) : l.length ≤ n := by
  have z := asc_len (a := 0) (b := n) (sortI_nodup h) fun x m => hb x ((sortI_perm l).mem_iff.mp m)
  rw [(sortI_perm l).length_eq] at z
  omega
theorem scal_ints (ns : List Int) : scalL (lI ns) = pure (ns.map D.int) := by
  show (if (ns.map D.int).all scalD = true then pure (ns.map D.int) else bad : PM (List D)) = _
  exact if_pos (List.all_eq_true.mpr fun x m => by
    obtain ⟨n, _, rfl⟩ := List.mem_map.mp m
    rfl)
theorem forS_inv {C : Type} {body : C → D → PM C} (P : Nat → C → Prop) : ∀ {ns : List Int} {k : Nat} {c : C}, P k c → (∀ i n c, ns[i]? = some n → P (k + i) c → ∃ c', body c (.int n) = pure c' ∧ P (k + i + 1) c') → ∃ c', forS dec1 body (ns.map D.int) c = pure c' ∧ P (k + ns.length) c'
  | [], k, c, h, _ => ⟨c, rfl, h⟩
  | n :: ns, k, c, h, hb => by
    obtain ⟨c1, e1, h1⟩ := hb 0 n c rfl h
    obtain ⟨c2, e2, h2⟩ := forS_inv P (ns := ns) (k := k + 1) (c := c1) h1 fun i m c hi hp => by
      have z := hb (i + 1) m c hi (by rw [show k + (i + 1) = k + 1 + i by omega]; exact hp)
      rw [show k + (i + 1) + 1 = k + 1 + i + 1 by omega] at z
      exact z
    refine ⟨c2, ?_, by rw [List.length_cons, show k + (ns.length + 1) = k + 1 + ns.length by omega]; exact h2⟩
    rw [List.map_cons]
    show (body c (.int n) >>= forS dec1 body (ns.map D.int)) = _
    rw [e1, pure_bind, e2]
theorem forS_then {C β : Type} {body : C → D → PM C} {kk : C → PM β} {v : PM β} {ns : List Int} {c : C} (P : Nat → C → Prop) (h0 : P 0 c) (hb : ∀ i n c, ns[i]? = some n → P i c → ∃ c', body c (.int n) = pure c' ∧ P (i + 1) c') (hk : ∀ c, P ns.length c → kk c = v) :
    (forS dec1 body (ns.map D.int) c >>= kk) = v := by
  obtain ⟨c', e, q⟩ := forS_inv P (k := 0) h0 fun i n c e h => by
    rw [Nat.zero_add] at h ⊢
    exact hb i n c e h
  rw [Nat.zero_add] at q
  rw [e, pure_bind, hk c' q]
theorem forS_ex {C β : Type} {body : C → D → PM C} {kk : C → PM β} {ns : List Int} {c : C} (R : PM β → Prop) (P : Nat → C → Prop) (h0 : P 0 c) (hb : ∀ i n c, ns[i]? = some n → P i c → ∃ c', body c (.int n) = pure c' ∧ P (i + 1) c') (hk : ∀ c, P ns.length c → R (kk c)) :
    R (forS dec1 body (ns.map D.int) c >>= kk) := by
  obtain ⟨c', e, q⟩ := forS_inv P (k := 0) h0 fun i n c e h => by
    rw [Nat.zero_add] at h ⊢
    exact hb i n c e h
  rw [Nat.zero_add] at q
  rw [e, pure_bind]
  exact hk c' q
theorem enum_lst (xs : List D) : enumF [.lst xs] = pure (pairsFrom 0 xs) := rfl
theorem enum_tup (xs : List D) : enumF [.tup xs] = pure (pairsFrom 0 xs) := rfl
theorem forL_go {body : Unit → D → PM (Lp Unit)} {ns : List Int} (h : ∀ n ∈ ns, body () (.int n) = pure (.go ())) : forL dec1 body (ns.map D.int) () = pure (.go ()) := by
  induction ns with
  | nil => rfl
  | cons n ns ih =>
    rw [List.map_cons]
    show (body () (.int n) >>= _) = _
    rw [h n List.mem_cons_self, pure_bind]
    exact ih fun m hm => h m (List.mem_cons_of_mem _ hm)

/-! ### with the pen: what surely holds after -/
def Ok {α : Type} (m : PM α) (s : List Int) (Q : α → List Int → Prop) : Prop := ∃ a s', m s = .ok a s' ∧ Q a s'
section
variable {α β : Type} {m : PM α} {s : List Int} {Q : α → List Int → Prop}
theorem Ok.pure {a : α} (h : Q a s) : Ok (Pure.pure a) s Q := ⟨a, s, rfl, h⟩
theorem Ok.bind {f : α → PM β} {Q : β → List Int → Prop} (h : Ok m s fun a s' => Ok (f a) s' Q) : Ok (m >>= f) s Q := by
  obtain ⟨a, s1, e, b, s2, e2, q⟩ := h
  exact ⟨b, s2, by rw [PM.bind_def, e]; exact e2, q⟩
theorem Ok.imp {Q' : α → List Int → Prop} (h : Ok m s Q) (i : ∀ a s', Q a s' → Q' a s') : Ok m s Q' := by
  obtain ⟨a, s1, e, q⟩ := h
  exact ⟨a, s1, e, i _ _ q⟩
theorem Ok.noExc (h : Ok m s Q) : Ok (noExc m) s Q := by
  obtain ⟨a, s1, e, q⟩ := h
  exact ⟨a, s1, by unfold EV.noExc; rw [e], q⟩
theorem Ok.run0 (h : Ok m [] fun a _ => Q a s) : Ok (run0 m) s Q := by
  obtain ⟨a, s1, e, q⟩ := h
  exact ⟨a, s, by unfold EV.run0; rw [e], q⟩
theorem Ok.withPen {ns : List Int} (h : Ok m ns fun a _ => Q a s) : Ok (withPen ns m) s Q := by
  obtain ⟨a, s1, e, q⟩ := h
  exact ⟨a, s, by unfold EV.withPen; rw [e], q⟩
/-- a comprehension: each step keeps I; what comes out satisfies F at a name that passed -/
theorem Ok.comp {c : D → PM Bool} {e : D → PM D} {I : Nat → List Int → Prop} {ns : List Int} {F : List Int → Prop} {k t : Nat} {s : List Int} (hl : ns.length ≤ lim) (h0 : I k s)
    (hc : ∀ n ∈ ns, ∀ k s, I k s → Ok (c (.int n)) s fun _ s' => I (k + t) s') (he : ∀ n ∈ ns, e (.int n) = Pure.pure (.int n)) :
    Ok (compL dec1 c e (ns.map D.int)) s fun r s' => I (k + ns.length * t) s' ∧ ∃ ms : List Int, ms.Sublist ns ∧ r = ms.map D.int := by
  unfold compL
  rw [if_pos (by rw [List.length_map]; exact hl)]
  clear hl
  induction ns generalizing k s with
  | nil => exact ⟨[], s, rfl, by simpa using h0, [], .slnil, rfl⟩
  | cons n ns ih =>
    rw [List.map_cons]
    unfold compG
    show Ok (EV.noExc (c (.int n)) >>= _) s _
    refine Ok.bind ((hc n List.mem_cons_self k s h0).noExc.imp fun b s1 h1 => ?_)
    have hk : k + t + ns.length * t = k + (n :: ns).length * t := by
      rw [List.length_cons, Nat.succ_mul]
      omega
    cases b with
    | true =>
      rw [if_pos rfl, he n List.mem_cons_self, noExc_pure, pure_bind]
      refine Ok.bind ((ih h1 (fun m hm => hc m (List.mem_cons_of_mem _ hm)) (fun m hm => he m (List.mem_cons_of_mem _ hm))).imp fun r s2 ⟨h2, ms, hs, er⟩ => ?_)
      refine Ok.pure ⟨by rw [← hk]; exact h2, n :: ms, hs.cons₂ n, by rw [er]; rfl⟩
    | false =>
      rw [if_neg (by decide)]
      refine (ih h1 (fun m hm => hc m (List.mem_cons_of_mem _ hm)) (fun m hm => he m (List.mem_cons_of_mem _ hm))).imp fun r s2 ⟨h2, ms, hs, er⟩ => ?_
      exact ⟨by rw [← hk]; exact h2, ms, hs.cons n, er⟩
theorem Ok.forS {C : Type} {body : C → D → PM C} (P : Nat → C → List Int → Prop) : ∀ {ns : List Int} {k : Nat} {c : C} {s : List Int}, P k c s → (∀ i n c s, ns[i]? = some n → P (k + i) c s → Ok (body c (.int n)) s fun c' s' => P (k + i + 1) c' s') →
    Ok (EV.forS dec1 body (ns.map D.int) c) s fun c' s' => P (k + ns.length) c' s'
  | [], k, c, s, h, _ => Ok.pure h
  | n :: ns, k, c, s, h, hb => by
    rw [List.map_cons]
    show Ok (body c (.int n) >>= EV.forS dec1 body (ns.map D.int)) s _
    refine Ok.bind ((hb 0 n c s rfl h).imp fun c1 s1 h1 => ?_)
    refine (Ok.forS P (ns := ns) (k := k + 1) h1 fun i m c s hi hp => ?_).imp fun c2 s2 h2 => by
      rw [List.length_cons, show k + (ns.length + 1) = k + 1 + ns.length by omega]
      exact h2
    have z := hb (i + 1) m c s hi (by rw [show k + (i + 1) = k + 1 + i by omega]; exact hp)
    rw [show k + (i + 1) + 1 = k + 1 + i + 1 by omega] at z
    exact z
theorem Ok.forL {body : Unit → D → PM (Lp Unit)} (I : Nat → List Int → Prop) {t : Nat} : ∀ {ns : List Int} {k : Nat} {s : List Int}, I k s → (∀ n ∈ ns, ∀ j s, k ≤ j → j ≤ k + ns.length * t → I j s → Ok (body () (.int n)) s fun r s' => r = .go () ∧ I (j + t) s') →
    Ok (EV.forL dec1 body (ns.map D.int) ()) s fun r s' => r = .go () ∧ I (k + ns.length * t) s'
  | [], k, s, h, _ => Ok.pure ⟨rfl, by simpa using h⟩
  | n :: ns, k, s, h, hb => by
    have hk : k + t + ns.length * t = k + (n :: ns).length * t := by
      rw [List.length_cons, Nat.succ_mul]
      omega
    rw [List.map_cons]
    show Ok (body () (.int n) >>= _) s _
    refine Ok.bind ((hb n List.mem_cons_self k s (Nat.le_refl _) (by omega) h).imp fun r s1 ⟨er, h1⟩ => ?_)
    subst er
    refine (Ok.forL I (ns := ns) (k := k + t) h1 fun m hm j s h1 h2 hi => hb m (List.mem_cons_of_mem _ hm) j s (by omega) (by omega) hi).imp fun r s2 ⟨e2, h2⟩ => ?_
    exact ⟨e2, by rw [← hk]; exact h2⟩
end
end EV

namespace Lw
open PySem EV
def d_WORDS : D := .tup ((["alarm", "quiet", "unseen"] : List Str).map .str)
def f_law_draw (a0 : D) : PM D := ((((((pure (D.int 0)) >>= penGet)) >>= fun x1 => (pure (D.int 0)) >>= fun x2 => gtD x1 x2 >>= asB)) >>= fun b3 => if b3 = true then ((((((pure (D.int 0)) >>= penGet)) >>= fun x5 => (pure a0) >>= fun x6 => modD x5 x6)) >>= fun v4 => ((((((pure (D.int 0)) >>= penGet)) >>= fun x7 => (pure a0) >>= fun x8 => fdivD x7 x8)) >>= fun d9 => (pure (D.int 0)) >>= fun i10 => penSet i10 d9 >>= fun _ => ((pure v4) >>= fun d11 => pure (id d11)))) else ((((((pure (D.int 2)) >>= penGet)) >>= fun x12 => (pure (D.int 1)) >>= fun x13 => addD x12 x13)) >>= fun d14 => (pure (D.int 2)) >>= fun i15 => penSet i15 d14 >>= fun _ => ((((((((((((pure (D.int 1)) >>= penGet)) >>= fun x16 => (pure (D.int 48271)) >>= fun x17 => mulD x16 x17)) >>= fun x20 => (((pure (D.int 1009)) >>= fun x18 => (((pure (D.int 2)) >>= penGet)) >>= fun x19 => mulD x18 x19)) >>= fun x21 => addD x20 x21)) >>= fun x22 => (pure (D.int 7)) >>= fun x23 => addD x22 x23)) >>= fun x24 => (pure (D.int 2147483647)) >>= fun x25 => modD x24 x25)) >>= fun d26 => (pure (D.int 1)) >>= fun i27 => penSet i27 d26 >>= fun _ => ((((((((((((pure (D.int 1)) >>= penGet)) >>= fun x29 => (((pure (D.int 1)) >>= penGet)) >>= fun x30 => mulD x29 x30)) >>= fun x33 => (((pure (D.int 69621)) >>= fun x31 => (((pure (D.int 1)) >>= penGet)) >>= fun x32 => mulD x31 x32)) >>= fun x34 => addD x33 x34)) >>= fun x35 => (pure (D.int 11)) >>= fun x36 => addD x35 x36)) >>= fun x37 => (pure (D.int 2147483629)) >>= fun x38 => modD x37 x38)) >>= fun v28 => ((((((((pure v28) >>= fun x40 => (pure v28) >>= fun x41 => mulD x40 x41)) >>= fun x44 => (((pure (D.int 40014)) >>= fun x42 => (pure v28) >>= fun x43 => mulD x42 x43)) >>= fun x45 => addD x44 x45)) >>= fun x46 => (pure (D.int 2147483587)) >>= fun x47 => modD x46 x47)) >>= fun v39 => ((((((pure v39) >>= fun x48 => (pure (D.int 16)) >>= fun x49 => fdivD x48 x49)) >>= fun x50 => (pure a0) >>= fun x51 => modD x50 x51)) >>= fun d52 => pure (id d52)))))))
def f_law_net_of (a0 : D) : PM D := ((((((pure (D.int 4)) >>= fun d3 => (pure []) >>= fun s4 => pure (d3 :: s4)) >>= fn1 f_law_draw)) >>= fun d7 => ((((pure []) >>= okL)) >>= fun d5 => (pure []) >>= fun s6 => pure (Mv.o d5 :: s6)) >>= fun s8 => pure (Mv.v d7 :: s8)) >>= two2 (kVO fun v9 xs10 => ((((pure a0) >>= fun d11 => (pure []) >>= fun s12 => pure (d11 :: s12)) >>= rangeF1) >>= fun l15 => forS dec1 (fun (c13 : List D) z14 => ((((((pure a0) >>= fun d17 => (pure []) >>= fun s18 => pure (d17 :: s18)) >>= rangeF1) >>= fun l36 => compL dec1 (fun z19 => ((((((((((pure (D.int 5)) >>= fun d28 => ((pure (D.int 4)) >>= fun d26 => ((((pure (D.int 2)) >>= fun x22 => (pure a0) >>= fun x23 => mulD x22 x23)) >>= fun d24 => ((pure (D.int 2)) >>= fun d20 => (pure []) >>= fun s21 => pure (d20 :: s21)) >>= fun s25 => pure (d24 :: s25)) >>= fun s27 => pure (d26 :: s27)) >>= fun s29 => pure (d28 :: s29)) >>= mkL)) >>= fun x30 => (pure v9) >>= fun x31 => getD x30 x31)) >>= fun d32 => (pure []) >>= fun s33 => pure (d32 :: s33)) >>= fn1 f_law_draw)) >>= fun x34 => (pure (D.int 0)) >>= fun x35 => eqD x34 x35 >>= asB)) (fun z19 => pure z19) l36) >>= fun xs16 => ((((pure v9) >>= fun x37 => (pure (D.int 0)) >>= fun x38 => eqD x37 x38 >>= asB)) >>= fun b40 => (if b40 = true then (((((((pure z14) >>= fun x42 => (pure (D.int 1)) >>= fun x43 => addD x42 x43)) >>= fun x44 => (pure a0) >>= fun x45 => modD x44 x45)) >>= fun d46 => okLen (xs16 ++ [d46]) >>= fun _ => pure (xs16 ++ [d46])) : PM (List D)) else pure xs16) >>= fun j41 => ((((((pure v9) >>= fun x47 => (pure (D.int 2)) >>= fun x48 => eqD x47 x48 >>= asB)) >>= fun b51 => if b51 = true then ((pure z14) >>= fun x49 => (pure (D.int 0)) >>= fun x50 => gtD x49 x50 >>= asB) else pure false)) >>= fun b53 => (if b53 = true then ((((((pure z14) >>= fun d55 => (pure []) >>= fun s56 => pure (d55 :: s56)) >>= fn1 f_law_draw)) >>= fun d57 => okLen (j41 ++ [d57]) >>= fun _ => pure (j41 ++ [d57])) : PM (List D)) else pure j41) >>= fun j54 => ((((((((((pure (D.lst j54)) >>= itemsD) >>= fun l61 => compL dec1 (fun z58 => ((pure z58) >>= fun x59 => (pure z14) >>= fun x60 => neD x59 x60 >>= asB)) (fun z58 => pure z58) l61 >>= fun r62 => pure (D.lst r62))) >>= sortSetD)) >>= fun d63 => (pure []) >>= fun s64 => pure (d63 :: s64)) >>= tupleF)) >>= fun d65 => okLen (c13 ++ [d65]) >>= fun _ => pure (c13 ++ [d65]))))) : PM (List D))) l15 xs10 >>= fun c13 => (((((pure (D.lst c13)) >>= fun d66 => (pure []) >>= fun s67 => pure (d66 :: s67)) >>= tupleF)) >>= fun d68 => pure (id d68)))))
def f_law_choose (a0 : D) : PM D := ((((pure a0) >>= fun x5 => (((((((pure a0) >>= fun d1 => (pure []) >>= fun s2 => pure (d1 :: s2)) >>= lenF)) >>= fun d3 => (pure []) >>= fun s4 => pure (d3 :: s4)) >>= fn1 f_law_draw)) >>= fun x6 => getD x5 x6)) >>= fun d7 => pure (id d7))
def f_law_report (a0 a1 : D) : PM D := ((((((pure (D.int 6)) >>= fun d9 => (pure []) >>= fun s10 => pure (d9 :: s10)) >>= fn1 f_law_draw)) >>= fun d11 => (((((((pure a1) >>= fun d3 => (pure []) >>= fun s4 => pure (d3 :: s4)) >>= fn1 f_law_choose)) >>= fun x5 => (pure (D.int 1)) >>= fun x6 => getD x5 x6)) >>= fun d7 => (pure []) >>= fun s8 => pure (d7 :: s8)) >>= fun s12 => pure (d11 :: s12)) >>= two fun v1 v2 => ((((pure v1) >>= fun x13 => (pure (D.int 0)) >>= fun x14 => eqD x13 x14 >>= asB)) >>= fun b15 => if b15 = true then ((((((((pure a0) >>= itemsD) >>= fun l25 => compL dec1 (fun z16 => pure true) (fun z16 => ((((((pure (D.str "alarm")) >>= fun d21 => ((pure (D.str "quiet")) >>= fun d19 => ((pure (D.str "unseen")) >>= fun d17 => (pure []) >>= fun s18 => pure (d17 :: s18)) >>= fun s20 => pure (d19 :: s20)) >>= fun s22 => pure (d21 :: s22)) >>= mkL)) >>= fun d23 => (pure []) >>= fun s24 => pure (d23 :: s24)) >>= fn1 f_law_choose)) l25 >>= fun r26 => pure (D.lst r26))) >>= fun d27 => (pure []) >>= fun s28 => pure (d27 :: s28)) >>= tupleF)) >>= fun d29 => pure (id d29)) else (((pure []) >>= okL) >>= fun xs30 => (((((((pure a0) >>= fun d31 => (pure []) >>= fun s32 => pure (d31 :: s32)) >>= lenF)) >>= fun d33 => (pure []) >>= fun s34 => pure (d33 :: s34)) >>= rangeF1) >>= fun l37 => forS dec1 (fun (c35 : List D) z36 => (((((((pure z36) >>= fun x39 => (pure v2) >>= fun x40 => inD x39 x40 >>= asB)) >>= fun b41 => if b41 = true then pure (D.str "alarm") else pure (D.str "quiet"))) >>= fun v38 => (((((((((pure (D.int 5)) >>= fun d42 => (pure []) >>= fun s43 => pure (d42 :: s43)) >>= fn1 f_law_draw)) >>= fun x44 => (pure v1) >>= fun x45 => ltD x44 x45 >>= asB)) >>= fun b46 => if b46 = true then pure v38 else pure (D.str "unseen"))) >>= fun d47 => okLen (c35 ++ [d47]) >>= fun _ => pure (c35 ++ [d47]))) : PM (List D))) l37 xs30 >>= fun c35 => (((((pure (D.lst c35)) >>= fun d48 => (pure []) >>= fun s49 => pure (d48 :: s49)) >>= tupleF)) >>= fun d50 => pure (id d50))))))
def f_law_meets (a0 a1 : D) : PM D := (((((((pure a0) >>= itemsD) >>= fun l4 => compL dec1 (fun z1 => ((pure z1) >>= fun x2 => (pure a1) >>= fun x3 => inD x2 x3 >>= asB)) (fun z1 => pure (D.int 1)) l4 >>= fun r5 => pure (D.lst r5))) >>= fun x6 => (((pure []) >>= mkL)) >>= fun x7 => neD x6 x7)) >>= fun d8 => pure (id d8))
def f_law_reaches (a0 : D) : PM D := (((((pure a0) >>= fun d2 => (pure []) >>= fun s3 => pure (d2 :: s3)) >>= enumF) >>= fun l11 => compL dec2 (fun z4 => pure true) (fun z4 => (((((pure z4.1) >>= fun d5 => (pure []) >>= fun s6 => pure (d5 :: s6)) >>= mkL)) >>= fun x9 => ((((pure z4.2) >>= fun d7 => (pure []) >>= fun s8 => pure (d7 :: s8)) >>= listF)) >>= fun x10 => addD x9 x10)) l11 >>= fun r12 => pure (D.lst r12)) >>= fun v1 => (((((((pure a0) >>= fun d13 => (pure []) >>= fun s14 => pure (d13 :: s14)) >>= lenF)) >>= fun d15 => (pure []) >>= fun s16 => pure (d15 :: s16)) >>= rangeF1) >>= fun l19 => forS dec1 (fun (c17 : D) z18 => ((((pure []) >>= okL) >>= fun xs20 => (((pure c17) >>= itemsD) >>= fun l23 => forS dec1 (fun (c21 : List D) z22 => ((((pure []) >>= okL) >>= fun xs24 => (((pure z22) >>= itemsD) >>= fun l27 => forS dec1 (fun (c25 : List D) z26 => (((((pure c17) >>= fun x28 => (pure z26) >>= fun x29 => getD x28 x29)) >>= lstOf >>= fun ys30 => okLen (c25 ++ ys30) >>= fun _ => pure (c25 ++ ys30)) : PM (List D))) l27 xs24 >>= fun c25 => ((((pure (D.lst c25)) >>= sortSetD)) >>= fun d31 => okLen (c21 ++ [d31]) >>= fun _ => pure (c21 ++ [d31])))) : PM (List D))) l23 xs20 >>= fun c21 => ((pure (D.lst c21)) >>= fun v32 => pure v32))) : PM (D))) l19 v1 >>= fun c17 => ((pure c17) >>= fun d33 => pure (id d33))))
def f_law_sets (a0 : D) : PM D := (((((((pure []) >>= mkT)) >>= fun d2 => (pure []) >>= fun s3 => pure (d2 :: s3)) >>= mkL)) >>= fun v1 => (((pure a0) >>= itemsD) >>= fun l6 => forS dec1 (fun (c4 : D) z5 => (((((pure c4) >>= fun x15 => ((((pure c4) >>= itemsD) >>= fun l13 => compL dec1 (fun z8 => pure true) (fun z8 => ((pure z8) >>= fun x11 => ((((pure z5) >>= fun d9 => (pure []) >>= fun s10 => pure (d9 :: s10)) >>= mkT)) >>= fun x12 => addD x11 x12)) l13 >>= fun r14 => pure (D.lst r14))) >>= fun x16 => addD x15 x16)) >>= fun v7 => pure v7) : PM (D))) l6 v1 >>= fun c4 => (((((pure c4) >>= fun d17 => (pure []) >>= fun s18 => pure (d17 :: s18)) >>= sortedG)) >>= fun d19 => pure (id d19))))
def f_law_table (a0 : D) : PM D := ((((((pure a0) >>= fun d3 => (pure []) >>= fun s4 => pure (d3 :: s4)) >>= fun s5 => run0 (fn1 f_law_reaches s5))) >>= fun d8 => ((((pure []) >>= okL)) >>= fun d6 => (pure []) >>= fun s7 => pure (Mv.o d6 :: s7)) >>= fun s9 => pure (Mv.v d8 :: s9)) >>= two2 (kVO fun v10 xs11 => (((((((((((pure a0) >>= fun d12 => (pure []) >>= fun s13 => pure (d12 :: s13)) >>= lenF)) >>= fun d14 => rg1 d14 >>= mkL)) >>= fun d15 => (pure []) >>= fun s16 => pure (d15 :: s16)) >>= fun s17 => run0 (fn1 f_law_sets s17))) >>= itemsD) >>= fun l20 => forS dec1 (fun (c18 : List D) z19 => ((((((pure z19) >>= fun d33 => ((((((pure v10) >>= fun d21 => (pure []) >>= fun s22 => pure (d21 :: s22)) >>= enumF) >>= fun l29 => compL dec2 (fun z23 => (((((pure z23.2) >>= fun d26 => ((pure z19) >>= fun d24 => (pure []) >>= fun s25 => pure (d24 :: s25)) >>= fun s27 => pure (d26 :: s27)) >>= fun s28 => run0 (fn2 f_law_meets s28))) >>= asB)) (fun z23 => pure z23.1) l29 >>= fun r30 => pure (D.lst r30))) >>= fun d31 => (pure []) >>= fun s32 => pure (d31 :: s32)) >>= fun s34 => pure (d33 :: s34)) >>= mkT)) >>= fun d35 => okLen (c18 ++ [d35]) >>= fun _ => pure (c18 ++ [d35])) : PM (List D))) l20 xs11 >>= fun c18 => ((pure (D.lst c18)) >>= fun d36 => pure (id d36)))))
def f_law_case (a0 : D) : PM D := (((((pure a0) >>= fun d2 => (pure []) >>= fun s3 => pure (d2 :: s3)) >>= fn1 f_law_net_of)) >>= fun v1 => (((((pure v1) >>= fun d5 => (pure []) >>= fun s6 => pure (d5 :: s6)) >>= fun s7 => run0 (fn1 f_law_table s7))) >>= fun v4 => (((((pure v1) >>= fun d16 => ((pure v4) >>= fun d14 => (((((pure v1) >>= fun d10 => ((pure v4) >>= fun d8 => (pure []) >>= fun s9 => pure (d8 :: s9)) >>= fun s11 => pure (d10 :: s11)) >>= fn2 f_law_report)) >>= fun d12 => (pure []) >>= fun s13 => pure (d12 :: s13)) >>= fun s15 => pure (d14 :: s15)) >>= fun s17 => pure (d16 :: s17)) >>= mkT)) >>= fun d18 => pure (id d18))))
def f_law_cell (ns : List Int) (a0 : D) : PM D := ((((pure a0) >>= fun x1 => (pure (D.int ns.length)) >>= fun x2 => ltD x1 x2 >>= asB)) >>= fun b3 => if b3 = true then ((((pure a0) >>= scrGet ns)) >>= fun d4 => pure (id d4)) else ((pure (D.int 0)) >>= fun d5 => pure (id d5)))
def f_law_does (a0 a1 : D) : PM D := ((((pure a0) >>= fun d1 => (pure []) >>= fun s2 => pure (d1 :: s2)) >>= enumF) >>= fun l5 => forL dec2 (fun (c3 : Unit) z4 => (((((((((pure z4.2) >>= fun x6 => (pure (D.str "alarm")) >>= fun x7 => eqD x6 x7 >>= asB)) >>= fun b10 => if b10 = true then ((pure z4.1) >>= fun x8 => (pure a1) >>= fun x9 => notInD x8 x9 >>= asB) else pure false)) >>= fun b16 => if b16 = true then pure true else ((((pure z4.2) >>= fun x11 => (pure (D.str "quiet")) >>= fun x12 => eqD x11 x12 >>= asB)) >>= fun b15 => if b15 = true then ((pure z4.1) >>= fun x13 => (pure a1) >>= fun x14 => inD x13 x14 >>= asB) else pure false))) >>= fun b17 => if b17 = true then ((pure (D.bl false)) >>= fun d18 => pure (Lp.ret d18)) else pure (.go ())) : PM (Lp (Unit)))) l5 () >>= lpK id fun c3 => ((pure (D.bl true)) >>= fun d19 => pure (id d19)))
def f_law_halves (a0 a1 a2 : D) : PM D := ((((pure a0) >>= itemsD) >>= fun l10 => compL dec2 (fun z2 => (((((pure a1) >>= fun d5 => ((pure z2.2) >>= fun d3 => (pure []) >>= fun s4 => pure (d3 :: s4)) >>= fun s6 => pure (d5 :: s6)) >>= fun s7 => run0 (fn2 f_law_does s7))) >>= asB)) (fun z2 => ((pure a2) >>= fun x8 => (pure z2.2) >>= fun x9 => inD x8 x9)) l10 >>= fun r11 => pure (D.lst r11)) >>= fun v1 => (((((((pure v1) >>= fun d17 => lstOf d17 >>= fun l18 => (pure (D.bl true)) >>= fun y19 => countD l18 y19)) >>= fun d20 => ((((pure v1) >>= fun d12 => lstOf d12 >>= fun l13 => (pure (D.bl false)) >>= fun y14 => countD l13 y14)) >>= fun d15 => (pure []) >>= fun s16 => pure (d15 :: s16)) >>= fun s21 => pure (d20 :: s21)) >>= mkT)) >>= fun d22 => pure (id d22)))
def f_law_is_equal (a0 a1 : D) : PM D := (((((((pure a0) >>= fun d1 => (pure []) >>= fun s2 => pure (d1 :: s2)) >>= reprF)) >>= fun x5 => ((((pure a1) >>= fun d3 => (pure []) >>= fun s4 => pure (d3 :: s4)) >>= reprF)) >>= fun x6 => eqD x5 x6)) >>= fun d7 => pure (id d7))
def f_law_source (a0 : D) : PM (List Int) := (((((pure (D.int 0)) >>= fun d15 => ((((pure a0) >>= fun x11 => (((pure (D.int 10)) >>= fun x9 => (pure (D.int 18)) >>= fun x10 => powD x9 x10)) >>= fun x12 => subD x11 x12)) >>= fun d13 => (pure []) >>= fun s14 => pure (d13 :: s14)) >>= fun s16 => pure (d15 :: s16)) >>= maxF)) >>= fun d17 => ((((((pure a0) >>= fun x3 => (pure (D.int 2147483629)) >>= fun x4 => modD x3 x4)) >>= fun x5 => (pure (D.int 1)) >>= fun x6 => addD x5 x6)) >>= fun d7 => ((pure (D.int 0)) >>= fun d1 => (pure []) >>= fun s2 => pure (d1 :: s2)) >>= fun s8 => pure (d7 :: s8)) >>= fun s18 => pure (d17 :: s18)) >>= asInts
def f_do_meet (a0 a1 : D) : PM D := ((((((((pure a0) >>= itemsD) >>= fun l4 => compL dec1 (fun z1 => pure true) (fun z1 => ((pure z1) >>= fun x2 => (pure a1) >>= fun x3 => inD x2 x3)) l4 >>= fun r5 => pure (D.lst r5))) >>= fun d6 => (pure []) >>= fun s7 => pure (d6 :: s7)) >>= anyF)) >>= fun d8 => pure (id d8))
def f_reach_of (a0 a1 : D) : PM D := ((((pure a1) >>= fun d2 => (pure []) >>= fun s3 => pure (d2 :: s3)) >>= okL) >>= fun xs1 => ((pure (D.int 0)) >>= fun v4 => (whileS (fun (c5 : D × List D) => (noExc (((pure c5.1) >>= fun x8 => ((((pure (D.lst c5.2)) >>= fun d6 => (pure []) >>= fun s7 => pure (d6 :: s7)) >>= lenF)) >>= fun x9 => ltD x8 x9 >>= asB)))) (fun (c5 : D × List D) => ((noExc ((((((pure a0) >>= fun x12 => (((pure (D.lst c5.2)) >>= fun x10 => (pure c5.1) >>= fun x11 => getD x10 x11)) >>= fun x13 => getD x12 x13)) >>= itemsD) >>= fun l17 => compL dec1 (fun z14 => ((pure z14) >>= fun x15 => (pure (D.lst c5.2)) >>= fun x16 => notInD x15 x16 >>= asB)) (fun z14 => pure z14) l17 >>= fun r18 => pure (D.lst r18))) >>= scalL >>= fun ys19 => okLen (c5.2 ++ ys19) >>= fun _ => ((((pure c5.1) >>= fun x21 => (pure (D.int 1)) >>= fun x22 => addD x21 x22)) >>= fun v20 => pure (v20, (c5.2 ++ ys19)))) : PM (D × List D))) 20 (v4, xs1) >>= fun c5 => ((((((((pure (D.lst c5.2)) >>= fun d23 => (pure []) >>= fun s24 => pure (d23 :: s24)) >>= sortedG)) >>= fun d25 => (pure []) >>= fun s26 => pure (d25 :: s26)) >>= tupleF)) >>= fun d27 => pure (id d27)))))
def f_all_reaches (a0 : D) : PM D := (((((((((pure a0) >>= fun d1 => (pure []) >>= fun s2 => pure (d1 :: s2)) >>= lenF)) >>= fun d3 => (pure []) >>= fun s4 => pure (d3 :: s4)) >>= rangeF1) >>= fun l11 => compL dec1 (fun z5 => pure true) (fun z5 => (((pure a0) >>= fun d8 => ((pure z5) >>= fun d6 => (pure []) >>= fun s7 => pure (d6 :: s7)) >>= fun s9 => pure (d8 :: s9)) >>= fun s10 => run0 (fn2 f_reach_of s10))) l11 >>= fun r12 => pure (D.lst r12))) >>= fun d13 => pure (id d13))
def f_with_word (a0 a1 : D) : PM D := (((((((((pure a0) >>= fun d1 => (pure []) >>= fun s2 => pure (d1 :: s2)) >>= enumF) >>= fun l6 => compL dec2 (fun z3 => ((pure z3.2) >>= fun x4 => (pure a1) >>= fun x5 => eqD x4 x5 >>= asB)) (fun z3 => pure z3.1) l6 >>= fun r7 => pure (D.lst r7))) >>= fun d8 => (pure []) >>= fun s9 => pure (d8 :: s9)) >>= tupleF)) >>= fun d10 => pure (id d10))
def f_candidates_of (a0 a1 : D) : PM D := (((((pure a0) >>= fun d2 => (pure []) >>= fun s3 => pure (d2 :: s3)) >>= fun s4 => run0 (fn1 f_all_reaches s4))) >>= fun v1 => (((((pure a1) >>= fun d8 => ((pure (D.str "quiet")) >>= fun d6 => (pure []) >>= fun s7 => pure (d6 :: s7)) >>= fun s9 => pure (d8 :: s9)) >>= fun s10 => run0 (fn2 f_with_word s10))) >>= fun v5 => ((((((((((((pure a0) >>= fun d11 => (pure []) >>= fun s12 => pure (d11 :: s12)) >>= lenF)) >>= fun d13 => (pure []) >>= fun s14 => pure (d13 :: s14)) >>= rangeF1) >>= fun l26 => compL dec1 (fun z15 => ((((((((((pure v5) >>= itemsD) >>= fun l21 => compL dec1 (fun z16 => pure true) (fun z16 => ((pure z15) >>= fun x19 => (((pure v1) >>= fun x17 => (pure z16) >>= fun x18 => getD x17 x18)) >>= fun x20 => inD x19 x20)) l21 >>= fun r22 => pure (D.lst r22))) >>= fun d23 => (pure []) >>= fun s24 => pure (d23 :: s24)) >>= anyF)) >>= asB)) >>= fun b25 => pure (!b25))) (fun z15 => pure z15) l26 >>= fun r27 => pure (D.lst r27))) >>= fun d28 => (pure []) >>= fun s29 => pure (d28 :: s29)) >>= tupleF)) >>= fun d30 => pure (id d30))))
def f_needed_of (a0 a1 : D) : PM D := (((((pure a0) >>= fun d4 => ((pure a1) >>= fun d2 => (pure []) >>= fun s3 => pure (d2 :: s3)) >>= fun s5 => pure (d4 :: s5)) >>= fun s6 => run0 (fn2 f_candidates_of s6))) >>= fun v1 => (((pure []) >>= okL) >>= fun xs7 => ((((((pure a1) >>= fun d10 => ((pure (D.str "alarm")) >>= fun d8 => (pure []) >>= fun s9 => pure (d8 :: s9)) >>= fun s11 => pure (d10 :: s11)) >>= fun s12 => run0 (fn2 f_with_word s12))) >>= itemsD) >>= fun l15 => forS dec1 (fun (c13 : List D) z14 => ((((((((((((pure a0) >>= fun d18 => ((pure z14) >>= fun d16 => (pure []) >>= fun s17 => pure (d16 :: s17)) >>= fun s19 => pure (d18 :: s19)) >>= fun s20 => run0 (fn2 f_reach_of s20))) >>= itemsD) >>= fun l24 => compL dec1 (fun z21 => ((pure z21) >>= fun x22 => (pure v1) >>= fun x23 => inD x22 x23 >>= asB)) (fun z21 => pure z21) l24 >>= fun r25 => pure (D.lst r25))) >>= fun d26 => (pure []) >>= fun s27 => pure (d26 :: s27)) >>= tupleF)) >>= fun d28 => okLen (c13 ++ [d28]) >>= fun _ => pure (c13 ++ [d28])) : PM (List D))) l15 xs7 >>= fun c13 => ((pure (D.lst c13)) >>= fun d29 => pure (id d29)))))
def f_subsets_of (a0 : D) : PM D := (((((((pure []) >>= mkT)) >>= fun d2 => (pure []) >>= fun s3 => pure (d2 :: s3)) >>= mkL)) >>= fun v1 => (((pure a0) >>= itemsD) >>= fun l6 => forS dec1 (fun (c4 : D) z5 => (((((pure c4) >>= fun x15 => ((((pure c4) >>= itemsD) >>= fun l13 => compL dec1 (fun z8 => pure true) (fun z8 => ((((pure z8) >>= itemsD) >>= fun d11 => ((pure z5) >>= fun d9 => (pure []) >>= fun s10 => pure (d9 :: s10)) >>= fun s12 => pure (d11 ++ s12)) >>= mkT)) l13 >>= fun r14 => pure (D.lst r14))) >>= fun x16 => addD x15 x16)) >>= fun v7 => pure v7) : PM (D))) l6 v1 >>= fun c4 => (((((pure c4) >>= fun d17 => (pure []) >>= fun s18 => pure (d17 :: s18)) >>= sortedG)) >>= fun d19 => pure (id d19))))
def f_explanations_of (a0 a1 : D) : PM D := (((((pure a0) >>= fun d4 => ((pure a1) >>= fun d2 => (pure []) >>= fun s3 => pure (d2 :: s3)) >>= fun s5 => pure (d4 :: s5)) >>= fun s6 => run0 (fn2 f_needed_of s6))) >>= fun v1 => (((((((((((pure a0) >>= fun d9 => ((pure a1) >>= fun d7 => (pure []) >>= fun s8 => pure (d7 :: s8)) >>= fun s10 => pure (d9 :: s10)) >>= fun s11 => run0 (fn2 f_candidates_of s11))) >>= fun d12 => (pure []) >>= fun s13 => pure (d12 :: s13)) >>= fun s14 => run0 (fn1 f_subsets_of s14))) >>= itemsD) >>= fun l26 => compL dec1 (fun z15 => ((((((((pure v1) >>= itemsD) >>= fun l22 => compL dec1 (fun z16 => pure true) (fun z16 => (((pure z16) >>= fun d19 => ((pure z15) >>= fun d17 => (pure []) >>= fun s18 => pure (d17 :: s18)) >>= fun s20 => pure (d19 :: s20)) >>= fun s21 => run0 (fn2 f_do_meet s21))) l22 >>= fun r23 => pure (D.lst r23))) >>= fun d24 => (pure []) >>= fun s25 => pure (d24 :: s25)) >>= allF)) >>= asB)) (fun z15 => pure z15) l26 >>= fun r27 => pure (D.lst r27))) >>= fun d28 => pure (id d28)))
def f_halves_of (a0 a1 a2 : D) : PM D := ((((((((pure a0) >>= fun d12 => ((pure a2) >>= fun d10 => (pure []) >>= fun s11 => pure (d10 :: s11)) >>= fun s13 => pure (d12 :: s13)) >>= fun s14 => run0 (fn2 f_reach_of s14))) >>= fun d15 => (((((pure a0) >>= fun d5 => ((pure a1) >>= fun d3 => (pure []) >>= fun s4 => pure (d3 :: s4)) >>= fun s6 => pure (d5 :: s6)) >>= fun s7 => run0 (fn2 f_explanations_of s7))) >>= fun d8 => (pure []) >>= fun s9 => pure (d8 :: s9)) >>= fun s16 => pure (d15 :: s16)) >>= mkT)) >>= unp2 fun v1 v2 => ((((((((pure v2) >>= itemsD) >>= fun l24 => compL dec1 (fun z18 => (((((pure v1) >>= fun d21 => ((pure z18) >>= fun d19 => (pure []) >>= fun s20 => pure (d19 :: s20)) >>= fun s22 => pure (d21 :: s22)) >>= fun s23 => run0 (fn2 f_do_meet s23))) >>= asB)) (fun z18 => pure z18) l24 >>= fun r25 => pure (D.lst r25))) >>= fun d26 => (pure []) >>= fun s27 => pure (d26 :: s27)) >>= lenF)) >>= fun v17 => (((((pure v17) >>= fun d34 => (((((((pure v2) >>= fun d28 => (pure []) >>= fun s29 => pure (d28 :: s29)) >>= lenF)) >>= fun x30 => (pure v17) >>= fun x31 => subD x30 x31)) >>= fun d32 => (pure []) >>= fun s33 => pure (d32 :: s33)) >>= fun s35 => pure (d34 :: s35)) >>= mkT)) >>= fun d36 => pure (id d36))))
def f_is_between (a0 a1 a2 : D) : PM D := ((((((pure a0) >>= isF "int")) >>= fun d10 => asB d10 >>= fun b11 => if b11 = true then ((((((pure a0) >>= isF "bool")) >>= fun d1 => asB d1 >>= fun b2 => pure (D.bl (!b2)))) >>= fun d8 => asB d8 >>= fun b9 => if b9 = true then ((pure a1) >>= fun x3 => (pure a0) >>= fun x4 => leD x3 x4 >>= fun x5 => asB x5 >>= fun x6 => if x6 = true then (pure a2) >>= fun x7 => leD x4 x7 else pure (D.bl false)) else pure (D.bl false)) else pure (D.bl false))) >>= fun d12 => pure (id d12))
def g_need_component (a0 a1 : D) : PM Unit := (((((((((pure a1) >>= fun d9 => ((pure (D.int 0)) >>= fun d7 => (((((((pure a0) >>= fun d1 => (pure []) >>= fun s2 => pure (d1 :: s2)) >>= lenF)) >>= fun x3 => (pure (D.int 1)) >>= fun x4 => subD x3 x4)) >>= fun d5 => (pure []) >>= fun s6 => pure (d5 :: s6)) >>= fun s8 => pure (d7 :: s8)) >>= fun s10 => pure (d9 :: s10)) >>= fun s11 => run0 (fn3 f_is_between s11))) >>= asB)) >>= fun b12 => pure (!b12))) >>= fun b13 => if b13 = true then bad else pure ())
def f_need_component (a0 a1 : D) : PM D := g_need_component a0 a1 >>= fun _ => pure D.non
def f_is_word (a0 : D) : PM D := ((((((pure a0) >>= isF "str")) >>= fun d3 => asB d3 >>= fun b4 => if b4 = true then ((pure a0) >>= fun x1 => (pure d_WORDS) >>= fun x2 => inD x1 x2) else pure (D.bl false))) >>= fun d5 => pure (id d5))
def f_is_report (a0 a1 : D) : PM D := ((((((pure a1) >>= isF "tuple")) >>= fun d17 => asB d17 >>= fun b18 => if b18 = true then (((((((pure a1) >>= fun d1 => (pure []) >>= fun s2 => pure (d1 :: s2)) >>= lenF)) >>= fun x5 => ((((pure a0) >>= fun d3 => (pure []) >>= fun s4 => pure (d3 :: s4)) >>= lenF)) >>= fun x6 => eqD x5 x6)) >>= fun d15 => asB d15 >>= fun b16 => if b16 = true then ((((((pure a1) >>= itemsD) >>= fun l11 => compL dec1 (fun z7 => pure true) (fun z7 => (((pure z7) >>= fun d8 => (pure []) >>= fun s9 => pure (d8 :: s9)) >>= fun s10 => run0 (fn1 f_is_word s10))) l11 >>= fun r12 => pure (D.lst r12))) >>= fun d13 => (pure []) >>= fun s14 => pure (d13 :: s14)) >>= allF) else pure (D.bl false)) else pure (D.bl false))) >>= fun d19 => pure (id d19))
def f_is_rising (a0 a1 : D) : PM D := ((((((((((pure a1) >>= isF "tuple")) >>= asB)) >>= fun b1 => pure (!b1))) >>= fun b17 => if b17 = true then pure true else ((((((((((pure a1) >>= itemsD) >>= fun l12 => compL dec1 (fun z2 => pure true) (fun z2 => (((pure z2) >>= fun d9 => ((pure (D.int 0)) >>= fun d7 => ((((pure a0) >>= fun x3 => (pure (D.int 1)) >>= fun x4 => subD x3 x4)) >>= fun d5 => (pure []) >>= fun s6 => pure (d5 :: s6)) >>= fun s8 => pure (d7 :: s8)) >>= fun s10 => pure (d9 :: s10)) >>= fun s11 => run0 (fn3 f_is_between s11))) l12 >>= fun r13 => pure (D.lst r13))) >>= fun d14 => (pure []) >>= fun s15 => pure (d14 :: s15)) >>= allF)) >>= asB)) >>= fun b16 => pure (!b16)))) >>= fun b18 => if b18 = true then ((pure (D.bl false)) >>= fun d19 => pure (id d19)) else (((((((((pure a1) >>= fun d25 => ((((pure a1) >>= fun x20 => (((pure (D.int 1)) >>= asI)) >>= fun x21 => (pure none) >>= fun x22 => sliceD x20 x21 x22)) >>= fun d23 => (pure []) >>= fun s24 => pure (d23 :: s24)) >>= fun s26 => pure (d25 :: s26)) >>= zipF) >>= fun l30 => compL dec2 (fun z27 => pure true) (fun z27 => ((pure z27.1) >>= fun x28 => (pure z27.2) >>= fun x29 => ltD x28 x29)) l30 >>= fun r31 => pure (D.lst r31))) >>= fun d32 => (pure []) >>= fun s33 => pure (d32 :: s33)) >>= allF)) >>= fun d34 => pure (id d34)))
def f_is_net (a0 : D) : PM D := ((((((((((pure a0) >>= isF "tuple")) >>= asB)) >>= fun b1 => pure (!b1))) >>= fun b10 => if b10 = true then pure true else ((((pure (D.int 1)) >>= fun x4 => ((((pure a0) >>= fun d2 => (pure []) >>= fun s3 => pure (d2 :: s3)) >>= lenF)) >>= fun x5 => leD x4 x5 >>= fun x6 => asB x6 >>= fun x7 => if x7 = true then (pure (D.int 8)) >>= fun x8 => leD x5 x8 >>= asB else pure false)) >>= fun b9 => pure (!b9)))) >>= fun b11 => if b11 = true then ((pure (D.bl false)) >>= fun d12 => pure (id d12)) else ((((pure a0) >>= fun d13 => (pure []) >>= fun s14 => pure (d13 :: s14)) >>= enumF) >>= fun l17 => forL dec2 (fun (c15 : Unit) z16 => (((((((((((((((pure a0) >>= fun d20 => (pure []) >>= fun s21 => pure (d20 :: s21)) >>= lenF)) >>= fun d22 => ((pure z16.2) >>= fun d18 => (pure []) >>= fun s19 => pure (d18 :: s19)) >>= fun s23 => pure (d22 :: s23)) >>= fun s24 => run0 (fn2 f_is_rising s24))) >>= asB)) >>= fun b25 => pure (!b25))) >>= fun b28 => if b28 = true then pure true else ((pure z16.1) >>= fun x26 => (pure z16.2) >>= fun x27 => inD x26 x27 >>= asB))) >>= fun b29 => if b29 = true then ((pure (D.bl false)) >>= fun d30 => pure (Lp.ret d30)) else pure (.go ())) : PM (Lp (Unit)))) l17 () >>= lpK id fun c15 => ((pure (D.bl true)) >>= fun d31 => pure (id d31))))
def g_need_net (a0 : D) : PM Unit := (((((((((pure a0) >>= fun d1 => (pure []) >>= fun s2 => pure (d1 :: s2)) >>= fun s3 => run0 (fn1 f_is_net s3))) >>= asB)) >>= fun b4 => pure (!b4))) >>= fun b5 => if b5 = true then bad else pure ())
def f_need_net (a0 : D) : PM D := g_need_net a0 >>= fun _ => pure D.non
def g_need_report (a0 a1 : D) : PM Unit := (((((pure a0) >>= fun d1 => (pure []) >>= fun s2 => pure (d1 :: s2)) >>= fun s3 => run0 (fn1 f_need_net s3))) >>= fun _ => (((((((((pure a0) >>= fun d6 => ((pure a1) >>= fun d4 => (pure []) >>= fun s5 => pure (d4 :: s5)) >>= fun s7 => pure (d6 :: s7)) >>= fun s8 => run0 (fn2 f_is_report s8))) >>= asB)) >>= fun b9 => pure (!b9))) >>= fun b10 => if b10 = true then bad else pure ()))
def f_need_report (a0 a1 : D) : PM D := g_need_report a0 a1 >>= fun _ => pure D.non
def g_need_all (a0 a1 a2 : D) : PM Unit := (((((pure a0) >>= fun d3 => ((pure a1) >>= fun d1 => (pure []) >>= fun s2 => pure (d1 :: s2)) >>= fun s4 => pure (d3 :: s4)) >>= fun s5 => run0 (fn2 f_need_report s5))) >>= fun _ => (((((pure a0) >>= fun d8 => ((pure a2) >>= fun d6 => (pure []) >>= fun s7 => pure (d6 :: s7)) >>= fun s9 => pure (d8 :: s9)) >>= fun s10 => run0 (fn2 f_need_component s10))) >>= fun _ => pure ()))
def f_need_all (a0 a1 a2 : D) : PM D := g_need_all a0 a1 a2 >>= fun _ => pure D.non
def f_halves (a0 a1 a2 : D) : PM D := (((((pure a0) >>= fun d5 => ((pure a1) >>= fun d3 => ((pure a2) >>= fun d1 => (pure []) >>= fun s2 => pure (d1 :: s2)) >>= fun s4 => pure (d3 :: s4)) >>= fun s6 => pure (d5 :: s6)) >>= fun s7 => run0 (fn3 f_need_all s7))) >>= fun _ => (((((pure a0) >>= fun d12 => ((pure a1) >>= fun d10 => ((pure a2) >>= fun d8 => (pure []) >>= fun s9 => pure (d8 :: s9)) >>= fun s11 => pure (d10 :: s11)) >>= fun s13 => pure (d12 :: s13)) >>= fun s14 => run0 (fn3 f_halves_of s14))) >>= fun d15 => pure (id d15)))
def f_law (ns : List Int) : PM D := (((((((pure (D.int 1)) >>= fun d7 => (((((pure (D.int ns.length)) >>= fun d3 => ((pure (D.int 3)) >>= fun d1 => (pure []) >>= fun s2 => pure (d1 :: s2)) >>= fun s4 => pure (d3 :: s4)) >>= minF)) >>= fun d5 => (pure []) >>= fun s6 => pure (d5 :: s6)) >>= fun s8 => pure (d7 :: s8)) >>= maxF)) >>= fun d9 => (pure []) >>= fun s10 => pure (d9 :: s10)) >>= rangeF1) >>= fun l13 => forL dec1 (fun (c11 : Unit) z12 => (((((((pure z12) >>= fun d14 => (pure []) >>= fun s15 => pure (d14 :: s15)) >>= fun s16 => run0 (fn1 (f_law_cell ns) s16))) >>= fun d17 => (pure []) >>= fun s18 => pure (d17 :: s18)) >>= fun s19 => run0 (mfn1 f_law_source s19) >>= fun n20 => withPen n20 (((((pure (D.int 4)) >>= fun d22 => (pure []) >>= fun s23 => pure (d22 :: s23)) >>= rangeF1) >>= fun l26 => forL dec1 (fun (c24 : Unit) z25 => ((((((((pure (D.int 1)) >>= fun x32 => ((((pure (D.int 8)) >>= fun d30 => (pure []) >>= fun s31 => pure (d30 :: s31)) >>= fn1 f_law_draw)) >>= fun x33 => addD x32 x33)) >>= fun d34 => (pure []) >>= fun s35 => pure (d34 :: s35)) >>= fn1 f_law_case)) >>= unp3 fun v27 v28 v29 => ((((((((pure v27) >>= fun d39 => ((pure v29) >>= fun d37 => (pure []) >>= fun s38 => pure (d37 :: s38)) >>= fun s40 => pure (d39 :: s40)) >>= mkT)) >>= fun d41 => (pure []) >>= fun s42 => pure (d41 :: s42)) >>= reprF)) >>= fun v36 => (((((((pure v27) >>= fun d43 => (pure []) >>= fun s44 => pure (d43 :: s44)) >>= lenF)) >>= fun d45 => (pure []) >>= fun s46 => pure (d45 :: s46)) >>= rangeF1) >>= fun l49 => forL dec1 (fun (c47 : Unit) z48 => ((((((pure v28) >>= fun d55 => ((pure v29) >>= fun d53 => ((pure z48) >>= fun d51 => (pure []) >>= fun s52 => pure (d51 :: s52)) >>= fun s54 => pure (d53 :: s54)) >>= fun s56 => pure (d55 :: s56)) >>= fun s57 => run0 (fn3 f_law_halves s57))) >>= fun v50 => (((((pure (D.int 2)) >>= fun d59 => (pure []) >>= fun s60 => pure (d59 :: s60)) >>= rangeF1) >>= fun l69 => compL dec1 (fun z61 => pure true) (fun z61 => (((pure v27) >>= fun d66 => ((pure v29) >>= fun d64 => ((pure z48) >>= fun d62 => (pure []) >>= fun s63 => pure (d62 :: s63)) >>= fun s65 => pure (d64 :: s65)) >>= fun s67 => pure (d66 :: s67)) >>= fun s68 => run0 (fn3 f_halves s68))) l69 >>= fun r70 => pure (D.lst r70)) >>= fun v58 => (((((((((((pure v58) >>= fun d77 => (((((pure v50) >>= fun d73 => ((pure v50) >>= fun d71 => (pure []) >>= fun s72 => pure (d71 :: s72)) >>= fun s74 => pure (d73 :: s74)) >>= mkL)) >>= fun d75 => (pure []) >>= fun s76 => pure (d75 :: s76)) >>= fun s78 => pure (d77 :: s78)) >>= fun s79 => run0 (fn2 f_law_is_equal s79))) >>= asB)) >>= fun b80 => pure (!b80))) >>= fun b89 => if b89 = true then pure true else ((((((((pure v27) >>= fun d83 => ((pure v29) >>= fun d81 => (pure []) >>= fun s82 => pure (d81 :: s82)) >>= fun s84 => pure (d83 :: s84)) >>= mkT)) >>= fun d85 => (pure []) >>= fun s86 => pure (d85 :: s86)) >>= reprF)) >>= fun x87 => (pure v36) >>= fun x88 => neD x87 x88 >>= asB))) >>= fun b90 => if b90 = true then ((pure (D.bl false)) >>= fun d91 => pure (Lp.ret d91)) else pure (.go ())))) : PM (Lp (Unit)))) l49 () >>= lpK Lp.ret fun c47 => pure (.go ())))) : PM (Lp (Unit)))) l26 () >>= lpK Lp.ret fun c24 => pure (.go ())))) : PM (Lp (Unit)))) l13 () >>= lpK id fun c11 => ((pure (D.bl true)) >>= fun d92 => pure (id d92)))
end Lw

/-! M2: nets. -/
namespace Lw
open PySem EV
theorem isF_int (x : Int) : isF "int" (.int x) = pure (.bl true) := rfl
theorem isF_intB (x : Int) : isF "bool" (.int x) = pure (.bl false) := rfl
theorem isF_tup (xs : List D) : isF "tuple" (.tup xs) = pure (.bl true) := rfl
theorem asB_bl (b : Bool) : asB (.bl b) = pure b := rfl
theorem le_int (a b : Int) : leD (.int a) (.int b) = pure (.bl (decide (a ≤ b))) := rfl
theorem lt_int (a b : Int) : ltD (.int a) (.int b) = pure (.bl (decide (a < b))) := rfl
theorem gt_int (a b : Int) : gtD (.int a) (.int b) = pure (.bl (decide (b < a))) := rfl
theorem ge_int (a b : Int) : geD (.int a) (.int b) = pure (.bl (decide (b ≤ a))) := rfl
theorem add_int (a b : Int) : addD (.int a) (.int b) = pure (.int (a + b)) := rfl
theorem sub_int (a b : Int) : subD (.int a) (.int b) = pure (.int (a - b)) := rfl
theorem len_tup (xs : List D) : lenF [.tup xs] = pure (.int xs.length) := rfl
theorem len_lst (xs : List D) : lenF [.lst xs] = pure (.int xs.length) := rfl
theorem items_tup (xs : List D) : itemsD (.tup xs) = pure xs := rfl
theorem items_lst (xs : List D) : itemsD (.lst xs) = pure xs := rfl
theorem fn1_eq (g : D → PM D) (a : D) : fn1 g [a] = g a := rfl
theorem fn2_eq (g : D → D → PM D) (a b : D) : fn2 g [a, b] = g a b := rfl
theorem fn3_eq (g : D → D → D → PM D) (a b c : D) : fn3 g [a, b, c] = g a b c := rfl

theorem between (x a b : Int) : f_is_between (.int x) (.int a) (.int b) = pure (.bl (decide (a ≤ x ∧ x ≤ b))) := by
  simp only [f_is_between, pure_bind, isF_int, isF_intB, asB_bl, le_int, if_true, Bool.not_false]
  by_cases h : a ≤ x <;> simp [h]

def Rising (n : Nat) (r : List Int) : Prop := (∀ x ∈ r, 0 ≤ x ∧ x < n) ∧ r.Pairwise (· < ·)
theorem blsF (xs : List Bool) : allF [.lst (xs.map D.bl)] = pure (.bl (xs.all id)) := by
  show (match blsOf (xs.map D.bl) with | some bs => pure (.bl (bs.all id)) | none => bad : PM D) = _
  rw [blsOf_map]
theorem zipT_eq : ∀ (a b : List Int), zipT (a.map D.int) (b.map D.int) = (a.zip b).map fun p => .tup [.int p.1, .int p.2]
  | [], _ => by simp [zipT]
  | _ :: _, [] => by simp [zipT]
  | x :: a, y :: b => by simp [zipT, zipT_eq a b]
theorem adj_asc : ∀ {r : List Int}, (∀ p ∈ r.zip (r.drop 1), p.1 < p.2) → r.Pairwise (· < ·)
  | [], _ => .nil
  | [x], _ => by simp
  | x :: y :: r, h => by
    have h1 : x < y := h (x, y) (by simp)
    have ih := adj_asc (r := y :: r) fun p m => h p (by
      simp only [List.drop_succ_cons, List.drop_zero] at m ⊢
      exact List.mem_cons_of_mem _ m)
    refine List.pairwise_cons.mpr ⟨fun z m => ?_, ih⟩
    rcases List.mem_cons.mp m with rfl | m
    · exact h1
    · exact Int.lt_trans h1 ((List.pairwise_cons.mp ih).1 z m)
theorem asc_adj : ∀ {r : List Int}, r.Pairwise (· < ·) → ∀ p ∈ r.zip (r.drop 1), p.1 < p.2
  | [], _, p, m => by simp at m
  | [x], _, p, m => by simp at m
  | x :: y :: r, h, p, m => by
    simp only [List.drop_succ_cons, List.drop_zero, List.zip_cons_cons] at m
    have q := List.pairwise_cons.mp h
    rcases List.mem_cons.mp m with rfl | m
    · exact q.1 y List.mem_cons_self
    · exact asc_adj q.2 p (by simpa using m)
theorem cut1 (xs : List D) : cutD xs (some 1) none = xs.drop 1 := by
  have e : HT.sIx xs.length 0 (some 1) = min 1 xs.length := HT.sIx_nat _ _ 1
  unfold EV.cutD
  rw [e, HT.sIx_none]
  cases xs with
  | nil => rfl
  | cons x r =>
    have e : min 1 (x :: r).length = 1 := by simp
    rw [e]
    simp
theorem slice1 {r : List Int} (h : r.length ≤ lim) : sliceD (tI r) (some 1) none = pure (tI (r.drop 1)) := by
  show mkT (cutD (r.map D.int) (some 1) none) = _
  rw [cut1, ← List.map_drop]
  exact mkT_ok (by rw [List.length_map, List.length_drop]; omega)
theorem zip_ints (a b : List Int) : zipF [tI a, tI b] = pure ((a.zip b).map fun p => .tup [.int p.1, .int p.2]) := by
  show (pure (zipT (a.map D.int) (b.map D.int)) : PM (List D)) = _
  rw [zipT_eq]
theorem run0_p (d : D) : run0 (pure d : PM D) = pure d := rfl
theorem rising (n : Nat) (r : List Int) (hr : r.length ≤ lim) : ∃ b, f_is_rising (.int n) (tI r) = pure (.bl b) ∧ (b = true ↔ Rising n r) := by
  have h1 : ∀ c : D → PM Bool, (∀ z, c z = pure true) → compL dec1 c (fun z => run0 (fn3 f_is_between [z, .int 0, .int ((n : Int) - 1)])) (r.map D.int) = pure ((r.map fun x => decide (0 ≤ x ∧ x ≤ (n : Int) - 1)).map D.bl) := fun c hc => by
    rw [compIm (fun x => .bl (decide (0 ≤ x ∧ x ≤ (n : Int) - 1))) hr hc (fun x _ => by rw [fn3_eq, between]; rfl), List.map_map]
    rfl
  have h2 : compL dec2 (fun z => pure true) (fun z => ltD z.1 z.2) ((r.zip (r.drop 1)).map fun p => .tup [.int p.1, .int p.2]) = pure (((r.zip (r.drop 1)).map fun p => decide (p.1 < p.2)).map D.bl) := by
    rw [compPm (zs := r.zip (r.drop 1)) (fun p => (D.int p.1, D.int p.2)) (fun p => .bl (decide (p.1 < p.2))) (by rw [List.map_map]; rfl)
      (by rw [List.length_map, List.length_zip]; omega) (fun _ => rfl) (fun z m => rfl), List.map_map]
    rfl
  simp only [f_is_rising, pure_bind, isF_tup, asB_bl, items_tup, Bool.not_true, if_false, sub_int, slice1 hr, zip_ints, asI, id]
  rw [h1 _ fun z => rfl, h2]
  simp only [pure_bind, blsF, asB_bl]
  by_cases g : ((r.map fun x => decide (0 ≤ x ∧ x ≤ (n : Int) - 1)).all id) = true
  · rw [g]
    refine ⟨_, rfl, ?_⟩
    have g' : ∀ x ∈ r, 0 ≤ x ∧ x ≤ (n : Int) - 1 := by simpa using g
    rw [List.all_map]
    constructor
    · intro z
      refine ⟨fun x m => ⟨(g' x m).1, by have := (g' x m).2; omega⟩, adj_asc fun p m => ?_⟩
      have := List.all_eq_true.mp z p m
      simpa using this
    · intro z
      refine List.all_eq_true.mpr fun p m => ?_
      simpa using asc_adj z.2 p m
  · have g2 : ((r.map fun x => decide (0 ≤ x ∧ x ≤ (n : Int) - 1)).all id) = false := by simpa using g
    rw [g2]
    refine ⟨_, rfl, ?_⟩
    constructor
    · intro z
      cases z
    · intro z
      exact absurd (by
        rw [List.all_map]
        refine List.all_eq_true.mpr fun x m => ?_
        have := z.1 x m
        simp
        omega) g
end Lw

/-! M3: nets: is_net, reach_of. -/
namespace Lw
open PySem EV
abbrev Nt := List (List Int)
abbrev dN (N : Nt) : D := .tup (N.map tI)
structure Net (N : Nt) : Prop where
  lo : 1 ≤ N.length
  hi : N.length ≤ 8
  row : ∀ (i : Nat) r, N[i]? = some r → Rising N.length r ∧ (i : Int) ∉ r
section
variable {N : Nt}
theorem Net.lim (h : Net N) : N.length ≤ EV.lim := Nat.le_trans h.hi (by decide)
theorem Rising.len {n : Nat} {r : List Int} (h : Rising n r) : r.length ≤ n := nodup_len (asc_nodup h.2) h.1
theorem Net.ixr (h : Net N) {i : Int} (h0 : 0 ≤ i) (h1 : i < N.length) : Rising N.length (ix N i) ∧ i ∉ ix N i := by
  have z := h.row i.toNat _ (ix_get h0 h1)
  rw [show ((i.toNat : Nat) : Int) = i by omega] at z
  exact z
theorem Net.rlen (h : Net N) {r : List Int} (m : r ∈ N) : r.length ≤ 8 := by
  obtain ⟨i, hi⟩ := List.mem_iff_getElem?.mp m
  have z := (h.row i r hi).1.len
  have := h.hi
  omega
theorem is_net (h : Net N) : f_is_net (dN N) = pure (.bl true) := by
  have hl := h.hi
  have lo := h.lo
  have e1 : decide ((1 : Int) ≤ (N.length : Int)) = true := decide_eq_true (by omega)
  have e2 : decide ((N.length : Int) ≤ 8) = true := decide_eq_true (by omega)
  simp only [f_is_net, pure_bind, isF_tup, asB_bl, len_tup, List.length_map, le_int, e1, e2, if_true, Bool.not_true, Bool.false_eq_true, if_false]
  show ((pure (pairsFrom 0 (N.map tI)) : PM (List D)) >>= _) = _
  rw [pure_bind, forL_goP (κ := List Int × Nat) (zs := N.zipIdx) (fun z => (D.int z.2, tI z.1)) (by rw [pairs_dec, List.zipIdx_map, List.map_map]; rfl) (fun z m => ?_)]
  · rfl
  · obtain ⟨r, i⟩ := z
    have hi : N[i]? = some r := by simpa [List.mem_zipIdx_iff_getElem?] using m
    obtain ⟨h1, h2⟩ := h.row i r hi
    obtain ⟨b, e, q⟩ := rising N.length r (by have := h1.len; show _ ≤ 1000000; omega)
    have eb : b = true := q.mpr h1
    subst eb
    simp only [fn2_eq, e, run0_p, pure_bind, asB_bl, Bool.not_true, Bool.false_eq_true, if_false, inT, decide_eq_false h2]
theorem need_net (h : Net N) : f_need_net (dN N) = pure .non := by
  simp only [f_need_net, g_need_net, pure_bind, fn1_eq, is_net h, run0_p, asB_bl, Bool.not_true]
  rfl

/-! ### reach -/
inductive Reach (N : Nt) (c : Int) : Int → Prop
  | refl : Reach N c c
  | step {x y : Int} : Reach N c x → y ∈ ix N x → Reach N c y
theorem Net.reach_in (h : Net N) {c x : Int} (h0 : 0 ≤ c ∧ c < N.length) (r : Reach N c x) : 0 ≤ x ∧ x < N.length := by
  induction r with
  | refl => exact h0
  | step _ m ih => exact (h.ixr ih.1 ih.2).1.1 _ m
noncomputable def setOf (n : Nat) (P : Int → Prop) : List Int := (iota n).filter fun x => @decide (P x) (Classical.propDecidable _)
theorem mem_setOf {n : Nat} {P : Int → Prop} {x : Int} : x ∈ setOf n P ↔ (0 ≤ x ∧ x < n) ∧ P x := by
  unfold setOf
  rw [List.mem_filter, mem_iota]
  exact and_congr_right fun _ => @decide_eq_true_iff (P x) (Classical.propDecidable _)
theorem setOf_asc (n : Nat) (P : Int → Prop) : (setOf n P).Pairwise (· < ·) := (iota_asc n).filter _
theorem setOf_len (n : Nat) (P : Int → Prop) : (setOf n P).length ≤ n := by
  unfold setOf
  exact Nat.le_trans (List.length_filter_le _ _) (by rw [len_iota]; exact Nat.le_refl _)
theorem eq_setOf {n : Nat} {P : Int → Prop} {l : List Int} (h : l.Pairwise (· < ·)) (e : ∀ x, x ∈ l ↔ (0 ≤ x ∧ x < n) ∧ P x) : l = setOf n P :=
  asc_eq h (setOf_asc n P) fun k => by rw [e, mem_setOf]
theorem filter_setOf {n : Nat} {P : Int → Prop} {b : Int → Bool} (e : ∀ x : Int, 0 ≤ x → x < n → (b x = true ↔ P x)) : (iota n).filter b = setOf n P :=
  eq_setOf ((iota_asc n).filter _) fun x => by
    rw [List.mem_filter, mem_iota]
    constructor
    · rintro ⟨h1, h2⟩
      exact ⟨h1, (e x h1.1 h1.2).mp h2⟩
    · rintro ⟨h1, h2⟩
      exact ⟨h1, (e x h1.1 h1.2).mpr h2⟩
/-- what c reaches -/
noncomputable def reachL (N : Nt) (c : Int) : List Int := setOf N.length (Reach N c)
theorem mem_reachL (h : Net N) {c x : Int} (h0 : 0 ≤ c) (h1 : c < N.length) : x ∈ reachL N c ↔ Reach N c x := by
  unfold reachL
  rw [mem_setOf]
  exact ⟨fun z => z.2, fun z => ⟨h.reach_in ⟨h0, h1⟩ z, z⟩⟩
/-- a found list: some of what c reaches -/
structure Fd (N : Nt) (c : Int) (xs : List Int) : Prop where
  nd : xs.Nodup
  rc : ∀ x ∈ xs, Reach N c x
  c : c ∈ xs
def Closed (N : Nt) (xs : List Int) : Prop := ∀ x ∈ xs, ∀ y ∈ ix N x, y ∈ xs
theorem Fd.done {c : Int} {xs : List Int} (f : Fd N c xs) (k : Closed N xs) (x : Int) : x ∈ xs ↔ Reach N c x := by
  refine ⟨f.rc x, fun r => ?_⟩
  induction r with
  | refl => exact f.c
  | step _ m ih => exact k _ ih _ m
theorem Fd.len {c : Int} {xs : List Int} (f : Fd N c xs) (h : Net N) (h0 : 0 ≤ c) (h1 : c < N.length) : xs.length ≤ N.length := nodup_len f.nd fun x m => h.reach_in ⟨h0, h1⟩ (f.rc x m)
theorem Fd.sorted {c : Int} {xs : List Int} (f : Fd N c xs) (h : Net N) (h0 : 0 ≤ c) (h1 : c < N.length) (k : Closed N xs) : (sortedG [lI xs] >>= fun d => tupleF [d]) = pure (tI (reachL N c)) := by
  have hl := f.len h h0 h1
  have hn := h.hi
  have e : sortI xs = reachL N c := eq_setOf (sortI_nodup f.nd) fun x => by
    rw [(sortI_perm xs).mem_iff, f.done k x]
    exact ⟨fun z => ⟨h.reach_in ⟨h0, h1⟩ z, z⟩, fun z => z.2⟩
  have e2 : (reachL N c).length ≤ 8 := Nat.le_trans (setOf_len _ _) hn
  rw [sortedI (by show _ ≤ 1000000; omega), pure_bind, e, tupleL (by rw [List.length_map]; show _ ≤ 1000000; omega)]
theorem reach_ok (h : Net N) {c : Int} (h0 : 0 ≤ c) (h1 : c < N.length) : f_reach_of (dN N) (.int c) = pure (tI (reachL N c)) := by
  have hn := h.hi
  have e0 : okL [D.int c] = pure [D.int c] := rfl
  simp only [f_reach_of, pure_bind, e0, id]
  refine while_then
    (fun p => ∃ (k : Nat) (xs : List Int), p = (.int k, xs.map .int) ∧ Fd N c xs ∧ k ≤ xs.length ∧ ∀ i x, i < k → xs[i]? = some x → ∀ y ∈ ix N x, y ∈ xs)
    (fun p => match p.1 with | .int k => 9 - k.toNat | _ => 0)
    (fun p => ∃ xs : List Int, p.2 = xs.map .int ∧ Fd N c xs ∧ Closed N xs)
    (fun p hp => by
      obtain ⟨k, xs, rfl, f, hk, hc⟩ := hp
      have hl := f.len h h0 h1
      dsimp only
      simp only [pure_bind, len_lst, lt_int, asB_bl, noExc_pure, List.length_map]
      by_cases g : k < xs.length
      · refine .inr ⟨by rw [decide_eq_true (by omega)], ?_⟩
        have hx := f.rc _ (ix_mem (l := xs) (i := k) (by omega) (by omega))
        have hin := h.reach_in ⟨h0, h1⟩ hx
        have hr := h.ixr hin.1 hin.2
        rw [getL (l := xs) (i := k) (by omega) (by omega), pure_bind, getT (l := N) hin.1 hin.2, pure_bind, items_tup, pure_bind,
          compI (fun y => !decide (y ∈ xs)) D.int (by have := hr.1.len; show _ ≤ 1000000; omega) (fun y _ => by rw [ninL, pure_bind, asB_bl]) (fun _ _ _ => rfl), pure_bind, noExc_pure, pure_bind, scal_ints, pure_bind]
        have f2 : Fd N c (xs ++ (ix N (ix xs k)).filter fun y => !decide (y ∈ xs)) := ⟨by
          rw [List.nodup_append]
          refine ⟨f.nd, (asc_nodup hr.1.2).filter _, fun a ha b hb e => ?_⟩
          subst e
          simp [ha] at hb, fun y m => by
          rcases List.mem_append.mp m with m | m
          · exact f.rc y m
          · exact .step hx (List.mem_filter.mp m).1, List.mem_append_left _ f.c⟩
        have hl2 := f2.len h h0 h1
        rw [← List.map_append, okLen_ok (by rw [List.length_map]; show _ ≤ 1000000; omega), pure_bind, add_int, pure_bind]
        refine ⟨_, rfl, ⟨k + 1, _, rfl, f2, by rw [List.length_append]; omega, fun i x hi e y m => ?_⟩, ?_⟩
        · rw [List.getElem?_append_left (by omega)] at e
          by_cases gi : i < k
          · exact List.mem_append_left _ (hc i x gi e y m)
          · have : i = k := by omega
            subst this
            have ex : x = ix xs (i : Int) := by
              have z := ix_get (l := xs) (i := (i : Int)) (by omega) (by omega)
              rw [show ((i : Int)).toNat = i by omega, e] at z
              exact Option.some.inj z
            rw [← ex]
            by_cases gm : y ∈ xs
            · exact List.mem_append_left _ gm
            · exact List.mem_append_right _ (List.mem_filter.mpr ⟨m, by simp [gm]⟩)
        · show 9 - ((k : Int) + 1).toNat < 9 - (k : Int).toNat
          omega
      · refine .inl ⟨by rw [decide_eq_false (by omega)], xs, rfl, f, fun x m y my => ?_⟩
        obtain ⟨i, hi⟩ := List.mem_iff_getElem?.mp m
        exact hc i x (by have := (List.getElem?_eq_some_iff.mp hi).1; omega) hi y my)
    ⟨0, [c], rfl, ⟨by simp, fun x m => by rw [List.mem_singleton.mp m]; exact .refl, by simp⟩, by simp, fun i x hi => by omega⟩ (by show 9 - _ < 20; omega) (fun p hp => ?_)
  obtain ⟨xs, e2, f, k⟩ := hp
  have e3 := f.sorted h h0 h1 k
  rw [e2]
  simp only [bind_assoc, pure_bind, bind_pure]
  exact e3
end
end Lw

/-! M4: nets: all_reaches. -/
namespace Lw
open PySem EV
theorem pairs_iota (n : Nat) (F : Int → D) : (pairsFrom 0 ((iota n).map F)).map dec2 = (iota n).map fun i => some (D.int i, F i) := by
  rw [pairs_dec]
  refine List.ext_getElem? fun i => ?_
  rw [List.getElem?_map, List.getElem?_map, List.getElem?_zipIdx, List.getElem?_map]
  by_cases h : i < n
  · rw [iota_get h]
    simp
  · rw [List.getElem?_eq_none (by rw [len_iota]; omega)]
    rfl
theorem pairs_ix {α : Type} [Inhabited α] (l : List α) (f : α → D) : (pairsFrom 0 (l.map f)).map dec2 = (iota l.length).map fun i => some (D.int i, f (ix l i)) := by
  rw [pairs_dec]
  refine List.ext_getElem? fun i => ?_
  rw [List.getElem?_map, List.getElem?_map, List.getElem?_zipIdx, List.getElem?_map]
  by_cases h : i < l.length
  · rw [iota_get h]
    have z := ix_get (l := l) (i := (i : Int)) (by omega) (by omega)
    rw [show ((i : Int)).toNat = i by omega] at z
    rw [z]
    simp
  · have e1 : l[i]? = none := List.getElem?_eq_none (by omega)
    have e2 : (iota l.length)[i]? = none := List.getElem?_eq_none (by rw [len_iota]; omega)
    rw [e1, e2]
    rfl
section
variable {N : Nt}
theorem reachL_len (h : Net N) (c : Int) : (reachL N c).length ≤ 8 := Nat.le_trans (setOf_len _ _) h.hi
theorem all_reaches (h : Net N) : f_all_reaches (dN N) = pure (.lst ((iota N.length).map fun c => tI (reachL N c))) := by
  have hl := h.lim
  simp only [f_all_reaches, pure_bind, len_tup, List.length_map, range1 hl, id, fn2_eq]
  rw [compIm (fun c => tI (reachL N c)) (by rw [len_iota]; exact hl) (fun _ => rfl) fun c m => by
    have m := mem_iota.mp m
    rw [reach_ok h m.1 m.2]
    rfl]
  rfl
end
end Lw

/-! M4b: the law's own reach. -/
namespace Lw
open PySem EV
section
variable {N : Nt}
theorem ne_nil {xs : List D} (h : shp (.lst xs) = true) : neD (.lst xs) (.lst []) = pure (.bl (!xs.isEmpty)) := by
  show (if shp (.lst xs) = true ∧ shp (.lst []) = true then pure (.bl (!eqvD (.lst xs) (.lst []))) else bad : PM D) = _
  rw [if_pos ⟨h, by decide⟩]
  cases xs with
  | nil => rfl
  | cons x r => rfl
end
end Lw

/-! M4c: nets: reach, above. -/
namespace Lw
open PySem EV
section
variable {N : Nt}
theorem need_comp {c : Int} (h0 : 0 ≤ c) (h1 : c < N.length) : f_need_component (dN N) (.int c) = pure .non := by
  simp only [f_need_component, g_need_component, pure_bind, len_tup, sub_int, fn3_eq, between, run0_p, asB_bl, List.length_map]
  rw [decide_eq_true (by omega)]
  rfl
/-- what has c within reach -/
noncomputable def aboveL (N : Nt) (c : Int) : List Int := setOf N.length fun o => Reach N o c
theorem above_filter (h : Net N) (c : Int) : (iota N.length).filter (fun o => decide (c ∈ reachL N o)) = aboveL N c :=
  filter_setOf fun x h0 h1 => by rw [decide_eq_true_eq, mem_reachL h h0 h1]
theorem aboveL_len (h : Net N) (c : Int) : (aboveL N c).length ≤ 8 := Nat.le_trans (setOf_len _ _) h.hi
end
end Lw

/-! MB5: the pen of the laws k25-k44, what is drawn. -/
namespace Lw
open PySem EV
def Pen (k : Nat) (s : List Int) : Prop := ∃ a b c, s = [a, b, c] ∧ 0 ≤ b ∧ b < 2147483648 ∧ 0 ≤ c ∧ c ≤ k
theorem Pen.mono {k k' : Nat} {s : List Int} (h : Pen k s) (e : k ≤ k') : Pen k' s := by
  obtain ⟨a, b, c, rfl, h1, h2, h3, h4⟩ := h
  exact ⟨a, b, c, rfl, h1, h2, h3, by omega⟩
theorem bind_ok {α β : Type} {m : PM α} {f : α → PM β} {s s' : List Int} {a : α} (h : m s = .ok a s') : (m >>= f) s = f a s' := by
  rw [PM.bind_def, h]
theorem get0 (a b c : Int) : penGet (.int 0) [a, b, c] = .ok (.int a) [a, b, c] := rfl
theorem get1 (a b c : Int) : penGet (.int 1) [a, b, c] = .ok (.int b) [a, b, c] := rfl
theorem get2 (a b c : Int) : penGet (.int 2) [a, b, c] = .ok (.int c) [a, b, c] := rfl
theorem set0 (a b c d : Int) : penSet (.int 0) (.int d) [a, b, c] = .ok () [d, b, c] := rfl
theorem set1 (a b c d : Int) : penSet (.int 1) (.int d) [a, b, c] = .ok () [a, d, c] := rfl
theorem set2 (a b c d : Int) : penSet (.int 2) (.int d) [a, b, c] = .ok () [a, b, d] := rfl
theorem mul_ok {i j : Int} (h : L2.CMul i j) : mulD (.int i) (.int j) = pure (.int (i * j)) := if_pos h
theorem mod_ok {i j : Int} (h : j ≠ 0) : modD (.int i) (.int j) = pure (.int (i.fmod j)) := if_pos h
theorem fdiv_ok {i j : Int} (h : L2.CDivN i j) : fdivD (.int i) (.int j) = pure (.int (i.fdiv j)) := if_pos h
theorem fmod_bd {i j : Int} (h : 0 < j) : 0 ≤ i.fmod j ∧ i.fmod j < j := ⟨Int.fmod_nonneg_of_pos i h, Int.fmod_lt_of_pos i h⟩
theorem mul_l {i j : Int} (h1 : -(2 ^ 64) < i := by omega) (h2 : i < 2 ^ 64 := by omega) : mulD (.int i) (.int j) = pure (.int (i * j)) := mul_ok (.inl ⟨h1, h2⟩)
theorem mul_r {i j : Int} (h1 : -(2 ^ 64) < j := by omega) (h2 : j < 2 ^ 64 := by omega) : mulD (.int i) (.int j) = pure (.int (i * j)) := mul_ok (.inr ⟨h1, h2⟩)
theorem draw {k m : Nat} {s : List Int} (h : Pen k s) (hk : k ≤ 1000000) (m1 : 1 ≤ m) (m2 : m ≤ 1000000) : Ok (f_law_draw (.int m)) s fun d s' => Pen (k + 1) s' ∧ ∃ x : Int, d = .int x ∧ 0 ≤ x ∧ x < m := by
  obtain ⟨a, b, c, rfl, h1, h2, h3, h4⟩ := h
  have hm0 : (m : Int) ≠ 0 := by omega
  simp only [f_law_draw, bind_assoc, pure_bind]
  by_cases ha : 0 < a
  · refine ⟨.int (a.fmod m), [a.fdiv m, b, c], ?_, ⟨_, _, _, rfl, h1, h2, h3, by omega⟩, _, rfl, fmod_bd (by omega)⟩
    rw [bind_ok (get0 a b c), bind_ok (show gtD (.int a) (.int 0) [a, b, c] = .ok (.bl true) [a, b, c] by rw [gt_int, decide_eq_true ha]; rfl), bind_ok (show asB (.bl true) [a, b, c] = .ok true [a, b, c] from rfl), if_pos rfl, bind_ok (get0 a b c),
      mod_ok hm0, pure_bind, bind_ok (get0 a b c), fdiv_ok ⟨hm0, by omega⟩, pure_bind, bind_ok (set0 a b c _)]
    rfl
  · rw [Ok]
    have e1 := mul_r (i := b) (j := 48271)
    have e2 := mul_l (i := 1009) (j := c + 1)
    have b1 := fmod_bd (i := b * 48271 + 1009 * (c + 1) + 7) (j := 2147483647) (by decide)
    generalize hs1 : (b * 48271 + 1009 * (c + 1) + 7).fmod 2147483647 = st at b1
    have e3 := mul_l (i := st) (j := st)
    have e4 := mul_l (i := 69621) (j := st)
    have b2 := fmod_bd (i := st * st + 69621 * st + 11) (j := 2147483629) (by decide)
    generalize hs2 : (st * st + 69621 * st + 11).fmod 2147483629 = su at b2
    have e5 := mul_l (i := su) (j := su)
    have e6 := mul_l (i := 40014) (j := su)
    refine ⟨.int ((((su * su + 40014 * su).fmod 2147483587).fdiv 16).fmod m), [a, st, c + 1], ?_, ⟨_, _, _, rfl, b1.1, by omega, by omega, by omega⟩, _, rfl, fmod_bd (by omega)⟩
    rw [bind_ok (get0 a b c), bind_ok (show gtD (.int a) (.int 0) [a, b, c] = .ok (.bl false) [a, b, c] by rw [gt_int, decide_eq_false ha]; rfl), bind_ok (show asB (.bl false) [a, b, c] = .ok false [a, b, c] from rfl), if_neg (by decide),
      bind_ok (get2 a b c), add_int, pure_bind, bind_ok (set2 a b c _), bind_ok (get1 a b _), e1, pure_bind, bind_ok (get2 a b _), e2, pure_bind, add_int, pure_bind, add_int, pure_bind, mod_ok (by decide), pure_bind, hs1, bind_ok (set1 a b _ _),
      bind_ok (get1 a st _), bind_ok (get1 a st _), e3, pure_bind, bind_ok (get1 a st _), e4, pure_bind, add_int, pure_bind, add_int, pure_bind, mod_ok (by decide), pure_bind, hs2, e5, pure_bind, e6, pure_bind, add_int, pure_bind, mod_ok (by decide), pure_bind, fdiv_ok ⟨by decide, by decide⟩, pure_bind, mod_ok hm0]
    rfl
theorem choose {α : Type} [Inhabited α] {f : α → D} {k : Nat} {s : List Int} {l : List α} (h : Pen k s) (hk : k ≤ 1000000) (m1 : 1 ≤ l.length) (m2 : l.length ≤ 1000000) : Ok (f_law_choose (.lst (l.map f))) s fun d s' => Pen (k + 1) s' ∧ ∃ x, d = f x ∧ x ∈ l := by
  simp only [f_law_choose, bind_assoc, pure_bind, len_lst, List.length_map, fn1_eq]
  refine Ok.bind ((draw h hk m1 m2).imp fun d s1 ⟨p, x, e, h1, h2⟩ => ?_)
  subst e
  rw [getL h1 h2]
  exact Ok.pure ⟨p, _, rfl, ix_mem h1 h2⟩
end Lw

/-! MB6: nets of the laws k25-k44. -/
namespace Lw
open PySem EV
theorem setI_len (ns : List Int) : (setI ns).length ≤ ns.length := by
  induction ns with
  | nil => exact Nat.le_refl _
  | cons x r ih =>
    have : ∀ l, (putI x l).length ≤ l.length + 1 := by
      intro l
      induction l with
      | nil => simp [putI]
      | cons y l ih =>
        unfold putI
        split
        · simp
        · split
          · simp
          · simp only [List.length_cons]
            omega
    have := this (setI r)
    unfold setI
    simp only [List.length_cons]
    omega
theorem ssetG {ns : List Int} (h : ns.length < 1000) (h2 : (setI ns).length < 64) : sortSetD (lI ns) = pure (lI (setI ns)) := by
  show (match intsOf (ns.map D.int) with | some ns => if ns.length < 1000 ∧ (setI ns).length < 64 then mkL ((setI ns).map D.int) else bad | none => bad : PM D) = _
  rw [intsOf_map]
  show (if ns.length < 1000 ∧ (setI ns).length < 64 then mkL ((setI ns).map D.int) else bad : PM D) = _
  rw [if_pos ⟨h, h2⟩]
  exact mkL_ok (by rw [List.length_map]; show _ ≤ 1000000; omega)
theorem filtI {c : D → PM Bool} (b : Int → Bool) {ns : List Int} (hl : ns.length ≤ lim) (hc : ∀ n ∈ ns, c (.int n) = pure (b n)) : compL dec1 c (fun z => pure z) (ns.map D.int) = pure ((ns.filter b).map D.int) := compI b D.int hl hc fun _ _ _ => rfl
/-- draws in a comprehension -/
theorem Ok.draws {k : Nat} {s : List Int} {ns : List Int} {c : D → PM Bool} (h : Pen k s) (hk : k + ns.length ≤ 1000000) (hc : ∀ n ∈ ns, ∀ j s, j ≤ 1000000 → Pen j s → Ok (c (.int n)) s fun _ s' => Pen (j + 1) s') :
    Ok (compL dec1 c (fun z => pure z) (ns.map D.int)) s fun r s' => Pen (k + ns.length) s' ∧ ∃ ms : List Int, ms.Sublist ns ∧ r = ms.map D.int := by
  unfold compL
  rw [if_pos (by rw [List.length_map]; show _ ≤ 1000000; omega)]
  induction ns generalizing k s with
  | nil => exact ⟨[], s, rfl, by simpa using h, [], .slnil, rfl⟩
  | cons n ns ih =>
    rw [List.length_cons] at hk
    rw [List.map_cons]
    unfold compG
    show Ok (EV.noExc (c (.int n)) >>= _) s _
    refine Ok.bind ((hc n List.mem_cons_self k s (by omega) h).noExc.imp fun b s1 h1 => ?_)
    have e : k + 1 + ns.length = k + (n :: ns).length := by
      rw [List.length_cons]
      omega
    cases b with
    | true =>
      rw [if_pos rfl, noExc_pure, pure_bind]
      refine Ok.bind ((ih h1 (by omega) (fun m hm => hc m (List.mem_cons_of_mem _ hm))).imp fun r s2 ⟨h2, ms, hs, er⟩ => ?_)
      refine Ok.pure ⟨by rw [← e]; exact h2, n :: ms, hs.cons₂ n, by rw [er]; rfl⟩
    | false =>
      rw [if_neg (by decide)]
      refine (ih h1 (by omega) (fun m hm => hc m (List.mem_cons_of_mem _ hm))).imp fun r s2 ⟨h2, ms, hs, er⟩ => ?_
      exact ⟨by rw [← e]; exact h2, ms, hs.cons n, er⟩
theorem net {n : Nat} (n1 : 1 ≤ n) (n8 : n ≤ 8) {k : Nat} {s : List Int} (h : Pen k s) (hk : k ≤ 900000) : Ok (f_law_net_of (.int n)) s fun d s' => Pen (k + 100) s' ∧ ∃ N, Net N ∧ N.length = n ∧ d = dN N := by
  have eo : okL [] = pure [] := rfl
  have hlim : n ≤ lim := by show _ ≤ 1000000; omega
  have e4 : mkL [D.int 5, D.int 4, D.int (2 * n), D.int 2] = pure (lI [5, 4, 2 * n, 2]) := rfl
  simp only [f_law_net_of, bind_assoc, pure_bind, fn1_eq, two2, kVO, eo, id, range1 hlim]
  refine Ok.bind ((draw (m := 4) h (by omega) (by decide) (by decide)).imp fun d s1 ⟨p1, way, e, w0, w1⟩ => ?_)
  subst e
  have hw : ∃ m : Nat, 1 ≤ m ∧ m ≤ 16 ∧ getD (lI [5, 4, 2 * n, 2]) (.int way) = pure (.int m) := by
    have : way = 0 ∨ way = 1 ∨ way = 2 ∨ way = 3 := by omega
    rcases this with rfl | rfl | rfl | rfl
    · exact ⟨5, by omega, by omega, rfl⟩
    · exact ⟨4, by omega, by omega, rfl⟩
    · exact ⟨2 * n, by omega, by omega, by
        have z := getL (l := ([5, 4, 2 * n, 2] : List Int)) (f := D.int) (i := 2) (by omega) (by simp)
        rw [z, show ix ([5, 4, 2 * n, 2] : List Int) 2 = ((2 * n : Nat) : Int) by
          show (2 * (n : Int)) = _
          omega]⟩
    · exact ⟨2, by omega, by omega, rfl⟩
  obtain ⟨m, m1, m16, em⟩ := hw
  refine Ok.bind ((Ok.forS (fun i c s => Pen (k + 1 + 9 * i) s ∧ ∃ N : Nt, c = N.map tI ∧ N.length = i ∧ ∀ (q : Nat) r, N[q]? = some r → Rising n r ∧ (q : Int) ∉ r) (k := 0) ⟨p1, [], rfl, rfl, by simp⟩ (fun i z c s hz hp => ?_)).imp fun c s4 hp => ?_)
  · obtain ⟨pk, N, rfl, hN, hr⟩ := hp
    rw [Nat.zero_add] at pk hN ⊢
    have hi : i < n := by
      have := (List.getElem?_eq_some_iff.mp hz).1
      rw [len_iota] at this
      exact this
    rw [iota_get hi] at hz
    have hz := (Option.some.inj hz).symm
    subst hz
    simp only [mul_l (i := 2) (j := (n : Int)) (by decide) (by decide), pure_bind, e4, em, range1 hlim]
    refine Ok.bind ((Ok.draws pk (by rw [len_iota]; omega) (fun x _ j s hj ps => ?_)).imp fun d s5 ⟨p5, ms, hs, e⟩ => ?_)
    · refine Ok.bind ((draw (m := m) ps hj m1 (by omega)).imp fun d s' ⟨p', y, e, _, _⟩ => ?_)
      subst e
      rw [eqInt, pure_bind]
      exact Ok.pure p'
    subst e
    rw [len_iota] at p5
    have hms : ∀ x ∈ ms, 0 ≤ x ∧ x < n := fun x mx => mem_iota.mp (hs.subset mx)
    have lms : ms.length ≤ n := by
      have := hs.length_le
      rw [len_iota] at this
      exact this
    simp only [eqInt, pure_bind, asB_bl, add_int, gt_int]
    refine Ok.bind (Ok.imp (Q := fun d s' => Pen (k + 1 + 9 * i + n) s' ∧ ∃ l : List Int, d = l.map D.int ∧ (∀ x ∈ l, 0 ≤ x ∧ x < n) ∧ l.length ≤ 9) ?_ fun d s6 ⟨p6, l, e, hl, ll⟩ => ?_)
    · by_cases w : way = 0
      · rw [decide_eq_true w, if_pos rfl, mod_ok (show (n : Int) ≠ 0 by omega), pure_bind, show ms.map D.int ++ [D.int (((i : Int) + 1).fmod n)] = (ms ++ [((i : Int) + 1).fmod n]).map D.int by rw [List.map_append]; rfl,
          okLen_ok (by rw [List.length_map, List.length_append, List.length_singleton]; show _ ≤ 1000000; omega), pure_bind]
        refine Ok.pure ⟨p5, _, rfl, fun x mx => ?_, by rw [List.length_append, List.length_singleton]; omega⟩
        rcases List.mem_append.mp mx with mx | mx
        · exact hms x mx
        · rw [List.mem_singleton.mp mx]
          exact fmod_bd (by omega)
      · rw [decide_eq_false w, if_neg (by decide)]
        exact Ok.pure ⟨p5, ms, rfl, hms, by omega⟩
    subst e
    have pA : Pen (k + 1 + 9 * i + 8) s6 := p6.mono (by omega)
    have fin : ∀ (l : List Int) (s : List Int), Pen (k + 1 + 9 * i + 9) s → (∀ x ∈ l, 0 ≤ x ∧ x < n) → l.length ≤ 10 →
        Ok (compL dec1 (fun z => neD z (.int (i : Int)) >>= asB) (fun z => pure z) (l.map D.int) >>= fun r => sortSetD (.lst r) >>= fun d => tupleF [d] >>= fun d => okLen (N.map tI ++ [d]) >>= fun _ => pure (N.map tI ++ [d])) s
          fun c' s' => Pen (k + 1 + 9 * (i + 1)) s' ∧ ∃ N : Nt, c' = N.map tI ∧ N.length = i + 1 ∧ ∀ (q : Nat) r, N[q]? = some r → Rising n r ∧ (q : Int) ∉ r := fun l s ps hl ll => by
      rw [filtI (fun x => decide (x ≠ (i : Int))) (by show _ ≤ 1000000; omega) (fun x _ => by rw [neInt, pure_bind, asB_bl]), pure_bind]
      have lf : (l.filter fun x => decide (x ≠ (i : Int))).length ≤ 10 := Nat.le_trans (List.length_filter_le _ _) ll
      have ls := setI_len (l.filter fun x => decide (x ≠ (i : Int)))
      have rr : Rising n (setI (l.filter fun x => decide (x ≠ (i : Int)))) := ⟨fun x mx => hl x (List.mem_filter.mp (mem_setI.mp mx)).1, setI_asc _⟩
      have ni : (i : Int) ∉ setI (l.filter fun x => decide (x ≠ (i : Int))) := fun mx => by
        have := (List.mem_filter.mp (mem_setI.mp mx)).2
        simp at this
      show Ok (sortSetD (lI (l.filter fun x => decide (x ≠ (i : Int)))) >>= _) s _
      rw [ssetG (by omega) (by omega), pure_bind, tupleL (by rw [List.length_map]; show _ ≤ 1000000; omega), pure_bind]
      generalize setI (l.filter fun x => decide (x ≠ (i : Int))) = R at rr ni
      rw [show N.map tI ++ [D.tup (R.map D.int)] = (N ++ [R]).map tI by rw [List.map_append]; rfl, okLen_ok (by rw [List.length_map, List.length_append, List.length_singleton]; show _ ≤ 1000000; omega), pure_bind]
      refine Ok.pure ⟨ps.mono (by omega), _, rfl, by rw [List.length_append, List.length_singleton, hN], fun q r hq => ?_⟩
      rw [List.getElem?_append] at hq
      split at hq
      · exact hr q r hq
      · rename_i hql
        have : q - N.length = 0 := by
          cases hz : q - N.length with
          | zero => rfl
          | succ t => rw [hz] at hq; simp at hq
        rw [this] at hq
        have hq := Option.some.inj hq
        subst hq
        have : q = i := by omega
        subst this
        exact ⟨rr, ni⟩
    by_cases w : way = 2
    · by_cases ip : (0 : Int) < i
      · rw [decide_eq_true w, decide_eq_true ip]
        simp only [if_true, pure_bind]
        refine Ok.bind (Ok.bind ((draw (m := i) pA (by omega) (by omega) (by omega)).imp fun d s7 ⟨p7, x, e, x0, x1⟩ => ?_))
        subst e
        rw [show l.map D.int ++ [D.int x] = (l ++ [x]).map D.int by rw [List.map_append]; rfl, okLen_ok (by rw [List.length_map, List.length_append, List.length_singleton]; show _ ≤ 1000000; omega), pure_bind]
        refine Ok.pure ?_
        simp only [items_lst, pure_bind]
        refine fin (l ++ [x]) s7 p7 (fun y my => ?_) (by rw [List.length_append, List.length_singleton]; omega)
        rcases List.mem_append.mp my with my | my
        · exact hl y my
        · rw [List.mem_singleton.mp my]
          omega
      · rw [decide_eq_true w, decide_eq_false ip]
        simp only [if_true, pure_bind, Bool.false_eq_true, if_false, items_lst]
        exact fin l s6 (pA.mono (by omega)) hl (by omega)
    · rw [decide_eq_false w]
      simp only [Bool.false_eq_true, if_false, pure_bind, items_lst]
      exact fin l s6 (pA.mono (by omega)) hl (by omega)
  · obtain ⟨p5, N, rfl, hN, hr⟩ := hp
    rw [len_iota, Nat.zero_add] at p5 hN
    rw [tupleL (by rw [List.length_map]; show _ ≤ 1000000; omega)]
    refine Ok.pure ⟨p5.mono (by omega), N, ⟨by omega, by omega, fun q r hq => ?_⟩, hN, rfl⟩
    rw [hN]
    exact hr q r hq
end Lw

/-! M7: what the laws share at their ends. -/
namespace Lw
open PySem EV
theorem Net.sm {N : Nt} (h : Net N) : Sm 2 72 (dN N) := .tup (c := 8) (fun x m => by
  obtain ⟨r, hr, rfl⟩ := List.mem_map.mp m
  obtain ⟨i, hi⟩ := List.mem_iff_getElem?.mp hr
  have z := h.row i r hi
  have hn := h.hi
  exact (SmI.smT fun y my => by have := z.1.1 y my; omega).mono (by omega) (h.rlen hr)) (by rw [List.length_map]; have := h.hi; omega)
theorem set_sm {n : Nat} (hn : n ≤ 8) (P : Int → Prop) : Sm 1 8 (tI (setOf n P)) :=
  (SmI.smT fun y my => by have := (mem_setOf.mp my).1; omega).mono (by omega) (Nat.le_trans (setOf_len _ _) hn)
theorem Sm.lst_of {h b : Nat} {xs : List D} (h1 : ∀ x ∈ xs, Sm h b x) : Sm (h + 1) (xs.length * (b + 1)) (.lst xs) := .lst h1 (Nat.le_refl _)
theorem Sm.tup_of {h b : Nat} {xs : List D} (h1 : ∀ x ∈ xs, Sm h b x) : Sm (h + 1) (xs.length * (b + 1)) (.tup xs) := .tup h1 (Nat.le_refl _)
theorem laps (n : Nat) : ∃ m : Nat, m ≤ 3 ∧ ∀ {β : Type} (kk : List D → PM β), (minF [.int n, .int 3] >>= fun d5 => maxF [.int 1, d5] >>= fun d9 => rangeF1 [d9] >>= kk) = kk ((iota m).map D.int) := by
  refine ⟨if n ≤ 1 then 1 else if n ≤ 3 then n else 3, by split <;> (try split) <;> omega, fun kk => ?_⟩
  show (rangeF1 [.int (if (if (3 : Int) < n then (3 : Int) else n) > 1 then (if (3 : Int) < n then (3 : Int) else n) else 1)] >>= kk) = _
  have e : (if (if (3 : Int) < n then (3 : Int) else n) > 1 then (if (3 : Int) < n then (3 : Int) else n) else 1) = ((if n ≤ 1 then 1 else if n ≤ 3 then n else 3 : Nat) : Int) := by
    split <;> split <;> (try split) <;> (try split) <;> omega
  rw [e, range1 (by show _ ≤ 1000000; split <;> (try split) <;> omega), pure_bind]
end Lw

/-! M7b: the frame of a law: cells, laps. -/
namespace Lw
open PySem EV
theorem ok_end {m : PM D} (key : Ok m [] fun d _ => d = .bl true) : ∃ s, m [] = .ok (.bl true) s := by
  obtain ⟨d, s, e, rfl⟩ := key
  exact ⟨s, e⟩
theorem mkT1 (a : D) : mkT [a] = pure (.tup [a]) := rfl
theorem mkT2 (a b : D) : mkT [a, b] = pure (.tup [a, b]) := rfl
theorem mkT3 (a b c : D) : mkT [a, b, c] = pure (.tup [a, b, c]) := rfl
theorem mkL2 (a b : D) : mkL [a, b] = pure (.lst [a, b]) := rfl
theorem mkL3 (a b c : D) : mkL [a, b, c] = pure (.lst [a, b, c]) := rfl
theorem neStr (x : Str) : neD (.str x) (.str x) = pure (.bl false) := by
  show (pure (D.bl (!(x == x))) : PM D) = _
  rw [beq_self_eq_true]
  rfl
theorem rising_sm {n : Nat} (hn : n ≤ 8) {B : List Int} (h : Rising n B) : Sm 1 8 (tI B) :=
  (SmI.smT fun y my => by have := h.1 y my; omega).mono (by omega) (Nat.le_trans h.len hn)
theorem rg_iota {n : Nat} (h : n ≤ lim) : rg1 (.int n) = pure ((iota n).map D.int) := by
  have h : n ≤ 1000000 := h
  unfold rg1
  dsimp only
  unfold rgD
  rw [if_pos ⟨by omega, by omega, by omega, by omega, by show _ ≤ 1000000; omega⟩, show ((n : Int) - 0).toNat = n by omega, rangeL_iota]
theorem addL {a b : List D} (h : a.length + b.length ≤ lim) : addD (.lst a) (.lst b) = pure (.lst (a ++ b)) := mkL_ok (by rw [List.length_append]; exact h)
end Lw

/-! M9: sets of components, alarms. -/
namespace Lw
open PySem EV
/-- drawn, one for each -/
theorem Ok.compE {e : D → PM D} {P : D → Prop} {t : Nat} {ns : List Int} {k : Nat} {s : List Int} (hl : ns.length ≤ lim) (h : Pen k s) (hk : k + ns.length * t ≤ 1000000)
    (he : ∀ n ∈ ns, ∀ j s, j + t ≤ 1000000 → Pen j s → Ok (e (.int n)) s fun d s' => Pen (j + t) s' ∧ P d) :
    Ok (compL dec1 (fun _ => pure true) e (ns.map D.int)) s fun r s' => Pen (k + ns.length * t) s' ∧ r.length = ns.length ∧ ∀ d ∈ r, P d := by
  unfold compL
  rw [if_pos (by rw [List.length_map]; exact hl)]
  clear hl
  induction ns generalizing k s with
  | nil => exact ⟨[], s, rfl, by simpa using h, rfl, by simp⟩
  | cons n ns ih =>
    rw [List.length_cons, Nat.succ_mul] at hk
    rw [List.map_cons]
    unfold compG
    show Ok (EV.noExc (pure true) >>= _) s _
    rw [noExc_pure, pure_bind, if_pos rfl]
    refine Ok.bind ((he n List.mem_cons_self k s (by omega) h).noExc.imp fun d s1 ⟨h1, hd⟩ => ?_)
    refine Ok.bind ((ih h1 (by omega) (fun m hm => he m (List.mem_cons_of_mem _ hm))).imp fun r s2 ⟨h2, h3, h4⟩ => ?_)
    refine Ok.pure ⟨by rw [List.length_cons, Nat.succ_mul, show k + (ns.length * t + t) = k + t + ns.length * t by omega]; exact h2, by rw [List.length_cons, h3, List.length_cons], fun x m => ?_⟩
    rcases List.mem_cons.mp m with rfl | m
    · exact hd
    · exact h4 x m
theorem forL_goD {body : Unit → D → PM (Lp Unit)} {ds : List D} (h : ∀ d ∈ ds, body () d = pure (.go ())) : forL dec1 body ds () = pure (.go ()) := by
  induction ds with
  | nil => rfl
  | cons n ns ih =>
    show (body () n >>= _) = _
    rw [h n List.mem_cons_self, pure_bind]
    exact ih fun m hm => h m (List.mem_cons_of_mem _ hm)
def meets (xs ys : List Int) : Bool := xs.any fun x => decide (x ∈ ys)
theorem meets_iff {xs ys : List Int} : meets xs ys = true ↔ ∃ x ∈ xs, x ∈ ys := by
  unfold meets
  rw [List.any_eq_true]
  constructor
  · rintro ⟨x, h1, h2⟩
    exact ⟨x, h1, of_decide_eq_true h2⟩
  · rintro ⟨x, h1, h2⟩
    exact ⟨x, h1, decide_eq_true h2⟩
theorem blsAny (xs : List Bool) : anyF [.lst (xs.map D.bl)] = pure (.bl (xs.any id)) := by
  show (match blsOf (xs.map D.bl) with | some bs => pure (.bl (bs.any id)) | none => bad : PM D) = _
  rw [blsOf_map]
theorem do_meet (xs ys : List Int) (hx : xs.length ≤ lim) : f_do_meet (tI xs) (tI ys) = pure (.bl (meets xs ys)) := by
  simp only [f_do_meet, pure_bind, items_tup, id]
  rw [compIm (fun x => .bl (decide (x ∈ ys))) hx (fun _ => rfl) (fun x _ => inT x ys), show (xs.map fun x => D.bl (decide (x ∈ ys))) = (xs.map fun x => decide (x ∈ ys)).map D.bl by rw [List.map_map]; rfl]
  simp only [pure_bind, blsAny, List.any_map]
  rfl
section
variable {N : Nt}
/-- the components with a broken one in their reach -/
noncomputable def alarmsL (N : Nt) (B : List Int) : List Int := setOf N.length fun o => ∃ b ∈ B, Reach N o b
theorem alarmsL_len (h : Net N) (B : List Int) : (alarmsL N B).length ≤ 8 := Nat.le_trans (setOf_len _ _) h.hi
theorem alarm_iff (h : Net N) {B : List Int} {o : Int} (h0 : 0 ≤ o) (h1 : o < N.length) : meets (reachL N o) B = true ↔ ∃ b ∈ B, Reach N o b := by
  rw [meets_iff]
  constructor
  · rintro ⟨x, m, b⟩
    exact ⟨x, b, (mem_reachL h h0 h1).mp m⟩
  · rintro ⟨x, b, r⟩
    exact ⟨x, (mem_reachL h h0 h1).mpr r, b⟩
theorem alarm_filter (h : Net N) (B : List Int) : (iota N.length).filter (fun o => meets (reachL N o) B) = alarmsL N B :=
  filter_setOf fun x h0 h1 => alarm_iff h h0 h1
end
/-! the law's own -/
section
variable {N : Nt}
theorem filt_meets (xs ys : List Int) : (!(xs.filter fun x => decide (x ∈ ys)).isEmpty) = meets xs ys := by
  rw [Bool.eq_iff_iff, meets_iff]
  constructor
  · intro h
    cases e : xs.filter fun x => decide (x ∈ ys) with
    | nil => rw [e] at h; cases h
    | cons x r =>
      have : x ∈ xs.filter fun x => decide (x ∈ ys) := by rw [e]; exact List.mem_cons_self
      exact ⟨x, (List.mem_filter.mp this).1, of_decide_eq_true (List.mem_filter.mp this).2⟩
  · rintro ⟨x, h1, h2⟩
    have : x ∈ xs.filter fun x => decide (x ∈ ys) := List.mem_filter.mpr ⟨h1, decide_eq_true h2⟩
    cases e : xs.filter fun x => decide (x ∈ ys) with
    | nil => rw [e] at this; cases this
    | cons _ _ => rfl
theorem isE_map {α β : Type} (f : α → β) (xs : List α) : (xs.map f).isEmpty = xs.isEmpty := by
  cases xs <;> rfl
end
theorem Rising.sub {n : Nat} {l m : List Int} (h : Rising n l) (s : m.Sublist l) : Rising n m := ⟨fun x hx => h.1 x (s.subset hx), h.2.sublist s⟩
end Lw

/-! M9b: the law's own alarms. -/
namespace Lw
open PySem EV
section
variable {N : Nt}
end
end Lw

/-! M10: words, reports. -/
namespace Lw
open PySem EV
theorem forS_map {body : List D → D → PM (List D)} (f : Int → D) : ∀ {ns : List Int} {c : List D}, (∀ c n, n ∈ ns → c.length + 1 ≤ lim → body c (.int n) = pure (c ++ [f n])) → c.length + ns.length ≤ lim → forS dec1 body (ns.map D.int) c = pure (c ++ ns.map f)
  | [], c, _, _ => by
    rw [List.map_nil, List.map_nil, List.append_nil]
    rfl
  | n :: ns, c, h, hl => by
    rw [List.length_cons] at hl
    rw [List.map_cons]
    show (body c (.int n) >>= forS dec1 body (ns.map D.int)) = _
    rw [h c n List.mem_cons_self (by omega), pure_bind, forS_map f (fun c m hm => h c m (List.mem_cons_of_mem _ hm)) (by rw [List.length_append, List.length_singleton]; omega), List.map_cons, List.append_assoc]
    rfl
abbrev tS (ws : List Str) : D := .tup (ws.map .str)
def Words (ws : List Str) : Prop := ∀ w ∈ ws, w = "alarm" ∨ w = "quiet" ∨ w = "unseen"
theorem word_sm {w : Str} (h : w = "alarm" ∨ w = "quiet" ∨ w = "unseen") : Sm 0 6 (.str w) := by
  rcases h with rfl | rfl | rfl <;> exact .str (by decide +kernel) (by decide +kernel)
theorem words_sm {ws : List Str} (h : Words ws) (hl : ws.length ≤ 8) : Sm 1 56 (tS ws) := .tup (c := 6) (fun x m => by
  obtain ⟨w, hw, rfl⟩ := List.mem_map.mp m
  exact word_sm (h w hw)) (by rw [List.length_map]; omega)
section
variable {N : Nt}
open Classical in
/-- the word of o, the broken B, the watched W -/
noncomputable def wordOf (N : Nt) (B W : List Int) (o : Int) : Str := if o ∈ W then (if o ∈ alarmsL N B then "alarm" else "quiet") else "unseen"
noncomputable def seenL (N : Nt) (B W : List Int) : List Str := (iota N.length).map (wordOf N B W)
theorem seenL_len (N : Nt) (B W : List Int) : (seenL N B W).length = N.length := by
  unfold seenL
  rw [List.length_map, len_iota]
theorem seenL_words (N : Nt) (B W : List Int) : Words (seenL N B W) := fun w h => by
  unfold seenL at h
  obtain ⟨o, _, rfl⟩ := List.mem_map.mp h
  unfold wordOf
  split
  · split
    · exact .inl rfl
    · exact .inr (.inl rfl)
  · exact .inr (.inr rfl)
theorem word_step (N : Nt) (B W : List Int) (o : Int) : (inD (.int o) (tI (alarmsL N B)) >>= asB >>= fun b => (if b = true then pure (D.str "alarm") else pure (D.str "quiet")) >>= fun v => inD (.int o) (tI W) >>= asB >>= fun b => if b = true then pure v else pure (D.str "unseen")) = pure (D.str (wordOf N B W o)) := by
  rw [inT, inT, pure_bind, asB_bl, pure_bind]
  unfold wordOf
  by_cases h1 : o ∈ alarmsL N B <;> by_cases h2 : o ∈ W <;> simp [h1, h2, asB_bl]
end
end Lw

/-! M10b: the law's own reports. -/
namespace Lw
open PySem EV
section
variable {N : Nt}
end
end Lw

/-! M11: reports: with_word, candidates_of, need_report. -/
namespace Lw
open PySem EV
theorem eqStr (a b : Str) : eqD (.str a) (.str b) = pure (.bl (a == b)) := rfl
/-- where the word w stands -/
def withL (ws : List Str) (w : Str) : List Int := (iota ws.length).filter fun i => ix ws i == w
theorem mem_withL {ws : List Str} {w : Str} {i : Int} : i ∈ withL ws w ↔ (0 ≤ i ∧ i < ws.length) ∧ ix ws i = w := by
  unfold withL
  rw [List.mem_filter, mem_iota, beq_iff_eq]
theorem withL_rising (ws : List Str) (w : Str) : Rising ws.length (withL ws w) := ⟨fun x m => (mem_withL.mp m).1, (iota_asc _).filter _⟩
theorem with_word (ws : List Str) (w : Str) (h : ws.length ≤ lim) : f_with_word (tS ws) (.str w) = pure (tI (withL ws w)) := by
  simp only [f_with_word, pure_bind, bind_assoc, enum_tup, id]
  rw [compPf (fun i => (D.int i, D.str (ix ws i))) (fun i => ix ws i == w) D.int (pairs_ix ws D.str) (by rw [pairs_len, List.length_map]; exact h) (fun i _ => by rw [eqStr, pure_bind, asB_bl]) (fun _ _ _ => rfl), pure_bind,
    tupleL (by rw [List.length_map]; exact Nat.le_trans (List.length_filter_le _ _) (by rw [len_iota]; exact h))]
  rfl
/-- a report of the net -/
structure Rep (N : Nt) (ws : List Str) : Prop where
  len : ws.length = N.length
  ws : Words ws
section
variable {N : Nt} {ws : List Str}
theorem Rep.sm (r : Rep N ws) (h : Net N) : Sm 1 56 (tS ws) := words_sm r.ws (by rw [r.len]; exact h.hi)
theorem Rep.lim (r : Rep N ws) (h : Net N) : ws.length ≤ EV.lim := by
  rw [r.len]
  exact h.lim
/-- the components in the reach of no quiet one -/
noncomputable def candL (N : Nt) (ws : List Str) : List Int := setOf N.length fun o => ¬ ∃ q ∈ withL ws "quiet", Reach N q o
theorem candL_len (h : Net N) (ws : List Str) : (candL N ws).length ≤ 8 := Nat.le_trans (setOf_len _ _) h.hi
theorem candL_rising (N : Nt) (ws : List Str) : Rising N.length (candL N ws) := ⟨fun x m => (mem_setOf.mp m).1, setOf_asc _ _⟩
theorem quiet_reach (h : Net N) (r : Rep N ws) {o : Int} : (withL ws "quiet").any (fun q => decide (o ∈ reachL N q)) = true ↔ ∃ q ∈ withL ws "quiet", Reach N q o := by
  rw [List.any_eq_true]
  constructor
  · rintro ⟨q, m, e⟩
    have z := (mem_withL.mp m).1
    exact ⟨q, m, (mem_reachL h z.1 (by rw [← r.len]; exact z.2)).mp (of_decide_eq_true e)⟩
  · rintro ⟨q, m, e⟩
    have z := (mem_withL.mp m).1
    exact ⟨q, m, decide_eq_true ((mem_reachL h z.1 (by rw [← r.len]; exact z.2)).mpr e)⟩
theorem cand_filter (h : Net N) (r : Rep N ws) : (iota N.length).filter (fun o => !(withL ws "quiet").any fun q => decide (o ∈ reachL N q)) = candL N ws :=
  filter_setOf fun x h0 h1 => by
    rw [Bool.not_eq_true', ← Bool.not_eq_true, quiet_reach h r]
theorem candidates_of (h : Net N) (r : Rep N ws) : f_candidates_of (dN N) (tS ws) = pure (tI (candL N ws)) := by
  have hl := h.lim
  have wl := (withL_rising ws "quiet").len
  have rl := r.lim h
  simp only [f_candidates_of, pure_bind, bind_assoc, fn1_eq, fn2_eq, all_reaches h, with_word ws _ rl, run0_p, id, len_tup, List.length_map, range1 hl, items_tup]
  rw [filtI (fun o => !(withL ws "quiet").any fun q => decide (o ∈ reachL N q)) (by rw [len_iota]; exact hl) (fun o _ => ?_), cand_filter h r, pure_bind, tupleL (by rw [List.length_map]; have := candL_len h ws; show _ ≤ 1000000; omega)]
  · rfl
  · rw [compIm (fun q => .bl (decide (o ∈ reachL N q))) (Nat.le_trans wl rl) (fun _ => rfl) (fun q mq => ?_), pure_bind, show ((withL ws "quiet").map fun q => D.bl (decide (o ∈ reachL N q))) = ((withL ws "quiet").map fun q => decide (o ∈ reachL N q)).map D.bl by rw [List.map_map]; rfl, blsAny, pure_bind, asB_bl, pure_bind, List.any_map]
    · rfl
    · have z := (mem_withL.mp mq).1
      have z2 : q < N.length := by rw [← r.len]; exact z.2
      rw [getL (f := fun c => tI (reachL N c)) z.1 (by rw [len_iota]; exact z2), pure_bind, ix_iota z.1 z2, inT]
theorem is_word {w : Str} (h : w = "alarm" ∨ w = "quiet" ∨ w = "unseen") : f_is_word (.str w) = pure (.bl true) := by
  have e : ∀ w : Str, isF "str" (.str w) = pure (.bl true) := fun _ => rfl
  have s : shp d_WORDS = true := by decide +kernel
  have s1 : ∀ w : Str, (w = "alarm" ∨ w = "quiet" ∨ w = "unseen") → inD (.str w) d_WORDS = pure (.bl true) := fun w h => by
    show (if shp (.str w) = true ∧ shp d_WORDS = true then pure (.bl ((["alarm", "quiet", "unseen"] : List Str).map D.str |>.any fun z => eqvD z (.str w))) else bad : PM D) = _
    rcases h with rfl | rfl | rfl
    · rw [if_pos ⟨by decide +kernel, s⟩, show ((["alarm", "quiet", "unseen"] : List Str).map D.str |>.any fun z => eqvD z (.str "alarm")) = true by decide +kernel]
    · rw [if_pos ⟨by decide +kernel, s⟩, show ((["alarm", "quiet", "unseen"] : List Str).map D.str |>.any fun z => eqvD z (.str "quiet")) = true by decide +kernel]
    · rw [if_pos ⟨by decide +kernel, s⟩, show ((["alarm", "quiet", "unseen"] : List Str).map D.str |>.any fun z => eqvD z (.str "unseen")) = true by decide +kernel]
  simp only [f_is_word, pure_bind, e, asB_bl, if_true, s1 w h, id]
theorem comp_words {e : D → PM D} (hl : ws.length ≤ lim) (he : ∀ w ∈ ws, e (.str w) = pure (.bl true)) : compL dec1 (fun _ => pure true) e (ws.map D.str) = pure ((ws.map fun _ => true).map D.bl) := by
  rw [compPm (zs := ws) (g := D.str) (f := fun _ => D.bl true) (by rw [List.map_map]; rfl) (by rw [List.length_map]; exact hl) (fun _ => rfl) he, List.map_map]
  rfl
theorem is_report (h : Net N) (r : Rep N ws) : f_is_report (dN N) (tS ws) = pure (.bl true) := by
  have e : ∀ w : Str, isF "str" (.str w) = pure (.bl true) := fun _ => rfl
  simp only [f_is_report, pure_bind, bind_assoc, isF_tup, asB_bl, if_true, len_tup, List.length_map, eqInt, r.len, decide_true, items_tup, fn1_eq, id]
  rw [comp_words (r.lim h) (fun w m => by rw [is_word (r.ws w m)]; rfl), pure_bind, blsF, pure_bind, List.all_map]
  congr 2
  exact List.all_eq_true.mpr fun _ _ => rfl
theorem need_report (h : Net N) (r : Rep N ws) : f_need_report (dN N) (tS ws) = pure .non := by
  simp only [f_need_report, g_need_report, pure_bind, bind_assoc, fn1_eq, fn2_eq, need_net h, is_report h r, run0_p, asB_bl, Bool.not_true]
  rfl
end
end Lw

/-! M11b: the law's own reports and candidates. -/
namespace Lw
open PySem EV
theorem forS_filt {body : List D → D → PM (List D)} (b : Int → Bool) (f : Int → D) : ∀ {ns : List Int} {c : List D}, (∀ c n, n ∈ ns → c.length + 1 ≤ lim → body c (.int n) = pure (if b n = true then c ++ [f n] else c)) → c.length + ns.length ≤ lim → forS dec1 body (ns.map D.int) c = pure (c ++ (ns.filter b).map f)
  | [], c, _, _ => by
    rw [List.map_nil, List.filter_nil, List.map_nil, List.append_nil]
    rfl
  | n :: ns, c, h, hl => by
    rw [List.length_cons] at hl
    rw [List.map_cons]
    show (body c (.int n) >>= forS dec1 body (ns.map D.int)) = _
    rw [h c n List.mem_cons_self (by omega), pure_bind]
    by_cases q : b n = true
    · rw [if_pos q, forS_filt b f (fun c m hm => h c m (List.mem_cons_of_mem _ hm)) (by rw [List.length_append, List.length_singleton]; omega), List.filter_cons_of_pos q, List.map_cons, List.append_assoc]
      rfl
    · rw [if_neg q, forS_filt b f (fun c m hm => h c m (List.mem_cons_of_mem _ hm)) (by omega), List.filter_cons_of_neg q]
theorem eq_nil {xs : List D} (h : shp (.lst xs) = true) : eqD (.lst xs) (.lst []) = pure (.bl xs.isEmpty) := by
  show (if shp (.lst xs) = true ∧ shp (.lst []) = true then pure (.bl (eqvD (.lst xs) (.lst []))) else bad : PM D) = _
  rw [if_pos ⟨h, by decide⟩]
  cases xs with
  | nil => rfl
  | cons x r => rfl
section
variable {N : Nt} {ws : List Str}
theorem ones_lay {α : Type} (l : List α) : shp (.lst (l.map fun _ => D.int 1)) = true := by
  have := shpLI (l.map fun _ => (1 : Int))
  rw [show l.map (fun _ => D.int 1) = (l.map fun _ => (1 : Int)).map D.int by rw [List.map_map]; rfl]
  exact this
theorem isE_filter {α : Type} (p : α → Bool) (l : List α) : (l.filter p).isEmpty = !l.any p := by
  induction l with
  | nil => rfl
  | cons x r ih =>
    by_cases q : p x = true
    · rw [List.filter_cons_of_pos q, List.any_cons, q]
      rfl
    · rw [List.filter_cons_of_neg q, List.any_cons, ih]
      simp only [Bool.not_eq_true] at q
      rw [q]
      rfl
end
/-! the report drawn -/
theorem cut_take {α : Type} (xs : List D) (k : Nat) (h : k ≤ xs.length) : cutD xs none (some k) = xs.take k := by
  unfold EV.cutD
  rw [HT.sIx_none, HT.sIx_nat, List.drop_zero, Nat.min_eq_left h, Nat.sub_zero]
theorem cut_drop {α : Type} (xs : List D) (k : Nat) (h : k ≤ xs.length) : cutD xs (some k) none = xs.drop k := by
  unfold EV.cutD
  rw [HT.sIx_none, HT.sIx_nat, Nat.min_eq_left h, List.take_of_length_le (by rw [List.length_drop]; omega)]
theorem strs_of {n : Nat} : ∀ {r : List D}, (∀ d ∈ r, ∃ w : Str, d = .str w ∧ (w = "alarm" ∨ w = "quiet" ∨ w = "unseen")) → ∃ ws : List Str, r = ws.map .str ∧ Words ws
  | [], _ => ⟨[], rfl, fun _ m => by cases m⟩
  | d :: r, h => by
    obtain ⟨w, rfl, hw⟩ := h d List.mem_cons_self
    obtain ⟨ws, rfl, hs⟩ := strs_of (n := n) (r := r) fun x m => h x (List.mem_cons_of_mem _ m)
    refine ⟨w :: ws, rfl, fun x m => ?_⟩
    rcases List.mem_cons.mp m with rfl | m
    · exact hw
    · exact hs x m
end Lw

/-! M12: all sets of components, in order. -/
namespace Lw
open PySem EV
def leI (a b : List Int) : Bool := decide (a ≤ b)
theorem leI_tr (a b c : List Int) (h : leI a b = true) (h2 : leI b c = true) : leI a c = true := decide_eq_true (List.le_trans (of_decide_eq_true h) (of_decide_eq_true h2))
theorem leI_tot (a b : List Int) : (leI a b || leI b a) = true := by
  rw [Bool.or_eq_true]
  rcases List.le_total a b with h | h
  · exact .inl (decide_eq_true h)
  · exact .inr (decide_eq_true h)
theorem leI_anti {a b : List Int} (h : leI a b = true) (h2 : leI b a = true) : a = b := List.le_antisymm (of_decide_eq_true h) (of_decide_eq_true h2)
theorem toPy_tI (a : List Int) : toPy (tI a) = .tuple (a.map PyData.int) := by
  show PyData.tuple (toPyL (a.map D.int)) = _
  rw [toPyL_map, List.map_map]
  rfl
theorem leD2_rows (a b : List Int) : leD2 (tI a) (tI b) = leI a b := by
  unfold leD2 leI
  rw [toPy_tI, toPy_tI, PySem.W.dataLt_tuple, show PyProof.Rows.lexLt PyProof.Rows.itemOrd (PySem.W.keyToksAll (b.map PyData.int)) (PySem.W.keyToksAll (a.map PyData.int)) = PySem.W.rowLt (b.map .int) (a.map .int) from rfl, PySem.W.dataLt_ints]
  by_cases h : b < a
  · rw [decide_eq_true h, decide_eq_false (fun z => (List.not_lt.mpr z) h)]
    rfl
  · rw [decide_eq_false h, decide_eq_true (List.not_lt.mp h)]
    rfl
theorem sortP_rows {L : List (List Int)} (h : (∃ r, L = [] :: r) ∨ ∀ r ∈ L, r ≠ []) : sortP (L.map tI) = true := by
  unfold sortP
  have e1 : ((L.map tI).all fun a => (L.map tI).all fun b => PySem.W.alike (toPy a) (toPy b)) = true := by
    refine List.all_eq_true.mpr fun x hx => List.all_eq_true.mpr fun y hy => ?_
    obtain ⟨a, _, rfl⟩ := List.mem_map.mp hx
    obtain ⟨b, _, rfl⟩ := List.mem_map.mp hy
    rw [toPy_tI, toPy_tI]
    simp only [PySem.W.alike]
    exact PySem.W.alike_ints a b
  have e2 : ((L.map tI).all fun a => decide ((toPy a).depth ≤ 60)) = true := by
    refine List.all_eq_true.mpr fun x hx => ?_
    obtain ⟨a, _, rfl⟩ := List.mem_map.mp hx
    rw [toPy_tI]
    simp only [PyData.depth, PySem.W.depth_ints, decide_eq_true_eq]
    omega
  rw [e1, e2]
  rcases h with ⟨r, rfl⟩ | h
  · have e3 : ((([] : List Int) :: r).map tI).all (fun a => isTup (toPy a)) = true := by
      refine List.all_eq_true.mpr fun x hx => ?_
      obtain ⟨a, _, rfl⟩ := List.mem_map.mp hx
      rw [toPy_tI]
      rfl
    have e4 : tup0 (((([] : List Int) :: r).map tI).map toPy) = true := by
      rw [List.map_cons, List.map_cons, toPy_tI]
      rfl
    rw [e3, e4]
    simp
  · have e3 : (L.map tI).all (fun a => neTup (toPy a)) = true := by
      refine List.all_eq_true.mpr fun x hx => ?_
      obtain ⟨a, ha, rfl⟩ := List.mem_map.mp hx
      rw [toPy_tI]
      cases a with
      | nil => exact absurd rfl (h [] ha)
      | cons y r => rfl
    rw [e3]
    simp
theorem map_sort (L : List (List Int)) : (L.map tI).mergeSort leD2 = (L.mergeSort leI).map tI := (List.map_mergeSort fun a _ b _ => (leD2_rows a b).symm).symm
theorem sort_rows {L : List (List Int)} (h : (∃ r, L = [] :: r) ∨ ∀ r ∈ L, r ≠ []) (hl : L.length ≤ lim) : sortedG [.lst (L.map tI)] = pure (.lst ((L.mergeSort leI).map tI)) := by
  cases L with
  | nil =>
    rw [List.mergeSort_nil]
    rfl
  | cons x r =>
    have e : intsQ [.lst ((x :: r).map tI)] = false := rfl
    unfold sortedG
    rw [e, if_neg (by decide)]
    show (if sortP ((x :: r).map tI) = true then mkL (((x :: r).map tI).mergeSort leD2) else bad : PM D) = _
    rw [if_pos (sortP_rows h), map_sort]
    exact mkL_ok (by rw [List.length_map, List.length_mergeSort]; exact hl)

/-! all sets -/
structure IsSubs (k : Nat) (L : List (List Int)) : Prop where
  mem : ∀ B, B ∈ L ↔ Rising k B
  nd : L.Nodup
  hd : ∃ r, L = [] :: r
  len : L.length = 2 ^ k
theorem rising_zero (B : List Int) : Rising 0 B ↔ B = [] := by
  constructor
  · intro h
    cases B with
    | nil => rfl
    | cons x r =>
      have := h.1 x List.mem_cons_self
      omega
  · rintro rfl
    exact ⟨by simp, .nil⟩
theorem rising_succ (k : Nat) (B : List Int) : Rising (k + 1) B ↔ Rising k B ∨ ∃ r, B = r ++ [(k : Int)] ∧ Rising k r := by
  constructor
  · intro h
    by_cases hk : (k : Int) ∈ B
    · obtain ⟨s, t, rfl⟩ := List.append_of_mem hk
      have q := List.pairwise_append.mp h.2
      have q2 := List.pairwise_cons.mp q.2.1
      have ht : t = [] := by
        cases t with
        | nil => rfl
        | cons y t =>
          have h1 := q2.1 y List.mem_cons_self
          have h2 := h.1 y (by simp)
          omega
      subst ht
      refine .inr ⟨s, rfl, fun x m => ?_, q.1⟩
      have h1 := q.2.2 x m (k : Int) (by simp)
      have h2 := h.1 x (by simp [m])
      omega
    · refine .inl ⟨fun x m => ?_, h.2⟩
      have h1 := h.1 x m
      have h2 : x ≠ k := fun e => hk (e ▸ m)
      omega
  · rintro (h | ⟨r, rfl, h⟩)
    · exact ⟨fun x m => by have := h.1 x m; omega, h.2⟩
    · refine ⟨fun x m => ?_, List.pairwise_append.mpr ⟨h.2, by simp, fun a ha b hb => ?_⟩⟩
      · rcases List.mem_append.mp m with m | m
        · have := h.1 x m
          omega
        · rw [List.mem_singleton.mp m]
          omega
      · rw [List.mem_singleton.mp hb]
        have := h.1 a ha
        omega
theorem subs_zero : IsSubs 0 [[]] := ⟨fun B => by rw [rising_zero, List.mem_singleton], by simp, ⟨[], rfl⟩, rfl⟩
theorem not_self {k : Nat} {L : List (List Int)} (h : IsSubs k L) {r : List Int} : r ++ [(k : Int)] ∉ L := fun m => by
  have := ((h.mem _).mp m).1 k (by simp)
  omega
/-- each row, then the row with k: side by side -/
theorem subs_flat {k : Nat} {L : List (List Int)} (h : IsSubs k L) : IsSubs (k + 1) (L.flatMap fun r => [r, r ++ [(k : Int)]]) := by
  have mem : ∀ B, B ∈ (L.flatMap fun r => [r, r ++ [(k : Int)]]) ↔ Rising (k + 1) B := fun B => by
    rw [List.mem_flatMap, rising_succ]
    constructor
    · rintro ⟨r, hr, hB⟩
      simp only [List.mem_cons, List.not_mem_nil, or_false] at hB
      rcases hB with rfl | rfl
      · exact .inl ((h.mem _).mp hr)
      · exact .inr ⟨r, rfl, (h.mem _).mp hr⟩
    · rintro (hB | ⟨r, rfl, hr⟩)
      · exact ⟨B, (h.mem _).mpr hB, by simp⟩
      · exact ⟨r, (h.mem _).mpr hr, by simp⟩
  refine ⟨mem, ?_, ?_, ?_⟩
  · have go : ∀ M : List (List Int), M.Nodup → (∀ r ∈ M, ∀ s ∈ M, s ++ [(k : Int)] ≠ r) → (M.flatMap fun r => [r, r ++ [(k : Int)]]).Nodup := by
      intro M
      induction M with
      | nil => intro _ _; simp
      | cons r M ih =>
        intro hn hs
        have q := List.nodup_cons.mp hn
        rw [List.flatMap_cons]
        refine List.nodup_append.mpr ⟨?_, ih q.2 (fun a ha b hb => hs a (List.mem_cons_of_mem _ ha) b (List.mem_cons_of_mem _ hb)), fun a ha b hb e => ?_⟩
        · simp
        · subst e
          obtain ⟨s, hs1, hs2⟩ := List.mem_flatMap.mp hb
          simp only [List.mem_cons, List.not_mem_nil, or_false] at ha hs2
          rcases ha with rfl | rfl
          · rcases hs2 with rfl | e
            · exact q.1 hs1
            · exact hs _ List.mem_cons_self s (List.mem_cons_of_mem _ hs1) e.symm
          · rcases hs2 with e | e
            · exact hs s (List.mem_cons_of_mem _ hs1) r List.mem_cons_self e
            · have := List.append_cancel_right e
              subst this
              exact q.1 hs1
    exact go L h.nd fun r hr s _ e => not_self h (e ▸ hr)
  · obtain ⟨r, rfl⟩ := h.hd
    exact ⟨_, by rw [List.flatMap_cons]; rfl⟩
  · have : ∀ M : List (List Int), (M.flatMap fun r => [r, r ++ [(k : Int)]]).length = M.length * 2 := fun M => by
      induction M with
      | nil => rfl
      | cons r M ih =>
        rw [List.flatMap_cons, List.length_append, ih, List.length_cons]
        simp only [List.length_cons, List.length_nil]
        omega
    rw [this, h.len, Nat.pow_succ]
/-- all rows, then all rows with k -/
theorem subs_app {k : Nat} {L : List (List Int)} (h : IsSubs k L) : IsSubs (k + 1) (L ++ L.map fun r => r ++ [(k : Int)]) := by
  refine ⟨fun B => ?_, ?_, ?_, ?_⟩
  · rw [List.mem_append, rising_succ, h.mem, List.mem_map]
    constructor
    · rintro (hB | ⟨r, hr, rfl⟩)
      · exact .inl hB
      · exact .inr ⟨r, rfl, (h.mem _).mp hr⟩
    · rintro (hB | ⟨r, rfl, hr⟩)
      · exact .inl hB
      · exact .inr ⟨r, (h.mem _).mpr hr, rfl⟩
  · refine List.nodup_append.mpr ⟨h.nd, ?_, fun a ha b hb e => ?_⟩
    · exact List.pairwise_map.mpr (h.nd.imp fun hne e => hne (List.append_cancel_right e))
    · subst e
      obtain ⟨r, _, e⟩ := List.mem_map.mp hb
      exact not_self h (e ▸ ha)
  · obtain ⟨r, rfl⟩ := h.hd
    exact ⟨_, rfl⟩
  · rw [List.length_append, List.length_map, h.len, Nat.pow_succ]
    omega
def genS : Nat → List (List Int)
  | 0 => [[]]
  | k + 1 => genS k ++ (genS k).map fun r => r ++ [(k : Int)]
theorem genS_is : ∀ k, IsSubs k (genS k)
  | 0 => subs_zero
  | k + 1 => subs_app (genS_is k)
/-- all sets of components, ascending -/
def subs (n : Nat) : List (List Int) := (genS n).mergeSort leI
theorem subs_of {n : Nat} {L : List (List Int)} (h : IsSubs n L) : L.mergeSort leI = subs n := by
  have p : L.Perm (genS n) := (List.perm_ext_iff_of_nodup h.nd (genS_is n).nd).mpr fun B => by rw [h.mem, (genS_is n).mem]
  exact List.Perm.eq_of_pairwise (fun a b _ _ h1 h2 => leI_anti h1 h2) (List.pairwise_mergeSort leI_tr leI_tot L) (List.pairwise_mergeSort leI_tr leI_tot _)
    ((List.mergeSort_perm _ _).trans (p.trans (List.mergeSort_perm _ _).symm))
theorem mem_subs {n : Nat} {B : List Int} : B ∈ subs n ↔ Rising n B := by
  unfold subs
  rw [(List.mergeSort_perm _ _).mem_iff, (genS_is n).mem]
theorem subs_len (n : Nat) : (subs n).length = 2 ^ n := by
  unfold subs
  rw [List.length_mergeSort, (genS_is n).len]
theorem subs_sorted (n : Nat) : (subs n).Pairwise fun a b => leI a b = true := List.pairwise_mergeSort leI_tr leI_tot _
theorem subs_nodup (n : Nat) : (subs n).Nodup := (List.mergeSort_perm _ _).nodup_iff.mpr (genS_is n).nd
theorem pow8 {n : Nat} (h : n ≤ 8) : 2 ^ n ≤ 256 := Nat.pow_le_pow_right (by decide) h
/-- loops over rows -/
theorem forS_flat {α : Type} {body : List D → D → PM (List D)} (g : α → D) (f : α → List D) {m : Nat} : ∀ {L : List α} {c : List D}, (∀ c r, r ∈ L → c.length + m ≤ lim → body c (g r) = pure (c ++ f r)) → (∀ r ∈ L, (f r).length ≤ m) → c.length + L.length * m ≤ lim → forS dec1 body (L.map g) c = pure (c ++ L.flatMap f)
  | [], c, _, _, _ => by
    rw [List.map_nil, List.flatMap_nil, List.append_nil]
    rfl
  | r :: L, c, h, hm, hl => by
    rw [List.length_cons, Nat.succ_mul] at hl
    rw [List.map_cons]
    show (body c (g r) >>= forS dec1 body (L.map g)) = _
    have := hm r List.mem_cons_self
    rw [h c r List.mem_cons_self (by omega), pure_bind, forS_flat g f (fun c m hm => h c m (List.mem_cons_of_mem _ hm)) (fun x mx => hm x (List.mem_cons_of_mem _ mx)) (by rw [List.length_append]; omega), List.flatMap_cons, List.append_assoc]
/-- keeps those that pass -/
theorem forS_keep {α : Type} {body : List D → D → PM (List D)} (g : α → D) (b : α → Bool) {L : List α} {c : List D} (h : ∀ c r, r ∈ L → c.length + 1 ≤ lim → body c (g r) = pure (if b r = true then c ++ [g r] else c)) (hl : c.length + L.length ≤ lim) : forS dec1 body (L.map g) c = pure (c ++ (L.filter b).map g) := by
  rw [forS_flat g (fun r => if b r = true then [g r] else []) (m := 1) (fun c r m hc => ?_) (fun r _ => by split <;> simp) (by omega)]
  · congr 2
    clear h hl
    induction L with
    | nil => rfl
    | cons r L ih =>
      rw [List.flatMap_cons, ih]
      by_cases q : b r = true
      · rw [if_pos q, List.filter_cons_of_pos q]
        rfl
      · rw [if_neg q, List.filter_cons_of_neg q]
        rfl
  · rw [h c r m hc]
    split <;> simp
end Lw

/-! M13: explanations; the law's own list of them (k10-k18). -/
namespace Lw
open PySem EV
theorem eqBl (a b : Bool) : eqD (.bl a) (.bl b) = pure (.bl (a == b)) := by
  show (if shp (.bl a) = true ∧ shp (.bl b) = true then pure (.bl (eqvD (.bl a) (.bl b))) else bad : PM D) = _
  rw [if_pos ⟨by cases a <;> decide, by cases b <;> decide⟩]
  rfl
theorem neStr2 (a b : Str) : neD (.str a) (.str b) = pure (.bl (!(a == b))) := rfl
section
variable {N : Nt} {ws : List Str}
/-- with B broken the watched ones do what the report says -/
noncomputable def fitB (N : Nt) (ws : List Str) (B : List Int) : Bool := (iota ws.length).all fun i => (ix ws i == "unseen") || ((ix ws i == "alarm") == meets (reachL N i) B)
noncomputable def everyL (N : Nt) (ws : List Str) : List (List Int) := (subs N.length).filter (fitB N ws)
theorem everyL_len (h : Net N) (ws : List Str) : (everyL N ws).length ≤ 256 := Nat.le_trans (List.length_filter_le _ _) (by rw [subs_len]; exact pow8 h.hi)
theorem mem_every {B : List Int} : B ∈ everyL N ws ↔ Rising N.length B ∧ fitB N ws B = true := by
  unfold everyL
  rw [List.mem_filter, mem_subs]
theorem fit_alarm {B : List Int} (f : fitB N ws B = true) {i : Int} (m : i ∈ withL ws "alarm") : meets (reachL N i) B = true := by
  obtain ⟨h1, h2⟩ := mem_withL.mp m
  have z := List.all_eq_true.mp f i (mem_iota.mpr h1)
  rw [h2, show (("alarm" : Str) == "unseen") = false by decide +kernel, show (("alarm" : Str) == "alarm") = true by decide +kernel, Bool.false_or, beq_iff_eq] at z
  exact z.symm
theorem fit_quiet {B : List Int} (f : fitB N ws B = true) {i : Int} (m : i ∈ withL ws "quiet") : meets (reachL N i) B = false := by
  obtain ⟨h1, h2⟩ := mem_withL.mp m
  have z := List.all_eq_true.mp f i (mem_iota.mpr h1)
  rw [h2, show (("quiet" : Str) == "unseen") = false by decide +kernel, show (("quiet" : Str) == "alarm") = false by decide +kernel, Bool.false_or, beq_iff_eq] at z
  exact z.symm
theorem fit_of (r : Rep N ws) {B : List Int} (ha : ∀ i ∈ withL ws "alarm", meets (reachL N i) B = true) (hq : ∀ i ∈ withL ws "quiet", meets (reachL N i) B = false) : fitB N ws B = true := by
  refine List.all_eq_true.mpr fun i mi => ?_
  have hi := mem_iota.mp mi
  rcases r.ws (ix ws i) (ix_mem hi.1 hi.2) with e | e | e
  · rw [ha i (mem_withL.mpr ⟨hi, e⟩), e]
    rfl
  · rw [hq i (mem_withL.mpr ⟨hi, e⟩), e]
    rfl
  · rw [e]
    rfl
theorem fit_sub (h : Net N) (r : Rep N ws) {B : List Int} (hB : Rising N.length B) (f : fitB N ws B = true) : ∀ b ∈ B, b ∈ candL N ws := fun b mb => by
  refine mem_setOf.mpr ⟨hB.1 b mb, fun ⟨q, mq, rq⟩ => ?_⟩
  have z := fit_quiet f mq
  have hq := (mem_withL.mp mq).1
  rw [(alarm_iff h hq.1 (by rw [← r.len]; exact hq.2)).mpr ⟨b, mb, rq⟩] at z
  cases z
/-- every alarming one has a candidate in its reach -/
noncomputable def explained (N : Nt) (ws : List Str) : Bool := (withL ws "alarm").all fun a => meets (reachL N a) (candL N ws)
theorem cand_quiet (h : Net N) (r : Rep N ws) {i : Int} (m : i ∈ withL ws "quiet") : meets (reachL N i) (candL N ws) = false := by
  have hq := (mem_withL.mp m).1
  have hq2 : i < N.length := by rw [← r.len]; exact hq.2
  cases e : meets (reachL N i) (candL N ws) with
  | false => rfl
  | true =>
    obtain ⟨c, mc, rc⟩ := (alarm_iff h hq.1 hq2).mp e
    exact absurd ⟨i, m, rc⟩ (mem_setOf.mp mc).2
theorem cand_fits (h : Net N) (r : Rep N ws) (e : explained N ws = true) : fitB N ws (candL N ws) = true := fit_of r (fun i m => List.all_eq_true.mp e i m) fun i m => cand_quiet h r m
theorem explained_of (h : Net N) (r : Rep N ws) {B : List Int} (hB : Rising N.length B) (f : fitB N ws B = true) : explained N ws = true := List.all_eq_true.mpr fun a ma => by
  obtain ⟨x, m1, m2⟩ := meets_iff.mp (fit_alarm f ma)
  exact meets_iff.mpr ⟨x, m1, fit_sub h r hB f x m2⟩
theorem every_nil (h : Net N) (r : Rep N ws) : (everyL N ws).isEmpty = !explained N ws := by
  cases e : explained N ws with
  | true =>
    have m : candL N ws ∈ everyL N ws := mem_every.mpr ⟨candL_rising _ _, cand_fits h r e⟩
    cases q : everyL N ws with
    | nil => rw [q] at m; cases m
    | cons _ _ => rfl
  | false =>
    cases q : everyL N ws with
    | nil => rfl
    | cons B _ =>
      have m : B ∈ everyL N ws := by rw [q]; exact List.mem_cons_self
      obtain ⟨h1, h2⟩ := mem_every.mp m
      rw [explained_of h r h1 h2] at e
      cases e
theorem forS_all {ι κ : Type} {dec : D → Option ι} {body : D → ι → PM D} (g : κ → ι) (p : κ → Bool) : ∀ {ds : List D} {zs : List κ} {b : Bool}, ds.map dec = zs.map (fun z => some (g z)) → (∀ b, ∀ z ∈ zs, body (.bl b) (g z) = pure (.bl (b && p z))) → forS dec body ds (.bl b) = pure (.bl (b && zs.all p))
  | [], [], b, _, _ => by
    rw [List.all_nil, Bool.and_true]
    rfl
  | [], _ :: _, _, h, _ => by simp at h
  | _ :: _, [], _, h, _ => by simp at h
  | d :: ds, z :: zs, b, h, hb => by
    rw [List.map_cons, List.map_cons] at h
    injection h with h1 h2
    unfold forS
    rw [h1]
    show (body (.bl b) (g z) >>= _) = _
    rw [hb b z List.mem_cons_self, pure_bind, forS_all g p h2 fun b y m => hb b y (List.mem_cons_of_mem _ m), List.all_cons, Bool.and_assoc]
end
end Lw

/-! M14: needed_of, is_explained, ruled_out, verdict_of. -/
namespace Lw
open PySem EV
section
variable {N : Nt} {ws : List Str}
/-- the candidates in the reach of a -/
noncomputable def needL (N : Nt) (ws : List Str) (a : Int) : List Int := (reachL N a).filter fun x => decide (x ∈ candL N ws)
theorem needL_len (h : Net N) (ws : List Str) (a : Int) : (needL N ws a).length ≤ 8 := Nat.le_trans (List.length_filter_le _ _) (reachL_len h a)
theorem withL_in (r : Rep N ws) {w : Str} {i : Int} (m : i ∈ withL ws w) : 0 ≤ i ∧ i < N.length := by
  have z := (mem_withL.mp m).1
  exact ⟨z.1, by rw [← r.len]; exact z.2⟩
theorem withL_len8 (h : Net N) (r : Rep N ws) (w : Str) : (withL ws w).length ≤ 8 := by
  have z := (withL_rising ws w).len
  have := r.len
  have := h.hi
  omega
theorem needed_of (h : Net N) (r : Rep N ws) : f_needed_of (dN N) (tS ws) = pure (.lst (((withL ws "alarm").map (needL N ws)).map tI)) := by
  have rl := r.lim h
  have w8 := withL_len8 h r "alarm"
  have eo : okL [] = pure [] := rfl
  simp only [f_needed_of, pure_bind, bind_assoc, fn2_eq, candidates_of h r, with_word ws _ rl, run0_p, items_tup, eo, id]
  rw [forS_map (fun a => tI (needL N ws a)) (fun c a ma hc => ?_) (by rw [List.length_nil]; show _ ≤ 1000000; omega), pure_bind, List.nil_append, List.map_map]
  · rfl
  · have z := withL_in r ma
    rw [reach_ok h z.1 z.2, run0_p, pure_bind, items_tup, pure_bind, filtI (fun x => decide (x ∈ candL N ws)) (by have := reachL_len h a; show _ ≤ 1000000; omega) (fun x _ => by rw [inT, pure_bind, asB_bl]), pure_bind,
      tupleL (by rw [List.length_map]; have := needL_len h ws a; show (needL N ws a).length ≤ 1000000; omega), pure_bind, okLen_ok (by rw [List.length_append, List.length_singleton]; exact hc)]
    rfl
/-- rows of ints, small: how they compare -/
theorem rows_shp {L : List (List Int)} : shp (.lst (L.map tI)) = true := by
  unfold EV.shp SeqAt.shaped
  have e1 : PyData.canLayAll0 (toPyL (L.map tI)) = true := all_lay fun x m => by
    obtain ⟨a, _, rfl⟩ := List.mem_map.mp m
    have z := allI_lay a
    simp only [toPy, PyData.canLay0]
    exact z
  have e2 : PyData.depthAll (toPyL (L.map tI)) ≤ 1 := all_deep fun x m => by
    obtain ⟨a, _, rfl⟩ := List.mem_map.mp m
    have z := allI_deep a
    simp only [toPy, PyData.depth]
    omega
  simp only [toPy, PyData.canLay0, PyData.depth, e1, Bool.true_and, decide_eq_true_eq]
  omega
theorem eqv_rows : ∀ a b : List Int, eqvD (tI a) (tI b) = (a == b)
  | [], [] => rfl
  | [], _ :: _ => rfl
  | _ :: _, [] => rfl
  | x :: a, y :: b => by
    show (x == y && eqvD (tI a) (tI b)) = (x == y && a == b)
    rw [eqv_rows a b]
theorem any_rows (L : List (List Int)) (b : List Int) : ((L.map tI).any fun z => eqvD z (tI b)) = decide (b ∈ L) := by
  rw [Bool.eq_iff_iff, List.any_eq_true, decide_eq_true_eq]
  constructor
  · rintro ⟨z, hz, e⟩
    obtain ⟨a, ha, rfl⟩ := List.mem_map.mp hz
    rw [eqv_rows, beq_iff_eq] at e
    exact e ▸ ha
  · intro h
    exact ⟨tI b, List.mem_map.mpr ⟨b, h, rfl⟩, by rw [eqv_rows, beq_iff_eq]⟩
theorem inRows (b : List Int) (L : List (List Int)) : inD (tI b) (.lst (L.map tI)) = pure (.bl (decide (b ∈ L))) := by
  show (if shp (tI b) = true ∧ shp (.lst (L.map tI)) = true then pure (.bl ((L.map tI).any fun z => eqvD z (tI b))) else bad : PM D) = _
  rw [if_pos ⟨shpTI b, rows_shp⟩, any_rows]
theorem ninRows (b : List Int) (L : List (List Int)) : notInD (tI b) (.lst (L.map tI)) = pure (.bl (!decide (b ∈ L))) := by
  show (if shp (tI b) = true ∧ shp (.lst (L.map tI)) = true then pure (.bl (!(L.map tI).any fun z => eqvD z (tI b))) else bad : PM D) = _
  rw [if_pos ⟨shpTI b, rows_shp⟩, any_rows]
theorem need_empty (N : Nt) (ws : List Str) (a : Int) : needL N ws a = [] ↔ meets (reachL N a) (candL N ws) = false := by
  unfold needL
  rw [List.filter_eq_nil_iff, ← Bool.not_eq_true, meets_iff]
  constructor
  · rintro h ⟨x, h1, h2⟩
    exact h x h1 (decide_eq_true h2)
  · intro h x h1 h2
    exact h ⟨x, h1, of_decide_eq_true h2⟩
/-- the quiet ones that reach c -/
noncomputable def rulersL (N : Nt) (ws : List Str) (c : Int) : List Int := (withL ws "quiet").filter fun q => decide (c ∈ reachL N q)
theorem rulers_ne (h : Net N) (r : Rep N ws) {c : Int} (h0 : 0 ≤ c) (h1 : c < N.length) (hc : c ∉ candL N ws) : rulersL N ws c ≠ [] := by
  have : ∃ q ∈ withL ws "quiet", Reach N q c := Classical.byContradiction fun z => hc (mem_setOf.mpr ⟨⟨h0, h1⟩, z⟩)
  obtain ⟨q, mq, rq⟩ := this
  have z := withL_in r mq
  intro e
  have m : q ∈ rulersL N ws c := List.mem_filter.mpr ⟨mq, decide_eq_true ((mem_reachL h z.1 z.2).mpr rq)⟩
  rw [e] at m
  cases m
/-- the alarming ones without a candidate -/
noncomputable def lostL (N : Nt) (ws : List Str) : List Int := (withL ws "alarm").filter fun a => !meets (reachL N a) (candL N ws)
theorem first0 {l : List Int} (h : l ≠ []) : getD (lI l) (.int 0) = pure (.int (ix l 0)) := by
  have : 0 < l.length := List.length_pos_iff.mpr h
  rw [getL (l := l) (f := D.int) (by omega) (by omega)]
noncomputable def firstL (N : Nt) (ws : List Str) (c : Int) : Int := ix (rulersL N ws c) 0
/-- the proof that nothing explains -/
noncomputable def lostD (N : Nt) (ws : List Str) : Int := ix (lostL N ws) 0
noncomputable def lostQ (N : Nt) (ws : List Str) : List Int := (reachL N (lostD N ws)).map (firstL N ws)
theorem lost_ne (e : (withL ws "alarm").all (fun a => meets (reachL N a) (candL N ws)) = false) : lostL N ws ≠ [] := by
  intro z
  unfold lostL at z
  rw [List.filter_eq_nil_iff] at z
  rw [List.all_eq_false] at e
  obtain ⟨a, ma, h⟩ := e
  exact z a ma (by simpa using h)
theorem lost_mem (h : Net N) (r : Rep N ws) (e : lostL N ws ≠ []) : (0 ≤ lostD N ws ∧ lostD N ws < N.length) ∧ ∀ c ∈ reachL N (lostD N ws), rulersL N ws c ≠ [] := by
  have hp : 0 < (lostL N ws).length := List.length_pos_iff.mpr e
  have m : lostD N ws ∈ lostL N ws := ix_mem (by omega) (by omega)
  obtain ⟨m1, m2⟩ := List.mem_filter.mp m
  have z := withL_in r m1
  refine ⟨z, fun c mc => ?_⟩
  have hc := h.reach_in z ((mem_reachL h z.1 z.2).mp mc)
  refine rulers_ne h r hc.1 hc.2 fun k => ?_
  have : meets (reachL N (lostD N ws)) (candL N ws) = true := meets_iff.mpr ⟨c, mc, k⟩
  rw [this] at m2
  cases m2
end
end Lw

/-! MB7: the reaches of the laws k25-k44, by turns. -/
namespace Lw
open PySem EV
section
variable {N : Nt}
/-- rows on their way to the reaches -/
structure Tab (N : Nt) (t : Nat) (T : List (List Int)) : Prop where
  len : T.length = N.length
  fd : ∀ i : Int, 0 ≤ i → i < N.length → Fd N i (ix T i)
  ne : ∀ i : Int, 0 ≤ i → i < N.length → ∀ y ∈ ix N i, y ∈ ix T i
  grow : ∀ i : Int, 0 ≤ i → i < N.length → Closed N (ix T i) ∨ t + 1 ≤ (ix T i).length
  asc : 1 ≤ t → ∀ i : Int, 0 ≤ i → i < N.length → (ix T i).Pairwise (· < ·)
theorem setI_nodup (l : List Int) : (setI l).Nodup := asc_nodup (setI_asc l)
/-- one turn -/
def turnL (T : List (List Int)) : List (List Int) := T.map fun own => setI (own.flatMap fun x => ix T x)
theorem ix_turn {T : List (List Int)} {i : Int} (h0 : 0 ≤ i) (h1 : i < T.length) : ix (turnL T) i = setI ((ix T i).flatMap fun x => ix T x) := by
  unfold turnL
  rw [ix_map h0 h1]
theorem Reach.trans {c x y : Int} (h : Reach N c x) (h2 : Reach N x y) : Reach N c y := by
  induction h2 with
  | refl => exact h
  | step _ m ih => exact .step ih m
theorem nodup_sub_len {a b : List Int} (ha : a.Nodup) (h : ∀ x ∈ a, x ∈ b) {y : Int} (hy : y ∈ b) (hn : y ∉ a) : a.length + 1 ≤ b.length := by
  have p : (sortI (y :: a)).length ≤ (setI b).length := by
    have nd : (y :: a).Nodup := List.nodup_cons.mpr ⟨hn, ha⟩
    have e : sortI (y :: a) = (setI b).filter fun x => decide (x ∈ y :: a) := asc_eq (sortI_nodup nd) ((setI_asc b).filter _) fun k => by
      rw [(sortI_perm _).mem_iff, List.mem_filter, mem_setI, decide_eq_true_eq]
      refine ⟨fun m => ⟨?_, m⟩, fun m => m.2⟩
      rcases List.mem_cons.mp m with rfl | m
      · exact hy
      · exact h k m
    rw [e]
    exact List.length_filter_le _ _
  rw [(sortI_perm _).length_eq, List.length_cons] at p
  have := setI_len b
  omega
theorem Tab.turn (h : Net N) {t : Nat} {T : List (List Int)} (a : Tab N t T) : Tab N (t + 1) (turnL T) := by
  have hin : ∀ i : Int, 0 ≤ i → i < N.length → ∀ x ∈ ix T i, 0 ≤ x ∧ x < N.length := fun i h0 h1 x m => h.reach_in ⟨h0, h1⟩ ((a.fd i h0 h1).rc x m)
  have ex : ∀ i : Int, 0 ≤ i → i < N.length → ix (turnL T) i = setI ((ix T i).flatMap fun x => ix T x) := fun i h0 h1 => ix_turn h0 (by rw [a.len]; exact h1)
  have sup : ∀ i : Int, 0 ≤ i → i < N.length → ∀ x ∈ ix T i, x ∈ ix (turnL T) i := fun i h0 h1 x m => by
    rw [ex i h0 h1, mem_setI, List.mem_flatMap]
    have z := hin i h0 h1 x m
    exact ⟨x, m, (a.fd x z.1 z.2).c⟩
  have fd : ∀ i : Int, 0 ≤ i → i < N.length → Fd N i (ix (turnL T) i) := fun i h0 h1 => by
    refine ⟨by rw [ex i h0 h1]; exact setI_nodup _, fun y m => ?_, sup i h0 h1 _ (a.fd i h0 h1).c⟩
    rw [ex i h0 h1, mem_setI, List.mem_flatMap] at m
    obtain ⟨x, m1, m2⟩ := m
    have z := hin i h0 h1 x m1
    exact ((a.fd i h0 h1).rc x m1).trans ((a.fd x z.1 z.2).rc y m2)
  refine ⟨by unfold turnL; rw [List.length_map, a.len], fd, fun i h0 h1 y m => sup i h0 h1 y (a.ne i h0 h1 y m), fun i h0 h1 => ?_, fun _ i h0 h1 => by rw [ex i h0 h1]; exact setI_asc _⟩
  by_cases hc : Closed N (ix T i)
  · refine .inl fun x m y my => sup i h0 h1 y ?_
    have r := (fd i h0 h1).rc x m
    exact hc x (((a.fd i h0 h1).done hc x).mpr r) y my
  · refine .inr ?_
    have l : t + 1 ≤ (ix T i).length := by
      rcases a.grow i h0 h1 with z | z
      · exact absurd z hc
      · exact z
    have : ∃ x ∈ ix T i, ∃ y ∈ ix N x, y ∉ ix T i := by
      refine Classical.byContradiction fun z => hc fun x m y my => Classical.byContradiction fun q => z ⟨x, m, y, my, q⟩
    obtain ⟨x, mx, y, my, ny⟩ := this
    have z := hin i h0 h1 x mx
    have my2 : y ∈ ix (turnL T) i := by
      rw [ex i h0 h1, mem_setI, List.mem_flatMap]
      exact ⟨x, mx, a.ne x z.1 z.2 y my⟩
    have := nodup_sub_len (a.fd i h0 h1).nd (sup i h0 h1) my2 ny
    omega
theorem tab0 (h : Net N) : Tab N 0 ((iota N.length).map fun i => i :: ix N i) := by
  have e : ∀ i : Int, 0 ≤ i → i < N.length → ix ((iota N.length).map fun i => i :: ix N i) i = i :: ix N i := fun i h0 h1 => by
    rw [ix_map h0 (by rw [len_iota]; exact h1), ix_iota h0 h1]
  refine ⟨by rw [List.length_map, len_iota], fun i h0 h1 => ?_, fun i h0 h1 y m => ?_, fun i h0 h1 => .inr ?_, fun h => by omega⟩
  · rw [e i h0 h1]
    have z := h.ixr h0 h1
    refine ⟨List.nodup_cons.mpr ⟨z.2, asc_nodup z.1.2⟩, fun x m => ?_, List.mem_cons_self⟩
    rcases List.mem_cons.mp m with rfl | m
    · exact .refl
    · exact .step .refl m
  · rw [e i h0 h1]
    exact List.mem_cons_of_mem _ m
  · rw [e i h0 h1, List.length_cons]
    omega
theorem Tab.done (h : Net N) {T : List (List Int)} (a : Tab N N.length T) : T = (iota N.length).map fun i => reachL N i := by
  refine List.ext_getElem? fun k => ?_
  by_cases hk : k < N.length
  · have z := ix_get (l := T) (i := (k : Int)) (by omega) (by rw [a.len]; omega)
    rw [show ((k : Int)).toNat = k by omega] at z
    rw [z, List.getElem?_map, iota_get hk]
    have f := a.fd k (by omega) (by omega)
    have hc : Closed N (ix T k) := by
      rcases a.grow k (by omega) (by omega) with c | c
      · exact c
      · have := f.len h (by omega) (by omega)
        omega
    show some (ix T k) = some (reachL N k)
    congr 1
    exact eq_setOf (a.asc h.lo k (by omega) (by omega)) fun x => by
      rw [f.done hc x]
      exact ⟨fun r => ⟨h.reach_in ⟨by omega, by omega⟩ r, r⟩, fun r => r.2⟩
  · rw [List.getElem?_eq_none (by rw [a.len]; omega), List.getElem?_eq_none (by rw [List.length_map, len_iota]; omega)]
abbrev lR (T : List (List Int)) : D := .lst (T.map lI)
theorem reaches (h : Net N) : f_law_reaches (dN N) = pure (.lst ((iota N.length).map fun i => lI (reachL N i))) := by
  have hl := h.lim
  have h8 := h.hi
  have eo : okL [] = pure [] := rfl
  have e1 : ∀ d : D, mkL [d] = pure (.lst [d]) := fun _ => rfl
  simp only [f_law_reaches, pure_bind, bind_assoc, enum_tup, len_tup, List.length_map, range1 hl, eo, e1, id]
  rw [compPm (zs := iota N.length) (fun i => (D.int i, tI (ix N i))) (fun i => lI (i :: ix N i)) (pairs_ix N tI) (by rw [pairs_len, List.length_map]; exact hl) (fun _ => rfl) (fun i mi => by
    have mi := mem_iota.mp mi
    have z := (h.ixr mi.1 mi.2).1.len
    show (listF [tI (ix N i)] >>= fun x => addD (.lst [.int i]) x) = _
    show (mkL ((ix N i).map D.int) >>= fun x => addD (.lst [.int i]) x) = _
    rw [mkL_ok (by rw [List.length_map]; show _ ≤ 1000000; omega), pure_bind]
    exact mkL_ok (by rw [List.length_append, List.length_map]; show 1 + _ ≤ 1000000; omega)), pure_bind]
  refine forS_then (fun t c => ∃ T, c = lR T ∧ Tab N t T) ⟨_, by rw [lR, List.map_map]; rfl, tab0 h⟩ (fun t z c hz hc => ?_) (fun c hc => ?_)
  · obtain ⟨T, rfl, a⟩ := hc
    refine ⟨_, ?_, _, rfl, a.turn h⟩
    have hT := a.len
    rw [items_lst, pure_bind, forS_flat lI (fun own => [lI (setI (own.flatMap fun x => ix T x))]) (m := 1) (fun c own mo hc => ?_) (fun _ _ => by simp) (by rw [List.length_nil]; show _ ≤ 1000000; omega)]
    · rw [pure_bind, List.nil_append, ← List.map_eq_flatMap]
      unfold lR turnL
      rw [List.map_map]
      rfl
    · obtain ⟨k, hk⟩ := List.mem_iff_getElem?.mp mo
      have hkl := (List.getElem?_eq_some_iff.mp hk).1
      have eo : own = ix T k := by
        have z := ix_get (l := T) (i := (k : Int)) (by omega) (by omega)
        rw [show ((k : Int)).toNat = k by omega, hk] at z
        exact Option.some.inj z
      have f := a.fd k (by omega) (by omega)
      have fl := f.len h (by omega) (by omega)
      rw [← eo] at f fl
      have hin : ∀ x ∈ own, 0 ≤ x ∧ x < N.length := fun x m => h.reach_in ⟨by omega, by omega⟩ (f.rc x m)
      have hrow : ∀ x ∈ own, (ix T x).length ≤ 8 := fun x m => by
        have z := hin x m
        have := (a.fd x z.1 z.2).len h z.1 z.2
        omega
      rw [items_lst, pure_bind, forS_flat D.int (fun x => (ix T x).map D.int) (m := 8) (fun c x mx hc => ?_) (fun x mx => by rw [List.length_map]; exact hrow x mx) (by rw [List.length_nil]; show _ ≤ 1000000; omega), pure_bind, List.nil_append]
      · have lf : ∀ l : List Int, (∀ x ∈ l, (ix T x).length ≤ 8) → (l.flatMap fun x => ix T x).length ≤ l.length * 8 := fun l => by
          induction l with
          | nil => intro _; simp
          | cons y l ih =>
            intro hl
            have h1 := hl y List.mem_cons_self
            have h2 := ih fun x m => hl x (List.mem_cons_of_mem _ m)
            rw [List.flatMap_cons, List.length_append, List.length_cons, Nat.succ_mul]
            omega
        have l64 := lf own hrow
        have ls : (setI (own.flatMap fun x => ix T x)).length ≤ N.length := nodup_len (setI_nodup _) fun y m => by
          obtain ⟨x, m1, m2⟩ := List.mem_flatMap.mp (mem_setI.mp m)
          have z := hin x m1
          exact h.reach_in z ((a.fd x z.1 z.2).rc y m2)
        show (sortSetD (.lst (own.flatMap fun x => (ix T x).map D.int)) >>= _) = _
        rw [show (own.flatMap fun x => (ix T x).map D.int) = (own.flatMap fun x => ix T x).map D.int by rw [List.map_flatMap], ssetG (by omega) (by omega), pure_bind, okLen_ok (by rw [List.length_append, List.length_singleton]; exact hc)]
        rfl
      · have z := hin x mx
        rw [getL (l := T) z.1 (by rw [hT]; exact z.2), pure_bind]
        show (pure ((ix T x).map D.int) >>= _) = _
        rw [pure_bind, okLen_ok (by rw [List.length_append, List.length_map]; have := hrow x mx; omega)]
        rfl
  · obtain ⟨T, rfl, a⟩ := hc
    rw [len_iota] at a
    rw [a.done h, lR, List.map_map]
    rfl
end
end Lw

/-! M15: all sets of some things; explanations_of. -/
namespace Lw
open PySem EV
/-- all sublists -/
structure IsSub (l : List Int) (L : List (List Int)) : Prop where
  mem : ∀ B, B ∈ L ↔ B.Sublist l
  nd : L.Nodup
  hd : ∃ r, L = [] :: r
  len : L.length = 2 ^ l.length
theorem sub_zero : IsSub [] [[]] := ⟨fun B => by rw [List.mem_singleton, List.sublist_nil], by simp, ⟨[], rfl⟩, rfl⟩
theorem sub_app {l : List Int} {x : Int} {L : List (List Int)} (h : IsSub l L) (hx : x ∉ l) : IsSub (l ++ [x]) (L ++ L.map fun r => r ++ [x]) := by
  have no : ∀ r : List Int, r ++ [x] ∉ L := fun r m => hx (((h.mem _).mp m).subset (by simp))
  refine ⟨fun B => ?_, ?_, ?_, ?_⟩
  · rw [List.mem_append, h.mem, List.mem_map, List.sublist_append_iff]
    constructor
    · rintro (hB | ⟨r, hr, rfl⟩)
      · exact ⟨B, [], by simp, hB, by simp⟩
      · exact ⟨r, [x], rfl, (h.mem _).mp hr, List.Sublist.refl _⟩
    · rintro ⟨a, b, rfl, ha, hb⟩
      have hb' : b = [] ∨ b = [x] := by
        cases hb with
        | cons _ h => exact .inl (List.sublist_nil.mp h)
        | cons_cons _ h => exact .inr (by rw [List.sublist_nil.mp h])
      rcases hb' with rfl | rfl
      · exact .inl (by simpa using ha)
      · exact .inr ⟨a, (h.mem _).mpr ha, rfl⟩
  · refine List.nodup_append.mpr ⟨h.nd, ?_, fun a ha b hb e => ?_⟩
    · exact List.pairwise_map.mpr (h.nd.imp fun hne e => hne (List.append_cancel_right e))
    · subst e
      obtain ⟨r, _, e⟩ := List.mem_map.mp hb
      exact no r (e ▸ ha)
  · obtain ⟨r, rfl⟩ := h.hd
    exact ⟨_, rfl⟩
  · rw [List.length_append, List.length_map, h.len, List.length_append, List.length_singleton, Nat.pow_succ]
    omega
theorem sub_ex (l : List Int) (hl : l.Nodup) : ∃ L, IsSub l L := by
  have : ∀ n, n ≤ l.length → ∃ L, IsSub (l.take n) L := fun n => by
    induction n with
    | zero => exact fun _ => ⟨_, by rw [List.take_zero]; exact sub_zero⟩
    | succ n ih =>
      intro hn
      obtain ⟨L, h⟩ := ih (by omega)
      have e : l.take (n + 1) = l.take n ++ [l[n]] := by rw [List.take_append_getElem]
      have nd : (l.take n ++ [l[n]]).Nodup := by
        rw [← e]
        exact hl.sublist (List.take_sublist _ _)
      rw [e]
      exact ⟨_, sub_app h fun m => (List.nodup_append.mp nd).2.2 _ m _ (by simp) rfl⟩
  obtain ⟨L, h⟩ := this l.length (Nat.le_refl _)
  rw [List.take_length] at h
  exact ⟨L, h⟩
open Classical in
/-- all sublists, ascending -/
noncomputable def subsL (l : List Int) : List (List Int) := if h : ∃ L, IsSub l L then (Classical.choose h).mergeSort leI else []
theorem sorted_uniq {A B : List (List Int)} (ha : A.Pairwise fun a b => leI a b = true) (hb : B.Pairwise fun a b => leI a b = true) (na : A.Nodup) (nb : B.Nodup) (e : ∀ x, x ∈ A ↔ x ∈ B) : A = B :=
  List.Perm.eq_of_pairwise (fun a b _ _ h1 h2 => leI_anti h1 h2) ha hb ((List.perm_ext_iff_of_nodup na nb).mpr e)
theorem subsL_of {l : List Int} {L : List (List Int)} (h : IsSub l L) : L.mergeSort leI = subsL l := by
  have ex : ∃ L, IsSub l L := ⟨L, h⟩
  unfold subsL
  rw [dif_pos ex]
  have h2 := Classical.choose_spec ex
  refine sorted_uniq (List.pairwise_mergeSort leI_tr leI_tot _) (List.pairwise_mergeSort leI_tr leI_tot _) ((List.mergeSort_perm _ _).nodup_iff.mpr h.nd) ((List.mergeSort_perm _ _).nodup_iff.mpr h2.nd) fun x => ?_
  rw [(List.mergeSort_perm _ _).mem_iff, (List.mergeSort_perm _ _).mem_iff, h.mem, h2.mem]
section
variable {l : List Int}
theorem mem_subsL (hl : l.Nodup) {B : List Int} : B ∈ subsL l ↔ B.Sublist l := by
  obtain ⟨L, h⟩ := sub_ex l hl
  rw [← subsL_of h, (List.mergeSort_perm _ _).mem_iff, h.mem]
theorem subsL_len (hl : l.Nodup) : (subsL l).length = 2 ^ l.length := by
  obtain ⟨L, h⟩ := sub_ex l hl
  rw [← subsL_of h, List.length_mergeSort, h.len]
theorem subsL_nodup (hl : l.Nodup) : (subsL l).Nodup := by
  obtain ⟨L, h⟩ := sub_ex l hl
  rw [← subsL_of h]
  exact (List.mergeSort_perm _ _).nodup_iff.mpr h.nd
theorem subsL_sorted (hl : l.Nodup) : (subsL l).Pairwise fun a b => leI a b = true := by
  obtain ⟨L, h⟩ := sub_ex l hl
  rw [← subsL_of h]
  exact List.pairwise_mergeSort leI_tr leI_tot _
end
theorem sub_asc {l B : List Int} (hl : l.Pairwise (· < ·)) : B.Sublist l ↔ B.Pairwise (· < ·) ∧ ∀ x ∈ B, x ∈ l := by
  constructor
  · intro h
    exact ⟨hl.sublist h, fun x m => h.subset m⟩
  · rintro ⟨h1, h2⟩
    have e : B = l.filter fun x => decide (x ∈ B) := asc_eq h1 (hl.filter _) fun k => by
      rw [List.mem_filter, decide_eq_true_eq]
      exact ⟨fun m => ⟨h2 k m, m⟩, fun m => m.2⟩
    rw [e]
    exact List.filter_sublist
theorem take_snoc {l : List Int} {i : Nat} {z : Int} (h : l[i]? = some z) : l.take (i + 1) = l.take i ++ [z] := by
  obtain ⟨hi, e⟩ := List.getElem?_eq_some_iff.mp h
  subst e
  rw [List.take_append_getElem]
theorem not_take {l : List Int} (hl : l.Nodup) {i : Nat} {z : Int} (h : l[i]? = some z) : z ∉ l.take i := fun m => by
  have e := take_snoc h
  have nd : (l.take i ++ [z]).Nodup := by
    rw [← e]
    exact hl.sublist (List.take_sublist _ _)
  exact (List.nodup_append.mp nd).2.2 _ m _ (by simp) rfl
theorem pow8' {n : Nat} (h : n ≤ 8) : 2 ^ n ≤ 256 := Nat.pow_le_pow_right (by decide) h
theorem subsets_ofG {l : List Int} {d : D} (hd : itemsD d = pure (l.map D.int)) (hl : l.Nodup) (h8 : l.length ≤ 8) : f_subsets_of d = pure (.lst ((subsL l).map tI)) := by
  have e1 : mkT [] = pure (.tup []) := rfl
  have e2 : ∀ d : D, mkL [d] = pure (.lst [d]) := fun _ => rfl
  simp only [f_subsets_of, pure_bind, bind_assoc, e1, e2, hd, id]
  refine forS_then (fun i c => ∃ L, c = .lst (L.map tI) ∧ IsSub (l.take i) L) ⟨[[]], rfl, by rw [List.take_zero]; exact sub_zero⟩ (fun i z c hz hc => ?_) (fun c hc => ?_)
  · obtain ⟨L, rfl, h⟩ := hc
    have hi := (List.getElem?_eq_some_iff.mp hz).1
    refine ⟨_, ?_, _, rfl, by rw [take_snoc hz]; exact sub_app h (not_take hl hz)⟩
    have tl : (l.take i).length ≤ 8 := by rw [List.length_take]; omega
    have h256 := pow8' tl
    have hL := h.len
    rw [items_lst, pure_bind, compPm (zs := L) tI (fun r => tI (r ++ [z])) (by rw [List.map_map]; rfl) (by rw [List.length_map]; show _ ≤ 1000000; omega) (fun _ => rfl) (fun r mr => ?_), pure_bind, addL (by rw [List.length_map, List.length_map]; show _ ≤ 1000000; omega)]
    · rw [List.map_append, List.map_map]
      rfl
    · have hr := ((h.mem r).mp mr).length_le
      simp only [items_tup, pure_bind]
      rw [show r.map D.int ++ [D.int z] = (r ++ [z]).map D.int by rw [List.map_append]; rfl]
      exact mkT_ok (by rw [List.length_map, List.length_append, List.length_singleton]; show _ ≤ 1000000; omega)
  · obtain ⟨L, rfl, h⟩ := hc
    rw [List.take_length] at h
    have h256 := pow8' h8
    rw [sort_rows (.inl h.hd) (by rw [h.len]; show _ ≤ 1000000; omega), subsL_of h]
    rfl
theorem subsets_of {l : List Int} (hl : l.Nodup) (h8 : l.length ≤ 8) : f_subsets_of (tI l) = pure (.lst ((subsL l).map tI)) := subsets_ofG (items_tup _) hl h8
theorem subsets_ofL {l : List Int} (hl : l.Nodup) (h8 : l.length ≤ 8) : f_subsets_of (lI l) = pure (.lst ((subsL l).map tI)) := subsets_ofG (items_lst _) hl h8
section
variable {N : Nt} {ws : List Str}
theorem need_sub {a x : Int} : x ∈ needL N ws a ↔ x ∈ reachL N a ∧ x ∈ candL N ws := by
  unfold needL
  rw [List.mem_filter, decide_eq_true_eq]
theorem every_sorted (N : Nt) (ws : List Str) : (everyL N ws).Pairwise fun a b => leI a b = true := (subs_sorted _).filter _
theorem every_nodup (N : Nt) (ws : List Str) : (everyL N ws).Nodup := (subs_nodup _).filter _
/-- an explanation: candidates, and one for each alarming one -/
theorem fit_iff (h : Net N) (r : Rep N ws) {B : List Int} : (Rising N.length B ∧ fitB N ws B = true) ↔ B.Sublist (candL N ws) ∧ ∀ a ∈ withL ws "alarm", meets (needL N ws a) B = true := by
  rw [sub_asc (candL_rising N ws).2]
  constructor
  · rintro ⟨h1, h2⟩
    have s := fit_sub h r h1 h2
    refine ⟨⟨h1.2, s⟩, fun a ma => ?_⟩
    obtain ⟨x, m1, m2⟩ := meets_iff.mp (fit_alarm h2 ma)
    exact meets_iff.mpr ⟨x, need_sub.mpr ⟨m1, s x m2⟩, m2⟩
  · rintro ⟨⟨h1, s⟩, h2⟩
    refine ⟨⟨fun x m => (candL_rising N ws).1 x (s x m), h1⟩, fit_of r (fun a ma => ?_) fun q mq => ?_⟩
    · obtain ⟨x, m1, m2⟩ := meets_iff.mp (h2 a ma)
      exact meets_iff.mpr ⟨x, (need_sub.mp m1).1, m2⟩
    · have z := cand_quiet h r mq
      cases e : meets (reachL N q) B with
      | false => rfl
      | true =>
        obtain ⟨x, m1, m2⟩ := meets_iff.mp e
        rw [meets_iff.mpr ⟨x, m1, s x m2⟩] at z
        cases z
theorem every_filter (h : Net N) (r : Rep N ws) : (subsL (candL N ws)).filter (fun B => (withL ws "alarm").all fun a => meets (needL N ws a) B) = everyL N ws := by
  have nd := asc_nodup (candL_rising N ws).2
  refine sorted_uniq ((subsL_sorted nd).filter _) (every_sorted N ws) ((subsL_nodup nd).filter _) (every_nodup N ws) fun B => ?_
  rw [List.mem_filter, mem_subsL nd, mem_every, fit_iff h r, List.all_eq_true]
theorem explanations_of (h : Net N) (r : Rep N ws) : f_explanations_of (dN N) (tS ws) = pure (.lst ((everyL N ws).map tI)) := by
  have nd := asc_nodup (candL_rising N ws).2
  have c8 := candL_len h ws
  have w8 := withL_len8 h r "alarm"
  have h256 := pow8' c8
  have sl := subsL_len nd
  simp only [f_explanations_of, pure_bind, bind_assoc, fn1_eq, fn2_eq, needed_of h r, run0_p, candidates_of h r, subsets_of nd c8, items_lst, id]
  rw [compPf (zs := subsL (candL N ws)) tI (fun B => (withL ws "alarm").all fun a => meets (needL N ws a) B) tI (by rw [List.map_map]; rfl) (by rw [List.length_map, sl]; show _ ≤ 1000000; omega) (fun B _ => ?_) (fun _ _ _ => rfl), pure_bind, every_filter h r]
  rw [compPm (zs := (withL ws "alarm").map (needL N ws)) tI (fun l => .bl (meets l B)) (by rw [List.map_map]; rfl) (by rw [List.length_map, List.length_map]; show _ ≤ 1000000; omega) (fun _ => rfl) (fun l ml => ?_), pure_bind]
  · rw [List.map_map, show ((withL ws "alarm").map ((fun l => D.bl (meets l B)) ∘ needL N ws)) = ((withL ws "alarm").map fun a => meets (needL N ws a) B).map D.bl by rw [List.map_map]; rfl, blsF, pure_bind, asB_bl, List.all_map]
    rfl
  · obtain ⟨a, _, rfl⟩ := List.mem_map.mp ml
    rw [do_meet _ _ (by have := needL_len h ws a; show _ ≤ 1000000; omega), run0_p]
end
end Lw

/-! M16: what all explanations share: certain, expected. -/
namespace Lw
open PySem EV
section
variable {N : Nt} {ws : List Str}
theorem every_in (h : Net N) (r : Rep N ws) {B : List Int} : B ∈ everyL N ws ↔ B.Sublist (candL N ws) ∧ ∀ a ∈ withL ws "alarm", meets (needL N ws a) B = true := by
  rw [mem_every, fit_iff h r]
theorem need_ne (e : explained N ws = true) {a : Int} (ma : a ∈ withL ws "alarm") : ∃ x, x ∈ needL N ws a := by
  obtain ⟨x, m1, m2⟩ := meets_iff.mp (List.all_eq_true.mp e a ma)
  exact ⟨x, need_sub.mpr ⟨m1, m2⟩⟩
theorem needL_asc (N : Nt) (ws : List Str) (a : Int) : (needL N ws a).Pairwise (· < ·) := (setOf_asc _ _).filter _
theorem cand_every (h : Net N) (r : Rep N ws) (e : explained N ws = true) : candL N ws ∈ everyL N ws := mem_every.mpr ⟨candL_rising _ _, cand_fits h r e⟩
theorem every_explained (h : Net N) (r : Rep N ws) {B : List Int} (m : B ∈ everyL N ws) : explained N ws = true := by
  obtain ⟨h1, h2⟩ := mem_every.mp m
  exact explained_of h r h1 h2
theorem every_ne (h : Net N) (r : Rep N ws) : everyL N ws ≠ [] ↔ explained N ws = true := by
  have z := every_nil h r
  rw [← List.isEmpty_eq_false_iff, z]
  cases explained N ws <;> simp
/-- some of the candidates, one for each alarming one among them -/
theorem some_every (h : Net N) (r : Rep N ws) (p : Int → Bool) (hp : ∀ a ∈ withL ws "alarm", ∃ x ∈ needL N ws a, p x = true) : (candL N ws).filter p ∈ everyL N ws := (every_in h r).mpr ⟨List.filter_sublist, fun a ma => by
  obtain ⟨x, m, q⟩ := hp a ma
  exact meets_iff.mpr ⟨x, m, List.mem_filter.mpr ⟨(need_sub.mp m).2, q⟩⟩⟩
theorem none_have (h : Net N) (r : Rep N ws) (e : explained N ws = true) {c : Int} : (∀ B ∈ everyL N ws, c ∉ B) ↔ c ∉ candL N ws := by
  constructor
  · intro z
    exact z _ (cand_every h r e)
  · intro z B m mc
    exact z (((every_in h r).mp m).1.subset mc)
theorem all_have (h : Net N) (r : Rep N ws) (e : explained N ws = true) {c : Int} : (∀ B ∈ everyL N ws, c ∈ B) ↔ [c] ∈ (withL ws "alarm").map (needL N ws) := by
  constructor
  · intro z
    refine Classical.byContradiction fun q => ?_
    have m := some_every h r (fun x => decide (x ≠ c)) fun a ma => by
      obtain ⟨y, my⟩ := need_ne e ma
      refine Classical.byContradiction fun g => q (List.mem_map.mpr ⟨a, ma, ?_⟩)
      have all : ∀ x ∈ needL N ws a, x = c := fun x mx => Classical.byContradiction fun ne => g ⟨x, mx, decide_eq_true ne⟩
      refine asc_eq (needL_asc N ws a) (by simp) fun k => ?_
      rw [List.mem_singleton]
      exact ⟨all k, fun ek => by rw [ek, ← all y my]; exact my⟩
    have := z _ m
    have := (List.mem_filter.mp this).2
    simp at this
  · intro z B m
    obtain ⟨a, ma, e2⟩ := List.mem_map.mp z
    obtain ⟨x, m1, m2⟩ := meets_iff.mp (((every_in h r).mp m).2 a ma)
    rw [e2, List.mem_singleton] at m1
    rw [← m1]
    exact m2
theorem none_meet (h : Net N) (r : Rep N ws) (e : explained N ws = true) (R : List Int) : (∀ B ∈ everyL N ws, meets R B = false) ↔ meets R (candL N ws) = false := by
  constructor
  · intro z
    exact z _ (cand_every h r e)
  · intro z B m
    cases q : meets R B with
    | false => rfl
    | true =>
      obtain ⟨x, m1, m2⟩ := meets_iff.mp q
      rw [meets_iff.mpr ⟨x, m1, ((every_in h r).mp m).1.subset m2⟩] at z
      cases z
theorem all_meet (h : Net N) (r : Rep N ws) (R : List Int) : (∀ B ∈ everyL N ws, meets R B = true) ↔ (∃ a ∈ withL ws "alarm", ∀ x ∈ needL N ws a, x ∈ R) ∨ explained N ws = false := by
  constructor
  · intro z
    cases ee : explained N ws with
    | false => exact .inr rfl
    | true =>
      refine .inl (Classical.byContradiction fun q => ?_)
      have m := some_every h r (fun x => !decide (x ∈ R)) fun a ma => Classical.byContradiction fun g => q ⟨a, ma, fun x mx => Classical.byContradiction fun ne => g ⟨x, mx, by simp [ne]⟩⟩
      obtain ⟨x, m1, m2⟩ := meets_iff.mp (z _ m)
      have := (List.mem_filter.mp m2).2
      simp [m1] at this
  · rintro (⟨a, ma, z⟩ | z) B m
    · obtain ⟨x, m1, m2⟩ := meets_iff.mp (((every_in h r).mp m).2 a ma)
      exact meets_iff.mpr ⟨x, z x m1, m2⟩
    · rw [every_explained h r m] at z
      cases z
/-- the word of c among all explanations -/
noncomputable def certW (N : Nt) (ws : List Str) (c : Int) : Str := if c ∉ candL N ws then "whole" else if [c] ∈ (withL ws "alarm").map (needL N ws) then "broken" else "open"
noncomputable def certL (N : Nt) (ws : List Str) : List Str := (iota N.length).map (certW N ws)
noncomputable def certD (N : Nt) (ws : List Str) : D := if explained N ws = true then tS (certL N ws) else .non
/-- what c does with all explanations -/
noncomputable def expW (N : Nt) (ws : List Str) (c : Int) : Str := if meets (reachL N c) (candL N ws) = false then "quiet" else if ((withL ws "alarm").any fun a => (needL N ws a).all fun x => decide (x ∈ reachL N c)) = true then "alarm" else "open"
noncomputable def expL (N : Nt) (ws : List Str) : List Str := (iota N.length).map (expW N ws)
noncomputable def expD (N : Nt) (ws : List Str) : D := if explained N ws = true then tS (expL N ws) else .non
theorem forL_any {ι κ : Type} {dec : D → Option ι} {body : Unit → ι → PM (Lp Unit)} (g : κ → ι) (p : κ → Bool) {v : D} : ∀ {ds : List D} {zs : List κ}, ds.map dec = zs.map (fun z => some (g z)) → (∀ z ∈ zs, body () (g z) = pure (if p z = true then .ret v else .go ())) → forL dec body ds () = pure (if zs.any p = true then .ret v else .go ())
  | [], [], _, _ => rfl
  | [], _ :: _, h, _ => by simp at h
  | _ :: _, [], h, _ => by simp at h
  | d :: ds, z :: zs, h, hb => by
    rw [List.map_cons, List.map_cons] at h
    injection h with h1 h2
    unfold forL
    rw [h1]
    show (body () (g z) >>= _) = _
    rw [hb z List.mem_cons_self, pure_bind, List.any_cons]
    cases p z with
    | false =>
      rw [if_neg (by decide), Bool.false_or]
      exact forL_any g p h2 fun y m => hb y (List.mem_cons_of_mem _ m)
    | true => rfl
/-- how many of the explanations pass -/
theorem held_all {p : List Int → Bool} {L : List (List Int)} : (L.filter p).length = L.length ↔ ∀ B ∈ L, p B = true := by
  rw [List.length_filter_eq_length_iff]
theorem held_none {p : List Int → Bool} {L : List (List Int)} : (L.filter p).length = 0 ↔ ∀ B ∈ L, p B = false := by
  rw [List.length_eq_zero_iff, List.filter_eq_nil_iff]
  simp
theorem certW_eq (h : Net N) (r : Rep N ws) (e : explained N ws = true) (c : Int) : certW N ws c = (if ((everyL N ws).filter fun B => decide (c ∈ B)).length = (everyL N ws).length then "broken" else if ((everyL N ws).filter fun B => decide (c ∈ B)).length = 0 then "whole" else "open") := by
  have hp : 0 < (everyL N ws).length := List.length_pos_iff.mpr ((every_ne h r).mpr e)
  have n := none_have h r e (c := c)
  have a := all_have h r e (c := c)
  unfold certW
  have n' : ((everyL N ws).filter fun B => decide (c ∈ B)).length = 0 ↔ c ∉ candL N ws := by
    rw [held_none, ← n]
    simp
  have a' : ((everyL N ws).filter fun B => decide (c ∈ B)).length = (everyL N ws).length ↔ [c] ∈ (withL ws "alarm").map (needL N ws) := by
    rw [held_all, ← a]
    simp
  by_cases q : c ∈ candL N ws
  · rw [if_neg (fun z => z q)]
    by_cases g : [c] ∈ (withL ws "alarm").map (needL N ws)
    · rw [if_pos g, if_pos (a'.mpr g)]
    · rw [if_neg g, if_neg (fun z => g (a'.mp z)), if_neg (fun z => (n'.mp z) q)]
  · have z := n'.mpr q
    rw [if_pos q, if_neg (by omega), if_pos z]
theorem expW_eq (h : Net N) (r : Rep N ws) (e : explained N ws = true) (c : Int) : expW N ws c = (if ((everyL N ws).filter fun B => !meets (reachL N c) B).length = 0 then ("alarm" : Str) else if ((everyL N ws).filter fun B => meets (reachL N c) B).length = 0 then ("quiet" : Str) else ("open" : Str)) := by
  have hp : (everyL N ws) ≠ [] := (every_ne h r).mpr e
  have n := none_meet h r e (reachL N c)
  have a := all_meet h r (reachL N c)
  unfold expW
  have n' : ((everyL N ws).filter fun B => meets (reachL N c) B).length = 0 ↔ meets (reachL N c) (candL N ws) = false := by
    rw [held_none, ← n]
  have a' : ((everyL N ws).filter fun B => !meets (reachL N c) B).length = 0 ↔ ((withL ws "alarm").any fun a => (needL N ws a).all fun x => decide (x ∈ reachL N c)) = true := by
    rw [held_none]
    simp only [Bool.not_eq_false']
    rw [a, e]
    simp
  by_cases q : meets (reachL N c) (candL N ws) = false
  · rw [if_pos q, if_neg (fun z => ?_), if_pos (n'.mpr q)]
    obtain ⟨B, m⟩ := List.exists_mem_of_ne_nil _ hp
    have z1 := held_none.mp (n'.mpr q) B m
    have z2 := held_none.mp z B m
    rw [z1] at z2
    cases z2
  · rw [if_neg q]
    by_cases g : ((withL ws "alarm").any fun a => (needL N ws a).all fun x => decide (x ∈ reachL N c)) = true
    · rw [if_pos g, if_pos (a'.mpr g)]
    · rw [if_neg g, if_neg (fun z => g (a'.mp z)), if_neg (fun z => q (n'.mp z))]
end
end Lw

/-! MB8: the laws' own sets, tables, reports, cases (k25-k44). -/
namespace Lw
open PySem EV
theorem lmeets (xs ys : List Int) (hx : xs.length ≤ lim) : f_law_meets (lI xs) (tI ys) = pure (.bl (meets xs ys)) := by
  have eL : mkL [] = pure (.lst []) := rfl
  simp only [f_law_meets, pure_bind, bind_assoc, items_lst, eL, id]
  rw [compI (fun x => decide (x ∈ ys)) (fun _ => .int 1) hx (fun x _ => by rw [inT, pure_bind, asB_bl]) (fun _ _ _ => rfl), pure_bind, ne_nil (ones_lay _), isE_map, filt_meets]
  rfl
theorem lsets {l : List Int} (hl : l.Nodup) (h8 : l.length ≤ 8) : f_law_sets (lI l) = pure (.lst ((subsL l).map tI)) := by
  have e1 : mkT [] = pure (.tup []) := rfl
  have e2 : ∀ d : D, mkL [d] = pure (.lst [d]) := fun _ => rfl
  simp only [f_law_sets, pure_bind, bind_assoc, e1, e2, items_lst, id]
  refine forS_then (fun i c => ∃ L, c = .lst (L.map tI) ∧ IsSub (l.take i) L) ⟨[[]], rfl, by rw [List.take_zero]; exact sub_zero⟩ (fun i z c hz hc => ?_) (fun c hc => ?_)
  · obtain ⟨L, rfl, h⟩ := hc
    have hi := (List.getElem?_eq_some_iff.mp hz).1
    refine ⟨_, ?_, _, rfl, by rw [take_snoc hz]; exact sub_app h (not_take hl hz)⟩
    have tl : (l.take i).length ≤ 8 := by rw [List.length_take]; omega
    have h256 := pow8' tl
    have hL := h.len
    rw [items_lst, pure_bind, compPm (zs := L) tI (fun r => tI (r ++ [z])) (by rw [List.map_map]; rfl) (by rw [List.length_map]; show _ ≤ 1000000; omega) (fun _ => rfl) (fun r mr => ?_), pure_bind, addL (by rw [List.length_map, List.length_map]; show _ ≤ 1000000; omega)]
    · rw [List.map_append, List.map_map]
      rfl
    · have hr := ((h.mem r).mp mr).length_le
      rw [mkT1, pure_bind]
      show mkT (_ ++ _) = _
      rw [show r.map D.int ++ [D.int z] = (r ++ [z]).map D.int by rw [List.map_append]; rfl]
      exact mkT_ok (by rw [List.length_map, List.length_append, List.length_singleton]; show _ ≤ 1000000; omega)
  · obtain ⟨L, rfl, h⟩ := hc
    rw [List.take_length] at h
    have h256 := pow8' h8
    rw [sort_rows (.inl h.hd) (by rw [h.len]; show _ ≤ 1000000; omega), subsL_of h]
    rfl
theorem subsL_iota (n : Nat) : subsL (iota n) = subs n := by
  have nd := asc_nodup (iota_asc n)
  refine sorted_uniq (subsL_sorted nd) (subs_sorted n) (subsL_nodup nd) (subs_nodup n) fun B => ?_
  rw [mem_subsL nd, mem_subs, sub_asc (iota_asc n)]
  constructor
  · rintro ⟨h1, h2⟩
    exact ⟨fun x m => mem_iota.mp (h2 x m), h1⟩
  · rintro ⟨h1, h2⟩
    exact ⟨h2, fun x m => mem_iota.mpr (h1 x m)⟩
section
variable {N : Nt} {ws : List Str}
/-- a row of the table -/
noncomputable abbrev rowD (N : Nt) (B : List Int) : D := .tup [tI B, lI (alarmsL N B)]
noncomputable abbrev tableD (N : Nt) : D := .lst ((subs N.length).map (rowD N))
theorem rg_list {n : Nat} (h : n ≤ lim) : (rg1 (.int n) >>= mkL) = pure (lI (iota n)) := by
  rw [rg_iota h, pure_bind]
  exact mkL_ok (by rw [List.length_map, len_iota]; exact h)
theorem ltable (h : Net N) : f_law_table (dN N) = pure (tableD N) := by
  have hl := h.lim
  have h8 := h.hi
  have eo : okL [] = pure [] := rfl
  have nd := asc_nodup (iota_asc N.length)
  have p := pow8' h8
  simp only [f_law_table, pure_bind, fn1_eq, fn2_eq, reaches h, run0_p, eo, two2, kVO, len_tup, List.length_map, rg_list hl, id, enum_lst, lsets nd (by rw [len_iota]; exact h8), items_lst, subsL_iota]
  rw [forS_flat tI (fun B => [rowD N B]) (m := 1) (fun c B mB hc => ?_) (fun _ _ => by simp) (by rw [List.length_nil, subs_len]; show _ ≤ 1000000; omega), pure_bind, List.nil_append, ← List.map_eq_flatMap]
  rw [compPf (fun i => (D.int i, lI (reachL N i))) (fun i => meets (reachL N i) B) D.int (pairs_iota _ _) (by rw [pairs_len, List.length_map, len_iota]; exact hl)
      (fun i _ => by rw [lmeets _ _ (by have := reachL_len h i; show _ ≤ 1000000; omega), run0_p, pure_bind, asB_bl]) (fun _ _ _ => rfl), alarm_filter h, pure_bind, pure_bind]
  show (mkT [tI B, lI (alarmsL N B)] >>= _) = _
  rw [mkT2, pure_bind, okLen_ok (by rw [List.length_append, List.length_singleton]; exact hc)]
  rfl
/-- fitting, by what alarms -/
theorem fit_alarms (h : Net N) (r : Rep N ws) {B : List Int} : fitB N ws B = (iota ws.length).all fun i => !((ix ws i == "alarm") && !decide (i ∈ alarmsL N B) || (ix ws i == "quiet") && decide (i ∈ alarmsL N B)) := by
  unfold fitB
  rw [Bool.eq_iff_iff, List.all_eq_true, List.all_eq_true]
  refine forall_congr' fun i => forall_congr' fun mi => ?_
  have hi := mem_iota.mp mi
  have hi2 : i < N.length := by rw [← r.len]; exact hi.2
  have em : meets (reachL N i) B = decide (i ∈ alarmsL N B) := by
    rw [Bool.eq_iff_iff, alarm_iff h hi.1 hi2, decide_eq_true_eq]
    unfold alarmsL
    rw [mem_setOf]
    exact ⟨fun z => ⟨⟨hi.1, hi2⟩, z⟩, fun z => z.2⟩
  rw [em]
  have e1 : (("alarm" : Str) == "unseen") = false := by decide +kernel
  have e2 : (("quiet" : Str) == "unseen") = false := by decide +kernel
  have e3 : (("quiet" : Str) == "alarm") = false := by decide +kernel
  have e4 : (("unseen" : Str) == "alarm") = false := by decide +kernel
  have e5 : (("unseen" : Str) == "quiet") = false := by decide +kernel
  have e6 : (("alarm" : Str) == "quiet") = false := by decide +kernel
  have e7 : ∀ w : Str, (w == w) = true := fun w => beq_self_eq_true w
  rcases r.ws (ix ws i) (ix_mem hi.1 hi.2) with e | e | e <;> rw [e] <;> simp only [e1, e2, e3, e4, e5, e6, e7] <;> cases decide (i ∈ alarmsL N B) <;> decide
theorem forL_all {ι κ : Type} {dec : D → Option ι} {body : Unit → ι → PM (Lp Unit)} (g : κ → ι) (p : κ → Bool) {v : D} : ∀ {ds : List D} {zs : List κ}, ds.map dec = zs.map (fun z => some (g z)) → (∀ z ∈ zs, body () (g z) = pure (if p z = true then .go () else .ret v)) → forL dec body ds () = pure (if zs.all p = true then .go () else .ret v)
  | [], [], _, _ => rfl
  | [], _ :: _, h, _ => by simp at h
  | _ :: _, [], h, _ => by simp at h
  | d :: ds, z :: zs, h, hb => by
    rw [List.map_cons, List.map_cons] at h
    injection h with h1 h2
    unfold forL
    rw [h1]
    show (body () (g z) >>= _) = _
    rw [hb z List.mem_cons_self, pure_bind, List.all_cons]
    cases p z with
    | true =>
      rw [if_pos rfl, Bool.true_and]
      exact forL_all g p h2 fun y m => hb y (List.mem_cons_of_mem _ m)
    | false => rfl
theorem ldoes (h : Net N) (r : Rep N ws) (B : List Int) : f_law_does (tS ws) (lI (alarmsL N B)) = pure (.bl (fitB N ws B)) := by
  simp only [f_law_does, pure_bind, bind_assoc, enum_tup, id]
  rw [forL_all (v := .bl false) (zs := iota ws.length) (fun i => (D.int i, D.str (ix ws i))) (fun i => !((ix ws i == "alarm") && !decide (i ∈ alarmsL N B) || (ix ws i == "quiet") && decide (i ∈ alarmsL N B))) (pairs_ix ws D.str) (fun i _ => ?_), ← fit_alarms h r, pure_bind]
  · cases fitB N ws B <;> rfl
  · simp only [eqStr, pure_bind, asB_bl, ninL, inL]
    cases (ix ws i == "alarm") <;> cases (ix ws i == "quiet") <;> cases decide (i ∈ alarmsL N B) <;> rfl
theorem tab_dec (N : Nt) : ((subs N.length).map (rowD N)).map dec2 = (subs N.length).map fun B => some (tI B, lI (alarmsL N B)) := by
  rw [List.map_map]
  rfl
end
/-! what is drawn -/
theorem Ok.compD {e : D → PM D} {P : D → Prop} {t : Nat} {ds : List D} {k : Nat} {s : List Int} (hl : ds.length ≤ lim) (h : Pen k s) (hk : k + ds.length * t ≤ 1000000)
    (he : ∀ n ∈ ds, ∀ j s, j + t ≤ 1000000 → Pen j s → Ok (e n) s fun d s' => Pen (j + t) s' ∧ P d) :
    Ok (compL dec1 (fun _ => pure true) e ds) s fun r s' => Pen (k + ds.length * t) s' ∧ r.length = ds.length ∧ ∀ d ∈ r, P d := by
  unfold compL
  rw [if_pos hl]
  clear hl
  induction ds generalizing k s with
  | nil => exact ⟨[], s, rfl, by simpa using h, rfl, by simp⟩
  | cons n ns ih =>
    rw [List.length_cons, Nat.succ_mul] at hk
    unfold compG
    show Ok (EV.noExc (pure true) >>= _) s _
    rw [noExc_pure, pure_bind, if_pos rfl]
    refine Ok.bind ((he n List.mem_cons_self k s (by omega) h).noExc.imp fun d s1 ⟨h1, hd⟩ => ?_)
    refine Ok.bind ((ih h1 (by omega) (fun m hm => he m (List.mem_cons_of_mem _ hm))).imp fun r s2 ⟨h2, h3, h4⟩ => ?_)
    refine Ok.pure ⟨by rw [List.length_cons, Nat.succ_mul, show k + (ns.length * t + t) = k + t + ns.length * t by omega]; exact h2, by rw [List.length_cons, h3, List.length_cons], fun x m => ?_⟩
    rcases List.mem_cons.mp m with rfl | m
    · exact hd
    · exact h4 x m
theorem forS_ok {body : List D → D → PM (List D)} {P : D → Prop} {t : Nat} : ∀ {ns : List Int} {c : List D} {k : Nat} {s : List Int}, Pen k s → k + ns.length * t ≤ 1000000 → c.length + ns.length ≤ lim →
    (∀ c n j s, n ∈ ns → j + t ≤ 1000000 → c.length + 1 ≤ lim → Pen j s → Ok (body c (.int n)) s fun c' s' => Pen (j + t) s' ∧ ∃ d, c' = c ++ [d] ∧ P d) →
    Ok (forS dec1 body (ns.map D.int) c) s fun c' s' => Pen (k + ns.length * t) s' ∧ ∃ r, c' = c ++ r ∧ r.length = ns.length ∧ ∀ d ∈ r, P d
  | [], c, k, s, h, _, _, _ => Ok.pure ⟨by simpa using h, [], by simp, rfl, by simp⟩
  | n :: ns, c, k, s, h, hk, hl, hb => by
    rw [List.length_cons, Nat.succ_mul] at hk
    rw [List.length_cons] at hl
    rw [List.map_cons]
    show Ok (body c (.int n) >>= forS dec1 body (ns.map D.int)) s _
    refine Ok.bind ((hb c n k s List.mem_cons_self (by omega) (by omega) h).imp fun c1 s1 ⟨h1, d, e, hd⟩ => ?_)
    subst e
    refine (forS_ok h1 (by omega) (by rw [List.length_append, List.length_singleton]; omega) fun c m j s hm => hb c m j s (List.mem_cons_of_mem _ hm)).imp fun c' s' ⟨h2, r, e, hr, hp⟩ => ?_
    refine ⟨by rw [List.length_cons, Nat.succ_mul, show k + (ns.length * t + t) = k + t + ns.length * t by omega]; exact h2, d :: r, by rw [e, List.append_assoc]; rfl, by rw [List.length_cons, hr, List.length_cons], fun x m => ?_⟩
    rcases List.mem_cons.mp m with rfl | m
    · exact hd
    · exact hp x m
theorem report {N : Nt} (hN : Net N) {k : Nat} {s : List Int} (h : Pen k s) (hk : k ≤ 900000) : Ok (f_law_report (dN N) (tableD N)) s fun d s' => Pen (k + 10) s' ∧ ∃ ws, Rep N ws ∧ d = tS ws := by
  have hl := hN.lim
  have h8 := hN.hi
  have h1 := hN.lo
  have eo : okL [] = pure [] := rfl
  have p := pow8' h8
  have p1 : 1 ≤ (subs N.length).length := by rw [subs_len]; exact Nat.one_le_two_pow
  have e3 : mkL [D.str "alarm", D.str "quiet", D.str "unseen"] = pure (.lst ((["alarm", "quiet", "unseen"] : List Str).map .str)) := rfl
  simp only [f_law_report, bind_assoc, pure_bind, fn1_eq, two, eo, id]
  refine Ok.bind ((draw (m := 6) h (by omega) (by decide) (by decide)).imp fun d s1 ⟨p1', way, e, _, _⟩ => ?_)
  subst e
  refine Ok.bind ((choose (l := subs N.length) (f := rowD N) p1' (by omega) p1 (by rw [subs_len]; omega)).imp fun d s2 ⟨p2, B, e, _⟩ => ?_)
  subst e
  have eg : getD (rowD N B) (.int 1) = pure (lI (alarmsL N B)) := rfl
  simp only [eg, pure_bind, eqInt, asB_bl, len_tup, List.length_map, range1 hl, items_tup, e3]
  by_cases w : way = 0
  · rw [decide_eq_true w, if_pos rfl]
    refine Ok.bind ((Ok.compD (t := 1) (P := fun d => ∃ w : Str, d = .str w ∧ (w = "alarm" ∨ w = "quiet" ∨ w = "unseen")) (by rw [List.length_map]; exact hl) p2 (by rw [List.length_map]; omega) (fun _ _ j s hj ps => ?_)).imp fun r s5 ⟨p5, hr, hp⟩ => ?_)
    · refine (choose (f := D.str) ps (by omega) (by decide) (by decide)).imp fun d s' ⟨p', x, e, hx⟩ => ⟨p', x, e, ?_⟩
      simp only [List.mem_cons, List.not_mem_nil, or_false] at hx
      exact hx
    · rw [List.length_map] at p5 hr
      obtain ⟨ws, rfl, hs⟩ := strs_of (n := 0) hp
      rw [List.length_map] at hr
      rw [tupleL (by rw [List.length_map, hr]; exact hl)]
      exact Ok.pure ⟨p5.mono (by omega), ws, ⟨hr, hs⟩, rfl⟩
  · rw [decide_eq_false w, if_neg (by decide)]
    refine Ok.bind ((forS_ok (t := 1) (P := fun d => ∃ w : Str, d = .str w ∧ (w = "alarm" ∨ w = "quiet" ∨ w = "unseen")) p2 (by rw [len_iota]; omega) (by rw [len_iota, List.length_nil]; exact (by show 0 + _ ≤ 1000000; omega)) (fun c n j s _ hj hc ps => ?_)).imp fun c s5 ⟨p5, r, e, hr, hp⟩ => ?_)
    · rw [inL, pure_bind, asB_bl, pure_bind]
      have e1 : (if decide (n ∈ alarmsL N B) = true then pure (D.str "alarm") else pure (D.str "quiet") : PM D) = pure (.str (if decide (n ∈ alarmsL N B) = true then "alarm" else "quiet")) := by
        cases decide (n ∈ alarmsL N B) <;> rfl
      rw [e1, pure_bind]
      refine Ok.bind ((draw (m := 5) ps (by omega) (by decide) (by decide)).imp fun d s' ⟨p', y, e, _, _⟩ => ?_)
      subst e
      rw [lt_int, pure_bind, asB_bl, pure_bind]
      cases decide (y < way) with
      | true =>
        rw [if_pos rfl, pure_bind, okLen_ok (by rw [List.length_append, List.length_singleton]; exact hc), pure_bind]
        refine Ok.pure ⟨p', _, rfl, _, rfl, ?_⟩
        cases decide (n ∈ alarmsL N B) with
        | true => exact .inl rfl
        | false => exact .inr (.inl rfl)
      | false =>
        rw [if_neg (by decide), pure_bind, okLen_ok (by rw [List.length_append, List.length_singleton]; exact hc), pure_bind]
        exact Ok.pure ⟨p', _, rfl, _, rfl, .inr (.inr rfl)⟩
    · rw [List.nil_append] at e
      subst e
      rw [len_iota] at p5 hr
      obtain ⟨ws, rfl, hs⟩ := strs_of (n := 0) hp
      rw [List.length_map] at hr
      rw [tupleL (by rw [List.length_map, hr]; exact hl)]
      exact Ok.pure ⟨p5.mono (by omega), ws, ⟨hr, hs⟩, rfl⟩
theorem case_ {n : Nat} (n1 : 1 ≤ n) (n8 : n ≤ 8) {k : Nat} {s : List Int} (h : Pen k s) (hk : k ≤ 850000) : Ok (f_law_case (.int n)) s fun d s' => Pen (k + 110) s' ∧ ∃ N ws, Net N ∧ N.length = n ∧ Rep N ws ∧ d = .tup [dN N, tableD N, tS ws] := by
  simp only [f_law_case, bind_assoc, pure_bind, fn1_eq, fn2_eq, id]
  refine Ok.bind ((net n1 n8 h (by omega)).imp fun d s1 ⟨p1, N, hN, hn, e⟩ => ?_)
  subst e
  rw [ltable hN, run0_p, pure_bind]
  refine Ok.bind ((report hN p1 (by omega)).imp fun d s2 ⟨p2, ws, r, e⟩ => ?_)
  subst e
  exact Ok.pure ⟨p2.mono (by omega), N, ws, hN, hn, r, rfl⟩
/-! the frame -/
theorem cellB {ns : List Int} {z : Int} (h : 0 ≤ z) : ∃ v : Int, f_law_cell ns (.int z) = pure (.int v) := by
  simp only [f_law_cell, pure_bind, lt_int, asB_bl, id]
  by_cases g : z < ns.length
  · rw [decide_eq_true g, if_pos rfl]
    refine ⟨ix ns z, ?_⟩
    show ((match L2.atI ns z with | some m => pure (.int m) | none => bad : PM D) >>= _) = _
    rw [atI_ix h g]
    rfl
  · rw [decide_eq_false g, if_neg (by decide)]
    exact ⟨0, rfl⟩
theorem source (v : Int) : ∃ p, f_law_source (.int v) = pure p ∧ Pen 0 p := by
  have e : powD (.int 10) (.int 18) = pure (.int (10 ^ 18)) := by
    show (if L2.CPow 10 18 then pure (.int (10 ^ 18)) else bad : PM D) = _
    exact if_pos ⟨by decide, by decide, by decide⟩
  simp only [f_law_source, pure_bind, e, sub_int, mod_ok (show (2147483629 : Int) ≠ 0 by decide), add_int]
  have b := fmod_bd (i := v) (j := 2147483629) (by decide)
  exact ⟨_, rfl, _, _, _, rfl, by omega, by omega, Int.le_refl _, by omega⟩
theorem lawB_frame {ns : List Int} {L t : Nat} {LB : Unit → D → PM (Lp Unit)} (hL : L ≤ 1000) (hLt : L * t ≤ 800000) (h : ∀ y ∈ iota L, ∀ j s, j ≤ 800000 → Pen j s → Ok (LB () (.int y)) s fun r s' => r = .go () ∧ Pen (j + t) s') :
    Ok (minF [.int ns.length, .int 3] >>= fun d5 => maxF [.int 1, d5] >>= fun d9 => rangeF1 [d9] >>= fun l => forL dec1 (fun _ z => run0 (f_law_cell ns z) >>= fun d => run0 (mfn1 f_law_source [d]) >>= fun n =>
      withPen n (rangeF1 [.int L] >>= fun l => forL dec1 LB l () >>= lpK Lp.ret fun _ => pure (.go ()))) l () >>= lpK id fun _ => pure (.bl true)) [] (fun d _ => d = .bl true) := by
  obtain ⟨m, hm, el⟩ := laps ns.length
  rw [el]
  refine Ok.bind ((Ok.forL (fun _ _ => True) (t := 0) (k := 0) trivial (fun z hz _ s _ _ _ => ?_)).imp fun r s ⟨e, _⟩ => ?_)
  · obtain ⟨v, ev⟩ := cellB (ns := ns) (mem_iota.mp hz).1
    obtain ⟨p, ep, pp⟩ := source v
    have er : ∀ p : List Int, run0 (pure p : PM (List Int)) = pure p := fun _ => rfl
    have em : mfn1 f_law_source [.int v] = pure p := ep
    rw [ev, run0_p, pure_bind, em, er, pure_bind, range1 (by show _ ≤ 1000000; omega), pure_bind]
    refine Ok.withPen (Ok.bind ((Ok.forL Pen (t := t) pp (fun y my j s hj1 hj2 pj => h y my j s (by rw [len_iota] at hj2; omega) pj)).imp fun r s ⟨e, _⟩ => ?_))
    subst e
    exact Ok.pure ⟨rfl, trivial⟩
  · subst e
    exact Ok.pure rfl
theorem sameB {h b : Nat} {d : D} (s : Sm h b d) (e1 : h ≤ 60) (e2 : b ≤ 60000) : f_law_is_equal d d = pure (.bl true) := by
  simp only [f_law_is_equal, pure_bind, s.repr e1 e2, id]
  show (pure (D.bl (shown d == shown d)) : PM D) >>= _ = _
  rw [pure_bind, beq_self_eq_true]
/-- the size drawn -/
theorem size_drawn {lap : Int} {k : Nat} {s : List Int} (h : Pen k s) (hk : k ≤ 850000) : Ok (if decide (0 < lap) = true then f_law_draw (.int 7) >>= fun x35 => addD (.int 1) x35 else pure (D.int 8)) s fun d s' => Pen (k + 1) s' ∧ ∃ n : Nat, d = .int n ∧ 1 ≤ n ∧ n ≤ 8 := by
  by_cases g : 0 < lap
  · rw [decide_eq_true g, if_pos rfl]
    refine Ok.bind ((draw (m := 7) h (by omega) (by decide) (by decide)).imp fun d s1 ⟨p1, x, e, x0, x1⟩ => ?_)
    subst e
    rw [add_int]
    exact Ok.pure ⟨p1, (1 + x).toNat, by rw [show (((1 + x).toNat : Nat) : Int) = 1 + x by omega], by omega, by omega⟩
  · rw [decide_eq_false g, if_neg (by decide)]
    exact Ok.pure ⟨h.mono (by omega), 8, rfl, by omega, by omega⟩
theorem size_drawnN {m : Nat} (m1 : 1 ≤ m) (m8 : m ≤ 8) {k : Nat} {s : List Int} (h : Pen k s) (hk : k ≤ 850000) : Ok (f_law_draw (.int m) >>= fun x35 => addD (.int 1) x35) s fun d s' => Pen (k + 1) s' ∧ ∃ n : Nat, d = .int n ∧ 1 ≤ n ∧ n ≤ m := by
  refine Ok.bind ((draw (m := m) h (by omega) m1 (by omega)).imp fun d s1 ⟨p1, x, e, x0, x1⟩ => ?_)
  subst e
  rw [add_int]
  exact Ok.pure ⟨p1, (1 + x).toNat, by rw [show (((1 + x).toNat : Nat) : Int) = 1 + x by omega], by omega, by omega⟩
theorem case_sm {N : Nt} {ws : List Str} (h : Net N) (r : Rep N ws) : Sm 3 146 (D.tup [dN N, tS ws]) := .tup (c := 72) (fun x mx => by
  simp only [List.mem_cons, List.not_mem_nil, or_false] at mx
  rcases mx with rfl | rfl
  · exact h.sm
  · exact (r.sm h).mono (by omega) (by omega)) (Nat.le_refl _)
theorem two_sm {h b : Nat} {d : D} (s : Sm h b d) : Sm (h + 1) (2 * (b + 1)) (D.lst [d, d]) := .lst (c := b) (fun x mx => by
  simp only [List.mem_cons, List.not_mem_nil, or_false] at mx
  rcases mx with rfl | rfl <;> exact s) (Nat.le_refl _)
end Lw

/-! M17: rows by their number of things; fewest_of. -/
namespace Lw
open PySem EV
abbrev kD (B : List Int) : D := .tup [.int B.length, tI B]
def leK (a b : List Int) : Bool := decide (a.length < b.length ∨ (a.length = b.length ∧ a ≤ b))
theorem leK_iff {a b : List Int} : leK a b = true ↔ (a.length < b.length ∨ (a.length = b.length ∧ a ≤ b)) := by
  unfold leK
  rw [decide_eq_true_eq]
theorem leK_tr (a b c : List Int) (h : leK a b = true) (h2 : leK b c = true) : leK a c = true := by
  rw [leK_iff] at h h2 ⊢
  rcases h with h | ⟨h, h'⟩ <;> rcases h2 with h2 | ⟨h2, h2'⟩
  · exact .inl (by omega)
  · exact .inl (by omega)
  · exact .inl (by omega)
  · exact .inr ⟨by omega, List.le_trans h' h2'⟩
theorem leK_tot (a b : List Int) : (leK a b || leK b a) = true := by
  rw [Bool.or_eq_true, leK_iff, leK_iff]
  rcases Nat.lt_trichotomy a.length b.length with h | h | h
  · exact .inl (.inl h)
  · rcases List.le_total a b with q | q
    · exact .inl (.inr ⟨h, q⟩)
    · exact .inr (.inr ⟨h.symm, q⟩)
  · exact .inr (.inl h)
theorem leK_anti {a b : List Int} (h : leK a b = true) (h2 : leK b a = true) : a = b := by
  rw [leK_iff] at h h2
  rcases h with h | ⟨h, h'⟩ <;> rcases h2 with h2 | ⟨h2, h2'⟩
  · omega
  · omega
  · omega
  · exact List.le_antisymm h' h2'
theorem toPy_kD (a : List Int) : toPy (kD a) = .tuple [.int a.length, .tuple (a.map PyData.int)] := by
  show PyData.tuple (toPyL [D.int a.length, tI a]) = _
  simp only [toPyL, toPy_tI]
  rfl
theorem eqvT (a b : List Int) : PyData.eqv (.tuple (a.map PyData.int)) (.tuple (b.map PyData.int)) = (a == b) := by
  have z := eqv_rows a b
  unfold eqvD at z
  rw [toPy_tI, toPy_tI] at z
  exact z
theorem ltT (a b : List Int) : PySem.W.dataLt (.tuple (a.map PyData.int)) (.tuple (b.map PyData.int)) = decide (a < b) := by
  rw [PySem.W.dataLt_tuple, show PyProof.Rows.lexLt PyProof.Rows.itemOrd (PySem.W.keyToksAll (a.map PyData.int)) (PySem.W.keyToksAll (b.map PyData.int)) = PySem.W.rowLt (a.map .int) (b.map .int) from rfl, PySem.W.dataLt_ints]
theorem leD2_key (a b : List Int) : leD2 (kD a) (kD b) = leK a b := by
  unfold leD2 leK
  rw [toPy_kD, toPy_kD, PySem.W.dataLt_pair (by simp [PySem.W.alike]) (by simp only [PySem.W.alike]; exact PySem.W.alike_ints b a), eqvT, ltT, PySem.W.dataLt_int, show PyData.eqv (.int (b.length : Int)) (.int (a.length : Int)) = ((b.length : Int) == (a.length : Int)) from rfl]
  by_cases h : b.length = a.length
  · rw [if_pos (by rw [beq_iff_eq]; omega)]
    by_cases e : b = a
    · subst e
      rw [if_pos (beq_self_eq_true _), decide_eq_true (.inr ⟨rfl, List.le_refl _⟩)]
      rfl
    · rw [if_neg (by rw [beq_iff_eq]; exact e)]
      by_cases q : b < a
      · rw [decide_eq_true q, decide_eq_false (fun z => by
          rcases z with z | ⟨_, z⟩
          · omega
          · exact (List.not_lt.mpr z) q)]
        rfl
      · rw [decide_eq_false q, decide_eq_true (.inr ⟨h.symm, List.not_lt.mp q⟩)]
        rfl
  · rw [if_neg (by rw [beq_iff_eq]; omega)]
    by_cases q : b.length < a.length
    · rw [decide_eq_true (by omega), decide_eq_false (fun z => by rcases z with z | ⟨z, _⟩ <;> omega)]
      rfl
    · rw [decide_eq_false (by omega), decide_eq_true (.inl (by omega))]
      rfl
theorem sort_keys {L : List (List Int)} (hne : L ≠ []) (hl : L.length ≤ lim) : sortedG [.lst (L.map kD)] = pure (.lst ((L.mergeSort leK).map kD)) := by
  cases L with
  | nil => exact absurd rfl hne
  | cons x r =>
    have e : intsQ [.lst ((x :: r).map kD)] = false := rfl
    unfold sortedG
    rw [e, if_neg (by decide)]
    show (if sortP ((x :: r).map kD) = true then mkL (((x :: r).map kD).mergeSort leD2) else bad : PM D) = _
    have hs : ((x :: r).map kD).mergeSort leD2 = ((x :: r).mergeSort leK).map kD := (List.map_mergeSort fun a _ b _ => (leD2_key a b).symm).symm
    rw [if_pos, hs]
    · exact mkL_ok (by rw [List.length_map, List.length_mergeSort]; exact hl)
    · unfold sortP
      have e1 : (((x :: r).map kD).all fun a => ((x :: r).map kD).all fun b => PySem.W.alike (toPy a) (toPy b)) = true := by
        refine List.all_eq_true.mpr fun u hu => List.all_eq_true.mpr fun v hv => ?_
        obtain ⟨a, _, rfl⟩ := List.mem_map.mp hu
        obtain ⟨b, _, rfl⟩ := List.mem_map.mp hv
        rw [toPy_kD, toPy_kD]
        simp only [PySem.W.alike, PySem.W.alikeAll, Bool.true_and, Bool.and_true]
        exact PySem.W.alike_ints a b
      have e2 : (((x :: r).map kD).all fun a => decide ((toPy a).depth ≤ 60)) = true := by
        refine List.all_eq_true.mpr fun u hu => ?_
        obtain ⟨a, _, rfl⟩ := List.mem_map.mp hu
        rw [toPy_kD]
        simp only [PyData.depth, PyData.depthAll, PySem.W.depth_ints, decide_eq_true_eq]
        omega
      have e3 : (((x :: r).map kD).all fun a => neTup (toPy a)) = true := by
        refine List.all_eq_true.mpr fun u hu => ?_
        obtain ⟨a, _, rfl⟩ := List.mem_map.mp hu
        rw [toPy_kD]
        rfl
      rw [e1, e2, e3]
      rfl
/-- the first one of a sorted list is the least -/
theorem first_min {L : List (List Int)} (h : L ≠ []) : ix (L.mergeSort leK) 0 ∈ L ∧ ∀ B ∈ L, leK (ix (L.mergeSort leK) 0) B = true := by
  have p := List.mergeSort_perm L leK
  have s := List.pairwise_mergeSort leK_tr leK_tot L
  have hl : 0 < (L.mergeSort leK).length := by
    rw [p.length_eq]
    exact List.length_pos_iff.mpr h
  generalize L.mergeSort leK = S at p s hl
  have m : ix S 0 ∈ S := ix_mem (by omega) (by omega)
  refine ⟨p.mem_iff.mp m, fun B mB => ?_⟩
  cases S with
  | nil => cases hl
  | cons x S =>
    have q := List.pairwise_cons.mp s
    rcases List.mem_cons.mp (p.mem_iff.mpr mB) with rfl | mB
    · have t := leK_tot B B
      rw [Bool.or_self] at t
      exact t
    · exact q.1 B mB
theorem keys_shp {L : List (List Int)} : shp (.lst (L.map kD)) = true := by
  unfold EV.shp SeqAt.shaped
  have e1 : PyData.canLayAll0 (toPyL (L.map kD)) = true := all_lay fun x m => by
    obtain ⟨a, _, rfl⟩ := List.mem_map.mp m
    have z := allI_lay a
    simp only [toPy, toPyL, PyData.canLay0, PyData.canLayAll0, Bool.true_and, Bool.and_true]
    exact z
  have e2 : PyData.depthAll (toPyL (L.map kD)) ≤ 2 := all_deep fun x m => by
    obtain ⟨a, _, rfl⟩ := List.mem_map.mp m
    have z := allI_deep a
    simp only [toPy, toPyL, PyData.depth, PyData.depthAll]
    omega
  simp only [toPy, PyData.canLay0, PyData.depth, e1, Bool.true_and, decide_eq_true_eq]
  omega
section
variable {N : Nt} {ws : List Str}
noncomputable def fewL (N : Nt) (ws : List Str) : List Int := ix ((everyL N ws).mergeSort leK) 0
noncomputable def fewD (N : Nt) (ws : List Str) : D := if explained N ws = true then tI (fewL N ws) else .non
theorem few_min (h : Net N) (r : Rep N ws) (e : explained N ws = true) : fewL N ws ∈ everyL N ws ∧ ∀ B ∈ everyL N ws, leK (fewL N ws) B = true := first_min ((every_ne h r).mpr e)
/-- the first one of those of the least size -/
theorem few_first (h : Net N) (r : Rep N ws) (e : explained N ws = true) {m : Nat} (hm : ∃ B ∈ everyL N ws, B.length = m) (hl : ∀ B ∈ everyL N ws, m ≤ B.length) : ((everyL N ws).filter fun B => decide (B.length = m)) ≠ [] ∧ ix ((everyL N ws).filter fun B => decide (B.length = m)) 0 = fewL N ws := by
  obtain ⟨B0, m0, l0⟩ := hm
  have mF : B0 ∈ (everyL N ws).filter fun B => decide (B.length = m) := List.mem_filter.mpr ⟨m0, decide_eq_true l0⟩
  have s := (every_sorted N ws).filter fun B => decide (B.length = m)
  have hne : ((everyL N ws).filter fun B => decide (B.length = m)) ≠ [] := List.ne_nil_of_mem mF
  refine ⟨hne, ?_⟩
  have hp := List.length_pos_iff.mpr hne
  have mi : ix ((everyL N ws).filter fun B => decide (B.length = m)) 0 ∈ (everyL N ws).filter fun B => decide (B.length = m) := ix_mem (by omega) (by omega)
  obtain ⟨m1, m2⟩ := List.mem_filter.mp mi
  have m2 := of_decide_eq_true m2
  obtain ⟨f1, f2⟩ := few_min h r e
  refine leK_anti ?_ (f2 _ m1)
  rw [leK_iff]
  have lf := hl _ f1
  rcases Nat.lt_or_ge m (fewL N ws).length with q | q
  · exact .inl (by omega)
  · refine .inr ⟨by omega, ?_⟩
    have mF : fewL N ws ∈ (everyL N ws).filter fun B => decide (B.length = m) := List.mem_filter.mpr ⟨f1, decide_eq_true (by omega)⟩
    generalize ((everyL N ws).filter fun B => decide (B.length = m)) = F at s mF hp ⊢
    cases F with
    | nil => cases hp
    | cons x F =>
      rcases List.mem_cons.mp mF with g | g
      · rw [g]
        exact List.le_refl _
      · exact of_decide_eq_true ((List.pairwise_cons.mp s).1 _ g)
theorem every_row8 (h : Net N) {B : List Int} (m : B ∈ everyL N ws) : B.length ≤ 8 := Nat.le_trans (mem_every.mp m).1.len h.hi
theorem fewD_sm (h : Net N) (r : Rep N ws) : Sm 1 8 (fewD N ws) := by
  unfold fewD
  cases e : explained N ws with
  | false => exact .non
  | true =>
    rw [if_pos rfl]
    exact rising_sm h.hi (mem_every.mp (few_min h r e).1).1
end
end Lw

/-! M18: halves, next_watch. -/
namespace Lw
open PySem EV
section
variable {N : Nt} {ws : List Str}
/-- with how many explanations c alarms, and with how many not -/
noncomputable def halA (N : Nt) (ws : List Str) (c : Int) : Nat := ((everyL N ws).filter fun B => meets (reachL N c) B).length
noncomputable def halQ (N : Nt) (ws : List Str) (c : Int) : Nat := ((everyL N ws).filter fun B => !meets (reachL N c) B).length
noncomputable abbrev halD (N : Nt) (ws : List Str) (c : Int) : D := .tup [.int (halA N ws c), .int (halQ N ws c)]
theorem hal_sum (N : Nt) (ws : List Str) (c : Int) : halA N ws c + halQ N ws c = (everyL N ws).length := by
  unfold halA halQ
  induction everyL N ws with
  | nil => rfl
  | cons B L ih =>
    cases e : meets (reachL N c) B with
    | true =>
      rw [List.filter_cons_of_pos (by exact e), List.filter_cons_of_neg (by rw [e]; decide), List.length_cons, List.length_cons]
      omega
    | false =>
      rw [List.filter_cons_of_neg (by rw [e]; decide), List.filter_cons_of_pos (by rw [e]; rfl), List.length_cons, List.length_cons]
      omega
theorem hal_le (h : Net N) (ws : List Str) (c : Int) : halA N ws c ≤ 256 ∧ halQ N ws c ≤ 256 := by
  have := hal_sum N ws c
  have := everyL_len h ws
  omega
theorem halves_of (h : Net N) (r : Rep N ws) {c : Int} (h0 : 0 ≤ c) (h1 : c < N.length) : f_halves_of (dN N) (tS ws) (.int c) = pure (halD N ws c) := by
  have el := everyL_len h ws
  have r8 := reachL_len h c
  have hs := hal_sum N ws c
  have eu : ∀ (a b : D) (kk : D → D → PM D), unp2 kk (.tup [a, b]) = kk a b := fun _ _ _ => rfl
  simp only [f_halves_of, pure_bind, bind_assoc, fn2_eq, reach_ok h h0 h1, explanations_of h r, run0_p, mkT2, eu, items_lst, id]
  rw [compPf (zs := everyL N ws) tI (fun B => meets (reachL N c) B) tI (by rw [List.map_map]; rfl) (by rw [List.length_map]; show _ ≤ 1000000; omega) (fun B _ => by
    rw [do_meet _ _ (by show _ ≤ 1000000; omega), run0_p, pure_bind, asB_bl]) (fun _ _ _ => rfl), pure_bind, len_lst, pure_bind, len_lst, pure_bind, List.length_map, List.length_map, sub_int, pure_bind]
  show pure (D.tup [.int (halA N ws c), .int (((everyL N ws).length : Int) - (halA N ws c : Int))]) = _
  rw [show (((everyL N ws).length : Int) - (halA N ws c : Int)) = (halQ N ws c : Int) by omega]
theorem need_all (h : Net N) (r : Rep N ws) {c : Int} (h0 : 0 ≤ c) (h1 : c < N.length) : f_need_all (dN N) (tS ws) (.int c) = pure .non := by
  simp only [f_need_all, g_need_all, pure_bind, bind_assoc, fn2_eq, need_report h r, need_comp h0 h1, run0_p]
theorem halves (h : Net N) (r : Rep N ws) {c : Int} (h0 : 0 ≤ c) (h1 : c < N.length) : f_halves (dN N) (tS ws) (.int c) = pure (halD N ws c) := by
  simp only [f_halves, pure_bind, bind_assoc, fn3_eq, need_all h r h0 h1, halves_of h r h0 h1, run0_p, id]
theorem halD_sm (h : Net N) (c : Int) : Sm 1 2 (halD N ws c) := by
  have z := hal_le h ws c
  refine .tup (c := 0) (fun x mx => ?_) (by simp)
  simp only [List.mem_cons, List.not_mem_nil, or_false] at mx
  rcases mx with rfl | rfl
  · exact .int (by omega) (by omega)
  · exact .int (by omega) (by omega)
/-- the greater one of the two -/
noncomputable def worst (N : Nt) (ws : List Str) (c : Int) : Int := maxL (halA N ws c) [(halQ N ws c : Int)]
theorem worst_eq (N : Nt) (ws : List Str) (c : Int) : maxS [halD N ws c] = pure (.int (worst N ws c)) := rfl
/-- unseen ones that may alarm or not -/
noncomputable def openL (N : Nt) (ws : List Str) : List Int := (withL ws "unseen").filter fun c => expW N ws c == "open"
/-- the least one of the best -/
def IsNext (f : Int → Int) (l : List Int) (c : Int) : Prop := c ∈ l ∧ ∀ x ∈ l, f c < f x ∨ (f c = f x ∧ c ≤ x)
theorem next_uniq {f : Int → Int} {l : List Int} {c d : Int} (h : IsNext f l c) (g : IsNext f l d) : c = d := by
  have h1 := h.2 d g.1
  have h2 := g.2 c h.1
  omega
theorem getP {l : List Int} {i : Nat} {x : Int} (h : l[i]? = some x) : ix l (i : Int) = x := by
  have hi := (List.getElem?_eq_some_iff.mp h).1
  have z := ix_get (l := l) (i := (i : Int)) (by omega) (by omega)
  rw [show ((i : Int)).toNat = i by omega, h] at z
  exact (Option.some.inj z).symm
/-- the first one of the sorted pairs -/
theorem next_sorted (f : Int → Int) {l : List Int} (hl : l ≠ []) : ∃ c, IsNext f l c ∧ ix ((l.map fun c => [f c, c]).mergeSort leI) 0 = [f c, c] := by
  have p := List.mergeSort_perm (l.map fun c => [f c, c]) leI
  have s := List.pairwise_mergeSort leI_tr leI_tot (l.map fun c => [f c, c])
  have hp : 0 < ((l.map fun c => [f c, c]).mergeSort leI).length := by
    rw [p.length_eq, List.length_map]
    exact List.length_pos_iff.mpr hl
  generalize (l.map fun c => [f c, c]).mergeSort leI = S at p s hp
  cases S with
  | nil => cases hp
  | cons x S =>
    obtain ⟨c, mc, e⟩ := List.mem_map.mp (p.mem_iff.mp List.mem_cons_self)
    refine ⟨c, ⟨mc, fun y my => ?_⟩, e.symm⟩
    have m2 : [f y, y] ∈ x :: S := p.mem_iff.mpr (List.mem_map.mpr ⟨y, my, rfl⟩)
    have le : x ≤ [f y, y] := by
      rcases List.mem_cons.mp m2 with q | q
      · rw [q]
        exact List.le_refl _
      · exact of_decide_eq_true ((List.pairwise_cons.mp s).1 _ q)
    rw [← e] at le
    have nl : ¬ ([f y, y] : List Int) < [f c, c] := List.not_lt.mpr le
    refine Classical.byContradiction fun g => nl ?_
    rcases Int.lt_trichotomy (f y) (f c) with q | q | q
    · exact List.Lex.rel q
    · rw [q]
      exact List.Lex.cons (List.Lex.rel (by omega))
    · exact absurd (.inl q) g
open Classical in
noncomputable def nextD (N : Nt) (ws : List Str) : D := if h : explained N ws = true ∧ openL N ws ≠ [] then .int (Classical.choose (next_sorted (worst N ws) h.2)) else .non
theorem nextD_some {c : Int} (e : explained N ws = true) (g : IsNext (worst N ws) (openL N ws) c) : nextD N ws = .int c := by
  have hne : openL N ws ≠ [] := List.ne_nil_of_mem g.1
  unfold nextD
  rw [dif_pos ⟨e, hne⟩]
  congr 1
  exact next_uniq (Classical.choose_spec (next_sorted (worst N ws) hne)).1 g
theorem nextD_none (e : ¬ (explained N ws = true ∧ openL N ws ≠ [])) : nextD N ws = .non := by
  unfold nextD
  rw [dif_neg e]
theorem openL_in (r : Rep N ws) {c : Int} (m : c ∈ openL N ws) : 0 ≤ c ∧ c < N.length := withL_in r (List.mem_filter.mp m).1
theorem nextD_sm (h : Net N) (r : Rep N ws) : Sm 0 0 (nextD N ws) := by
  by_cases g : explained N ws = true ∧ openL N ws ≠ []
  · obtain ⟨c, hc, _⟩ := next_sorted (worst N ws) g.2
    rw [nextD_some g.1 hc]
    have z := openL_in r hc.1
    have := h.hi
    exact .int (by omega) (by omega)
  · rw [nextD_none g]
    exact .non
theorem isN_tup (xs : List D) : isND (.tup xs) .non = pure (.bl false) := rfl
end
end Lw

/-! MB9: the laws' own halves. -/
namespace Lw
open PySem EV
theorem bls_shp (bs : List Bool) : shp (.lst (bs.map D.bl)) = true := by
  unfold EV.shp SeqAt.shaped
  have e1 : PyData.canLayAll0 (toPyL (bs.map D.bl)) = true := all_lay fun x m => by
    obtain ⟨a, _, rfl⟩ := List.mem_map.mp m
    simp [toPy, PyData.canLay0]
  have e2 : PyData.depthAll (toPyL (bs.map D.bl)) ≤ 0 := all_deep fun x m => by
    obtain ⟨a, _, rfl⟩ := List.mem_map.mp m
    simp [toPy, PyData.depth]
  simp only [toPy, PyData.canLay0, PyData.depth, e1, Bool.true_and, decide_eq_true_eq]
  omega
theorem countBl (bs : List Bool) (b : Bool) : countD (bs.map D.bl) (.bl b) = pure (.int (bs.filter fun x => x == b).length) := by
  unfold countD
  rw [if_pos ⟨bls_shp bs, by cases b <;> decide⟩, List.countP_map, List.countP_eq_length_filter]
  rfl
section
variable {N : Nt} {ws : List Str}
theorem filter_map_len {α : Type} (f : α → Bool) (b : Bool) (L : List α) : ((L.map f).filter fun x => x == b).length = (L.filter fun x => f x == b).length := by
  rw [List.filter_map, List.length_map]
  rfl
theorem alarms_mem (h : Net N) {c : Int} (h0 : 0 ≤ c) (h1 : c < N.length) (B : List Int) : decide (c ∈ alarmsL N B) = meets (reachL N c) B := by
  rw [Bool.eq_iff_iff, alarm_iff h h0 h1, decide_eq_true_eq]
  unfold alarmsL
  rw [mem_setOf]
  exact ⟨fun z => z.2, fun z => ⟨⟨h0, h1⟩, z⟩⟩
theorem lhalves (h : Net N) (r : Rep N ws) {c : Int} (h0 : 0 ≤ c) (h1 : c < N.length) : f_law_halves (tableD N) (tS ws) (.int c) = pure (halD N ws c) := by
  have p := pow8' h.hi
  have eo : ∀ xs : List D, lstOf (.lst xs) = pure xs := fun _ => rfl
  simp only [f_law_halves, pure_bind, bind_assoc, items_lst, fn2_eq, id]
  rw [compPf (fun B => (tI B, lI (alarmsL N B))) (fitB N ws) (fun B => .bl (meets (reachL N c) B)) (tab_dec N) (by rw [List.length_map, subs_len]; show _ ≤ 1000000; omega) (fun B _ => by rw [ldoes h r, run0_p, pure_bind, asB_bl]) (fun B _ _ => by rw [inL, alarms_mem h h0 h1]), pure_bind]
  have e : ((everyL N ws).map fun B => D.bl (meets (reachL N c) B)) = ((everyL N ws).map fun B => meets (reachL N c) B).map D.bl := by
    rw [List.map_map]
    rfl
  rw [show (subs N.length).filter (fitB N ws) = everyL N ws from rfl, e, eo, pure_bind, countBl, pure_bind, pure_bind, countBl, pure_bind, mkT2, filter_map_len, filter_map_len]
  have f1 : (fun B => meets (reachL N c) B == true) = fun B => meets (reachL N c) B := funext fun B => by cases meets (reachL N c) B <;> rfl
  have f2 : (fun B => meets (reachL N c) B == false) = fun B => !meets (reachL N c) B := funext fun B => by cases meets (reachL N c) B <;> rfl
  rw [f1, f2]
  rfl
theorem forL_map {v : D} {body : List D → D → PM (Lp (List D))} (f : Int → D) : ∀ {ns : List Int} {c : List D}, (∀ c n, n ∈ ns → c.length + 1 ≤ lim → body c (.int n) = pure (.go (c ++ [f n]))) → c.length + ns.length ≤ lim → forL dec1 body (ns.map D.int) c = pure (.go (c ++ ns.map f))
  | [], c, _, _ => by
    rw [List.map_nil, List.map_nil, List.append_nil]
    rfl
  | n :: ns, c, h, hl => by
    rw [List.length_cons] at hl
    rw [List.map_cons]
    show (body c (.int n) >>= _) = _
    rw [h c n List.mem_cons_self (by omega), pure_bind]
    show forL dec1 body (ns.map D.int) (c ++ [f n]) = _
    rw [forL_map (v := v) f (fun c m hm => h c m (List.mem_cons_of_mem _ hm)) (by rw [List.length_append, List.length_singleton]; omega), List.map_cons, List.append_assoc]
    rfl
theorem expD_sm (h : Net N) : Sm 1 56 (expD N ws) := by
  unfold expD
  split
  · refine .tup (c := 6) (fun x m => ?_) (by unfold expL; simp only [List.length_map, len_iota]; have := h.hi; omega)
    obtain ⟨w, mw, rfl⟩ := List.mem_map.mp m
    obtain ⟨c, _, rfl⟩ := List.mem_map.mp mw
    unfold expW
    split
    · exact .str (by decide +kernel) (by decide +kernel)
    · split <;> exact .str (by decide +kernel) (by decide +kernel)
  · exact .non
end
end Lw

/-! the law k35 -/
namespace Lw
open PySem EV
theorem law_true (ns : List Int) (hn : ns.length ≤ 63) : ∃ s, fn0 (f_law ns) [] [] = .ok (.bl true) s := by
  refine ok_end ?_
  show Ok (f_law ns) [] _
  simp only [f_law, bind_assoc, pure_bind, fn1_eq, id]
  refine lawB_frame (L := 4) (t := 120) (by decide) (by decide) fun y _ j s hj pj => ?_
  refine Ok.bind ((draw (m := 8) pj (by omega) (by decide) (by decide)).imp fun d s0 ⟨p0, x, e, x0, x1⟩ => ?_)
  subst e
  rw [add_int, pure_bind]
  obtain ⟨n, en⟩ : ∃ n : Nat, (n : Int) = 1 + x := ⟨(1 + x).toNat, by omega⟩
  rw [← en]
  refine Ok.bind ((case_ (n := n) (by omega) (by omega) p0 (by omega)).imp fun d s2 ⟨p2, N, ws, h, hn, r, e⟩ => ?_)
  subst e
  have hl := h.lim
  have s1 := case_sm h r
  simp only [unp3, mkT2, pure_bind, s1.repr, len_tup, List.length_map, range1 hl, fn3_eq]
  rw [forL_go (fun c mc => ?_)]
  · exact Ok.pure ⟨rfl, p2.mono (by omega)⟩
  · have mc := mem_iota.mp mc
    have sv := halD_sm (ws := ws) h c
    have s2 := two_sm sv
    have e2 : rangeF1 [.int 2] = pure ((iota 2).map D.int) := range1 (n := 2) (by show _ ≤ 1000000; omega)
    have i2 : iota 2 = [0, 1] := by decide
    rw [lhalves h r mc.1 mc.2, run0_p, pure_bind, e2, pure_bind, compIm (fun _ => halD N ws c) (by rw [len_iota]; show _ ≤ 1000000; omega) (fun _ => rfl) (fun _ _ => by rw [halves h r mc.1 mc.2, run0_p]), pure_bind, i2]
    show (mkL [halD N ws c, halD N ws c] >>= _) = _
    simp only [List.map_cons, List.map_nil, mkL2, pure_bind, fn2_eq, sameB s2 (by omega) (by omega), run0_p, asB_bl, mkT2, s1.repr, neStr]
    rfl
end Lw

section
set_option maxHeartbeats 4000000
namespace Lw
open PySem PySem.Spec PyProof.Rows L2 EV
def topS (i : Nat) : Stmt := PySem.Challenge.pw_rootalarms_k35_halves_counted.main.body.getD i (.Pass ⟨0, 0, 0, 0⟩)
abbrev s_law_draw : Stmt := topS 36
theorem sc_law_draw : FnScope ["_law_supply", "_law_many", "_law_found", "_law_mixed"] ["_law_supply", "_law_many"] (defScope s_law_draw) := ⟨rfl, rfl, rfl, by decide +kernel, rfl, by decide +kernel, by decide +kernel⟩
abbrev s_law_net_of : Stmt := topS 39
theorem sc_law_net_of : FnScope ["_law_supply", "_law_size", "_law_way", "_law_found", "_law_component", "_law_needs", "_law_other"] ["_law_supply", "_law_size"] (defScope s_law_net_of) := ⟨rfl, rfl, rfl, by decide +kernel, rfl, by decide +kernel, by decide +kernel⟩
abbrev s_law_choose : Stmt := topS 37
theorem sc_law_choose : FnScope ["_law_supply", "_law_values"] ["_law_supply", "_law_values"] (defScope s_law_choose) := ⟨rfl, rfl, rfl, by decide +kernel, rfl, by decide +kernel, by decide +kernel⟩
abbrev s_law_report : Stmt := topS 44
theorem sc_law_report : FnScope ["_law_supply", "_law_net", "_law_table_here", "_law_way", "_law_told", "_law_found", "_law_component", "_law_word"] ["_law_supply", "_law_net", "_law_table_here"] (defScope s_law_report) := ⟨rfl, rfl, rfl, by decide +kernel, rfl, by decide +kernel, by decide +kernel⟩
abbrev s_law_meets : Stmt := topS 47
theorem sc_law_meets : FnScope ["_law_one", "_law_other", "_law_thing"] ["_law_one", "_law_other"] (defScope s_law_meets) := ⟨rfl, rfl, rfl, by decide +kernel, rfl, by decide +kernel, by decide +kernel⟩
abbrev s_law_reaches : Stmt := topS 40
theorem sc_law_reaches : FnScope ["_law_net", "_law_found", "_law_turn", "_law_wider", "_law_own", "_law_far", "_law_near", "_law_component", "_law_needs"] ["_law_net"] (defScope s_law_reaches) := ⟨rfl, rfl, rfl, by decide +kernel, rfl, by decide +kernel, by decide +kernel⟩
abbrev s_law_sets : Stmt := topS 41
theorem sc_law_sets : FnScope ["_law_things", "_law_found", "_law_thing", "_law_row"] ["_law_things"] (defScope s_law_sets) := ⟨rfl, rfl, rfl, by decide +kernel, rfl, by decide +kernel, by decide +kernel⟩
abbrev s_law_table : Stmt := topS 42
theorem sc_law_table : FnScope ["_law_net", "_law_reaches_here", "_law_found", "_law_broken", "_law_component", "_law_own"] ["_law_net"] (defScope s_law_table) := ⟨rfl, rfl, rfl, by decide +kernel, rfl, by decide +kernel, by decide +kernel⟩
abbrev s_law_case : Stmt := topS 45
theorem sc_law_case : FnScope ["_law_supply", "_law_size", "_law_net", "_law_table_here"] ["_law_supply", "_law_size"] (defScope s_law_case) := ⟨rfl, rfl, rfl, by decide +kernel, rfl, by decide +kernel, by decide +kernel⟩
abbrev s_law_cell : Stmt := topS 34
theorem sc_law_cell : FnScope ["_law_script", "_law_index"] ["_law_script", "_law_index"] (defScope s_law_cell) := ⟨rfl, rfl, rfl, by decide +kernel, rfl, by decide +kernel, by decide +kernel⟩
abbrev s_law_does : Stmt := topS 43
theorem sc_law_does : FnScope ["_law_report_here", "_law_alarming", "_law_component", "_law_word"] ["_law_report_here", "_law_alarming"] (defScope s_law_does) := ⟨rfl, rfl, rfl, by decide +kernel, rfl, by decide +kernel, by decide +kernel⟩
abbrev s_law_halves : Stmt := topS 46
theorem sc_law_halves : FnScope ["_law_table_here", "_law_report_here", "_law_component", "_law_told", "_law_broken", "_law_alarming"] ["_law_table_here", "_law_report_here", "_law_component"] (defScope s_law_halves) := ⟨rfl, rfl, rfl, by decide +kernel, rfl, by decide +kernel, by decide +kernel⟩
abbrev s_law_is_equal : Stmt := topS 38
theorem sc_law_is_equal : FnScope ["_law_actual", "_law_due"] ["_law_actual", "_law_due"] (defScope s_law_is_equal) := ⟨rfl, rfl, rfl, by decide +kernel, rfl, by decide +kernel, by decide +kernel⟩
abbrev s_law_source : Stmt := topS 35
theorem sc_law_source : FnScope ["_law_cell_here"] ["_law_cell_here"] (defScope s_law_source) := ⟨rfl, rfl, rfl, by decide +kernel, rfl, by decide +kernel, by decide +kernel⟩
abbrev s_do_meet : Stmt := topS 14
theorem sc_do_meet : FnScope ["one", "other", "thing"] ["one", "other"] (defScope s_do_meet) := ⟨rfl, rfl, rfl, by decide +kernel, rfl, by decide +kernel, by decide +kernel⟩
abbrev s_reach_of : Stmt := topS 12
theorem sc_reach_of : FnScope ["net", "component", "found", "at", "needed"] ["net", "component"] (defScope s_reach_of) := ⟨rfl, rfl, rfl, by decide +kernel, rfl, by decide +kernel, by decide +kernel⟩
abbrev s_all_reaches : Stmt := topS 13
theorem sc_all_reaches : FnScope ["net", "component"] ["net"] (defScope s_all_reaches) := ⟨rfl, rfl, rfl, by decide +kernel, rfl, by decide +kernel, by decide +kernel⟩
abbrev s_with_word : Stmt := topS 23
theorem sc_with_word : FnScope ["report", "word", "component", "own"] ["report", "word"] (defScope s_with_word) := ⟨rfl, rfl, rfl, by decide +kernel, rfl, by decide +kernel, by decide +kernel⟩
abbrev s_candidates_of : Stmt := topS 24
theorem sc_candidates_of : FnScope ["net", "report", "reaches", "quiet", "one", "other"] ["net", "report"] (defScope s_candidates_of) := ⟨rfl, rfl, rfl, by decide +kernel, rfl, by decide +kernel, by decide +kernel⟩
abbrev s_needed_of : Stmt := topS 25
theorem sc_needed_of : FnScope ["net", "report", "some", "found", "component", "one"] ["net", "report"] (defScope s_needed_of) := ⟨rfl, rfl, rfl, by decide +kernel, rfl, by decide +kernel, by decide +kernel⟩
abbrev s_subsets_of : Stmt := topS 26
theorem sc_subsets_of : FnScope ["things", "found", "thing", "row"] ["things"] (defScope s_subsets_of) := ⟨rfl, rfl, rfl, by decide +kernel, rfl, by decide +kernel, by decide +kernel⟩
abbrev s_explanations_of : Stmt := topS 27
theorem sc_explanations_of : FnScope ["net", "report", "needed", "some", "one"] ["net", "report"] (defScope s_explanations_of) := ⟨rfl, rfl, rfl, by decide +kernel, rfl, by decide +kernel, by decide +kernel⟩
abbrev s_halves_of : Stmt := topS 31
theorem sc_halves_of : FnScope ["net", "report", "component", "own", "every", "alarming", "broken"] ["net", "report", "component"] (defScope s_halves_of) := ⟨rfl, rfl, rfl, by decide +kernel, rfl, by decide +kernel, by decide +kernel⟩
abbrev s_is_between : Stmt := topS 7
theorem sc_is_between : FnScope ["thing", "low", "high"] ["thing", "low", "high"] (defScope s_is_between) := ⟨rfl, rfl, rfl, by decide +kernel, rfl, by decide +kernel, by decide +kernel⟩
abbrev s_need_component : Stmt := topS 11
theorem sc_need_component : FnScope ["net", "thing"] ["net", "thing"] (defScope s_need_component) := ⟨rfl, rfl, rfl, by decide +kernel, rfl, by decide +kernel, by decide +kernel⟩
abbrev s_is_word : Stmt := topS 20
theorem sc_is_word : FnScope ["thing"] ["thing"] (defScope s_is_word) := ⟨rfl, rfl, rfl, by decide +kernel, rfl, by decide +kernel, by decide +kernel⟩
abbrev s_is_report : Stmt := topS 21
theorem sc_is_report : FnScope ["net", "thing", "word"] ["net", "thing"] (defScope s_is_report) := ⟨rfl, rfl, rfl, by decide +kernel, rfl, by decide +kernel, by decide +kernel⟩
abbrev s_is_rising : Stmt := topS 8
theorem sc_is_rising : FnScope ["size", "thing", "one", "later"] ["size", "thing"] (defScope s_is_rising) := ⟨rfl, rfl, rfl, by decide +kernel, rfl, by decide +kernel, by decide +kernel⟩
abbrev s_is_net : Stmt := topS 9
theorem sc_is_net : FnScope ["thing", "component", "needs"] ["thing"] (defScope s_is_net) := ⟨rfl, rfl, rfl, by decide +kernel, rfl, by decide +kernel, by decide +kernel⟩
abbrev s_need_net : Stmt := topS 10
theorem sc_need_net : FnScope ["thing"] ["thing"] (defScope s_need_net) := ⟨rfl, rfl, rfl, by decide +kernel, rfl, by decide +kernel, by decide +kernel⟩
abbrev s_need_report : Stmt := topS 22
theorem sc_need_report : FnScope ["net", "thing"] ["net", "thing"] (defScope s_need_report) := ⟨rfl, rfl, rfl, by decide +kernel, rfl, by decide +kernel, by decide +kernel⟩
abbrev s_need_all : Stmt := topS 29
theorem sc_need_all : FnScope ["net", "report", "component"] ["net", "report", "component"] (defScope s_need_all) := ⟨rfl, rfl, rfl, by decide +kernel, rfl, by decide +kernel, by decide +kernel⟩
abbrev s_halves : Stmt := topS 32
theorem sc_halves : FnScope ["net", "report", "component"] ["net", "report", "component"] (defScope s_halves) := ⟨rfl, rfl, rfl, by decide +kernel, rfl, by decide +kernel, by decide +kernel⟩
abbrev s_law : Stmt := topS 48
theorem sc_law : FnScope ["_law_script", "_law_k", "_law_supply", "_law_lap", "_law_net", "_law_table_here", "_law_report_here", "_law_kept", "_law_component", "_law_due", "_law_told", "_law_turn"] ["_law_script"] (defScope s_law) := ⟨rfl, rfl, rfl, by decide +kernel, rfl, by decide +kernel, by decide +kernel⟩
section
variable {P : Program} {w : World} {K : PySem.W.Frag} {mg : Str → Option Value} {base : Heap}
theorem ok_law_draw (B : Bn mg) (FA : FunAt K mg "_law_draw" s_law_draw) : Cal P w K mg base 1 "_law_draw" ["_law_supply", "_law_many"] (spF K mg true 1 (fn1 f_law_draw)) := by
  refine mk_pen (N := ["_law_supply", "_law_many", "_law_found", "_law_mixed"]) (k := 0) FA sc_law_draw rfl (fun _ _ _ _ _ _ us hl => match us, hl with | [_, _], _ => rfl) (fun f cdv A outer s H E C q ds hn => ?_)
  obtain ⟨a0, rfl⟩ := len1 hn
  refine ⟨D, Out.ret, f_law_draw a0, ?_, out_ret _⟩
  unfold f_law_draw
  change SV _ _ _ [.pen, .val a0, .junk, .junk] _ _ _
  refine sv_ifR (eb_cmp od_gt (pget 0 ev_int (fun _ _ => rfl)) ev_int (nomark _)) ?_ (by repeat first | exact nf_bad | exact nf_ret (fun _ => rfl) | refine nf_bind (fun _ => ?_) | refine nf_ite ?_ ?_) ?_
  · refine sv_set 2 C.nd (ev_op od_mod (pget 0 ev_int (fun _ _ => rfl)) (vv 1)) (fun v4 => ?_)
    change SV _ _ _ [.pen, .val a0, .val v4, .junk] _ _ _
    refine sv_pen (i := 0) rfl rfl (by first | exact Or.inl rfl | exact Or.inr (Or.inl rfl)) (ev_op od_fdiv (pget 0 ev_int (fun _ _ => rfl)) (vv 1)) ev_int ?_
    change SV _ _ _ [.pen, .val a0, .val v4, .junk] _ _ _
    exact sv_ret (inj := id) (fun _ => rfl) (vv 2)
  · refine sv_pen (i := 0) rfl rfl (by first | exact Or.inl rfl | exact Or.inr (Or.inl rfl)) (ev_op od_add (pget 0 ev_int (fun _ _ => rfl)) ev_int) ev_int ?_
    change SV _ _ _ [.pen, .val a0, .junk, .junk] _ _ _
    refine sv_pen (i := 0) rfl rfl (by first | exact Or.inl rfl | exact Or.inr (Or.inl rfl)) (ev_op od_mod (ev_op od_add (ev_op od_add (ev_op od_mul (pget 0 ev_int (fun _ _ => rfl)) ev_int) (ev_op od_mul ev_int (pget 0 ev_int (fun _ _ => rfl)))) ev_int) ev_int) ev_int ?_
    change SV _ _ _ [.pen, .val a0, .junk, .junk] _ _ _
    refine sv_set 3 C.nd (ev_op od_mod (ev_op od_add (ev_op od_add (ev_op od_mul (pget 0 ev_int (fun _ _ => rfl)) (pget 0 ev_int (fun _ _ => rfl))) (ev_op od_mul ev_int (pget 0 ev_int (fun _ _ => rfl)))) ev_int) ev_int) (fun v28 => ?_)
    change SV _ _ _ [.pen, .val a0, .junk, .val v28] _ _ _
    refine sv_set 3 C.nd (ev_op od_mod (ev_op od_add (ev_op od_mul (vv 3) (vv 3)) (ev_op od_mul ev_int (vv 3))) ev_int) (fun v39 => ?_)
    change SV _ _ _ [.pen, .val a0, .junk, .val v39] _ _ _
    exact sv_ret (inj := id) (fun _ => rfl) (ev_op od_mod (ev_op od_fdiv (vv 3) ev_int) (vv 1))
theorem ok_law_net_of (B : Bn mg) (K_law_draw : Cal P w K mg base 1 "_law_draw" ["_law_supply", "_law_many"] (spF K mg true 1 (fn1 f_law_draw))) (FA : FunAt K mg "_law_net_of" s_law_net_of) : Cal P w K mg base 2 "_law_net_of" ["_law_supply", "_law_size"] (spF K mg true 1 (fn1 f_law_net_of)) := by
  refine mk_pen (N := ["_law_supply", "_law_size", "_law_way", "_law_found", "_law_component", "_law_needs", "_law_other"]) (k := 1) FA sc_law_net_of rfl (fun _ _ _ _ _ _ us hl => match us, hl with | [_, _], _ => rfl) (fun f cdv A outer s H E C q ds hn => ?_)
  obtain ⟨a0, rfl⟩ := len1 hn
  refine ⟨D, Out.ret, f_law_net_of a0, ?_, out_ret _⟩
  unfold f_law_net_of
  change SV _ _ _ [.pen, .val a0, .junk, .junk, .junk, .junk, .junk] _ _ _
  refine sv_unpM 2 3 C (em_v (callP 0 C K_law_draw ar1 (el_cons ev_int el_nil)) (em_o (eo_lst el_nil) em_nil)) (h_vo fun v9 xs10 => ?_) (pg_tup rfl (pgs_cons (pgn 2 C.nd) (pgs_cons (pgn 3 C.nd) pgs_nil)))
  change SV _ _ _ [.pen, .val a0, .val v9, .own xs10, .junk, .junk, .junk] _ _ _
  refine sv_forS (dec := dec1) (g := gName 4) (vs := [4]) (mk := (fun (c13 : List D) => [.pen, .val a0, .val v9, .own c13, .junk, .junk, .junk])) (c0 := xs10) C (ei_range1 (by rfl) B.range (el_cons (vv 1) el_nil)) (pgn 4 C.nd) (fun _ => tg_name (by simp)) (wk (wk (wk (wk (wj (wj (wj wn))))))) (fun c13 z14 => ?_) (fun c13 => ?_)
  · change SV _ _ _ [.pen, .val a0, .val v9, .own c13, .val z14, .junk, .junk] _ _ _
    refine sv_setO 5 (ps_lcO (own := [(("_law_other" : Str), 6)]) (dec := dec1) (g := gName 6) (Γz := fun z19 => [.pen, .val a0, .val v9, .own c13, .val z14, .junk, .val z19]) C rfl rfl (sw_true rfl rfl rfl (by decide +kernel)) (ei_range1 (by rfl) B.range (el_cons (vv 1) el_nil)) (blkOk_by (by rfl)) (tg_name (by simp)) (fun _ _ _ _ _ => pgn 6 C.nd) (fun z19 _ _ _ _ _ => (ets_one (eb_cmp (od_eq C.blk.room) (callP 0 C.blk K_law_draw ar1 (el_cons (ev_ix (ev_lst (el_cons ev_int (el_cons ev_int (el_cons (ev_op od_mul ev_int (vv 1)) (el_cons ev_int el_nil))))) (vv 2) (fun _ _ => rfl)) el_nil)) ev_int (nomark _)))) (fun z19 _ _ _ _ _ => (vv 6))) (fun xs16 => ?_)
    change SV _ _ _ [.pen, .val a0, .val v9, .own c13, .val z14, .own xs16, .junk] _ _ _
    refine sv_ifJ (mk := (fun (j41 : List D) => [.pen, .val a0, .val v9, .own c13, .val z14, .own j41, .junk])) (eb_cmp (od_eq C.room) (vv 2) ev_int (nomark _)) ?_ ?_ (fun j41 => ?_)
    · refine sv_append 5 (xs := xs16) rfl (ev_op od_mod (ev_op od_add (vv 4) ev_int) (vv 1)) (fun d46 => ?_)
      change SV _ _ _ [.pen, .val a0, .val v9, .own c13, .val z14, .own (xs16 ++ [d46]), .junk] _ _ _
      exact sv_nil rfl (wk (wk (wk (wk (wk (wk (wj wn)))))))
    · exact sv_nil rfl (wk (wk (wk (wk (wk (wk (wj wn)))))))
    · change SV _ _ _ [.pen, .val a0, .val v9, .own c13, .val z14, .own j41, .junk] _ _ _
      refine sv_ifJ (mk := (fun (j54 : List D) => [.pen, .val a0, .val v9, .own c13, .val z14, .own j54, .junk])) (eb_bool (ew_and (eb_cmp (od_eq C.room) (vv 2) ev_int (nomark _)) (ew_and1 (eb_cmp od_gt (vv 4) ev_int (nomark _))))) ?_ ?_ (fun j54 => ?_)
      · refine sv_append 5 (xs := j41) rfl (callP 0 C K_law_draw ar1 (el_cons (vv 4) el_nil)) (fun d57 => ?_)
        change SV _ _ _ [.pen, .val a0, .val v9, .own c13, .val z14, .own (j41 ++ [d57]), .junk] _ _ _
        exact sv_nil rfl (wk (wk (wk (wk (wk (wk (wj wn)))))))
      · exact sv_nil rfl (wk (wk (wk (wk (wk (wk (wj wn)))))))
      · change SV _ _ _ [.pen, .val a0, .val v9, .own c13, .val z14, .own j54, .junk] _ _ _
        refine sv_pub 5 (xs := j54) rfl ?_
        change SV _ _ _ [.pen, .val a0, .val v9, .own c13, .val z14, .val (D.lst j54), .junk] _ _ _
        refine sv_append 3 (xs := c13) rfl (ev_callTy cd_tuple (by rfl) B.tuple (by decide +kernel) (el_cons (ev_setI C.calm (by rfl) B.sorted (by rfl) B.set (ev_lc (own := [(("_law_other" : Str), 6)]) (dec := dec1) (g := gName 6) (Γz := fun z58 => [.pen, .val a0, .val v9, .own c13, .val z14, .val (D.lst j54), .val z58]) C (ei_seq (vv 5)) (blkOk_by (by rfl)) (tg_name (by simp)) (fun _ _ _ _ _ => pgn 6 C.nd) (fun z58 _ _ _ _ _ => (ets_one (eb_cmp (od_ne C.blk.room) (vv 6) (vv 4) (nomark _)))) (fun z58 _ _ _ _ _ => (vv 6)))) el_nil)) (fun d65 => ?_)
        change SV _ _ _ [.pen, .val a0, .val v9, .own (c13 ++ [d65]), .val z14, .val (D.lst j54), .junk] _ _ _
        exact sv_nil rfl (wk (wk (wk (wk (wj (wj (wj wn)))))))
  · change SV _ _ _ [.pen, .val a0, .val v9, .own c13, .junk, .junk, .junk] _ _ _
    refine sv_pub 3 (xs := c13) rfl ?_
    change SV _ _ _ [.pen, .val a0, .val v9, .val (D.lst c13), .junk, .junk, .junk] _ _ _
    exact sv_ret (inj := id) (fun _ => rfl) (ev_callTy cd_tuple (by rfl) B.tuple (by decide +kernel) (el_cons (vv 3) el_nil))
theorem ok_law_choose (B : Bn mg) (K_law_draw : Cal P w K mg base 1 "_law_draw" ["_law_supply", "_law_many"] (spF K mg true 1 (fn1 f_law_draw))) (FA : FunAt K mg "_law_choose" s_law_choose) : Cal P w K mg base 2 "_law_choose" ["_law_supply", "_law_values"] (spF K mg true 1 (fn1 f_law_choose)) := by
  refine mk_pen (N := ["_law_supply", "_law_values"]) (k := 1) FA sc_law_choose rfl (fun _ _ _ _ _ _ us hl => match us, hl with | [_, _], _ => rfl) (fun f cdv A outer s H E C q ds hn => ?_)
  obtain ⟨a0, rfl⟩ := len1 hn
  refine ⟨D, Out.ret, f_law_choose a0, ?_, out_ret _⟩
  unfold f_law_choose
  change SV _ _ _ [.pen, .val a0] _ _ _
  exact sv_ret (inj := id) (fun _ => rfl) (ev_ix (vv 1) (callP 0 C K_law_draw ar1 (el_cons (ev_callB cd_len (by rfl) B.len PySem.boot_len (el_cons (vv 1) el_nil)) el_nil)) (fun _ _ => rfl))
theorem ok_law_report (B : Bn mg) (K_law_choose : Cal P w K mg base 2 "_law_choose" ["_law_supply", "_law_values"] (spF K mg true 1 (fn1 f_law_choose))) (K_law_draw : Cal P w K mg base 1 "_law_draw" ["_law_supply", "_law_many"] (spF K mg true 1 (fn1 f_law_draw))) (FA : FunAt K mg "_law_report" s_law_report) : Cal P w K mg base 3 "_law_report" ["_law_supply", "_law_net", "_law_table_here"] (spF K mg true 2 (fn2 f_law_report)) := by
  refine mk_pen (N := ["_law_supply", "_law_net", "_law_table_here", "_law_way", "_law_told", "_law_found", "_law_component", "_law_word"]) (k := 2) FA sc_law_report rfl (fun _ _ _ _ _ _ us hl => match us, hl with | [_, _, _], _ => rfl) (fun f cdv A outer s H E C q ds hn => ?_)
  obtain ⟨a0, a1, rfl⟩ := len2 hn
  refine ⟨D, Out.ret, f_law_report a0 a1, ?_, out_ret _⟩
  unfold f_law_report
  change SV _ _ _ [.pen, .val a0, .val a1, .junk, .junk, .junk, .junk, .junk] _ _ _
  refine sv_par 3 4 C.calm C.nd (el_cons (callP 0 C K_law_draw ar1 (el_cons ev_int el_nil)) (el_cons (ev_ix (callP 0 C K_law_choose ar1 (el_cons (vv 2) el_nil)) ev_int (fun _ _ => rfl)) el_nil)) (by decide) (fun v1 v2 => ?_)
  change SV _ _ _ [.pen, .val a0, .val a1, .val v1, .val v2, .junk, .junk, .junk] _ _ _
  refine sv_ifR (eb_cmp (od_eq C.room) (vv 3) ev_int (nomark _)) ?_ (by repeat first | exact nf_bad | exact nf_ret (fun _ => rfl) | refine nf_bind (fun _ => ?_) | refine nf_ite ?_ ?_) ?_
  · exact sv_ret (inj := id) (fun _ => rfl) (ev_callTy cd_tuple (by rfl) B.tuple (by decide +kernel) (el_cons (ev_lc (own := [(("_law_component" : Str), 6)]) (dec := dec1) (g := gName 6) (Γz := fun z16 => [.pen, .val a0, .val a1, .val v1, .val v2, .junk, .val z16, .junk]) C (ei_seq (vv 1)) (blkOk_by (by rfl)) (tg_name (by simp)) (fun _ _ _ _ _ => pgn 6 C.nd) (fun z16 _ _ _ _ _ => ets_nil) (fun z16 _ _ _ _ _ => (callP 0 C.blk K_law_choose ar1 (el_cons (ev_lst (el_cons ev_str (el_cons ev_str (el_cons ev_str el_nil)))) el_nil)))) el_nil))
  · refine sv_setO 5 (ps_o C.nd (eo_lst el_nil)) (fun xs30 => ?_)
    change SV _ _ _ [.pen, .val a0, .val a1, .val v1, .val v2, .own xs30, .junk, .junk] _ _ _
    refine sv_forS (dec := dec1) (g := gName 6) (vs := [6]) (mk := (fun (c35 : List D) => [.pen, .val a0, .val a1, .val v1, .val v2, .own c35, .junk, .junk])) (c0 := xs30) C (ei_range1 (by rfl) B.range (el_cons (ev_callB cd_len (by rfl) B.len PySem.boot_len (el_cons (vv 1) el_nil)) el_nil)) (pgn 6 C.nd) (fun _ => tg_name (by simp)) (wk (wk (wk (wk (wk (wk (wj (wj wn)))))))) (fun c35 z36 => ?_) (fun c35 => ?_)
    · change SV _ _ _ [.pen, .val a0, .val a1, .val v1, .val v2, .own c35, .val z36, .junk] _ _ _
      refine sv_set 7 C.nd (ev_ifExp (eb_cmp (od_in C.room) (vv 6) (vv 4) (by rfl)) ev_str ev_str) (fun v38 => ?_)
      change SV _ _ _ [.pen, .val a0, .val a1, .val v1, .val v2, .own c35, .val z36, .val v38] _ _ _
      refine sv_append 5 (xs := c35) rfl (ev_ifExp (eb_cmp od_lt (callP 0 C K_law_draw ar1 (el_cons ev_int el_nil)) (vv 3) (nomark _)) (vv 7) ev_str) (fun d47 => ?_)
      change SV _ _ _ [.pen, .val a0, .val a1, .val v1, .val v2, .own (c35 ++ [d47]), .val z36, .val v38] _ _ _
      exact sv_nil rfl (wk (wk (wk (wk (wk (wk (wj (wj wn))))))))
    · change SV _ _ _ [.pen, .val a0, .val a1, .val v1, .val v2, .own c35, .junk, .junk] _ _ _
      refine sv_pub 5 (xs := c35) rfl ?_
      change SV _ _ _ [.pen, .val a0, .val a1, .val v1, .val v2, .val (D.lst c35), .junk, .junk] _ _ _
      exact sv_ret (inj := id) (fun _ => rfl) (ev_callTy cd_tuple (by rfl) B.tuple (by decide +kernel) (el_cons (vv 5) el_nil))
theorem ok_law_meets (B : Bn mg) (FA : FunAt K mg "_law_meets" s_law_meets) : Cal P w K mg base 1 "_law_meets" ["_law_one", "_law_other"] (spF K mg false 2 (fn2 f_law_meets)) := by
  refine mk_pure (N := ["_law_one", "_law_other", "_law_thing"]) (k := 0) FA sc_law_meets rfl (fun _ _ _ _ _ _ us hl => match us, hl with | [_, _], _ => rfl) (fun f cdv A outer s H E C ds hn => ?_)
  obtain ⟨a0, a1, rfl⟩ := len2 hn
  refine ⟨D, Out.ret, f_law_meets a0 a1, ?_, out_ret _⟩
  unfold f_law_meets
  change SV _ _ _ [.val a0, .val a1, .junk] _ _ _
  exact sv_ret (inj := id) (fun _ => rfl) (ev_cmp (od_ne C.room) (ev_lc (own := [(("_law_thing" : Str), 2)]) (dec := dec1) (g := gName 2) (Γz := fun z1 => [.val a0, .val a1, .val z1]) C (ei_seq (vv 0)) (blkOk_by (by rfl)) (tg_name (by simp)) (fun _ _ _ _ _ => pgn 2 C.nd) (fun z1 _ _ _ _ _ => (ets_one (eb_cmp (od_in C.blk.room) (vv 2) (vv 1) (by rfl)))) (fun z1 _ _ _ _ _ => ev_int)) (ev_lst el_nil) (nomark _))
theorem ok_law_reaches (B : Bn mg) (FA : FunAt K mg "_law_reaches" s_law_reaches) : Cal P w K mg base 1 "_law_reaches" ["_law_net"] (spF K mg false 1 (fn1 f_law_reaches)) := by
  refine mk_pure (N := ["_law_net", "_law_found", "_law_turn", "_law_wider", "_law_own", "_law_far", "_law_near", "_law_component", "_law_needs"]) (k := 0) FA sc_law_reaches rfl (fun _ _ _ _ _ _ us hl => match us, hl with | [_], _ => rfl) (fun f cdv A outer s H E C ds hn => ?_)
  obtain ⟨a0, rfl⟩ := len1 hn
  refine ⟨D, Out.ret, f_law_reaches a0, ?_, out_ret _⟩
  unfold f_law_reaches
  change SV _ _ _ [.val a0, .junk, .junk, .junk, .junk, .junk, .junk, .junk, .junk] _ _ _
  refine sv_setV 1 (ps_lcV (own := [(("_law_component" : Str), 7), (("_law_needs" : Str), 8)]) (dec := dec2) (g := gTup _ 2 (gCons (gName 7) (gCons (gName 8) gNil))) (Γz := fun z4 => [.val a0, .junk, .junk, .junk, .junk, .junk, .junk, .val z4.1, .val z4.2]) C rfl rfl (sw_true rfl rfl rfl (by decide +kernel)) (ei_enum (by rfl) B.enumerate (el_cons (vv 0) el_nil)) (blkOk_by (by rfl)) (tg_pair (by simp) (by simp)) (fun _ _ _ _ _ => pg_tup rfl (pgs_cons (pgn 7 C.nd) (pgs_cons (pgn 8 C.nd) pgs_nil))) (fun z4 _ _ _ _ _ => ets_nil) (fun z4 _ _ _ _ _ => (ev_op od_add (ev_lst (el_cons (vv 7) el_nil)) (ev_callTy cd_list (by rfl) B.list (by decide +kernel) (el_cons (vv 8) el_nil))))) (fun v1 => ?_)
  change SV _ _ _ [.val a0, .val v1, .junk, .junk, .junk, .junk, .junk, .junk, .junk] _ _ _
  refine sv_forS (dec := dec1) (g := gName 2) (vs := [2]) (mk := (fun (c17 : D) => [.val a0, .val c17, .junk, .junk, .junk, .junk, .junk, .junk, .junk])) (c0 := v1) C (ei_range1 (by rfl) B.range (el_cons (ev_callB cd_len (by rfl) B.len PySem.boot_len (el_cons (vv 0) el_nil)) el_nil)) (pgn 2 C.nd) (fun _ => tg_name (by simp)) (wk (wk (wj (wj (wj (wj (wj (wj (wj wn))))))))) (fun c17 z18 => ?_) (fun c17 => ?_)
  · change SV _ _ _ [.val a0, .val c17, .val z18, .junk, .junk, .junk, .junk, .junk, .junk] _ _ _
    refine sv_setO 3 (ps_o C.nd (eo_lst el_nil)) (fun xs20 => ?_)
    change SV _ _ _ [.val a0, .val c17, .val z18, .own xs20, .junk, .junk, .junk, .junk, .junk] _ _ _
    refine sv_forS (dec := dec1) (g := gName 4) (vs := [4]) (mk := (fun (c21 : List D) => [.val a0, .val c17, .val z18, .own c21, .junk, .junk, .junk, .junk, .junk])) (c0 := xs20) C (ei_seq (vv 1)) (pgn 4 C.nd) (fun _ => tg_name (by simp)) (wk (wk (wk (wk (wj (wj (wj (wj (wj wn))))))))) (fun c21 z22 => ?_) (fun c21 => ?_)
    · change SV _ _ _ [.val a0, .val c17, .val z18, .own c21, .val z22, .junk, .junk, .junk, .junk] _ _ _
      refine sv_setO 5 (ps_o C.nd (eo_lst el_nil)) (fun xs24 => ?_)
      change SV _ _ _ [.val a0, .val c17, .val z18, .own c21, .val z22, .own xs24, .junk, .junk, .junk] _ _ _
      refine sv_forS (dec := dec1) (g := gName 6) (vs := [6]) (mk := (fun (c25 : List D) => [.val a0, .val c17, .val z18, .own c21, .val z22, .own c25, .junk, .junk, .junk])) (c0 := xs24) C (ei_seq (vv 4)) (pgn 6 C.nd) (fun _ => tg_name (by simp)) (wk (wk (wk (wk (wk (wk (wj (wj (wj wn))))))))) (fun c25 z26 => ?_) (fun c25 => ?_)
      · change SV _ _ _ [.val a0, .val c17, .val z18, .own c21, .val z22, .own c25, .val z26, .junk, .junk] _ _ _
        refine sv_extV 5 (xs := c25) rfl (ev_ix (vv 1) (vv 6) (fun _ _ => rfl)) (fun ys30 => ?_)
        change SV _ _ _ [.val a0, .val c17, .val z18, .own c21, .val z22, .own (c25 ++ ys30), .val z26, .junk, .junk] _ _ _
        exact sv_nil rfl (wk (wk (wk (wk (wk (wk (wj (wj (wj wn)))))))))
      · change SV _ _ _ [.val a0, .val c17, .val z18, .own c21, .val z22, .own c25, .junk, .junk, .junk] _ _ _
        refine sv_pub 5 (xs := c25) rfl ?_
        change SV _ _ _ [.val a0, .val c17, .val z18, .own c21, .val z22, .val (D.lst c25), .junk, .junk, .junk] _ _ _
        refine sv_append 3 (xs := c21) rfl (ev_setI C.calm (by rfl) B.sorted (by rfl) B.set (vv 5)) (fun d31 => ?_)
        change SV _ _ _ [.val a0, .val c17, .val z18, .own (c21 ++ [d31]), .val z22, .val (D.lst c25), .junk, .junk, .junk] _ _ _
        exact sv_nil rfl (wk (wk (wk (wk (wj (wj (wj (wj (wj wn)))))))))
    · change SV _ _ _ [.val a0, .val c17, .val z18, .own c21, .junk, .junk, .junk, .junk, .junk] _ _ _
      refine sv_pub 3 (xs := c21) rfl ?_
      change SV _ _ _ [.val a0, .val c17, .val z18, .val (D.lst c21), .junk, .junk, .junk, .junk, .junk] _ _ _
      refine sv_set 1 C.nd (vv 3) (fun v32 => ?_)
      change SV _ _ _ [.val a0, .val v32, .val z18, .val (D.lst c21), .junk, .junk, .junk, .junk, .junk] _ _ _
      exact sv_nil rfl (wk (wk (wj (wj (wj (wj (wj (wj (wj wn)))))))))
  · change SV _ _ _ [.val a0, .val c17, .junk, .junk, .junk, .junk, .junk, .junk, .junk] _ _ _
    exact sv_ret (inj := id) (fun _ => rfl) (vv 1)
theorem ok_law_sets (B : Bn mg) (FA : FunAt K mg "_law_sets" s_law_sets) : Cal P w K mg base 1 "_law_sets" ["_law_things"] (spF K mg false 1 (fn1 f_law_sets)) := by
  refine mk_pure (N := ["_law_things", "_law_found", "_law_thing", "_law_row"]) (k := 0) FA sc_law_sets rfl (fun _ _ _ _ _ _ us hl => match us, hl with | [_], _ => rfl) (fun f cdv A outer s H E C ds hn => ?_)
  obtain ⟨a0, rfl⟩ := len1 hn
  refine ⟨D, Out.ret, f_law_sets a0, ?_, out_ret _⟩
  unfold f_law_sets
  change SV _ _ _ [.val a0, .junk, .junk, .junk] _ _ _
  refine sv_set 1 C.nd (ev_lst (el_cons (ev_tup el_nil) el_nil)) (fun v1 => ?_)
  change SV _ _ _ [.val a0, .val v1, .junk, .junk] _ _ _
  refine sv_forS (dec := dec1) (g := gName 2) (vs := [2]) (mk := (fun (c4 : D) => [.val a0, .val c4, .junk, .junk])) (c0 := v1) C (ei_seq (vv 0)) (pgn 2 C.nd) (fun _ => tg_name (by simp)) (wk (wk (wj (wj wn)))) (fun c4 z5 => ?_) (fun c4 => ?_)
  · change SV _ _ _ [.val a0, .val c4, .val z5, .junk] _ _ _
    refine sv_set 1 C.nd (ev_op od_add (vv 1) (ev_lc (own := [(("_law_row" : Str), 3)]) (dec := dec1) (g := gName 3) (Γz := fun z8 => [.val a0, .val c4, .val z5, .val z8]) C (ei_seq (vv 1)) (blkOk_by (by rfl)) (tg_name (by simp)) (fun _ _ _ _ _ => pgn 3 C.nd) (fun z8 _ _ _ _ _ => ets_nil) (fun z8 _ _ _ _ _ => (ev_op od_add (vv 3) (ev_tup (el_cons (vv 2) el_nil)))))) (fun v7 => ?_)
    change SV _ _ _ [.val a0, .val v7, .val z5, .junk] _ _ _
    exact sv_nil rfl (wk (wk (wj (wj wn))))
  · change SV _ _ _ [.val a0, .val c4, .junk, .junk] _ _ _
    exact sv_ret (inj := id) (fun _ => rfl) (ev_callB (cd_sortedG C.room) (by rfl) B.sorted (by decide +kernel) (el_cons (vv 1) el_nil))
theorem ok_law_table (B : Bn mg) (K_law_meets : Cal P w K mg base 1 "_law_meets" ["_law_one", "_law_other"] (spF K mg false 2 (fn2 f_law_meets))) (K_law_reaches : Cal P w K mg base 1 "_law_reaches" ["_law_net"] (spF K mg false 1 (fn1 f_law_reaches))) (K_law_sets : Cal P w K mg base 1 "_law_sets" ["_law_things"] (spF K mg false 1 (fn1 f_law_sets))) (FA : FunAt K mg "_law_table" s_law_table) : Cal P w K mg base 2 "_law_table" ["_law_net"] (spF K mg false 1 (fn1 f_law_table)) := by
  refine mk_pure (N := ["_law_net", "_law_reaches_here", "_law_found", "_law_broken", "_law_component", "_law_own"]) (k := 1) FA sc_law_table rfl (fun _ _ _ _ _ _ us hl => match us, hl with | [_], _ => rfl) (fun f cdv A outer s H E C ds hn => ?_)
  obtain ⟨a0, rfl⟩ := len1 hn
  refine ⟨D, Out.ret, f_law_table a0, ?_, out_ret _⟩
  unfold f_law_table
  change SV _ _ _ [.val a0, .junk, .junk, .junk, .junk, .junk] _ _ _
  refine sv_parM 1 2 C.calm C.nd (em_v (call C K_law_reaches ar1 (el_cons (vv 0) el_nil)) (em_o (eo_lst el_nil) em_nil)) (by decide) (h_vo fun v10 xs11 => ?_)
  change SV _ _ _ [.val a0, .val v10, .own xs11, .junk, .junk, .junk] _ _ _
  refine sv_forS (dec := dec1) (g := gName 3) (vs := [3]) (mk := (fun (c18 : List D) => [.val a0, .val v10, .own c18, .junk, .junk, .junk])) (c0 := xs11) C (ei_seq (call C K_law_sets ar1 (el_cons (ev_lstRg1 C (by rfl) B.list (by rfl) B.range (ev_callB cd_len (by rfl) B.len PySem.boot_len (el_cons (vv 0) el_nil))) el_nil))) (pgn 3 C.nd) (fun _ => tg_name (by simp)) (wk (wk (wk (wj (wj (wj wn)))))) (fun c18 z19 => ?_) (fun c18 => ?_)
  · change SV _ _ _ [.val a0, .val v10, .own c18, .val z19, .junk, .junk] _ _ _
    refine sv_append 2 (xs := c18) rfl (ev_tup (el_cons (vv 3) (el_cons (ev_lc (own := [(("_law_component" : Str), 4), (("_law_own" : Str), 5)]) (dec := dec2) (g := gTup _ 2 (gCons (gName 4) (gCons (gName 5) gNil))) (Γz := fun z23 => [.val a0, .val v10, .own c18, .val z19, .val z23.1, .val z23.2]) C (ei_enum (by rfl) B.enumerate (el_cons (vv 1) el_nil)) (blkOk_by (by rfl)) (tg_pair (by simp) (by simp)) (fun _ _ _ _ _ => pg_tup rfl (pgs_cons (pgn 4 C.nd) (pgs_cons (pgn 5 C.nd) pgs_nil))) (fun z23 _ _ _ _ _ => (ets_one (eb_val (call C.blk K_law_meets ar2 (el_cons (vv 5) (el_cons (vv 3) el_nil)))))) (fun z23 _ _ _ _ _ => (vv 4))) el_nil))) (fun d35 => ?_)
    change SV _ _ _ [.val a0, .val v10, .own (c18 ++ [d35]), .val z19, .junk, .junk] _ _ _
    exact sv_nil rfl (wk (wk (wk (wj (wj (wj wn))))))
  · change SV _ _ _ [.val a0, .val v10, .own c18, .junk, .junk, .junk] _ _ _
    refine sv_pub 2 (xs := c18) rfl ?_
    change SV _ _ _ [.val a0, .val v10, .val (D.lst c18), .junk, .junk, .junk] _ _ _
    exact sv_ret (inj := id) (fun _ => rfl) (vv 2)
theorem ok_law_case (B : Bn mg) (K_law_net_of : Cal P w K mg base 2 "_law_net_of" ["_law_supply", "_law_size"] (spF K mg true 1 (fn1 f_law_net_of))) (K_law_report : Cal P w K mg base 3 "_law_report" ["_law_supply", "_law_net", "_law_table_here"] (spF K mg true 2 (fn2 f_law_report))) (K_law_table : Cal P w K mg base 2 "_law_table" ["_law_net"] (spF K mg false 1 (fn1 f_law_table))) (FA : FunAt K mg "_law_case" s_law_case) : Cal P w K mg base 4 "_law_case" ["_law_supply", "_law_size"] (spF K mg true 1 (fn1 f_law_case)) := by
  refine mk_pen (N := ["_law_supply", "_law_size", "_law_net", "_law_table_here"]) (k := 3) FA sc_law_case rfl (fun _ _ _ _ _ _ us hl => match us, hl with | [_, _], _ => rfl) (fun f cdv A outer s H E C q ds hn => ?_)
  obtain ⟨a0, rfl⟩ := len1 hn
  refine ⟨D, Out.ret, f_law_case a0, ?_, out_ret _⟩
  unfold f_law_case
  change SV _ _ _ [.pen, .val a0, .junk, .junk] _ _ _
  refine sv_set 2 C.nd (callP 0 C K_law_net_of ar1 (el_cons (vv 1) el_nil)) (fun v1 => ?_)
  change SV _ _ _ [.pen, .val a0, .val v1, .junk] _ _ _
  refine sv_set 3 C.nd (call C K_law_table ar1 (el_cons (vv 2) el_nil)) (fun v4 => ?_)
  change SV _ _ _ [.pen, .val a0, .val v1, .val v4] _ _ _
  exact sv_ret (inj := id) (fun _ => rfl) (ev_tup (el_cons (vv 2) (el_cons (vv 3) (el_cons (callP 0 C K_law_report ar2 (el_cons (vv 2) (el_cons (vv 3) el_nil))) el_nil))))
theorem ok_law_cell (B : Bn mg) (FA : FunAt K mg "_law_cell" s_law_cell) : Cal P w K mg base 1 "_law_cell" ["_law_script", "_law_index"] (spS K mg 1 (fun ns => fn1 (f_law_cell ns))) := by
  refine mk_scr (N := ["_law_script", "_law_index"]) (k := 0) FA sc_law_cell rfl (fun _ _ _ _ _ _ us hl => match us, hl with | [_, _], _ => rfl) (fun f cdv A outer s H E C ns ds hn => ?_)
  obtain ⟨a0, rfl⟩ := len1 hn
  refine ⟨D, Out.ret, f_law_cell ns a0, ?_, out_ret _⟩
  unfold f_law_cell
  change SV _ _ _ [.scr ns, .val a0] _ _ _
  refine sv_ifR (eb_cmp od_lt (vv 1) (slen 0 B.len) (nomark _)) ?_ (by repeat first | exact nf_bad | exact nf_ret (fun _ => rfl) | refine nf_bind (fun _ => ?_) | refine nf_ite ?_ ?_) ?_
  · exact sv_ret (inj := id) (fun _ => rfl) (sget 0 (vv 1) (fun _ _ => rfl))
  · exact sv_ret (inj := id) (fun _ => rfl) ev_int
theorem ok_law_does (B : Bn mg) (FA : FunAt K mg "_law_does" s_law_does) : Cal P w K mg base 1 "_law_does" ["_law_report_here", "_law_alarming"] (spF K mg false 2 (fn2 f_law_does)) := by
  refine mk_pure (N := ["_law_report_here", "_law_alarming", "_law_component", "_law_word"]) (k := 0) FA sc_law_does rfl (fun _ _ _ _ _ _ us hl => match us, hl with | [_, _], _ => rfl) (fun f cdv A outer s H E C ds hn => ?_)
  obtain ⟨a0, a1, rfl⟩ := len2 hn
  refine ⟨D, Out.ret, f_law_does a0 a1, ?_, out_ret _⟩
  unfold f_law_does
  change SV _ _ _ [.val a0, .val a1, .junk, .junk] _ _ _
  refine sv_forL (dec := dec2) (g := gTup _ 2 (gCons (gName 2) (gCons (gName 3) gNil))) (vs := [2, 3]) (mk := (fun (c3 : Unit) => [.val a0, .val a1, .junk, .junk])) (c0 := ()) (inj := id) C (ei_enum (by rfl) B.enumerate (el_cons (vv 0) el_nil)) (pg_tup rfl (pgs_cons (pgn 2 C.nd) (pgs_cons (pgn 3 C.nd) pgs_nil))) (fun _ => tg_pair (by simp) (by simp)) (wk (wk (wj (wj wn)))) (fun _ => rfl) (fun c3 z4 => ?_) (fun c3 => ?_)
  · change SV _ _ _ [.val a0, .val a1, .val z4.1, .val z4.2] _ _ _
    refine sv_ifR (eb_bool (ew_or (eb_bool (ew_and (eb_cmp (od_eq C.room) (vv 3) ev_str (nomark _)) (ew_and1 (eb_cmp (od_notIn C.room) (vv 2) (vv 1) (by rfl))))) (ew_or1 (eb_bool (ew_and (eb_cmp (od_eq C.room) (vv 3) ev_str (nomark _)) (ew_and1 (eb_cmp (od_in C.room) (vv 2) (vv 1) (by rfl)))))))) ?_ (by repeat first | exact nf_bad | exact nf_ret (fun _ => rfl) | refine nf_bind (fun _ => ?_) | refine nf_ite ?_ ?_) ?_
    · exact sv_ret (inj := Lp.ret) (fun _ => rfl) ev_bl
    · exact sv_nil rfl (wk (wk (wj (wj wn))))
  · change SV _ _ _ [.val a0, .val a1, .junk, .junk] _ _ _
    exact sv_ret (inj := id) (fun _ => rfl) ev_bl
theorem ok_law_halves (B : Bn mg) (K_law_does : Cal P w K mg base 1 "_law_does" ["_law_report_here", "_law_alarming"] (spF K mg false 2 (fn2 f_law_does))) (FA : FunAt K mg "_law_halves" s_law_halves) : Cal P w K mg base 2 "_law_halves" ["_law_table_here", "_law_report_here", "_law_component"] (spF K mg false 3 (fn3 f_law_halves)) := by
  refine mk_pure (N := ["_law_table_here", "_law_report_here", "_law_component", "_law_told", "_law_broken", "_law_alarming"]) (k := 1) FA sc_law_halves rfl (fun _ _ _ _ _ _ us hl => match us, hl with | [_, _, _], _ => rfl) (fun f cdv A outer s H E C ds hn => ?_)
  obtain ⟨a0, a1, a2, rfl⟩ := len3 hn
  refine ⟨D, Out.ret, f_law_halves a0 a1 a2, ?_, out_ret _⟩
  unfold f_law_halves
  change SV _ _ _ [.val a0, .val a1, .val a2, .junk, .junk, .junk] _ _ _
  refine sv_setV 3 (ps_lcV (own := [(("_law_broken" : Str), 4), (("_law_alarming" : Str), 5)]) (dec := dec2) (g := gTup _ 2 (gCons (gName 4) (gCons (gName 5) gNil))) (Γz := fun z2 => [.val a0, .val a1, .val a2, .junk, .val z2.1, .val z2.2]) C rfl rfl (sw_true rfl rfl rfl (by decide +kernel)) (ei_seq (vv 0)) (blkOk_by (by rfl)) (tg_pair (by simp) (by simp)) (fun _ _ _ _ _ => pg_tup rfl (pgs_cons (pgn 4 C.nd) (pgs_cons (pgn 5 C.nd) pgs_nil))) (fun z2 _ _ _ _ _ => (ets_one (eb_val (call C.blk K_law_does ar2 (el_cons (vv 1) (el_cons (vv 5) el_nil)))))) (fun z2 _ _ _ _ _ => (ev_cmp (od_in C.blk.room) (vv 2) (vv 5) (by rfl)))) (fun v1 => ?_)
  change SV _ _ _ [.val a0, .val a1, .val a2, .val v1, .junk, .junk] _ _ _
  exact sv_ret (inj := id) (fun _ => rfl) (ev_tup (el_cons (ev_count C (vv 3) ev_bl) (el_cons (ev_count C (vv 3) ev_bl) el_nil)))
theorem ok_law_is_equal (B : Bn mg) (FA : FunAt K mg "_law_is_equal" s_law_is_equal) : Cal P w K mg base 1 "_law_is_equal" ["_law_actual", "_law_due"] (spF K mg false 2 (fn2 f_law_is_equal)) := by
  refine mk_pure (N := ["_law_actual", "_law_due"]) (k := 0) FA sc_law_is_equal rfl (fun _ _ _ _ _ _ us hl => match us, hl with | [_, _], _ => rfl) (fun f cdv A outer s H E C ds hn => ?_)
  obtain ⟨a0, a1, rfl⟩ := len2 hn
  refine ⟨D, Out.ret, f_law_is_equal a0 a1, ?_, out_ret _⟩
  unfold f_law_is_equal
  change SV _ _ _ [.val a0, .val a1] _ _ _
  exact sv_ret (inj := id) (fun _ => rfl) (ev_cmp (od_eq C.room) (ev_callB (cd_repr C.room C.guards) (by rfl) B.repr (by decide +kernel) (el_cons (vv 0) el_nil)) (ev_callB (cd_repr C.room C.guards) (by rfl) B.repr (by decide +kernel) (el_cons (vv 1) el_nil)) (nomark _))
theorem ok_law_source (B : Bn mg) (FA : FunAt K mg "_law_source" s_law_source) : Cal P w K mg base 1 "_law_source" ["_law_cell_here"] (spM K mg 1 (mfn1 f_law_source)) := by
  refine mk_mk (N := ["_law_cell_here"]) (k := 0) FA sc_law_source rfl (fun _ _ _ _ _ _ us hl => match us, hl with | [_], _ => rfl) rfl (fun f cdv A outer s H E C ds hn => ?_)
  obtain ⟨a0, rfl⟩ := len1 hn
  exact ⟨_, (el_cons (ev_callB (cd_max C.calm) (by rfl) B.max (by decide +kernel) (el_cons ev_int (el_cons (ev_op od_sub (vv 0) (ev_op od_pow ev_int ev_int)) el_nil))) (el_cons (ev_op od_add (ev_op od_mod (vv 0) ev_int) ev_int) (el_cons ev_int el_nil))), rfl⟩
theorem ok_do_meet (B : Bn mg) (FA : FunAt K mg "do_meet" s_do_meet) : Cal P w K mg base 1 "do_meet" ["one", "other"] (spF K mg false 2 (fn2 f_do_meet)) := by
  refine mk_pure (N := ["one", "other", "thing"]) (k := 0) FA sc_do_meet rfl (fun _ _ _ _ _ _ us hl => match us, hl with | [_, _], _ => rfl) (fun f cdv A outer s H E C ds hn => ?_)
  obtain ⟨a0, a1, rfl⟩ := len2 hn
  refine ⟨D, Out.ret, f_do_meet a0 a1, ?_, out_ret _⟩
  unfold f_do_meet
  change SV _ _ _ [.val a0, .val a1, .junk] _ _ _
  exact sv_ret (inj := id) (fun _ => rfl) (ev_callB (cd_any C.calm) (by rfl) B.any (by decide +kernel) (el_cons (ev_lc (own := [(("thing" : Str), 2)]) (dec := dec1) (g := gName 2) (Γz := fun z1 => [.val a0, .val a1, .val z1]) C (ei_seq (vv 0)) (blkOk_by (by rfl)) (tg_name (by simp)) (fun _ _ _ _ _ => pgn 2 C.nd) (fun z1 _ _ _ _ _ => ets_nil) (fun z1 _ _ _ _ _ => (ev_cmp (od_in C.blk.room) (vv 2) (vv 1) (by rfl)))) el_nil))
theorem ok_reach_of (B : Bn mg) (FA : FunAt K mg "reach_of" s_reach_of) : Cal P w K mg base 1 "reach_of" ["net", "component"] (spF K mg false 2 (fn2 f_reach_of)) := by
  refine mk_pure (N := ["net", "component", "found", "at", "needed"]) (k := 0) FA sc_reach_of rfl (fun _ _ _ _ _ _ us hl => match us, hl with | [_, _], _ => rfl) (fun f cdv A outer s H E C ds hn => ?_)
  obtain ⟨a0, a1, rfl⟩ := len2 hn
  refine ⟨D, Out.ret, f_reach_of a0 a1, ?_, out_ret _⟩
  unfold f_reach_of
  change SV _ _ _ [.val a0, .val a1, .junk, .junk, .junk] _ _ _
  refine sv_setO 2 (ps_o C.nd (eo_lst (el_cons (vv 1) el_nil))) (fun xs1 => ?_)
  change SV _ _ _ [.val a0, .val a1, .own xs1, .junk, .junk] _ _ _
  refine sv_set 3 C.nd ev_int (fun v4 => ?_)
  change SV _ _ _ [.val a0, .val a1, .own xs1, .val v4, .junk] _ _ _
  refine sv_while 20 (mk := (fun (c5 : D × List D) => [.val a0, .val a1, .own c5.2, .val c5.1, .junk])) (c0 := (v4, xs1)) C (wk (wk (wk (wk (wj wn))))) (fun c5 => (peekB [.val a0, .val a1, .val (D.lst c5.2), .val c5.1, .junk] 2 (xs := c5.2) rfl rfl (eb_cmp od_lt (vv 3) (ev_callB cd_len (by rfl) B.len PySem.boot_len (el_cons (vv 2) el_nil)) (nomark _)))) (fun c5 => ?_) (fun c5 => ?_)
  · change SV _ _ _ [.val a0, .val a1, .own c5.2, .val c5.1, .junk] _ _ _
    refine sv_ext [.val a0, .val a1, .val (D.lst c5.2), .val c5.1, .junk] 2 (xs := c5.2) rfl rfl (ev_lc (own := [(("needed" : Str), 4)]) (dec := dec1) (g := gName 4) (Γz := fun z14 => [.val a0, .val a1, .val (D.lst c5.2), .val c5.1, .val z14]) C (ei_seq (ev_ix (vv 0) (ev_ix (vv 2) (vv 3) (fun _ _ => rfl)) (fun _ _ => rfl))) (blkOk_by (by rfl)) (tg_name (by simp)) (fun _ _ _ _ _ => pgn 4 C.nd) (fun z14 _ _ _ _ _ => (ets_one (eb_cmp (od_notIn C.blk.room) (vv 4) (vv 2) (by rfl)))) (fun z14 _ _ _ _ _ => (vv 4))) (fun ys19 => ?_)
    change SV _ _ _ [.val a0, .val a1, .own (c5.2 ++ ys19), .val c5.1, .junk] _ _ _
    refine sv_set 3 C.nd (ev_op od_add (vv 3) ev_int) (fun v20 => ?_)
    change SV _ _ _ [.val a0, .val a1, .own (c5.2 ++ ys19), .val v20, .junk] _ _ _
    exact sv_nil rfl (wk (wk (wk (wk (wj wn)))))
  · change SV _ _ _ [.val a0, .val a1, .own c5.2, .val c5.1, .junk] _ _ _
    refine sv_pub 2 (xs := c5.2) rfl ?_
    change SV _ _ _ [.val a0, .val a1, .val (D.lst c5.2), .val c5.1, .junk] _ _ _
    exact sv_ret (inj := id) (fun _ => rfl) (ev_callTy cd_tuple (by rfl) B.tuple (by decide +kernel) (el_cons (ev_callB (cd_sortedG C.room) (by rfl) B.sorted (by decide +kernel) (el_cons (vv 2) el_nil)) el_nil))
theorem ok_all_reaches (B : Bn mg) (K_reach_of : Cal P w K mg base 1 "reach_of" ["net", "component"] (spF K mg false 2 (fn2 f_reach_of))) (FA : FunAt K mg "all_reaches" s_all_reaches) : Cal P w K mg base 2 "all_reaches" ["net"] (spF K mg false 1 (fn1 f_all_reaches)) := by
  refine mk_pure (N := ["net", "component"]) (k := 1) FA sc_all_reaches rfl (fun _ _ _ _ _ _ us hl => match us, hl with | [_], _ => rfl) (fun f cdv A outer s H E C ds hn => ?_)
  obtain ⟨a0, rfl⟩ := len1 hn
  refine ⟨D, Out.ret, f_all_reaches a0, ?_, out_ret _⟩
  unfold f_all_reaches
  change SV _ _ _ [.val a0, .junk] _ _ _
  exact sv_ret (inj := id) (fun _ => rfl) (ev_lc (own := [(("component" : Str), 1)]) (dec := dec1) (g := gName 1) (Γz := fun z5 => [.val a0, .val z5]) C (ei_range1 (by rfl) B.range (el_cons (ev_callB cd_len (by rfl) B.len PySem.boot_len (el_cons (vv 0) el_nil)) el_nil)) (blkOk_by (by rfl)) (tg_name (by simp)) (fun _ _ _ _ _ => pgn 1 C.nd) (fun z5 _ _ _ _ _ => ets_nil) (fun z5 _ _ _ _ _ => (call C.blk K_reach_of ar2 (el_cons (vv 0) (el_cons (vv 1) el_nil)))))
theorem ok_with_word (B : Bn mg) (FA : FunAt K mg "with_word" s_with_word) : Cal P w K mg base 1 "with_word" ["report", "word"] (spF K mg false 2 (fn2 f_with_word)) := by
  refine mk_pure (N := ["report", "word", "component", "own"]) (k := 0) FA sc_with_word rfl (fun _ _ _ _ _ _ us hl => match us, hl with | [_, _], _ => rfl) (fun f cdv A outer s H E C ds hn => ?_)
  obtain ⟨a0, a1, rfl⟩ := len2 hn
  refine ⟨D, Out.ret, f_with_word a0 a1, ?_, out_ret _⟩
  unfold f_with_word
  change SV _ _ _ [.val a0, .val a1, .junk, .junk] _ _ _
  exact sv_ret (inj := id) (fun _ => rfl) (ev_callTy cd_tuple (by rfl) B.tuple (by decide +kernel) (el_cons (ev_lc (own := [(("component" : Str), 2), (("own" : Str), 3)]) (dec := dec2) (g := gTup _ 2 (gCons (gName 2) (gCons (gName 3) gNil))) (Γz := fun z3 => [.val a0, .val a1, .val z3.1, .val z3.2]) C (ei_enum (by rfl) B.enumerate (el_cons (vv 0) el_nil)) (blkOk_by (by rfl)) (tg_pair (by simp) (by simp)) (fun _ _ _ _ _ => pg_tup rfl (pgs_cons (pgn 2 C.nd) (pgs_cons (pgn 3 C.nd) pgs_nil))) (fun z3 _ _ _ _ _ => (ets_one (eb_cmp (od_eq C.blk.room) (vv 3) (vv 1) (nomark _)))) (fun z3 _ _ _ _ _ => (vv 2))) el_nil))
theorem ok_candidates_of (B : Bn mg) (c_QUIET : ∃ t, mg "QUIET" = some (.str "quiet" t)) (K_all_reaches : Cal P w K mg base 2 "all_reaches" ["net"] (spF K mg false 1 (fn1 f_all_reaches))) (K_with_word : Cal P w K mg base 1 "with_word" ["report", "word"] (spF K mg false 2 (fn2 f_with_word))) (FA : FunAt K mg "candidates_of" s_candidates_of) : Cal P w K mg base 3 "candidates_of" ["net", "report"] (spF K mg false 2 (fn2 f_candidates_of)) := by
  obtain ⟨_, c_QUIET⟩ := c_QUIET
  refine mk_pure (N := ["net", "report", "reaches", "quiet", "one", "other"]) (k := 2) FA sc_candidates_of rfl (fun _ _ _ _ _ _ us hl => match us, hl with | [_, _], _ => rfl) (fun f cdv A outer s H E C ds hn => ?_)
  obtain ⟨a0, a1, rfl⟩ := len2 hn
  refine ⟨D, Out.ret, f_candidates_of a0 a1, ?_, out_ret _⟩
  unfold f_candidates_of
  change SV _ _ _ [.val a0, .val a1, .junk, .junk, .junk, .junk] _ _ _
  refine sv_set 2 C.nd (call C K_all_reaches ar1 (el_cons (vv 0) el_nil)) (fun v1 => ?_)
  change SV _ _ _ [.val a0, .val a1, .val v1, .junk, .junk, .junk] _ _ _
  refine sv_set 3 C.nd (call C K_with_word ar2 (el_cons (vv 1) (el_cons (ev_glob (v := .str "quiet") (by rfl) c_QUIET ⟨_, rfl⟩ fun _ => .str _) el_nil))) (fun v5 => ?_)
  change SV _ _ _ [.val a0, .val a1, .val v1, .val v5, .junk, .junk] _ _ _
  exact sv_ret (inj := id) (fun _ => rfl) (ev_callTy cd_tuple (by rfl) B.tuple (by decide +kernel) (el_cons (ev_lc (own := [(("one" : Str), 4)]) (dec := dec1) (g := gName 4) (Γz := fun z15 => [.val a0, .val a1, .val v1, .val v5, .val z15, .junk]) C (ei_range1 (by rfl) B.range (el_cons (ev_callB cd_len (by rfl) B.len PySem.boot_len (el_cons (vv 0) el_nil)) el_nil)) (blkOk_by (by rfl)) (tg_name (by simp)) (fun _ _ _ _ _ => pgn 4 C.nd) (fun z15 _ _ _ _ _ => (ets_one (eb_not (eb_val (ev_callB (cd_any C.blk.calm) (by rfl) B.any (by decide +kernel) (el_cons (ev_lc (own := [(("other" : Str), 5)]) (dec := dec1) (g := gName 5) (Γz := fun z16 => [.val a0, .val a1, .val v1, .val v5, .val z15, .val z16]) C.blk (ei_seq (vv 3)) (blkOk_by (by rfl)) (tg_name (by simp)) (fun _ _ _ _ _ => pgn 5 C.blk.nd) (fun z16 _ _ _ _ _ => ets_nil) (fun z16 _ _ _ _ _ => (ev_cmp (od_in C.blk.blk.room) (vv 4) (ev_ix (vv 2) (vv 5) (fun _ _ => rfl)) (by rfl)))) el_nil)))))) (fun z15 _ _ _ _ _ => (vv 4))) el_nil))
theorem ok_needed_of (B : Bn mg) (c_ALARM : ∃ t, mg "ALARM" = some (.str "alarm" t)) (K_candidates_of : Cal P w K mg base 3 "candidates_of" ["net", "report"] (spF K mg false 2 (fn2 f_candidates_of))) (K_reach_of : Cal P w K mg base 1 "reach_of" ["net", "component"] (spF K mg false 2 (fn2 f_reach_of))) (K_with_word : Cal P w K mg base 1 "with_word" ["report", "word"] (spF K mg false 2 (fn2 f_with_word))) (FA : FunAt K mg "needed_of" s_needed_of) : Cal P w K mg base 4 "needed_of" ["net", "report"] (spF K mg false 2 (fn2 f_needed_of)) := by
  obtain ⟨_, c_ALARM⟩ := c_ALARM
  refine mk_pure (N := ["net", "report", "some", "found", "component", "one"]) (k := 3) FA sc_needed_of rfl (fun _ _ _ _ _ _ us hl => match us, hl with | [_, _], _ => rfl) (fun f cdv A outer s H E C ds hn => ?_)
  obtain ⟨a0, a1, rfl⟩ := len2 hn
  refine ⟨D, Out.ret, f_needed_of a0 a1, ?_, out_ret _⟩
  unfold f_needed_of
  change SV _ _ _ [.val a0, .val a1, .junk, .junk, .junk, .junk] _ _ _
  refine sv_set 2 C.nd (call C K_candidates_of ar2 (el_cons (vv 0) (el_cons (vv 1) el_nil))) (fun v1 => ?_)
  change SV _ _ _ [.val a0, .val a1, .val v1, .junk, .junk, .junk] _ _ _
  refine sv_setO 3 (ps_o C.nd (eo_lst el_nil)) (fun xs7 => ?_)
  change SV _ _ _ [.val a0, .val a1, .val v1, .own xs7, .junk, .junk] _ _ _
  refine sv_forS (dec := dec1) (g := gName 4) (vs := [4]) (mk := (fun (c13 : List D) => [.val a0, .val a1, .val v1, .own c13, .junk, .junk])) (c0 := xs7) C (ei_seq (call C K_with_word ar2 (el_cons (vv 1) (el_cons (ev_glob (v := .str "alarm") (by rfl) c_ALARM ⟨_, rfl⟩ fun _ => .str _) el_nil)))) (pgn 4 C.nd) (fun _ => tg_name (by simp)) (wk (wk (wk (wk (wj (wj wn)))))) (fun c13 z14 => ?_) (fun c13 => ?_)
  · change SV _ _ _ [.val a0, .val a1, .val v1, .own c13, .val z14, .junk] _ _ _
    refine sv_append 3 (xs := c13) rfl (ev_callTy cd_tuple (by rfl) B.tuple (by decide +kernel) (el_cons (ev_lc (own := [(("one" : Str), 5)]) (dec := dec1) (g := gName 5) (Γz := fun z21 => [.val a0, .val a1, .val v1, .own c13, .val z14, .val z21]) C (ei_seq (call C K_reach_of ar2 (el_cons (vv 0) (el_cons (vv 4) el_nil)))) (blkOk_by (by rfl)) (tg_name (by simp)) (fun _ _ _ _ _ => pgn 5 C.nd) (fun z21 _ _ _ _ _ => (ets_one (eb_cmp (od_in C.blk.room) (vv 5) (vv 2) (by rfl)))) (fun z21 _ _ _ _ _ => (vv 5))) el_nil)) (fun d28 => ?_)
    change SV _ _ _ [.val a0, .val a1, .val v1, .own (c13 ++ [d28]), .val z14, .junk] _ _ _
    exact sv_nil rfl (wk (wk (wk (wk (wj (wj wn))))))
  · change SV _ _ _ [.val a0, .val a1, .val v1, .own c13, .junk, .junk] _ _ _
    refine sv_pub 3 (xs := c13) rfl ?_
    change SV _ _ _ [.val a0, .val a1, .val v1, .val (D.lst c13), .junk, .junk] _ _ _
    exact sv_ret (inj := id) (fun _ => rfl) (vv 3)
theorem ok_subsets_of (B : Bn mg) (FA : FunAt K mg "subsets_of" s_subsets_of) : Cal P w K mg base 1 "subsets_of" ["things"] (spF K mg false 1 (fn1 f_subsets_of)) := by
  refine mk_pure (N := ["things", "found", "thing", "row"]) (k := 0) FA sc_subsets_of rfl (fun _ _ _ _ _ _ us hl => match us, hl with | [_], _ => rfl) (fun f cdv A outer s H E C ds hn => ?_)
  obtain ⟨a0, rfl⟩ := len1 hn
  refine ⟨D, Out.ret, f_subsets_of a0, ?_, out_ret _⟩
  unfold f_subsets_of
  change SV _ _ _ [.val a0, .junk, .junk, .junk] _ _ _
  refine sv_set 1 C.nd (ev_lst (el_cons (ev_tup el_nil) el_nil)) (fun v1 => ?_)
  change SV _ _ _ [.val a0, .val v1, .junk, .junk] _ _ _
  refine sv_forS (dec := dec1) (g := gName 2) (vs := [2]) (mk := (fun (c4 : D) => [.val a0, .val c4, .junk, .junk])) (c0 := v1) C (ei_seq (vv 0)) (pgn 2 C.nd) (fun _ => tg_name (by simp)) (wk (wk (wj (wj wn)))) (fun c4 z5 => ?_) (fun c4 => ?_)
  · change SV _ _ _ [.val a0, .val c4, .val z5, .junk] _ _ _
    refine sv_set 1 C.nd (ev_op od_add (vv 1) (ev_lc (own := [(("row" : Str), 3)]) (dec := dec1) (g := gName 3) (Γz := fun z8 => [.val a0, .val c4, .val z5, .val z8]) C (ei_seq (vv 1)) (blkOk_by (by rfl)) (tg_name (by simp)) (fun _ _ _ _ _ => pgn 3 C.nd) (fun z8 _ _ _ _ _ => ets_nil) (fun z8 _ _ _ _ _ => (ev_tup (el_star (vv 3) (el_cons (vv 2) el_nil)))))) (fun v7 => ?_)
    change SV _ _ _ [.val a0, .val v7, .val z5, .junk] _ _ _
    exact sv_nil rfl (wk (wk (wj (wj wn))))
  · change SV _ _ _ [.val a0, .val c4, .junk, .junk] _ _ _
    exact sv_ret (inj := id) (fun _ => rfl) (ev_callB (cd_sortedG C.room) (by rfl) B.sorted (by decide +kernel) (el_cons (vv 1) el_nil))
theorem ok_explanations_of (B : Bn mg) (K_candidates_of : Cal P w K mg base 3 "candidates_of" ["net", "report"] (spF K mg false 2 (fn2 f_candidates_of))) (K_do_meet : Cal P w K mg base 1 "do_meet" ["one", "other"] (spF K mg false 2 (fn2 f_do_meet))) (K_needed_of : Cal P w K mg base 4 "needed_of" ["net", "report"] (spF K mg false 2 (fn2 f_needed_of))) (K_subsets_of : Cal P w K mg base 1 "subsets_of" ["things"] (spF K mg false 1 (fn1 f_subsets_of))) (FA : FunAt K mg "explanations_of" s_explanations_of) : Cal P w K mg base 5 "explanations_of" ["net", "report"] (spF K mg false 2 (fn2 f_explanations_of)) := by
  refine mk_pure (N := ["net", "report", "needed", "some", "one"]) (k := 4) FA sc_explanations_of rfl (fun _ _ _ _ _ _ us hl => match us, hl with | [_, _], _ => rfl) (fun f cdv A outer s H E C ds hn => ?_)
  obtain ⟨a0, a1, rfl⟩ := len2 hn
  refine ⟨D, Out.ret, f_explanations_of a0 a1, ?_, out_ret _⟩
  unfold f_explanations_of
  change SV _ _ _ [.val a0, .val a1, .junk, .junk, .junk] _ _ _
  refine sv_set 2 C.nd (call C K_needed_of ar2 (el_cons (vv 0) (el_cons (vv 1) el_nil))) (fun v1 => ?_)
  change SV _ _ _ [.val a0, .val a1, .val v1, .junk, .junk] _ _ _
  exact sv_ret (inj := id) (fun _ => rfl) (ev_lc (own := [(("some" : Str), 3)]) (dec := dec1) (g := gName 3) (Γz := fun z15 => [.val a0, .val a1, .val v1, .val z15, .junk]) C (ei_seq (call C K_subsets_of ar1 (el_cons (call C K_candidates_of ar2 (el_cons (vv 0) (el_cons (vv 1) el_nil))) el_nil))) (blkOk_by (by rfl)) (tg_name (by simp)) (fun _ _ _ _ _ => pgn 3 C.nd) (fun z15 _ _ _ _ _ => (ets_one (eb_val (ev_callB (cd_all C.blk.calm) (by rfl) B.all (by decide +kernel) (el_cons (ev_lc (own := [(("one" : Str), 4)]) (dec := dec1) (g := gName 4) (Γz := fun z16 => [.val a0, .val a1, .val v1, .val z15, .val z16]) C.blk (ei_seq (vv 2)) (blkOk_by (by rfl)) (tg_name (by simp)) (fun _ _ _ _ _ => pgn 4 C.blk.nd) (fun z16 _ _ _ _ _ => ets_nil) (fun z16 _ _ _ _ _ => (call C.blk.blk K_do_meet ar2 (el_cons (vv 4) (el_cons (vv 3) el_nil))))) el_nil))))) (fun z15 _ _ _ _ _ => (vv 3)))
theorem ok_halves_of (B : Bn mg) (K_do_meet : Cal P w K mg base 1 "do_meet" ["one", "other"] (spF K mg false 2 (fn2 f_do_meet))) (K_explanations_of : Cal P w K mg base 5 "explanations_of" ["net", "report"] (spF K mg false 2 (fn2 f_explanations_of))) (K_reach_of : Cal P w K mg base 1 "reach_of" ["net", "component"] (spF K mg false 2 (fn2 f_reach_of))) (FA : FunAt K mg "halves_of" s_halves_of) : Cal P w K mg base 6 "halves_of" ["net", "report", "component"] (spF K mg false 3 (fn3 f_halves_of)) := by
  refine mk_pure (N := ["net", "report", "component", "own", "every", "alarming", "broken"]) (k := 5) FA sc_halves_of rfl (fun _ _ _ _ _ _ us hl => match us, hl with | [_, _, _], _ => rfl) (fun f cdv A outer s H E C ds hn => ?_)
  obtain ⟨a0, a1, a2, rfl⟩ := len3 hn
  refine ⟨D, Out.ret, f_halves_of a0 a1 a2, ?_, out_ret _⟩
  unfold f_halves_of
  change SV _ _ _ [.val a0, .val a1, .val a2, .junk, .junk, .junk, .junk] _ _ _
  refine sv_unp 3 4 C (ev_tup (el_cons (call C K_reach_of ar2 (el_cons (vv 0) (el_cons (vv 2) el_nil))) (el_cons (call C K_explanations_of ar2 (el_cons (vv 0) (el_cons (vv 1) el_nil))) el_nil))) (fun v1 v2 => ?_) (pg_tup rfl (pgs_cons (pgn 3 C.nd) (pgs_cons (pgn 4 C.nd) pgs_nil)))
  change SV _ _ _ [.val a0, .val a1, .val a2, .val v1, .val v2, .junk, .junk] _ _ _
  refine sv_set 5 C.nd (ev_callB cd_len (by rfl) B.len PySem.boot_len (el_cons (ev_lc (own := [(("broken" : Str), 6)]) (dec := dec1) (g := gName 6) (Γz := fun z18 => [.val a0, .val a1, .val a2, .val v1, .val v2, .junk, .val z18]) C (ei_seq (vv 4)) (blkOk_by (by rfl)) (tg_name (by simp)) (fun _ _ _ _ _ => pgn 6 C.nd) (fun z18 _ _ _ _ _ => (ets_one (eb_val (call C.blk K_do_meet ar2 (el_cons (vv 3) (el_cons (vv 6) el_nil)))))) (fun z18 _ _ _ _ _ => (vv 6))) el_nil)) (fun v17 => ?_)
  change SV _ _ _ [.val a0, .val a1, .val a2, .val v1, .val v2, .val v17, .junk] _ _ _
  exact sv_ret (inj := id) (fun _ => rfl) (ev_tup (el_cons (vv 5) (el_cons (ev_op od_sub (ev_callB cd_len (by rfl) B.len PySem.boot_len (el_cons (vv 4) el_nil)) (vv 5)) el_nil)))
theorem ok_is_between (B : Bn mg) (FA : FunAt K mg "is_between" s_is_between) : Cal P w K mg base 1 "is_between" ["thing", "low", "high"] (spF K mg false 3 (fn3 f_is_between)) := by
  refine mk_pure (N := ["thing", "low", "high"]) (k := 0) FA sc_is_between rfl (fun _ _ _ _ _ _ us hl => match us, hl with | [_, _, _], _ => rfl) (fun f cdv A outer s H E C ds hn => ?_)
  obtain ⟨a0, a1, a2, rfl⟩ := len3 hn
  refine ⟨D, Out.ret, f_is_between a0 a1 a2, ?_, out_ret _⟩
  unfold f_is_between
  change SV _ _ _ [.val a0, .val a1, .val a2] _ _ _
  exact sv_ret (inj := id) (fun _ => rfl) (ev_and (ev_isi (T := "int") (by decide) (vv 0) (by rfl) B.isinstance (by rfl) B.int (by decide +kernel)) (ev_and (ev_not (ev_isi (T := "bool") (by decide) (vv 0) (by rfl) B.isinstance (by rfl) B.bool (by decide +kernel))) (ev_one (ev_chain od_le od_le (vv 1) (vv 0) (vv 2)))))
theorem ok_need_component (B : Bn mg) (K_is_between : Cal P w K mg base 1 "is_between" ["thing", "low", "high"] (spF K mg false 3 (fn3 f_is_between))) (FA : FunAt K mg "need_component" s_need_component) : Cal P w K mg base 2 "need_component" ["net", "thing"] (spF K mg false 2 (fn2 f_need_component)) := by
  refine mk_pure (N := ["net", "thing"]) (k := 1) FA sc_need_component rfl (fun _ _ _ _ _ _ us hl => match us, hl with | [_, _], _ => rfl) (fun f cdv A outer s H E C ds hn => ?_)
  obtain ⟨a0, a1, rfl⟩ := len2 hn
  refine ⟨Unit, fun _ => Out.fall [.junk, .junk], g_need_component a0 a1, ?_, rfl⟩
  unfold g_need_component
  change SV _ _ _ [.val a0, .val a1] _ _ _
  refine sv_ifR (eb_not (eb_val (call C K_is_between ar3 (el_cons (vv 1) (el_cons ev_int (el_cons (ev_op od_sub (ev_callB cd_len (by rfl) B.len PySem.boot_len (el_cons (vv 0) el_nil)) ev_int) el_nil)))))) ?_ nf_bad ?_
  · exact sv_bad
  · exact sv_nil rfl (wj (wj wn))
theorem ok_is_word (B : Bn mg) (c_WORDS : CT K mg "WORDS" d_WORDS) (FA : FunAt K mg "is_word" s_is_word) : Cal P w K mg base 1 "is_word" ["thing"] (spF K mg false 1 (fn1 f_is_word)) := by
  obtain ⟨a_WORDS, c_WORDS, r_WORDS⟩ := c_WORDS.ex
  refine mk_pure (N := ["thing"]) (k := 0) FA sc_is_word rfl (fun _ _ _ _ _ _ us hl => match us, hl with | [_], _ => rfl) (fun f cdv A outer s H E C ds hn => ?_)
  obtain ⟨a0, rfl⟩ := len1 hn
  refine ⟨D, Out.ret, f_is_word a0, ?_, out_ret _⟩
  unfold f_is_word
  change SV _ _ _ [.val a0] _ _ _
  exact sv_ret (inj := id) (fun _ => rfl) (ev_and (ev_isi (T := "str") (by decide) (vv 0) (by rfl) B.isinstance (by rfl) B.str (by decide +kernel)) (ev_one (ev_cmp (od_in C.room) (vv 0) (ev_glob (v := .ref a_WORDS) (by rfl) c_WORDS rfl r_WORDS) (by rfl))))
theorem ok_is_report (B : Bn mg) (K_is_word : Cal P w K mg base 1 "is_word" ["thing"] (spF K mg false 1 (fn1 f_is_word))) (FA : FunAt K mg "is_report" s_is_report) : Cal P w K mg base 2 "is_report" ["net", "thing"] (spF K mg false 2 (fn2 f_is_report)) := by
  refine mk_pure (N := ["net", "thing", "word"]) (k := 1) FA sc_is_report rfl (fun _ _ _ _ _ _ us hl => match us, hl with | [_, _], _ => rfl) (fun f cdv A outer s H E C ds hn => ?_)
  obtain ⟨a0, a1, rfl⟩ := len2 hn
  refine ⟨D, Out.ret, f_is_report a0 a1, ?_, out_ret _⟩
  unfold f_is_report
  change SV _ _ _ [.val a0, .val a1, .junk] _ _ _
  exact sv_ret (inj := id) (fun _ => rfl) (ev_and (ev_isi (T := "tuple") (by decide) (vv 1) (by rfl) B.isinstance (by rfl) B.tuple (by decide +kernel)) (ev_and (ev_cmp (od_eq C.room) (ev_callB cd_len (by rfl) B.len PySem.boot_len (el_cons (vv 1) el_nil)) (ev_callB cd_len (by rfl) B.len PySem.boot_len (el_cons (vv 0) el_nil)) (nomark _)) (ev_one (ev_callB (cd_all C.calm) (by rfl) B.all (by decide +kernel) (el_cons (ev_lc (own := [(("word" : Str), 2)]) (dec := dec1) (g := gName 2) (Γz := fun z7 => [.val a0, .val a1, .val z7]) C (ei_seq (vv 1)) (blkOk_by (by rfl)) (tg_name (by simp)) (fun _ _ _ _ _ => pgn 2 C.nd) (fun z7 _ _ _ _ _ => ets_nil) (fun z7 _ _ _ _ _ => (call C.blk K_is_word ar1 (el_cons (vv 2) el_nil)))) el_nil)))))
theorem ok_is_rising (B : Bn mg) (K_is_between : Cal P w K mg base 1 "is_between" ["thing", "low", "high"] (spF K mg false 3 (fn3 f_is_between))) (FA : FunAt K mg "is_rising" s_is_rising) : Cal P w K mg base 2 "is_rising" ["size", "thing"] (spF K mg false 2 (fn2 f_is_rising)) := by
  refine mk_pure (N := ["size", "thing", "one", "later"]) (k := 1) FA sc_is_rising rfl (fun _ _ _ _ _ _ us hl => match us, hl with | [_, _], _ => rfl) (fun f cdv A outer s H E C ds hn => ?_)
  obtain ⟨a0, a1, rfl⟩ := len2 hn
  refine ⟨D, Out.ret, f_is_rising a0 a1, ?_, out_ret _⟩
  unfold f_is_rising
  change SV _ _ _ [.val a0, .val a1, .junk, .junk] _ _ _
  refine sv_ifR (eb_bool (ew_or (eb_not (eb_val (ev_isi (T := "tuple") (by decide) (vv 1) (by rfl) B.isinstance (by rfl) B.tuple (by decide +kernel)))) (ew_or1 (eb_not (eb_val (ev_callB (cd_all C.calm) (by rfl) B.all (by decide +kernel) (el_cons (ev_lc (own := [(("one" : Str), 2)]) (dec := dec1) (g := gName 2) (Γz := fun z2 => [.val a0, .val a1, .val z2, .junk]) C (ei_seq (vv 1)) (blkOk_by (by rfl)) (tg_name (by simp)) (fun _ _ _ _ _ => pgn 2 C.nd) (fun z2 _ _ _ _ _ => ets_nil) (fun z2 _ _ _ _ _ => (call C.blk K_is_between ar3 (el_cons (vv 2) (el_cons ev_int (el_cons (ev_op od_sub (vv 0) ev_int) el_nil)))))) el_nil))))))) ?_ (by repeat first | exact nf_bad | exact nf_ret (fun _ => rfl) | refine nf_bind (fun _ => ?_) | refine nf_ite ?_ ?_) ?_
  · exact sv_ret (inj := id) (fun _ => rfl) ev_bl
  · exact sv_ret (inj := id) (fun _ => rfl) (ev_callB (cd_all C.calm) (by rfl) B.all (by decide +kernel) (el_cons (ev_lc (own := [(("one" : Str), 2), (("later" : Str), 3)]) (dec := dec2) (g := gTup _ 2 (gCons (gName 2) (gCons (gName 3) gNil))) (Γz := fun z27 => [.val a0, .val a1, .val z27.1, .val z27.2]) C (ei_zip (by rfl) B.zip (el_cons (vv 1) (el_cons (ev_slice (vv 1) (eo_some ev_int) eo_none) el_nil))) (blkOk_by (by rfl)) (tg_pair (by simp) (by simp)) (fun _ _ _ _ _ => pg_tup rfl (pgs_cons (pgn 2 C.nd) (pgs_cons (pgn 3 C.nd) pgs_nil))) (fun z27 _ _ _ _ _ => ets_nil) (fun z27 _ _ _ _ _ => (ev_cmp od_lt (vv 2) (vv 3) (nomark _)))) el_nil))
theorem ok_is_net (B : Bn mg) (c_MOST_COMPONENTS : ∃ t, mg "MOST_COMPONENTS" = some (.int 8 t)) (K_is_rising : Cal P w K mg base 2 "is_rising" ["size", "thing"] (spF K mg false 2 (fn2 f_is_rising))) (FA : FunAt K mg "is_net" s_is_net) : Cal P w K mg base 3 "is_net" ["thing"] (spF K mg false 1 (fn1 f_is_net)) := by
  obtain ⟨_, c_MOST_COMPONENTS⟩ := c_MOST_COMPONENTS
  refine mk_pure (N := ["thing", "component", "needs"]) (k := 2) FA sc_is_net rfl (fun _ _ _ _ _ _ us hl => match us, hl with | [_], _ => rfl) (fun f cdv A outer s H E C ds hn => ?_)
  obtain ⟨a0, rfl⟩ := len1 hn
  refine ⟨D, Out.ret, f_is_net a0, ?_, out_ret _⟩
  unfold f_is_net
  change SV _ _ _ [.val a0, .junk, .junk] _ _ _
  refine sv_ifR (eb_bool (ew_or (eb_not (eb_val (ev_isi (T := "tuple") (by decide) (vv 0) (by rfl) B.isinstance (by rfl) B.tuple (by decide +kernel)))) (ew_or1 (eb_not (eb_chain od_le od_le ev_int (ev_callB cd_len (by rfl) B.len PySem.boot_len (el_cons (vv 0) el_nil)) (ev_glob (v := .int 8) (by rfl) c_MOST_COMPONENTS ⟨_, rfl⟩ fun _ => .int _)))))) ?_ (by repeat first | exact nf_bad | exact nf_ret (fun _ => rfl) | refine nf_bind (fun _ => ?_) | refine nf_ite ?_ ?_) ?_
  · exact sv_ret (inj := id) (fun _ => rfl) ev_bl
  · refine sv_forL (dec := dec2) (g := gTup _ 2 (gCons (gName 1) (gCons (gName 2) gNil))) (vs := [1, 2]) (mk := (fun (c15 : Unit) => [.val a0, .junk, .junk])) (c0 := ()) (inj := id) C (ei_enum (by rfl) B.enumerate (el_cons (vv 0) el_nil)) (pg_tup rfl (pgs_cons (pgn 1 C.nd) (pgs_cons (pgn 2 C.nd) pgs_nil))) (fun _ => tg_pair (by simp) (by simp)) (wk (wj (wj wn))) (fun _ => rfl) (fun c15 z16 => ?_) (fun c15 => ?_)
    · change SV _ _ _ [.val a0, .val z16.1, .val z16.2] _ _ _
      refine sv_ifR (eb_bool (ew_or (eb_not (eb_val (call C K_is_rising ar2 (el_cons (ev_callB cd_len (by rfl) B.len PySem.boot_len (el_cons (vv 0) el_nil)) (el_cons (vv 2) el_nil))))) (ew_or1 (eb_cmp (od_in C.room) (vv 1) (vv 2) (by rfl))))) ?_ (by repeat first | exact nf_bad | exact nf_ret (fun _ => rfl) | refine nf_bind (fun _ => ?_) | refine nf_ite ?_ ?_) ?_
      · exact sv_ret (inj := Lp.ret) (fun _ => rfl) ev_bl
      · exact sv_nil rfl (wk (wj (wj wn)))
    · change SV _ _ _ [.val a0, .junk, .junk] _ _ _
      exact sv_ret (inj := id) (fun _ => rfl) ev_bl
theorem ok_need_net (B : Bn mg) (K_is_net : Cal P w K mg base 3 "is_net" ["thing"] (spF K mg false 1 (fn1 f_is_net))) (FA : FunAt K mg "need_net" s_need_net) : Cal P w K mg base 4 "need_net" ["thing"] (spF K mg false 1 (fn1 f_need_net)) := by
  refine mk_pure (N := ["thing"]) (k := 3) FA sc_need_net rfl (fun _ _ _ _ _ _ us hl => match us, hl with | [_], _ => rfl) (fun f cdv A outer s H E C ds hn => ?_)
  obtain ⟨a0, rfl⟩ := len1 hn
  refine ⟨Unit, fun _ => Out.fall [.junk], g_need_net a0, ?_, rfl⟩
  unfold g_need_net
  change SV _ _ _ [.val a0] _ _ _
  refine sv_ifR (eb_not (eb_val (call C K_is_net ar1 (el_cons (vv 0) el_nil)))) ?_ nf_bad ?_
  · exact sv_bad
  · exact sv_nil rfl (wj wn)
theorem ok_need_report (B : Bn mg) (K_is_report : Cal P w K mg base 2 "is_report" ["net", "thing"] (spF K mg false 2 (fn2 f_is_report))) (K_need_net : Cal P w K mg base 4 "need_net" ["thing"] (spF K mg false 1 (fn1 f_need_net))) (FA : FunAt K mg "need_report" s_need_report) : Cal P w K mg base 5 "need_report" ["net", "thing"] (spF K mg false 2 (fn2 f_need_report)) := by
  refine mk_pure (N := ["net", "thing"]) (k := 4) FA sc_need_report rfl (fun _ _ _ _ _ _ us hl => match us, hl with | [_, _], _ => rfl) (fun f cdv A outer s H E C ds hn => ?_)
  obtain ⟨a0, a1, rfl⟩ := len2 hn
  refine ⟨Unit, fun _ => Out.fall [.junk, .junk], g_need_report a0 a1, ?_, rfl⟩
  unfold g_need_report
  change SV _ _ _ [.val a0, .val a1] _ _ _
  refine sv_expr (call C K_need_net ar1 (el_cons (vv 0) el_nil)) ?_
  change SV _ _ _ [.val a0, .val a1] _ _ _
  refine sv_ifR (eb_not (eb_val (call C K_is_report ar2 (el_cons (vv 0) (el_cons (vv 1) el_nil))))) ?_ nf_bad ?_
  · exact sv_bad
  · exact sv_nil rfl (wj (wj wn))
theorem ok_need_all (B : Bn mg) (K_need_component : Cal P w K mg base 2 "need_component" ["net", "thing"] (spF K mg false 2 (fn2 f_need_component))) (K_need_report : Cal P w K mg base 5 "need_report" ["net", "thing"] (spF K mg false 2 (fn2 f_need_report))) (FA : FunAt K mg "need_all" s_need_all) : Cal P w K mg base 6 "need_all" ["net", "report", "component"] (spF K mg false 3 (fn3 f_need_all)) := by
  refine mk_pure (N := ["net", "report", "component"]) (k := 5) FA sc_need_all rfl (fun _ _ _ _ _ _ us hl => match us, hl with | [_, _, _], _ => rfl) (fun f cdv A outer s H E C ds hn => ?_)
  obtain ⟨a0, a1, a2, rfl⟩ := len3 hn
  refine ⟨Unit, fun _ => Out.fall [.junk, .junk, .junk], g_need_all a0 a1 a2, ?_, rfl⟩
  unfold g_need_all
  change SV _ _ _ [.val a0, .val a1, .val a2] _ _ _
  refine sv_expr (call C K_need_report ar2 (el_cons (vv 0) (el_cons (vv 1) el_nil))) ?_
  change SV _ _ _ [.val a0, .val a1, .val a2] _ _ _
  refine sv_expr (call C K_need_component ar2 (el_cons (vv 0) (el_cons (vv 2) el_nil))) ?_
  change SV _ _ _ [.val a0, .val a1, .val a2] _ _ _
  exact sv_nil rfl (wj (wj (wj wn)))
theorem ok_halves (B : Bn mg) (K_halves_of : Cal P w K mg base 6 "halves_of" ["net", "report", "component"] (spF K mg false 3 (fn3 f_halves_of))) (K_need_all : Cal P w K mg base 6 "need_all" ["net", "report", "component"] (spF K mg false 3 (fn3 f_need_all))) (FA : FunAt K mg "halves" s_halves) : Cal P w K mg base 7 "halves" ["net", "report", "component"] (spF K mg false 3 (fn3 f_halves)) := by
  refine mk_pure (N := ["net", "report", "component"]) (k := 6) FA sc_halves rfl (fun _ _ _ _ _ _ us hl => match us, hl with | [_, _, _], _ => rfl) (fun f cdv A outer s H E C ds hn => ?_)
  obtain ⟨a0, a1, a2, rfl⟩ := len3 hn
  refine ⟨D, Out.ret, f_halves a0 a1 a2, ?_, out_ret _⟩
  unfold f_halves
  change SV _ _ _ [.val a0, .val a1, .val a2] _ _ _
  refine sv_expr (call C K_need_all ar3 (el_cons (vv 0) (el_cons (vv 1) (el_cons (vv 2) el_nil)))) ?_
  change SV _ _ _ [.val a0, .val a1, .val a2] _ _ _
  exact sv_ret (inj := id) (fun _ => rfl) (call C K_halves_of ar3 (el_cons (vv 0) (el_cons (vv 1) (el_cons (vv 2) el_nil))))
theorem ok_law {f : Addr} {fd : FuncData} (B : Bn mg) (K_law_case : Cal P w K mg base 4 "_law_case" ["_law_supply", "_law_size"] (spF K mg true 1 (fn1 f_law_case))) (K_law_cell : Cal P w K mg base 1 "_law_cell" ["_law_script", "_law_index"] (spS K mg 1 (fun ns => fn1 (f_law_cell ns)))) (K_law_draw : Cal P w K mg base 1 "_law_draw" ["_law_supply", "_law_many"] (spF K mg true 1 (fn1 f_law_draw))) (K_law_halves : Cal P w K mg base 2 "_law_halves" ["_law_table_here", "_law_report_here", "_law_component"] (spF K mg false 3 (fn3 f_law_halves))) (K_law_is_equal : Cal P w K mg base 1 "_law_is_equal" ["_law_actual", "_law_due"] (spF K mg false 2 (fn2 f_law_is_equal))) (K_law_source : Cal P w K mg base 1 "_law_source" ["_law_cell_here"] (spM K mg 1 (mfn1 f_law_source))) (K_halves : Cal P w K mg base 7 "halves" ["net", "report", "component"] (spF K mg false 3 (fn3 f_halves))) (FU : Fun K "law" "law" s_law f fd) : FnG P w K mg base 8 f fd ["_law_script"] (spS K mg 0 (fun ns => fn0 (f_law ns))) := by
  refine fn_scr (N := ["_law_script", "_law_k", "_law_supply", "_law_lap", "_law_net", "_law_table_here", "_law_report_here", "_law_kept", "_law_component", "_law_due", "_law_told", "_law_turn"]) (n := 0) FU sc_law rfl (fun cdv A outer s H E C ns ds hn => ?_)
  obtain rfl := len0 hn
  refine ⟨D, Out.ret, f_law ns, ?_, out_ret _⟩
  unfold f_law
  change SV _ _ _ [.scr ns, .junk, .junk, .junk, .junk, .junk, .junk, .junk, .junk, .junk, .junk, .junk] _ _ _
  refine sv_forL (dec := dec1) (g := gName 1) (vs := [1]) (mk := (fun (c11 : Unit) => [.scr ns, .junk, .junk, .junk, .junk, .junk, .junk, .junk, .junk, .junk, .junk, .junk])) (c0 := ()) (inj := id) C (ei_range1 (by rfl) B.range (el_cons (ev_callB (cd_max C.calm) (by rfl) B.max (by decide +kernel) (el_cons ev_int (el_cons (ev_callB (cd_min C.calm) (by rfl) B.min (by decide +kernel) (el_cons (slen 0 B.len) (el_cons ev_int el_nil))) el_nil))) el_nil)) (pgn 1 C.nd) (fun _ => tg_name (by simp)) (wk (wj (wj (wj (wj (wj (wj (wj (wj (wj (wj (wj wn)))))))))))) (fun _ => rfl) (fun c11 z12 => ?_) (fun c11 => ?_)
  · change SV _ _ _ [.scr ns, .val z12, .junk, .junk, .junk, .junk, .junk, .junk, .junk, .junk, .junk, .junk] _ _ _
    refine sv_new 2 C K_law_source mar1 (el_cons (callS 0 C K_law_cell (fun _ => ar1) (el_cons (vv 1) el_nil)) el_nil) (fun a => by cases a <;> first | rfl | trivial) (fun q21 => ?_)
    change SV _ _ _ [.scr ns, .val z12, .pen, .junk, .junk, .junk, .junk, .junk, .junk, .junk, .junk, .junk] _ _ _
    refine sv_forL (dec := dec1) (g := gName 3) (vs := [3]) (mk := (fun (c24 : Unit) => [.scr ns, .val z12, .pen, .junk, .junk, .junk, .junk, .junk, .junk, .junk, .junk, .junk])) (c0 := ()) (inj := Lp.ret) C (ei_range1 (by rfl) B.range (el_cons ev_int el_nil)) (pgn 3 C.nd) (fun _ => tg_name (by simp)) (wk (wk (wk (wj (wj (wj (wj (wj (wj (wj (wj (wj wn)))))))))))) (fun _ => rfl) (fun c24 z25 => ?_) (fun c24 => ?_)
    · change SV _ _ _ [.scr ns, .val z12, .pen, .val z25, .junk, .junk, .junk, .junk, .junk, .junk, .junk, .junk] _ _ _
      refine sv_unp3 4 5 6 C (callP 2 C K_law_case ar1 (el_cons (ev_op od_add ev_int (callP 2 C K_law_draw ar1 (el_cons ev_int el_nil))) el_nil)) (fun v27 v28 v29 => ?_) (pg_tup rfl (pgs_cons (pgn 4 C.nd) (pgs_cons (pgn 5 C.nd) (pgs_cons (pgn 6 C.nd) pgs_nil))))
      change SV _ _ _ [.scr ns, .val z12, .pen, .val z25, .val v27, .val v28, .val v29, .junk, .junk, .junk, .junk, .junk] _ _ _
      refine sv_set 7 C.nd (ev_callB (cd_repr C.room C.guards) (by rfl) B.repr (by decide +kernel) (el_cons (ev_tup (el_cons (vv 4) (el_cons (vv 6) el_nil))) el_nil)) (fun v36 => ?_)
      change SV _ _ _ [.scr ns, .val z12, .pen, .val z25, .val v27, .val v28, .val v29, .val v36, .junk, .junk, .junk, .junk] _ _ _
      refine sv_forL (dec := dec1) (g := gName 8) (vs := [8]) (mk := (fun (c47 : Unit) => [.scr ns, .val z12, .pen, .val z25, .val v27, .val v28, .val v29, .val v36, .junk, .junk, .junk, .junk])) (c0 := ()) (inj := Lp.ret) C (ei_range1 (by rfl) B.range (el_cons (ev_callB cd_len (by rfl) B.len PySem.boot_len (el_cons (vv 4) el_nil)) el_nil)) (pgn 8 C.nd) (fun _ => tg_name (by simp)) (wk (wk (wk (wk (wk (wk (wk (wk (wj (wj (wj (wj wn)))))))))))) (fun _ => rfl) (fun c47 z48 => ?_) (fun c47 => ?_)
      · change SV _ _ _ [.scr ns, .val z12, .pen, .val z25, .val v27, .val v28, .val v29, .val v36, .val z48, .junk, .junk, .junk] _ _ _
        refine sv_set 9 C.nd (call C K_law_halves ar3 (el_cons (vv 5) (el_cons (vv 6) (el_cons (vv 8) el_nil)))) (fun v50 => ?_)
        change SV _ _ _ [.scr ns, .val z12, .pen, .val z25, .val v27, .val v28, .val v29, .val v36, .val z48, .val v50, .junk, .junk] _ _ _
        refine sv_setV 10 (ps_lcV (own := [(("_law_turn" : Str), 11)]) (dec := dec1) (g := gName 11) (Γz := fun z61 => [.scr ns, .val z12, .pen, .val z25, .val v27, .val v28, .val v29, .val v36, .val z48, .val v50, .junk, .val z61]) C rfl rfl (sw_true rfl rfl rfl (by decide +kernel)) (ei_range1 (by rfl) B.range (el_cons ev_int el_nil)) (blkOk_by (by rfl)) (tg_name (by simp)) (fun _ _ _ _ _ => pgn 11 C.nd) (fun z61 _ _ _ _ _ => ets_nil) (fun z61 _ _ _ _ _ => (call C.blk K_halves ar3 (el_cons (vv 4) (el_cons (vv 6) (el_cons (vv 8) el_nil)))))) (fun v58 => ?_)
        change SV _ _ _ [.scr ns, .val z12, .pen, .val z25, .val v27, .val v28, .val v29, .val v36, .val z48, .val v50, .val v58, .junk] _ _ _
        refine sv_ifR (eb_bool (ew_or (eb_not (eb_val (call C K_law_is_equal ar2 (el_cons (vv 10) (el_cons (ev_lst (el_cons (vv 9) (el_cons (vv 9) el_nil))) el_nil))))) (ew_or1 (eb_cmp (od_ne C.room) (ev_callB (cd_repr C.room C.guards) (by rfl) B.repr (by decide +kernel) (el_cons (ev_tup (el_cons (vv 4) (el_cons (vv 6) el_nil))) el_nil)) (vv 7) (nomark _))))) ?_ (by repeat first | exact nf_bad | exact nf_ret (fun _ => rfl) | refine nf_bind (fun _ => ?_) | refine nf_ite ?_ ?_) ?_
        · exact sv_ret (inj := Lp.ret) (fun _ => rfl) ev_bl
        · exact sv_nil rfl (wk (wk (wk (wk (wk (wk (wk (wk (wj (wj (wj (wj wn))))))))))))
      · change SV _ _ _ [.scr ns, .val z12, .pen, .val z25, .val v27, .val v28, .val v29, .val v36, .junk, .junk, .junk, .junk] _ _ _
        exact sv_nil rfl (wk (wk (wk (wj (wj (wj (wj (wj (wj (wj (wj (wj wn))))))))))))
    · change SV _ _ _ [.scr ns, .val z12, .pen, .junk, .junk, .junk, .junk, .junk, .junk, .junk, .junk, .junk] _ _ _
      exact sv_nil rfl (wk (wj (wj (wj (wj (wj (wj (wj (wj (wj (wj (wj wn))))))))))))
  · change SV _ _ _ [.scr ns, .junk, .junk, .junk, .junk, .junk, .junk, .junk, .junk, .junk, .junk, .junk] _ _ _
    exact sv_ret (inj := id) (fun _ => rfl) ev_bl
end
section
variable {P : Program} {w : World} {K : PySem.W.Frag} {mg : Str → Option Value} {base : Heap}
theorem end_law {f : Addr} {fd : FuncData} (B : Bn mg) (c_ALARM : ∃ t, mg "ALARM" = some (.str "alarm" t)) (c_MOST_COMPONENTS : ∃ t, mg "MOST_COMPONENTS" = some (.int 8 t)) (c_QUIET : ∃ t, mg "QUIET" = some (.str "quiet" t)) (c_WORDS : CT K mg "WORDS" d_WORDS) (A_law_draw : FunAt K mg "_law_draw" s_law_draw) (A_law_net_of : FunAt K mg "_law_net_of" s_law_net_of) (A_law_choose : FunAt K mg "_law_choose" s_law_choose) (A_law_report : FunAt K mg "_law_report" s_law_report) (A_law_meets : FunAt K mg "_law_meets" s_law_meets) (A_law_reaches : FunAt K mg "_law_reaches" s_law_reaches) (A_law_sets : FunAt K mg "_law_sets" s_law_sets) (A_law_table : FunAt K mg "_law_table" s_law_table) (A_law_case : FunAt K mg "_law_case" s_law_case) (A_law_cell : FunAt K mg "_law_cell" s_law_cell) (A_law_does : FunAt K mg "_law_does" s_law_does) (A_law_halves : FunAt K mg "_law_halves" s_law_halves) (A_law_is_equal : FunAt K mg "_law_is_equal" s_law_is_equal) (A_law_source : FunAt K mg "_law_source" s_law_source) (A_do_meet : FunAt K mg "do_meet" s_do_meet) (A_reach_of : FunAt K mg "reach_of" s_reach_of) (A_all_reaches : FunAt K mg "all_reaches" s_all_reaches) (A_with_word : FunAt K mg "with_word" s_with_word) (A_candidates_of : FunAt K mg "candidates_of" s_candidates_of) (A_needed_of : FunAt K mg "needed_of" s_needed_of) (A_subsets_of : FunAt K mg "subsets_of" s_subsets_of) (A_explanations_of : FunAt K mg "explanations_of" s_explanations_of) (A_halves_of : FunAt K mg "halves_of" s_halves_of) (A_is_between : FunAt K mg "is_between" s_is_between) (A_need_component : FunAt K mg "need_component" s_need_component) (A_is_word : FunAt K mg "is_word" s_is_word) (A_is_report : FunAt K mg "is_report" s_is_report) (A_is_rising : FunAt K mg "is_rising" s_is_rising) (A_is_net : FunAt K mg "is_net" s_is_net) (A_need_net : FunAt K mg "need_net" s_need_net) (A_need_report : FunAt K mg "need_report" s_need_report) (A_need_all : FunAt K mg "need_all" s_need_all) (A_halves : FunAt K mg "halves" s_halves) (FU : Fun K "law" "law" s_law f fd) : FnG P w K mg base 8 f fd ["_law_script"] (spS K mg 0 (fun ns => fn0 (f_law ns))) := by
  have K_law_draw := ok_law_draw (P := P) (w := w) (base := base) B A_law_draw
  have K_law_net_of := ok_law_net_of (P := P) (w := w) (base := base) B K_law_draw A_law_net_of
  have K_law_choose := ok_law_choose (P := P) (w := w) (base := base) B K_law_draw A_law_choose
  have K_law_report := ok_law_report (P := P) (w := w) (base := base) B K_law_choose K_law_draw A_law_report
  have K_law_meets := ok_law_meets (P := P) (w := w) (base := base) B A_law_meets
  have K_law_reaches := ok_law_reaches (P := P) (w := w) (base := base) B A_law_reaches
  have K_law_sets := ok_law_sets (P := P) (w := w) (base := base) B A_law_sets
  have K_law_table := ok_law_table (P := P) (w := w) (base := base) B K_law_meets K_law_reaches K_law_sets A_law_table
  have K_law_case := ok_law_case (P := P) (w := w) (base := base) B K_law_net_of K_law_report K_law_table A_law_case
  have K_law_cell := ok_law_cell (P := P) (w := w) (base := base) B A_law_cell
  have K_law_does := ok_law_does (P := P) (w := w) (base := base) B A_law_does
  have K_law_halves := ok_law_halves (P := P) (w := w) (base := base) B K_law_does A_law_halves
  have K_law_is_equal := ok_law_is_equal (P := P) (w := w) (base := base) B A_law_is_equal
  have K_law_source := ok_law_source (P := P) (w := w) (base := base) B A_law_source
  have K_do_meet := ok_do_meet (P := P) (w := w) (base := base) B A_do_meet
  have K_reach_of := ok_reach_of (P := P) (w := w) (base := base) B A_reach_of
  have K_all_reaches := ok_all_reaches (P := P) (w := w) (base := base) B K_reach_of A_all_reaches
  have K_with_word := ok_with_word (P := P) (w := w) (base := base) B A_with_word
  have K_candidates_of := ok_candidates_of (P := P) (w := w) (base := base) B c_QUIET K_all_reaches K_with_word A_candidates_of
  have K_needed_of := ok_needed_of (P := P) (w := w) (base := base) B c_ALARM K_candidates_of K_reach_of K_with_word A_needed_of
  have K_subsets_of := ok_subsets_of (P := P) (w := w) (base := base) B A_subsets_of
  have K_explanations_of := ok_explanations_of (P := P) (w := w) (base := base) B K_candidates_of K_do_meet K_needed_of K_subsets_of A_explanations_of
  have K_halves_of := ok_halves_of (P := P) (w := w) (base := base) B K_do_meet K_explanations_of K_reach_of A_halves_of
  have K_is_between := ok_is_between (P := P) (w := w) (base := base) B A_is_between
  have K_need_component := ok_need_component (P := P) (w := w) (base := base) B K_is_between A_need_component
  have K_is_word := ok_is_word (P := P) (w := w) (base := base) B c_WORDS A_is_word
  have K_is_report := ok_is_report (P := P) (w := w) (base := base) B K_is_word A_is_report
  have K_is_rising := ok_is_rising (P := P) (w := w) (base := base) B K_is_between A_is_rising
  have K_is_net := ok_is_net (P := P) (w := w) (base := base) B c_MOST_COMPONENTS K_is_rising A_is_net
  have K_need_net := ok_need_net (P := P) (w := w) (base := base) B K_is_net A_need_net
  have K_need_report := ok_need_report (P := P) (w := w) (base := base) B K_is_report K_need_net A_need_report
  have K_need_all := ok_need_all (P := P) (w := w) (base := base) B K_need_component K_need_report A_need_all
  have K_halves := ok_halves (P := P) (w := w) (base := base) B K_halves_of K_need_all A_halves
  exact ok_law B K_law_case K_law_cell K_law_draw K_law_halves K_law_is_equal K_law_source K_halves FU
end
end Lw

end

open PySem PySem.W PyProof.Rows
set_option maxHeartbeats 0 in
theorem PySem.Challenge.cw_rootalarms_k35_halves_counted_holds : PySem.Challenge.rw_rootalarms_k35_halves_counted.Holds := by
  w_on; o_law; k_head; (case hw => w_witness2)
  k_fill
  refine EV.law_end (l := PySem.Challenge.rw_rootalarms_k35_halves_counted) (n := 63) (k := 8) (x := "_law_script") (F := fun ns => EV.fn0 (Lw.f_law ns)) rfl (by decide) rfl ⟨rfl, by decide, by decide⟩ (fun w h Y => PySem.W.kIn_of Y) ?F Lw.law_true
  intro w mg fa h KX G hmg
  have B : EV.Bn mg := ⟨PySem.W.mg_none_of KX G (by k_is), PySem.W.mg_none_of KX G (by k_is), PySem.W.mg_none_of KX G (by k_is), PySem.W.mg_none_of KX G (by k_is), PySem.W.mg_none_of KX G (by k_is), PySem.W.mg_none_of KX G (by k_is), PySem.W.mg_none_of KX G (by k_is), PySem.W.mg_none_of KX G (by k_is), PySem.W.mg_none_of KX G (by k_is), PySem.W.mg_none_of KX G (by k_is), PySem.W.mg_none_of KX G (by k_is), PySem.W.mg_none_of KX G (by k_is), PySem.W.mg_none_of KX G (by k_is), PySem.W.mg_none_of KX G (by k_is), PySem.W.mg_none_of KX G (by k_is), PySem.W.mg_none_of KX G (by k_is), PySem.W.mg_none_of KX G (by k_is), PySem.W.mg_none_of KX G (by k_is)⟩
  have c_ALARM : ∃ t, mg "ALARM" = some (.str "alarm" t) := by
    refine' EV.cstS KX G ?a
    case a => k_is
  have c_MOST_COMPONENTS : ∃ t, mg "MOST_COMPONENTS" = some (.int 8 t) := by
    refine' EV.cstI KX G ?a
    case a => k_is
  have c_QUIET : ∃ t, mg "QUIET" = some (.str "quiet" t) := by
    refine' EV.cstS KX G ?a
    case a => k_is
  have c_WORDS : EV.CT _ mg "WORDS" Lw.d_WORDS := EV.DefC.at KX G (by refine' EV.defC ?e ?l ?v; (case e => k_is); (case l => k_is); (case v => decide +kernel))
  have A_law_draw : EV.FunAt _ mg "_law_draw" Lw.s_law_draw := EV.DefF.at KX G (by refine' EV.defF ?a ?l ?c ?k; (case a => k_is); (case l => k_is); (case c => k_is); (case k => k_is))
  have A_law_net_of : EV.FunAt _ mg "_law_net_of" Lw.s_law_net_of := EV.DefF.at KX G (by refine' EV.defF ?a ?l ?c ?k; (case a => k_is); (case l => k_is); (case c => k_is); (case k => k_is))
  have A_law_choose : EV.FunAt _ mg "_law_choose" Lw.s_law_choose := EV.DefF.at KX G (by refine' EV.defF ?a ?l ?c ?k; (case a => k_is); (case l => k_is); (case c => k_is); (case k => k_is))
  have A_law_report : EV.FunAt _ mg "_law_report" Lw.s_law_report := EV.DefF.at KX G (by refine' EV.defF ?a ?l ?c ?k; (case a => k_is); (case l => k_is); (case c => k_is); (case k => k_is))
  have A_law_meets : EV.FunAt _ mg "_law_meets" Lw.s_law_meets := EV.DefF.at KX G (by refine' EV.defF ?a ?l ?c ?k; (case a => k_is); (case l => k_is); (case c => k_is); (case k => k_is))
  have A_law_reaches : EV.FunAt _ mg "_law_reaches" Lw.s_law_reaches := EV.DefF.at KX G (by refine' EV.defF ?a ?l ?c ?k; (case a => k_is); (case l => k_is); (case c => k_is); (case k => k_is))
  have A_law_sets : EV.FunAt _ mg "_law_sets" Lw.s_law_sets := EV.DefF.at KX G (by refine' EV.defF ?a ?l ?c ?k; (case a => k_is); (case l => k_is); (case c => k_is); (case k => k_is))
  have A_law_table : EV.FunAt _ mg "_law_table" Lw.s_law_table := EV.DefF.at KX G (by refine' EV.defF ?a ?l ?c ?k; (case a => k_is); (case l => k_is); (case c => k_is); (case k => k_is))
  have A_law_case : EV.FunAt _ mg "_law_case" Lw.s_law_case := EV.DefF.at KX G (by refine' EV.defF ?a ?l ?c ?k; (case a => k_is); (case l => k_is); (case c => k_is); (case k => k_is))
  have A_law_cell : EV.FunAt _ mg "_law_cell" Lw.s_law_cell := EV.DefF.at KX G (by refine' EV.defF ?a ?l ?c ?k; (case a => k_is); (case l => k_is); (case c => k_is); (case k => k_is))
  have A_law_does : EV.FunAt _ mg "_law_does" Lw.s_law_does := EV.DefF.at KX G (by refine' EV.defF ?a ?l ?c ?k; (case a => k_is); (case l => k_is); (case c => k_is); (case k => k_is))
  have A_law_halves : EV.FunAt _ mg "_law_halves" Lw.s_law_halves := EV.DefF.at KX G (by refine' EV.defF ?a ?l ?c ?k; (case a => k_is); (case l => k_is); (case c => k_is); (case k => k_is))
  have A_law_is_equal : EV.FunAt _ mg "_law_is_equal" Lw.s_law_is_equal := EV.DefF.at KX G (by refine' EV.defF ?a ?l ?c ?k; (case a => k_is); (case l => k_is); (case c => k_is); (case k => k_is))
  have A_law_source : EV.FunAt _ mg "_law_source" Lw.s_law_source := EV.DefF.at KX G (by refine' EV.defF ?a ?l ?c ?k; (case a => k_is); (case l => k_is); (case c => k_is); (case k => k_is))
  have A_do_meet : EV.FunAt _ mg "do_meet" Lw.s_do_meet := EV.DefF.at KX G (by refine' EV.defF ?a ?l ?c ?k; (case a => k_is); (case l => k_is); (case c => k_is); (case k => k_is))
  have A_reach_of : EV.FunAt _ mg "reach_of" Lw.s_reach_of := EV.DefF.at KX G (by refine' EV.defF ?a ?l ?c ?k; (case a => k_is); (case l => k_is); (case c => k_is); (case k => k_is))
  have A_all_reaches : EV.FunAt _ mg "all_reaches" Lw.s_all_reaches := EV.DefF.at KX G (by refine' EV.defF ?a ?l ?c ?k; (case a => k_is); (case l => k_is); (case c => k_is); (case k => k_is))
  have A_with_word : EV.FunAt _ mg "with_word" Lw.s_with_word := EV.DefF.at KX G (by refine' EV.defF ?a ?l ?c ?k; (case a => k_is); (case l => k_is); (case c => k_is); (case k => k_is))
  have A_candidates_of : EV.FunAt _ mg "candidates_of" Lw.s_candidates_of := EV.DefF.at KX G (by refine' EV.defF ?a ?l ?c ?k; (case a => k_is); (case l => k_is); (case c => k_is); (case k => k_is))
  have A_needed_of : EV.FunAt _ mg "needed_of" Lw.s_needed_of := EV.DefF.at KX G (by refine' EV.defF ?a ?l ?c ?k; (case a => k_is); (case l => k_is); (case c => k_is); (case k => k_is))
  have A_subsets_of : EV.FunAt _ mg "subsets_of" Lw.s_subsets_of := EV.DefF.at KX G (by refine' EV.defF ?a ?l ?c ?k; (case a => k_is); (case l => k_is); (case c => k_is); (case k => k_is))
  have A_explanations_of : EV.FunAt _ mg "explanations_of" Lw.s_explanations_of := EV.DefF.at KX G (by refine' EV.defF ?a ?l ?c ?k; (case a => k_is); (case l => k_is); (case c => k_is); (case k => k_is))
  have A_halves_of : EV.FunAt _ mg "halves_of" Lw.s_halves_of := EV.DefF.at KX G (by refine' EV.defF ?a ?l ?c ?k; (case a => k_is); (case l => k_is); (case c => k_is); (case k => k_is))
  have A_is_between : EV.FunAt _ mg "is_between" Lw.s_is_between := EV.DefF.at KX G (by refine' EV.defF ?a ?l ?c ?k; (case a => k_is); (case l => k_is); (case c => k_is); (case k => k_is))
  have A_need_component : EV.FunAt _ mg "need_component" Lw.s_need_component := EV.DefF.at KX G (by refine' EV.defF ?a ?l ?c ?k; (case a => k_is); (case l => k_is); (case c => k_is); (case k => k_is))
  have A_is_word : EV.FunAt _ mg "is_word" Lw.s_is_word := EV.DefF.at KX G (by refine' EV.defF ?a ?l ?c ?k; (case a => k_is); (case l => k_is); (case c => k_is); (case k => k_is))
  have A_is_report : EV.FunAt _ mg "is_report" Lw.s_is_report := EV.DefF.at KX G (by refine' EV.defF ?a ?l ?c ?k; (case a => k_is); (case l => k_is); (case c => k_is); (case k => k_is))
  have A_is_rising : EV.FunAt _ mg "is_rising" Lw.s_is_rising := EV.DefF.at KX G (by refine' EV.defF ?a ?l ?c ?k; (case a => k_is); (case l => k_is); (case c => k_is); (case k => k_is))
  have A_is_net : EV.FunAt _ mg "is_net" Lw.s_is_net := EV.DefF.at KX G (by refine' EV.defF ?a ?l ?c ?k; (case a => k_is); (case l => k_is); (case c => k_is); (case k => k_is))
  have A_need_net : EV.FunAt _ mg "need_net" Lw.s_need_net := EV.DefF.at KX G (by refine' EV.defF ?a ?l ?c ?k; (case a => k_is); (case l => k_is); (case c => k_is); (case k => k_is))
  have A_need_report : EV.FunAt _ mg "need_report" Lw.s_need_report := EV.DefF.at KX G (by refine' EV.defF ?a ?l ?c ?k; (case a => k_is); (case l => k_is); (case c => k_is); (case k => k_is))
  have A_need_all : EV.FunAt _ mg "need_all" Lw.s_need_all := EV.DefF.at KX G (by refine' EV.defF ?a ?l ?c ?k; (case a => k_is); (case l => k_is); (case c => k_is); (case k => k_is))
  have A_halves : EV.FunAt _ mg "halves" Lw.s_halves := EV.DefF.at KX G (by refine' EV.defF ?a ?l ?c ?k; (case a => k_is); (case l => k_is); (case c => k_is); (case k => k_is))
  have A_law : EV.FunAt _ mg "law" Lw.s_law := EV.DefF.at KX G (by refine' EV.defF ?a ?l ?c ?k; (case a => k_is); (case l => k_is); (case c => k_is); (case k => k_is))
  obtain ⟨f, fd, FU, hm⟩ := A_law.ex
  have ef := hmg.symm.trans hm
  cases ef
  have bb := FU.binds (ps := ["_law_script"]) (fun _ _ _ _ _ _ us hl => match us, hl with | [_], _ => rfl)
  refine ⟨fd, fun s u => ?_, fun base hK hns => ?_⟩
  · obtain ⟨_, _, _, _, _, _, _, _, _, rfl, _, _⟩ := FU.ex
    exact .of_eq rfl
  · exact Lw.end_law B c_ALARM c_MOST_COMPONENTS c_QUIET c_WORDS A_law_draw A_law_net_of A_law_choose A_law_report A_law_meets A_law_reaches A_law_sets A_law_table A_law_case A_law_cell A_law_does A_law_halves A_law_is_equal A_law_source A_do_meet A_reach_of A_all_reaches A_with_word A_candidates_of A_needed_of A_subsets_of A_explanations_of A_halves_of A_is_between A_need_component A_is_word A_is_report A_is_rising A_is_net A_need_net A_need_report A_need_all A_halves FU

