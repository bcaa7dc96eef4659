import PyProof.Rows.All
import KE.HD2
import Wide.All
import OpenK.AllK
import Wide.FinOn
import HandS.ForMost
import HandS.ForExc
import HandS.CallSlots
import HandS.IsInst
import HandS.Lambda
import HandS.Deep
import HandS.TupAny
import HandS.SortInts
import HandS.Zip
import KE.DatumIndex
import KE.GoesEnum
import HandS.Style
import HandS.Set
import HandS.SetFor
import HandS.Strs
import HandS.Conv
import KE.SortData
import HandS.Star
import KE.DataFind
import KE.DataMinMax
import HandS.TupSets
import HandS.GenList
import PyProof.Rows.RowBridgeK
import PyProof.Rows.MatchSeqLen
import PyProof.RulesMatchSeq
import HandS.TupMul
import HandS.TupLe
import HandS.SetBool
import HandS.Dict
import HandS.Walk
import HandS.Sort
import HandS.DictTup
import KE.KDictCopyH
import KE.KDictZip
import KE.GoesZip
import HandS.ExcOwn
import PyProof.ExcBaseAll.ValueError
import HandS.HotCalls
import HandS.ExcIs
import HandS.Defaults
import KE.KOpsOwn
import HandS.Property
import HandS.TryMany
import HandS.ExcField
import HandS.ExcInit
import HandS.ClsMeth
import HandS.FStr
import HandS.Text
import HandS.RaiseMore
import PyProof.InstNe
import KE.KStar
import PyProof.EqAt
import PyProof.EqKinds
import HandS.Nested
import KE.KExcSuper
import KE.KSuper
import HandS.MakeKw
import KE.KUnpackStar
import PyProof.Rows.StrRev
import PyProof.ReprDict
import HandS.ReplaceLit
import HandS.Flow
import HandS.TryOnly
import PyProof.ReprBulk
import PySem.Challenge.RW_rootalarms_k13_reports_refused
set_option Elab.async false
set_option linter.all false
set_option maxRecDepth 100000
namespace EV
open PySem PySem.W PySem.Calls PyProof.Rows HeadRun
/-- the objects that are looked at, and the empty tables behind them -/
def kTab (K : Params → Frag) (ts : List Addr) : Params → Frag := fun P => K P ++ ts.map fun a => (a, tabObj #[])
theorem lookup_app_l {a : Addr} {o : Obj} : ∀ {K L : Frag}, K.lookup a = some o → (K ++ L).lookup a = some o
  | [], L, h => by cases h
  | (b, x) :: K, L, h => by
    rw [List.cons_append, List.lookup_cons]
    rw [List.lookup_cons] at h
    cases e : a == b with
    | true =>
      rw [e] at h
      exact h
    | false =>
      rw [e] at h
      exact lookup_app_l (K := K) h
theorem lookup_app_r {a : Addr} : ∀ {K L : Frag}, K.lookup a = none → (K ++ L).lookup a = L.lookup a
  | [], L, h => rfl
  | (b, x) :: K, L, h => by
    rw [List.cons_append, List.lookup_cons]
    rw [List.lookup_cons] at h
    cases e : a == b with
    | true =>
      rw [e] at h
      cases h
    | false =>
      rw [e] at h
      exact lookup_app_r (K := K) h
theorem lookup_tab {P : Addr} : ∀ {ts : List Addr}, P ∈ ts → (ts.map fun a => (a, tabObj #[])).lookup P = some (tabObj #[])
  | [], h => by cases h
  | a :: ts, h => by
    rw [List.map_cons, List.lookup_cons]
    cases e : P == a with
    | true => rfl
    | false => exact lookup_tab ((List.mem_cons.mp h).resolve_left fun z => by rw [z, beq_self_eq_true] at e; cases e)
theorem kTab_in {K : Params → Frag} {ts as : List Addr} {e : ∀ P, as = (kTab K ts P).map (·.1)} {w : World} {h : Heap} (Y : (kHook (kTab K ts) as e).says w h) : (K w.params).In h := fun a o q => (kIn_of Y) a o (lookup_app_l q)
theorem kTab_tabs {K : Params → Frag} {ts as : List Addr} {e : ∀ P, as = (kTab K ts P).map (·.1)} {w : World} {h : Heap} (Y : (kHook (kTab K ts) as e).says w h) (P : Addr) (hP : P ∈ ts) (n : (K w.params).lookup P = none) : h.get? P = some (tabObj #[]) :=
  (kIn_of Y) P _ ((lookup_app_r n).trans (lookup_tab hP))
/-- the law's own statement alone is what the head looks at -/
def viewOf (p : Program) (i : Nat) : Program := { p with main := { p.main with body := match p.main.body[i]? with | some s => [s] | none => [] } }
theorem headW {r : OpenRow} {K : Params → Frag} {as : List Addr} (row : String) (i : Nat) (loose : List Str) (M : Nat) (ek : ∀ P, as = (K P).map (·.1)) (e : opening r.prog = plainProg r.prog.main.scope.names) (f : ∀ s, fenceModules? r.prog s = some s)
    (r0 : ∀ w : World, RunEq r (viewOf r.prog i) (kHook K as ek) (fun s => as.map (getT s)) M loose (w.withFollow row false)) (r1 : ∀ w : World, RunEq r (viewOf r.prog i) (kHook K as ek) (fun s => as.map (getT s)) M loose (w.withFollow row true))
    (hdef : defOf (viewOf r.prog i) r.name = some (topDef r.prog i, [])) (hp : r.prog.theDef r.name = some ((topDef r.prog i).params, (topDef r.prog i).body, (topDef r.prog i).scope)) (hk : kwWritten? (topDef r.prog i).params.kwonlyargs (topDef r.prog i).params.kw_defaults = some [])
    (hwr : (!r.writes || r.records.isEmpty) = true) (k1 : r.wellSaid = true) (ok : (chainsOk (viewOf r.prog i) && opensWell r.prog && (frees r.toRowW && r.within.isEmpty)) = true) (hb : r.prog.bare) (hw : r.toRowW.promised)
    (hc : WalkO (viewOf r.prog i) loose (XL (viewOf r.prog i) []) (kHook K as ek).says r.toRowW (topDef r.prog i) [] fun f vs => PySem.call f vs) : r.Holds :=
  head_any (H := kHook K as ek) (ob := fun s => as.map (getT s)) (M := M) (fun s => List.map_congr_left fun a _ => getT_eq s a) e f (fun w => by
    have z := World.withFollow_self w row
    cases b : w.params.followText row with
    | false =>
      have q := r0 w
      rw [b] at z
      rw [z] at q
      exact q
    | true =>
      have q := r1 w
      rw [b] at z
      rw [z] at q
      exact q) hdef hp hk hwr k1 ok hb hw hc
theorem hmg_of {mg : Str → Option Value} {a b : Str} {v : Option Value} (h : mg a = v) (e : a = b) : mg b = v := by
  rw [← e]
  exact h
end EV
section
open PySem PySem.W PyProof.Rows
local macro_rules
| `(tactic| o_head ($f:ident $K $as $e $ts)) => `(tactic| refine EV.headW (K := EV.kTab $K $ts) (as := $as ++ $ts) "special-get-raises" 81 ((["_wall", "__name__", "AlarmError", "NetError", "ComponentError", "SetError", "ReportError", "WordError", "NumberError", "TextError", "NothingDone", "Unexplained", "LimitError", "MOST_COMPONENTS", "is_between", "is_rising", "is_net", "need_net", "need_component", "need_set", "reach_of", "all_reaches", "do_meet", "alarms_of", "ALARM", "QUIET", "UNSEEN", "WORDS", "BROKEN", "NONE", "is_word", "is_report", "need_report", "with_word", "candidates_of", "candidates", "needed_of", "is_explained", "rulers_of", "ruled_out", "verdict_of", "verdict", "does_explain", "are_rulers", "shows_verdict", "subsets_of", "explanations_of", "explanations", "how_many", "FIGURES", "line_of", "text_of", "needs_in", "moved", "Net", "need_start", "watched_of", "Watch", "_law_cell_at", "_law_pen", "_law_draw", "_law_pick", "_law_net", "_law_reach", "_law_have", "_law_alarming", "_law_set", "_law_seen", "_law_report", "_law_odd", "_law_kind", "_law_said", "_law_no_nets", "_law_no_reports", "_law_words", "_law_long"] : List String).map PySem.Str.ofString) 40000 (fun _ => by kernel_rfl) (by kernel_rfl) (fun s => by kernel_rfl) (fun w os => by kernel_rfl) (fun w os => by kernel_rfl) (by kernel_rfl) (by kernel_rfl) (by kernel_rfl) (by kernel_rfl) (by first | assumption | decide +kernel) (by decide +kernel) ⟨rfl, rfl, rfl, rfl, rfl, by decide +kernel⟩ ?hw ?hc)
| `(tactic| o_head ($f:ident $K $as $e)) => `(tactic| refine EV.headW (K := EV.kTab $K []) (as := $as ++ []) "special-get-raises" 81 ((["_wall", "__name__", "AlarmError", "NetError", "ComponentError", "SetError", "ReportError", "WordError", "NumberError", "TextError", "NothingDone", "Unexplained", "LimitError", "MOST_COMPONENTS", "is_between", "is_rising", "is_net", "need_net", "need_component", "need_set", "reach_of", "all_reaches", "do_meet", "alarms_of", "ALARM", "QUIET", "UNSEEN", "WORDS", "BROKEN", "NONE", "is_word", "is_report", "need_report", "with_word", "candidates_of", "candidates", "needed_of", "is_explained", "rulers_of", "ruled_out", "verdict_of", "verdict", "does_explain", "are_rulers", "shows_verdict", "subsets_of", "explanations_of", "explanations", "how_many", "FIGURES", "line_of", "text_of", "needs_in", "moved", "Net", "need_start", "watched_of", "Watch", "_law_cell_at", "_law_pen", "_law_draw", "_law_pick", "_law_net", "_law_reach", "_law_have", "_law_alarming", "_law_set", "_law_seen", "_law_report", "_law_odd", "_law_kind", "_law_said", "_law_no_nets", "_law_no_reports", "_law_words", "_law_long"] : List String).map PySem.Str.ofString) 40000 (fun _ => by kernel_rfl) (by kernel_rfl) (fun s => by kernel_rfl) (fun w os => by kernel_rfl) (fun w os => by kernel_rfl) (by kernel_rfl) (by kernel_rfl) (by kernel_rfl) (by kernel_rfl) (by first | assumption | decide +kernel) (by decide +kernel) ⟨rfl, rfl, rfl, rfl, rfl, by decide +kernel⟩ ?hw ?hc)
set_option maxHeartbeats 0 in
open_top EV.top for PySem.Challenge.rw_rootalarms_k13_reports_refused
end
namespace EV
/-- the defs of this law that make lambdas -/
def lamNames : List PySem.Str := ["_law_words"]
end EV
namespace EV
open PySem PySem.Spec PyProof.Rows L2
/-- data trees -/
inductive D where
  | non | bl (b : Bool) | int (i : Int) | str (x : Str)
  | tup (xs : List D) | lst (xs : List D)
  | dct (kvs : List (D × D)) | obj (C : Addr) (fs : List (Str × D)) | cls (C : Addr)
structure Ex where
  name : Str
  fs : List (Str × D)
/-- results, with the state of the pen -/
inductive R (α : Type) where
  | ok (a : α) (s : List Int) | exc (e : Ex) | bad
def PM (α : Type) : Type := List Int → R α
def PM.pure {α : Type} (a : α) : PM α := fun s => .ok a s
def PM.bind {α β : Type} (m : PM α) (f : α → PM β) : PM β := fun s => match m s with
  | .ok a s1 => f a s1
  | .exc e => .exc e
  | .bad => .bad
instance : Monad PM where
  pure := PM.pure
  bind := PM.bind
theorem PM.bind_def {α β : Type} (m : PM α) (f : α → PM β) (s : List Int) : (m >>= f) s = match m s with
  | .ok a s1 => f a s1
  | .exc e => .exc e
  | .bad => .bad := rfl
instance : LawfulMonad PM := LawfulMonad.mk'
  (id_map := fun x => by
    funext s
    show PM.bind x (fun a => PM.pure a) s = x s
    unfold PM.bind PM.pure
    cases x s <;> rfl)
  (pure_bind := fun _ _ => rfl)
  (bind_assoc := fun x f g => by
    funext s
    show PM.bind (PM.bind x f) g s = PM.bind x (fun a => PM.bind (f a) g) s
    unfold PM.bind
    cases x s <;> rfl)
  (bind_pure_comp := fun _ _ => rfl)
def bad {α : Type} : PM α := fun _ => .bad
def raiseP {α : Type} (e : Ex) : PM α := fun _ => .exc e
/-- a def without the pen -/
def run0 {α : Type} (m : PM α) : PM α := fun s => match m [] with
  | .ok a _ => .ok a s
  | .exc e => .exc e
  | .bad => .bad
/-- the object of a tuple without a dict -/
structure TupO where
  ob : Obj
  cls : ob.cls = .type "tuple"
  dict : ob.dict = none
inductive DSh where
  | t (ks : List (List Int)) | k (ks : List Int) | tu (n : Nat) | tn (o : Unit → TupO) (n : Nat) | ins (x C dx : Addr) (ks : List Str)
/-- a dict with keys of this shape: tuples of ints; ints; or a tuple that was made here -/
def DSh.ho : DSh → List V → HO
  | .t ks, vs => .dT ((ks.map fun r => r.map Sum.inl).zip vs)
  | .k ks, vs => .dK ((ks.map Sum.inl).zip vs)
  | .tu _, vs => .tup vs
  | .tn o _, vs => .frz (o ()).ob (.tup vs)
  | .ins _ C dx ks, vs => .ins C dx (ks.zip vs)
/-- an instance that is being made: where it is -/
def DSh.at : DSh → Addr → Prop
  | .ins x _ _ _, p => p = x
  | _, _ => True
def DSh.len : DSh → Nat
  | .t ks => ks.length
  | .k ks => ks.length
  | .tu n => n
  | .tn _ n => n
  | .ins _ _ _ ks => ks.length
theorem DSh.notLst {sh : DSh} {vs xs : List V} (h : sh.ho vs = .lst xs) : False := by
  cases sh <;> cases h
/-- the keys, as trees (of dicts alone) -/
def DSh.keysD : DSh → Option (List D)
  | .t ks => some (ks.map fun r => .tup (r.map .int))
  | .k ks => some (ks.map .int)
  | .tu _ => none
  | .tn _ _ => none
  | .ins _ _ _ _ => none
theorem DSh.notTbl {sh : DSh} {vs : List V} {ps : Array Value} (h : sh.ho vs = .tbl ps) : False := by
  cases sh <;> cases h
theorem DSh.notExt {sh : DSh} {vs : List V} {φ : Heap → Prop} (h : sh.ho vs = .ext φ) : False := by
  cases sh <;> cases h
/-- the code object at c is known, its name is n, its table is at P; q is the name of its lambdas -/
def TabOf (K : PySem.W.Frag) (P : Addr) (q : Str) : Prop := ∃ (c : Addr) (o : Obj) (vs : Array Value) (n : Str) (t : Tok), K.lookup c = some o ∧ o.data = .fields vs ∧ vs[1]? = some (.str n t) ∧ vs[11]? = some (.ref P) ∧ q = (n ++ ".<locals>.") ++ "<lambda>"
/-- the name of the lambdas of the table at P -/
noncomputable def tauK (K : PySem.W.Frag) (P : Addr) : Str := @dite _ (∃ q, TabOf K P q) (Classical.propDecidable _) (fun h => Classical.choose h) fun _ => ""
theorem tauK_of {K : PySem.W.Frag} {P : Addr} {q : Str} (h : TabOf K P q) (u : ∀ q', TabOf K P q' → q' = q) : tauK K P = q := by
  unfold tauK
  rw [dif_pos ⟨q, h⟩]
  exact u _ (Classical.choose_spec (⟨q, h⟩ : ∃ q, TabOf K P q))
/-- the table at P is that of a def which makes lambdas -/
def NeedT (K : PySem.W.Frag) (P : Addr) : Prop := ∃ (c : Addr) (o : Obj) (vs : Array Value) (n : Str) (t : Tok), K.lookup c = some o ∧ o.data = .fields vs ∧ vs[1]? = some (.str n t) ∧ vs[11]? = some (.ref P) ∧ n ∈ lamNames
/-- the tracked tables are right; those of makers of lambdas are tracked -/
structure TabK (K : PySem.W.Frag) (H : Hp) : Prop where
  ok : ∀ P ps, H P = some (.tbl ps) → LamX.TabS H P (tauK K P)
  on : ∀ P, NeedT K P → ∃ ps, H P = some (.tbl ps)
theorem TabK.keep {K : PySem.W.Frag} {H H' : Hp} (h : TabK K H) (ht : ∀ P ps, H' P = some (.tbl ps) → H P = some (.tbl ps)) (he : ∀ c φ, H c = some (.ext φ) → H' c = some (.ext φ)) (hq : ∀ P ps, H P = some (.tbl ps) → H' P = some (.tbl ps)) : TabK K H' := ⟨fun P ps e => by
  obtain ⟨ps', h1, h2, h3⟩ := h.ok P ps (ht P ps e)
  rw [ht P ps e] at h1
  cases h1
  refine ⟨ps, e, h2, fun pos cv hc => ?_⟩
  obtain ⟨c, e1, e2⟩ := h3 pos cv hc
  exact ⟨c, e1, he c _ e2⟩, fun P n => by
  obtain ⟨ps, e⟩ := h.on P n
  exact ⟨ps, hq P ps e⟩⟩
theorem TabK.upd {K : PySem.W.Frag} {H : Hp} (h : TabK K H) {p : Addr} {o : HO} (ho : ∀ ps, o ≠ .tbl ps) (hp : ∀ φ, H p ≠ some (.ext φ)) (hq : ∀ ps, H p ≠ some (.tbl ps)) : TabK K (L2.upd H p o) := h.keep (fun P ps e => by
  by_cases z : P = p
  · subst z
    rw [upd_same] at e
    exact absurd (Option.some.inj e) (ho ps)
  · rw [upd_ne z] at e
    exact e) (fun c φ e => by
  rw [upd_ne (fun z : c = p => hp φ (by rw [← z]; exact e))]
  exact e) fun c ps e => by
  rw [upd_ne (fun z : c = p => hq ps (by rw [← z]; exact e))]
  exact e
theorem TabK.updL {K : PySem.W.Frag} {H : Hp} (h : TabK K H) {p : Addr} {ws vs : List V} (hp : H p = some (.lst ws)) : TabK K (L2.upd H p (.lst vs)) := h.upd (fun _ z => by cases z) (fun φ z => by
  rw [hp] at z
  cases z) fun ps z => by
  rw [hp] at z
  cases z
/-- no table is public -/
def NoT (G : Hp) : Prop := ∀ P ps, G P ≠ some (.tbl ps)
theorem NoT.upd {G : Hp} (h : NoT G) {p : Addr} {o : HO} (ho : ∀ ps, o ≠ .tbl ps) : NoT (L2.upd G p o) := fun P ps e => by
  by_cases z : P = p
  · subst z
    rw [upd_same] at e
    exact ho ps (Option.some.inj e)
  · rw [upd_ne z] at e
    exact h P ps e
theorem nt_lst (xs : List V) : ∀ ps, HO.lst xs ≠ .tbl ps := fun _ z => by cases z
/-- what is asked of an own class -/
structure ObjC (K : PySem.W.Frag) (C : Addr) : Prop where
  cl : Cls K C
  ha : PySem.W.findIn K (.ref C) "__class__" = some (some (.builtin "object.__class__"))
  hn : PySem.W.specialIn K (.builtin "object.__class__") "__get__" = some (some (.builtin "getset_descriptor.__get__"))
  htk : PySem.W.takesIn K (.builtin "object.__class__") = some true
  hm : PySem.W.mroIn K C (.type "object") = some true
  bt : ∀ T ∈ ["int", "bool", "tuple", "str", "list"], PySem.W.kitOne K (.ref C) (.type T) = some false
inductive Rp (K : PySem.W.Frag) (G : Hp) : V → D → Prop
  | non : Rp K G .non .non
  | bl (b : Bool) : Rp K G (.bl b) (.bl b)
  | int (i : Int) : Rp K G (.int i) (.int i)
  | str (x : Str) : Rp K G (.str x) (.str x)
  | lst {a : Addr} {xs : List V} {ds : List D} (h : G a = some (.lst xs)) (n : xs.length = ds.length) (r : ∀ (i : Nat) v d, xs[i]? = some v → ds[i]? = some d → Rp K G v d) : Rp K G (.ref a) (.lst ds)
  | tup {a : Addr} {xs : List V} {ds : List D} (h : SqT K G a xs) (n : xs.length = ds.length) (r : ∀ (i : Nat) v d, xs[i]? = some v → ds[i]? = some d → Rp K G v d) : Rp K G (.ref a) (.tup ds)
  | dct {a : Addr} {sh : DSh} {vs : List V} {kvs : List (D × D)} (h : G a = some (sh.ho vs)) (hk : sh.keysD = some (kvs.map (·.1))) (n : vs.length = kvs.length) (r : ∀ (i : Nat) v d, vs[i]? = some v → kvs[i]? = some d → Rp K G v d.2) : Rp K G (.ref a) (.dct kvs)
  | obj {a C dx : Addr} {fvs : List (Str × V)} {fs : List (Str × D)} (h : G a = some (.ins C dx fvs)) (hc : ObjC K C) (hk : fvs.map (·.1) = fs.map (·.1)) (r : ∀ (i : Nat) (v : Str × V) (d : Str × D), fvs[i]? = some v → fs[i]? = some d → Rp K G v.2 d.2) : Rp K G (.ref a) (.obj C fs)
  | cls (C : Addr) : Rp K G (.ref C) (.cls C)
/-- lists of them -/
def RpL (K : PySem.W.Frag) (G : Hp) (vs : List V) (ds : List D) : Prop := vs.length = ds.length ∧ ∀ (i : Nat) v d, vs[i]? = some v → ds[i]? = some d → Rp K G v d
section
variable {K : PySem.W.Frag} {G G' : Hp}
theorem sameT {a : Addr} {xs : List V} (e : Same G G') (h : SqT K G a xs) : SqT K G' a xs := by
  rcases h with (h | ⟨o, h⟩) | h
  · exact .inl (.inl (e _ _ h))
  · exact .inl (.inr ⟨o, e _ _ h⟩)
  · exact .inr h
theorem Rp.mono (e : Same G G') {v : V} {d : D} (h : Rp K G v d) : Rp K G' v d := by
  induction h with
  | non => exact .non
  | bl b => exact .bl b
  | int i => exact .int i
  | str x => exact .str x
  | lst h n _ ih => exact .lst (e _ _ h) n ih
  | tup h n _ ih => exact .tup (sameT e h) n ih
  | dct h hk n _ ih => exact .dct (e _ _ h) hk n ih
  | obj h hc hk _ ih => exact .obj (e _ _ h) hc hk ih
  | cls C => exact .cls C
theorem RpL.mono (e : Same G G') {vs : List V} {ds : List D} (h : RpL K G vs ds) : RpL K G' vs ds := ⟨h.1, fun i v d h1 h2 => (h.2 i v d h1 h2).mono e⟩
theorem RpL.nil : RpL K G [] [] := ⟨rfl, fun i v d h _ => by simp at h⟩
theorem RpL.cons {v : V} {vs : List V} {d : D} {ds : List D} (h : Rp K G v d) (t : RpL K G vs ds) : RpL K G (v :: vs) (d :: ds) := by
  refine ⟨by simp [t.1], fun i w e h1 h2 => ?_⟩
  cases i with
  | zero => simp at h1 h2; subst h1; subst h2; exact h
  | succ i => exact t.2 i w e (by simpa using h1) (by simpa using h2)
theorem RpL.tail {v : V} {vs : List V} {d : D} {ds : List D} (h : RpL K G (v :: vs) (d :: ds)) : Rp K G v d ∧ RpL K G vs ds :=
  ⟨h.2 0 v d rfl rfl, by simpa using h.1, fun i w e h1 h2 => h.2 (i + 1) w e (by simpa using h1) (by simpa using h2)⟩
theorem RpL.app {vs ws : List V} {ds es : List D} (h : RpL K G vs ds) (t : RpL K G ws es) : RpL K G (vs ++ ws) (ds ++ es) := by
  refine ⟨by simp [h.1, t.1], fun i w e h1 h2 => ?_⟩
  by_cases hi : i < vs.length
  · rw [List.getElem?_append_left hi] at h1
    rw [List.getElem?_append_left (by rw [← h.1]; exact hi)] at h2
    exact h.2 i w e h1 h2
  · rw [List.getElem?_append_right (by omega)] at h1
    rw [List.getElem?_append_right (by rw [← h.1]; omega)] at h2
    exact t.2 (i - vs.length) w e h1 (by rw [h.1]; exact h2)
theorem RpL.get {vs : List V} {ds : List D} (h : RpL K G vs ds) {i : Nat} {d : D} (e : ds[i]? = some d) : ∃ v, vs[i]? = some v ∧ Rp K G v d := by
  have hi : i < vs.length := by
    rw [h.1]
    exact (List.getElem?_eq_some_iff.mp e).1
  exact ⟨vs[i], List.getElem?_eq_getElem hi, h.2 i _ d (List.getElem?_eq_getElem hi) e⟩
theorem RpL.take {vs : List V} {ds : List D} (h : RpL K G vs ds) (n : Nat) : RpL K G (vs.take n) (ds.take n) := by
  refine ⟨by simp [h.1], fun i v d h1 h2 => ?_⟩
  by_cases hi : i < n
  · rw [List.getElem?_take_of_lt hi] at h1 h2
    exact h.2 i v d h1 h2
  · rw [List.getElem?_take, if_neg hi] at h1
    cases h1
theorem RpL.drop {vs : List V} {ds : List D} (h : RpL K G vs ds) (n : Nat) : RpL K G (vs.drop n) (ds.drop n) := by
  refine ⟨by simp [h.1], fun i v d h1 h2 => ?_⟩
  rw [List.getElem?_drop] at h1 h2
  exact h.2 _ v d h1 h2
theorem RpL.map_of {α : Type} {f : α → V} {g : α → D} : ∀ (xs : List α), (∀ x ∈ xs, Rp K G (f x) (g x)) → RpL K G (xs.map f) (xs.map g)
  | [], _ => .nil
  | x :: xs, h => .cons (h x List.mem_cons_self) (RpL.map_of xs fun y hy => h y (List.mem_cons_of_mem _ hy))
theorem Rp.mkL {a : Addr} {xs : List V} {ds : List D} (h : G a = some (.lst xs)) (r : RpL K G xs ds) : Rp K G (.ref a) (.lst ds) := .lst h r.1 r.2
theorem Rp.mkT {a : Addr} {xs : List V} {ds : List D} (h : SqT K G a xs) (r : RpL K G xs ds) : Rp K G (.ref a) (.tup ds) := .tup h r.1 r.2
end
structure Ext (K : PySem.W.Frag) (pa : Option Addr) (G H G' H' : Hp) : Prop where
  g : Same G G'
  hh : ∀ a o, H a = some o → pa ≠ some a → (∀ ps, o ≠ .tbl ps) → H' a = some o
  t : ∀ a o, H a = some o → ∃ o', H' a = some o'
  n : ∀ a o, H a = some o → G a = none → G' a = none
  sub : Same G' H'
  tk : TabK K H → TabK K H'
  gt : NoT G → NoT G'
theorem Ext.h {K : PySem.W.Frag} {pa : Option Addr} {G H G' H' : Hp} (x : Ext K pa G H G' H') (a : Addr) (o : HO) (e : H a = some o) (n : pa ≠ some a) (t : ∀ ps, o ≠ .tbl ps := by intro _ z; cases z) : H' a = some o := x.hh a o e n t
section
variable {K : PySem.W.Frag} {pa : Option Addr} {G H G1 H1 G2 H2 : Hp}
theorem Ext.refl (h : Same G H) : Ext K pa G H G H := ⟨Same.refl G, fun _ _ e _ _ => e, fun _ o e => ⟨o, e⟩, fun _ _ _ e => e, h, fun h => h, fun h => h⟩
theorem Ext.trans (a : Ext K pa G H G1 H1) (b : Ext K pa G1 H1 G2 H2) : Ext K pa G H G2 H2 :=
  ⟨a.g.trans b.g, fun c o e n t => b.h c o (a.h c o e n t) n t, fun c o e => by
    obtain ⟨o', e'⟩ := a.t c o e
    exact b.t c o' e', fun c o e n => by
    obtain ⟨o', e'⟩ := a.t c o e
    exact b.n c o' e' (a.n c o e n), b.sub, fun h => b.tk (a.tk h), fun h => b.gt (a.gt h)⟩
/-- a new object is laid, and public -/
theorem Ext.new (hs : Same G H) {p : Addr} (hp : H p = none) (o : HO) (ot : ∀ ps, o ≠ .tbl ps := by intro _ z; cases z) : Ext K pa G H (upd G p o) (upd H p o) := by
  have hg : G p = none := hs.free hp
  refine ⟨fun b x e => ?_, fun a x e _ _ => ?_, fun a x e => ⟨x, ?_⟩, fun a x e n => ?_, fun b x e => ?_, fun h => h.upd ot (fun φ z => by rw [hp] at z; cases z) (fun φ z => by rw [hp] at z; cases z), fun h => h.upd ot⟩
  · rw [upd_ne (ne_of_none e hg)]; exact e
  · rw [upd_ne (ne_of_none e hp)]; exact e
  · rw [upd_ne (ne_of_none e hp)]; exact e
  · rw [upd_ne (ne_of_none e hp)]; exact n
  · by_cases hb : b = p
    · subst hb
      rw [upd_same] at e ⊢
      exact e
    · rw [upd_ne hb] at e ⊢
      exact hs _ _ e
/-- a new object is laid, not public -/
theorem Ext.newH (hs : Same G H) {p : Addr} (hp : H p = none) (o : HO) (ot : ∀ ps, o ≠ .tbl ps := by intro _ z; cases z) : Ext K pa G H G (upd H p o) := by
  refine ⟨Same.refl G, fun a x e _ _ => ?_, fun a x e => ⟨x, ?_⟩, fun _ _ _ n => n, fun b x e => ?_, fun h => h.upd ot (fun φ z => by rw [hp] at z; cases z) (fun φ z => by rw [hp] at z; cases z), fun h => h⟩
  · rw [upd_ne (ne_of_none e hp)]; exact e
  · rw [upd_ne (ne_of_none e hp)]; exact e
  · have e' := hs _ _ e
    rw [upd_ne (ne_of_none e' hp)]; exact e'
end
def PenOk (pa : Option Addr) (G H : Hp) (s : List Int) : Prop := ∀ p, pa = some p → G p = none ∧ H p = some (.lst (s.map V.int))
theorem PenOk.none {G H : Hp} {s : List Int} : PenOk none G H s := fun p e => by cases e
theorem PenOk.upd {pa : Option Addr} {G H : Hp} {s : List Int} (h : PenOk pa G H s) {p : Addr} (hp : H p = Option.none) (o : HO) : PenOk pa (upd G p o) (upd H p o) s := fun q e => by
  obtain ⟨h1, h2⟩ := h q e
  have ne : q ≠ p := ne_of_none h2 hp
  rw [upd_ne ne, upd_ne ne]
  exact ⟨h1, h2⟩
theorem PenOk.updH {pa : Option Addr} {G H : Hp} {s : List Int} (h : PenOk pa G H s) {p : Addr} (hp : H p = Option.none) (o : HO) : PenOk pa G (L2.upd H p o) s := fun q e => by
  obtain ⟨h1, h2⟩ := h q e
  rw [upd_ne (ne_of_none h2 hp)]
  exact ⟨h1, h2⟩
/-- what is known of a slot -/
inductive Sl where
  | junk | val (d : D) | own (xs : List D) | pen | scr (ns : List Int) | dic (sh : DSh) (xs : List D) | ro (sh : DSh) (xs : List D)
def plainS : Sl → Bool
  | .dic _ _ => false
  | .ro _ _ => false
  | _ => true
theorem plain_dic {z : Sl} {sh : DSh} {xs : List D} (h : plainS z = true) (e : z = .dic sh xs) : False := by
  rw [e] at h
  cases h
theorem plain_ro {z : Sl} {sh : DSh} {xs : List D} (h : plainS z = true) (e : z = .ro sh xs) : False := by
  rw [e] at h
  cases h
/-- slots that hold dicts: one's own (dic), one that stays as it is (ro) -/
structure NvX (K : PySem.W.Frag) (H0 G H : Hp) (σ : L2.St) (Γ : List Sl) : Prop where
  dic : ∀ (i : Nat) sh xs, Γ[i]? = some (.dic sh xs) → ∃ p vs, σ[i]? = some (some (.ref p)) ∧ H p = some (sh.ho vs) ∧ G p = none ∧ RpL K G vs xs ∧ sh.len = xs.length ∧ H0 p = none ∧ sh.at p
  inj : ∀ (i j : Nat) p sh xs sh' ys, Γ[i]? = some (.dic sh xs) → Γ[j]? = some (.dic sh' ys) → σ[i]? = some (some (.ref p)) → σ[j]? = some (some (.ref p)) → i = j
  ro : ∀ (i : Nat) sh xs, Γ[i]? = some (.ro sh xs) → ∃ p vs, σ[i]? = some (some (.ref p)) ∧ G p = some (sh.ho vs) ∧ RpL K G vs xs ∧ sh.len = xs.length
  t0 : TabK K H0
  nt : NoT G
section
variable {K : PySem.W.Frag} {pa : Option Addr} {H0 G H G' H' : Hp} {σ : L2.St} {Γ : List Sl} {s : List Int}
theorem NvX.none (h : ∀ z ∈ Γ, plainS z = true) (t0 : TabK K H0) (nt : NoT G) : NvX K H0 G H σ Γ := ⟨fun i sh xs e => (plain_dic (h _ (List.mem_of_getElem? e)) rfl).elim, fun i j p sh xs sh' ys e => (plain_dic (h _ (List.mem_of_getElem? e)) rfl).elim, fun i sh xs e => (plain_ro (h _ (List.mem_of_getElem? e)) rfl).elim, t0, nt⟩
theorem NvX.step (E : NvX K H0 G H σ Γ) (x : Ext K pa G H G' H') (ps : PenOk pa G H s) : NvX K H0 G' H' σ Γ := ⟨fun i sh xs e => by
    obtain ⟨p, vs, h1, h2, h3, h4, h5, h6⟩ := E.dic i sh xs e
    refine ⟨p, vs, h1, x.h _ _ h2 (fun z => ?_) (fun _ z => DSh.notTbl z), x.n _ _ h2 h3, h4.mono x.g, h5, h6⟩
    have q := (ps p z).2
    rw [h2] at q
    exact DSh.notLst (Option.some.inj q), E.inj, fun i sh xs e => by
    obtain ⟨p, vs, h1, h2, h3, h4⟩ := E.ro i sh xs e
    exact ⟨p, vs, h1, x.g _ _ h2, h3.mono x.g, h4⟩, E.t0, x.gt E.nt⟩
theorem set_plain {z w : Sl} {i j : Nat} (hz : plainS z = true) (hw : plainS w = false) (e : (Γ.set i z)[j]? = some w) : i ≠ j ∧ Γ[j]? = some w := by
  by_cases hj : i = j
  · subst hj
    have hi := (List.getElem?_eq_some_iff.mp e).1
    rw [List.getElem?_set_self (by simpa using hi)] at e
    rw [Option.some.inj e] at hz
    rw [hz] at hw
    cases hw
  · rw [List.getElem?_set_ne hj] at e
    exact ⟨hj, e⟩
theorem NvX.put (E : NvX K H0 G H σ Γ) (i : Nat) {o : Option V} {z : Sl} (hz : plainS z = true) : NvX K H0 G H (σ.set i o) (Γ.set i z) := ⟨fun j sh xs e => by
    obtain ⟨ne, e⟩ := set_plain hz rfl e
    rw [List.getElem?_set_ne ne]
    exact E.dic j sh xs e, fun j l p sh xs sh' ys e1 e2 => by
    obtain ⟨n1, e1⟩ := set_plain hz rfl e1
    obtain ⟨n2, e2⟩ := set_plain hz rfl e2
    rw [List.getElem?_set_ne n1, List.getElem?_set_ne n2]
    exact E.inj j l p sh xs sh' ys e1 e2, fun j sh xs e => by
    obtain ⟨ne, e⟩ := set_plain hz rfl e
    rw [List.getElem?_set_ne ne]
    exact E.ro j sh xs e, E.t0, E.nt⟩
theorem NvX.putG (E : NvX K H0 G H σ Γ) (i : Nat) {z : Sl} (hz : plainS z = true) : NvX K H0 G H σ (Γ.set i z) := ⟨fun j sh xs e => by
    obtain ⟨ne, e⟩ := set_plain hz rfl e
    exact E.dic j sh xs e, fun j l p sh xs sh' ys e1 e2 => by
    obtain ⟨n1, e1⟩ := set_plain hz rfl e1
    obtain ⟨n2, e2⟩ := set_plain hz rfl e2
    exact E.inj j l p sh xs sh' ys e1 e2, fun j sh xs e => by
    obtain ⟨ne, e⟩ := set_plain hz rfl e
    exact E.ro j sh xs e, E.t0, E.nt⟩
theorem NvX.updL (E : NvX K H0 G H σ Γ) {p : Addr} {ws : List V} {o : HO} (hp : H p = some (.lst ws)) : NvX K H0 G (upd H p o) σ Γ := ⟨fun i sh xs e => by
    obtain ⟨q, vs, h1, h2, h3⟩ := E.dic i sh xs e
    have ne : q ≠ p := fun z => by
      rw [z, hp] at h2
      exact DSh.notLst (Option.some.inj h2).symm
    exact ⟨q, vs, h1, by rw [upd_ne ne]; exact h2, h3⟩, E.inj, E.ro, E.t0, E.nt⟩
theorem NvX.pubL (E : NvX K H0 G H σ Γ) {p : Addr} {ws : List V} (hp : H p = some (.lst ws)) (hg : G p = Option.none) : NvX K H0 (upd G p (.lst ws)) H σ Γ := by
  have sg : Same G (upd G p (.lst ws)) := fun a o e => by
    rw [upd_ne (ne_of_none e hg)]
    exact e
  refine ⟨fun i sh xs e => ?_, E.inj, fun i sh xs e => ?_, E.t0, E.nt.upd (nt_lst _)⟩
  · obtain ⟨q, vs, h1, h2, h3, h4, h5⟩ := E.dic i sh xs e
    have ne : q ≠ p := fun z => by
      rw [z, hp] at h2
      exact DSh.notLst (Option.some.inj h2).symm
    exact ⟨q, vs, h1, h2, by rw [upd_ne ne]; exact h3, h4.mono sg, h5⟩
  · obtain ⟨q, vs, h1, h2, h3, h4⟩ := E.ro i sh xs e
    exact ⟨q, vs, h1, sg _ _ h2, h3.mono sg, h4⟩
end
structure Nv (K : PySem.W.Frag) (pa : Option Addr) (G0 H0 G H : Hp) (σ : L2.St) (Γ : List Sl) (s : List Int) : Prop where
  len : Γ.length = σ.length
  val : ∀ (i : Nat) d, Γ[i]? = some (.val d) → ∃ v, σ[i]? = some (some v) ∧ Rp K G v d
  own : ∀ (i : Nat) xs, Γ[i]? = some (.own xs) → ∃ p vs, σ[i]? = some (some (.ref p)) ∧ H p = some (.lst vs) ∧ G p = none ∧ RpL K G vs xs ∧ H0 p = none ∧ pa ≠ some p
  inj : ∀ (i j : Nat) p xs ys, Γ[i]? = some (.own xs) → Γ[j]? = some (.own ys) → σ[i]? = some (some (.ref p)) → σ[j]? = some (some (.ref p)) → i = j
  pen : ∀ (i : Nat), Γ[i]? = some .pen → ∃ p, pa = some p ∧ σ[i]? = some (some (.ref p))
  scr : ∀ (i : Nat) ns, Γ[i]? = some (.scr ns) → ∃ a, σ[i]? = some (some (.ref a)) ∧ SqL K G a (ns.map V.int)
  ps : PenOk pa G H s
  ext : Ext K pa G0 H0 G H
  x : NvX K H0 G H σ Γ
section
variable {K : PySem.W.Frag} {pa : Option Addr} {G0 H0 G H G' H' : Hp} {σ : L2.St} {Γ : List Sl} {s s' : List Int}
theorem Nv.step (E : Nv K pa G0 H0 G H σ Γ s) (x : Ext K pa G H G' H') (p : PenOk pa G' H' s') : Nv K pa G0 H0 G' H' σ Γ s' where
  len := E.len
  val := fun i d e => by
    obtain ⟨v, h1, h2⟩ := E.val i d e
    exact ⟨v, h1, h2.mono x.g⟩
  own := fun i xs e => by
    obtain ⟨p, vs, h1, h2, h3, h4, h5, h6⟩ := E.own i xs e
    exact ⟨p, vs, h1, x.h _ _ h2 h6, x.n _ _ h2 h3, h4.mono x.g, h5, h6⟩
  inj := E.inj
  pen := E.pen
  scr := fun i ns e => by
    obtain ⟨a, h1, h2⟩ := E.scr i ns e
    exact ⟨a, h1, x.g.seq h2⟩
  ps := p
  ext := E.ext.trans x
  x := E.x.step x E.ps
theorem Nv.sub (E : Nv K pa G0 H0 G H σ Γ s) : Same G H := E.ext.sub
/-- a slot holds a value -/
theorem Nv.set (E : Nv K pa G0 H0 G H σ Γ s) {v : V} {d : D} (i : Nat) (r : Rp K G v d) : Nv K pa G0 H0 G H (σ.set i (some v)) (Γ.set i (.val d)) s where
  len := by simp [E.len]
  val := fun j d' e => by
    by_cases hj : i = j
    · subst hj
      have hi : i < Γ.length := by
        have := (List.getElem?_eq_some_iff.mp e).1
        simpa using this
      rw [List.getElem?_set_self hi] at e
      cases e
      exact ⟨v, List.getElem?_set_self (by rw [← E.len]; exact hi), r⟩
    · rw [List.getElem?_set_ne hj] at e
      rw [List.getElem?_set_ne hj]
      exact E.val j d' e
  own := fun j xs e => by
    by_cases hj : i = j
    · subst hj
      have hi : i < Γ.length := by
        have := (List.getElem?_eq_some_iff.mp e).1
        simpa using this
      rw [List.getElem?_set_self hi] at e
      cases e
    · rw [List.getElem?_set_ne hj] at e
      rw [List.getElem?_set_ne hj]
      exact E.own j xs e
  inj := fun j k p xs ys e1 e2 => by
    by_cases hj : i = j
    · subst hj
      have hi : i < Γ.length := by
        have := (List.getElem?_eq_some_iff.mp e1).1
        simpa using this
      rw [List.getElem?_set_self hi] at e1
      cases e1
    · by_cases hk : i = k
      · subst hk
        have hi : i < Γ.length := by
          have := (List.getElem?_eq_some_iff.mp e2).1
          simpa using this
        rw [List.getElem?_set_self hi] at e2
        cases e2
      · rw [List.getElem?_set_ne hj] at e1
        rw [List.getElem?_set_ne hk] at e2
        rw [List.getElem?_set_ne hj, List.getElem?_set_ne hk]
        exact E.inj j k p xs ys e1 e2
  pen := fun j e => by
    by_cases hj : i = j
    · subst hj
      have hi : i < Γ.length := by
        have := (List.getElem?_eq_some_iff.mp e).1
        simpa using this
      rw [List.getElem?_set_self hi] at e
      cases e
    · rw [List.getElem?_set_ne hj] at e
      rw [List.getElem?_set_ne hj]
      exact E.pen j e
  scr := fun j ns e => by
    by_cases hj : i = j
    · subst hj
      have hi : i < Γ.length := by
        have := (List.getElem?_eq_some_iff.mp e).1
        simpa using this
      rw [List.getElem?_set_self hi] at e
      cases e
    · rw [List.getElem?_set_ne hj] at e
      rw [List.getElem?_set_ne hj]
      exact E.scr j ns e
  ps := E.ps
  ext := E.ext
  x := E.x.put i rfl
/-- a slot holds a list of its own -/
theorem Nv.setOwn (E : Nv K pa G0 H0 G H σ Γ s) {p : Addr} {vs : List V} {xs : List D} (i : Nat) (hp : H p = some (.lst vs)) (hg : G p = none) (r : RpL K G vs xs) (h0 : H0 p = none) (hpa : pa ≠ some p)
    (hn : ∀ (j : Nat) ys, j ≠ i → Γ[j]? = some (.own ys) → σ[j]? ≠ some (some (.ref p))) : Nv K pa G0 H0 G H (σ.set i (some (.ref p))) (Γ.set i (.own xs)) s where
  len := by simp [E.len]
  val := fun j d' e => by
    by_cases hj : i = j
    · subst hj
      have hi : i < Γ.length := by
        have := (List.getElem?_eq_some_iff.mp e).1
        simpa using this
      rw [List.getElem?_set_self hi] at e
      cases e
    · rw [List.getElem?_set_ne hj] at e
      rw [List.getElem?_set_ne hj]
      exact E.val j d' e
  own := fun j xs' e => by
    by_cases hj : i = j
    · subst hj
      have hi : i < Γ.length := by
        have := (List.getElem?_eq_some_iff.mp e).1
        simpa using this
      rw [List.getElem?_set_self hi] at e
      cases e
      exact ⟨p, vs, List.getElem?_set_self (by rw [← E.len]; exact hi), hp, hg, r, h0, hpa⟩
    · rw [List.getElem?_set_ne hj] at e
      rw [List.getElem?_set_ne hj]
      exact E.own j xs' e
  inj := fun j k q ys zs e1 e2 e3 e4 => by
    by_cases hj : i = j
    · by_cases hk : i = k
      · exact hj.symm.trans hk
      · subst hj
        have hi : i < σ.length := by
          have := (List.getElem?_eq_some_iff.mp e3).1
          simpa using this
        rw [List.getElem?_set_self hi] at e3
        cases e3
        rw [List.getElem?_set_ne hk] at e2 e4
        exact absurd e4 (hn k zs (fun z => hk z.symm) e2)
    · by_cases hk : i = k
      · subst hk
        have hi : i < σ.length := by
          have := (List.getElem?_eq_some_iff.mp e4).1
          simpa using this
        rw [List.getElem?_set_self hi] at e4
        cases e4
        rw [List.getElem?_set_ne hj] at e1 e3
        exact absurd e3 (hn j ys (fun z => hj z.symm) e1)
      · rw [List.getElem?_set_ne hj] at e1 e3
        rw [List.getElem?_set_ne hk] at e2 e4
        exact E.inj j k q ys zs e1 e2 e3 e4
  pen := fun j e => by
    by_cases hj : i = j
    · subst hj
      have hi : i < Γ.length := by
        have := (List.getElem?_eq_some_iff.mp e).1
        simpa using this
      rw [List.getElem?_set_self hi] at e
      cases e
    · rw [List.getElem?_set_ne hj] at e
      rw [List.getElem?_set_ne hj]
      exact E.pen j e
  scr := fun j ns e => by
    by_cases hj : i = j
    · subst hj
      have hi : i < Γ.length := by
        have := (List.getElem?_eq_some_iff.mp e).1
        simpa using this
      rw [List.getElem?_set_self hi] at e
      cases e
    · rw [List.getElem?_set_ne hj] at e
      rw [List.getElem?_set_ne hj]
      exact E.scr j ns e
  ps := E.ps
  ext := E.ext
  x := E.x.put i rfl
/-- less is known -/
def Weak : List Sl → List Sl → Prop
  | [], [] => True
  | x :: xs, y :: ys => (y = .junk ∨ x = y) ∧ Weak xs ys
  | _, _ => False
theorem Weak.refl : ∀ (l : List Sl), Weak l l
  | [] => trivial
  | _ :: xs => ⟨.inr rfl, Weak.refl xs⟩
theorem Weak.len {a : List Sl} : ∀ {b : List Sl}, Weak a b → a.length = b.length := by
  induction a with
  | nil =>
    intro b h
    cases b with
    | nil => rfl
    | cons _ _ => exact h.elim
  | cons x xs ih =>
    intro b h
    cases b with
    | nil => exact h.elim
    | cons y ys => exact congrArg (· + 1) (ih h.2)
theorem Weak.get {a : List Sl} : ∀ {b : List Sl}, Weak a b → ∀ {i : Nat} {x : Sl}, b[i]? = some x → x ≠ .junk → a[i]? = some x := by
  induction a with
  | nil =>
    intro b h i x e n
    cases b with
    | nil => exact e
    | cons _ _ => exact h.elim
  | cons z xs ih =>
    intro b h i x e n
    cases b with
    | nil => exact h.elim
    | cons y ys =>
      cases i with
      | zero =>
        obtain rfl : y = x := Option.some.inj e
        rcases h.1 with z | z
        · exact absurd z n
        · exact congrArg some z
      | succ i => exact ih h.2 e n
theorem Nv.weak (E : Nv K pa G0 H0 G H σ Γ s) {Γ' : List Sl} (h : Weak Γ Γ') : Nv K pa G0 H0 G H σ Γ' s where
  len := h.len.symm.trans E.len
  val := fun i d e => E.val i d (h.get e (fun z => by cases z))
  own := fun i xs e => E.own i xs (h.get e (fun z => by cases z))
  inj := fun i j p xs ys e1 e2 => E.inj i j p xs ys (h.get e1 (fun z => by cases z)) (h.get e2 (fun z => by cases z))
  pen := fun i e => E.pen i (h.get e (fun z => by cases z))
  scr := fun i ns e => E.scr i ns (h.get e (fun z => by cases z))
  ps := E.ps
  ext := E.ext
  x := ⟨fun i sh xs e => E.x.dic i sh xs (h.get e (fun z => by cases z)), fun i j p sh xs sh' ys e1 e2 => E.x.inj i j p sh xs sh' ys (h.get e1 (fun z => by cases z)) (h.get e2 (fun z => by cases z)), fun i sh xs e => E.x.ro i sh xs (h.get e (fun z => by cases z)), E.x.t0, E.x.nt⟩
theorem Nv.tk (E : Nv K pa G0 H0 G H σ Γ s) : TabK K H := E.ext.tk E.x.t0
end
/-- an exception of the program -/
def ExcIs (K : PySem.W.Frag) (mg : Str → Option Value) (G H : Hp) (e : Ex) (cls : Value) (dx : Option Addr) : Prop :=
  mg e.name = some cls ∧ (e.fs = [] → dx = none) ∧ (e.fs ≠ [] → ∃ d fs, dx = some d ∧ H d = some (.xd fs) ∧ fs.map (·.1) = e.fs.map (·.1) ∧ RpL K G (fs.map (·.2)) (e.fs.map (·.2)))
def Pst (K : PySem.W.Frag) (W : WX) (mg : Str → Option Value) (pa : Option Addr) (σ : L2.St) {α : Type} (F : Hp → Hp → α → List Int → Prop) (G H : Hp) : R α → Prop
  | .ok a s => ∀ G' H', Ext K pa G H G' H' → PenOk pa G' H' s → F G' H' a s
  | .exc e => ∀ cls dx G' H', Ext K pa G H G' H' → ExcIs K mg G' H' e cls dx → W cls dx σ H'
  | .bad => False
section
variable {K : PySem.W.Frag} {W : WX} {mg : Str → Option Value} {pa : Option Addr} {σ : L2.St} {α β : Type} {F F' : Hp → Hp → α → List Int → Prop} {G H G' H' : Hp}
theorem Pst.mono {r : R α} (x : Ext K pa G H G' H') (h : Pst K W mg pa σ F G H r) : Pst K W mg pa σ F G' H' r := by
  cases r with
  | ok a s => exact fun G2 H2 y p => h G2 H2 (x.trans y) p
  | exc e => exact fun cls dx G2 H2 y z => h cls dx G2 H2 (x.trans y) z
  | bad => exact h
theorem Pst.imp {r : R α} (h : Pst K W mg pa σ F G H r) (f : ∀ G' H' a s, Ext K pa G H G' H' → PenOk pa G' H' s → F G' H' a s → F' G' H' a s) : Pst K W mg pa σ F' G H r := by
  cases r with
  | ok a s => exact fun G2 H2 y p => f _ _ _ _ y p (h G2 H2 y p)
  | exc e => exact h
  | bad => exact h
theorem Pst.bind {F : Hp → Hp → β → List Int → Prop} {m : PM α} {f : α → PM β} {s : List Int} (h : Pst K W mg pa σ F G H ((m >>= f) s)) : Pst K W mg pa σ (fun G' H' a s' => Pst K W mg pa σ F G' H' (f a s')) G H (m s) := by
  rw [PM.bind_def] at h
  cases e : m s with
  | ok a s1 =>
    rw [e] at h
    exact fun G' H' x p => h.mono x
  | exc x => rw [e] at h; exact h
  | bad => rw [e] at h; exact h
/-- a result at once -/
theorem Pst.now {a : α} {s : List Int} (h : Pst K W mg pa σ F G H ((Pure.pure a : PM α) s)) (hs : Same G H) (p : PenOk pa G H s) : F G H a s := h G H (Ext.refl hs) p
end
def FD (K : PySem.W.Frag) (Q : VK) : Hp → Hp → D → List Int → Prop := fun G' H' d _ => ∀ v, Rp K G' v d → Q v H'
def FB (Q : Bool → Hp → Prop) : Hp → Hp → Bool → List Int → Prop := fun _ H' b _ => Q b H'
def FL (K : PySem.W.Frag) (Q : List V → Hp → Prop) : Hp → Hp → List D → List Int → Prop := fun G' H' ds _ => ∀ vs, RpL K G' vs ds → Q vs H'
def evT (X : Cx) (W : WX) (pa : Option Addr) (Γ : List Sl) (m : PM D) : TE := fun σ H Q => ∃ G0 H0 G s, Nv X.K pa G0 H0 G H σ Γ s ∧ Pst X.K W X.mg pa σ (FD X.K Q) G H (m s)
def evB (X : Cx) (W : WX) (pa : Option Addr) (Γ : List Sl) (m : PM Bool) : TT := fun σ H Q => ∃ G0 H0 G s, Nv X.K pa G0 H0 G H σ Γ s ∧ Pst X.K W X.mg pa σ (FB Q) G H (m s)
def evL (X : Cx) (W : WX) (pa : Option Addr) (Γ : List Sl) (m : PM (List D)) : TA := fun σ H Q => ∃ G0 H0 G s, Nv X.K pa G0 H0 G H σ Γ s ∧ Pst X.K W X.mg pa σ (FL X.K Q) G H (m s)
abbrev EV (X : Cx) (W : WX) (pa : Option Addr) (Γ : List Sl) (e : Expr) (m : PM D) : Prop := PE X e (evT X W pa Γ m)
abbrev EB (X : Cx) (W : WX) (pa : Option Addr) (Γ : List Sl) (e : Expr) (m : PM Bool) : Prop := PT X e (evB X W pa Γ m)
abbrev EL (X : Cx) (W : WX) (pa : Option Addr) (Γ : List Sl) (es : List Expr) (m : PM (List D)) : Prop := PA X es (evL X W pa Γ m)
theorem pe_imp {X : Cx} {e : Expr} {t t' : TE} (h : PE X e t) (i : ∀ σ H Q, t' σ H Q → t σ H Q) : PE X e t' := ⟨fun pins s σ H Q I q => h.run pins s σ H Q I (i σ H Q q)⟩
theorem pt_imp {X : Cx} {e : Expr} {t t' : TT} (h : PT X e t) (i : ∀ σ H Q, t' σ H Q → t σ H Q) : PT X e t' := ⟨fun pins s σ H Q I q => h.run pins s σ H Q I (i σ H Q q)⟩
end EV
namespace EV
open PySem PySem.Spec PyProof.Rows L2
mutual
def toPy : D → PyData
  | .non => .none
  | .bl b => .bool b
  | .int i => .int i
  | .str x => .str x
  | .tup xs => .tuple (toPyL xs)
  | .lst xs => .list (toPyL xs)
  | .dct _ => .dict []
  | .obj _ _ => .dict []
  | .cls _ => .dict []
def toPyL : List D → List PyData
  | [] => []
  | x :: xs => toPy x :: toPyL xs
end
theorem toPyL_map : ∀ xs : List D, toPyL xs = xs.map toPy
  | [] => rfl
  | x :: xs => by simp only [toPyL, List.map_cons, toPyL_map xs]
def shp (d : D) : Bool := SeqAt.shaped (toPy d)
def eqvD (a b : D) : Bool := PyData.eqv (toPy a) (toPy b)
def shown (d : D) : Str := PyData.shown (toPy d)
section
variable {K : PySem.W.Frag} {G H : Hp}
theorem dpAll_of : ∀ {xs : List V} {ds : List D}, xs.length = ds.length → (∀ (i : Nat) v d, xs[i]? = some v → ds[i]? = some d → Dp K G v (toPy d)) → DpAll K G xs (ds.map toPy)
  | [], [], _, _ => .nil
  | [], _ :: _, n, _ => by simp at n
  | _ :: _, [], n, _ => by simp at n
  | x :: xs, d :: ds, n, h => .cons (h 0 x d rfl rfl) (dpAll_of (by simpa using n) fun i v e h1 h2 => h (i + 1) v e (by simpa using h1) (by simpa using h2))
theorem noDict_at : ∀ {ds : List D}, PyData.hasDictAll (ds.map toPy) = false → ∀ (i : Nat) d, ds[i]? = some d → (toPy d).hasDict = false
  | [], _, i, d, e => by simp at e
  | x :: ds, h, 0, d, e => by
    simp only [List.map_cons, PyData.hasDictAll, Bool.or_eq_false_iff] at h
    have e : x = d := by simpa using e
    rw [← e]
    exact h.1
  | x :: ds, h, i + 1, d, e => by
    simp only [List.map_cons, PyData.hasDictAll, Bool.or_eq_false_iff] at h
    exact noDict_at h.2 i d (by simpa using e)
theorem Rp.dp {v : V} {d : D} (h : Rp K G v d) (hn : (toPy d).hasDict = false) : Dp K G v (toPy d) := by
  induction h with
  | non => exact .non
  | bl b => exact .bl b
  | int i => exact .int i
  | str x => exact .str x
  | lst h n _ ih =>
    simp only [toPy, toPyL_map] at hn ⊢
    exact .lst (SqL.of h) (dpAll_of n fun i v d h1 h2 => ih i v d h1 h2 (noDict_at (by simpa only [PyData.hasDict] using hn) i d h2))
  | tup h n _ ih =>
    simp only [toPy, toPyL_map] at hn ⊢
    exact .tup h (dpAll_of n fun i v d h1 h2 => ih i v d h1 h2 (noDict_at (by simpa only [PyData.hasDict] using hn) i d h2))
  | dct h hk n _ ih =>
    simp [toPy, PyData.hasDict] at hn
  | obj h hc hk _ ih =>
    simp [toPy, PyData.hasDict] at hn
  | cls C =>
    simp [toPy, PyData.hasDict] at hn
mutual
theorem lay_nd : ∀ d : PyData, d.canLay0 = true → d.hasDict = false
  | .none, _ => rfl
  | .bool _, _ => rfl
  | .int _, _ => rfl
  | .str _, _ => rfl
  | .list xs, h => by
    simp only [PyData.canLay0] at h
    simp only [PyData.hasDict]
    exact layAll_nd xs h
  | .tuple xs, h => by
    simp only [PyData.canLay0] at h
    simp only [PyData.hasDict]
    exact layAll_nd xs h
  | .dict _, h => by simp [PyData.canLay0] at h
theorem layAll_nd : ∀ xs : List PyData, PyData.canLayAll0 xs = true → PyData.hasDictAll xs = false
  | [], _ => rfl
  | x :: xs, h => by
    simp only [PyData.canLayAll0, Bool.and_eq_true] at h
    simp only [PyData.hasDictAll, lay_nd x h.1, layAll_nd xs h.2, Bool.or_self]
end
theorem shp_nd {d : D} (h : shp d = true) : (toPy d).hasDict = false := by
  unfold shp SeqAt.shaped at h
  rw [Bool.and_eq_true] at h
  exact lay_nd _ h.1
theorem Rp.dpS {v : V} {d : D} (h : Rp K G v d) (s : shp d = true) : Dp K G v (toPy d) := h.dp (shp_nd s)
end
structure Cok (X : Cx) (W : WX) (k : Nat) : Prop where
  calm : X.calm = true
  nd : X.N.Nodup
  takes : Takes X W
  room : Room k X.A
  guards : 32 ≤ k → X.A.guards = some []
  passes : PassesOwn (model X.prog X.w) X.A X.env X.xe
section
variable {X : Cx} {W : WX} {pa : Option Addr} {Γ : List Sl} {k : Nat} {pos : Pos}
theorem ev_var {i : Nat} {x : Str} {d : D} (hΓ : Γ[i]? = some (.val d)) (hN : X.N[i]? = some x) (hv : Vis X.env.scope x) (hd : (x == ("__debug__" : Str)) = false := by decide) (hcd : (x == ("__classdict__" : Str)) = false := by decide) :
    EV X W pa Γ (.Name x pos) (pure d) := pe_imp (pe_var hN hv hd hcd) fun σ H Q ⟨G0, H0, G, s, E, P⟩ => by
  obtain ⟨v, h1, h2⟩ := E.val i d hΓ
  exact ⟨v, h1, P.now E.sub E.ps v h2⟩
theorem ev_const {e : Expr} {v : V} {d : D} (h : PE X e (tC v)) (r : ∀ K G, Rp K G v d) : EV X W pa Γ e (pure d) := pe_imp h fun σ H Q ⟨G0, H0, G, s, E, P⟩ => P.now E.sub E.ps v (r _ _)
theorem ev_int {i j} : EV X W pa Γ (.Constant (.int i) j pos) (pure (.int i)) := ev_const pe_int fun _ _ => .int i
theorem ev_bl {b j} : EV X W pa Γ (.Constant (.bool b) j pos) (pure (.bl b)) := ev_const pe_bl fun _ _ => .bl b
theorem ev_non {j} : EV X W pa Γ (.Constant .none j pos) (pure .non) := ev_const pe_non fun _ _ => .non
theorem ev_str {x j} : EV X W pa Γ (.Constant (.str x) j pos) (pure (.str x)) := ev_const pe_str fun _ _ => .str x
/-- a name of the module that holds a number or a text -/
theorem ev_glob {x : Str} {v : V} {u : Value} {d : D} (hg : Gl X x) (hm : X.mg x = some u) (r : RelV v u) (rp : ∀ G, Rp X.K G v d) (hd : (x == ("__debug__" : Str)) = false := by decide) : EV X W pa Γ (.Name x pos) (pure d) :=
  pe_imp (pe_glob hg hm r hd) fun σ H Q ⟨G0, H0, G, s, E, P⟩ => P.now E.sub E.ps v (rp _)
theorem pa_imp {es : List Expr} {t t' : TA} (h : PA X es t) (i : ∀ σ H Q, t' σ H Q → t σ H Q) : PA X es t' := ⟨fun p pins s σ H Q I q => h.run p pins s σ H Q I (i σ H Q q)⟩
theorem el_nil : EL X W pa Γ [] (pure []) := pa_imp pa_nil fun σ H Q ⟨G0, H0, G, s, E, P⟩ => P.now E.sub E.ps [] .nil
theorem el_cons {e : Expr} {es : List Expr} {m : PM D} {ml : PM (List D)} (h : EV X W pa Γ e m) (t : EL X W pa Γ es ml) (hs : starEach (e :: es) X.env = (false, eval e X.env) :: starEach es X.env := by rfl) :
    EL X W pa Γ (e :: es) (m >>= fun d => ml >>= fun ds => pure (d :: ds)) := pa_imp (pa_cons h t hs) fun σ H Q ⟨G0, H0, G, s, E, P⟩ =>
  ⟨G0, H0, G, s, E, P.bind.imp fun G1 H1 a s1 x1 p1 P1 v r => ⟨G0, H0, G1, s1, E.step x1 p1, P1.bind.imp fun G2 H2 as s2 x2 p2 P2 vs rs => P2.now x2.sub p2 (v :: vs) (.cons (r.mono x2.g) rs)⟩⟩
def OpD (X : Cx) (f : Value → Value → Sem Value) (g : D → D → PM D) : Prop := ∃ r : R2, OpR X f r ∧
  ∀ (W : WX) (pa : Option Addr) (σ : L2.St) (G H : Hp) (s : List Int) (x y : V) (a b : D) (Q : VK), Same G H → PenOk pa G H s → Rp X.K G x a → Rp X.K G y b → Pst X.K W X.mg pa σ (FD X.K Q) G H (g a b s) → r x y H Q
theorem OpD.or {f : Value → Value → Sem Value} {g g' : D → D → PM D} {c : D → D → Bool} (h : OpD X f g) (h' : OpD X f g') : OpD X f (fun a b => if c a b = true then g a b else g' a b) := by
  obtain ⟨r, h1, h2⟩ := h
  obtain ⟨r', h1', h2'⟩ := h'
  refine ⟨_, h1.or h1', fun W pa σ G H s x y a b Q hs hp ra rb P => ?_⟩
  by_cases hc : c a b = true
  · dsimp only at P
    rw [if_pos hc] at P
    exact .inl (h2 W pa σ G H s x y a b Q hs hp ra rb P)
  · dsimp only at P
    rw [if_neg hc] at P
    exact .inr (h2' W pa σ G H s x y a b Q hs hp ra rb P)
theorem OpD.to {f : Value → Value → Sem Value} {g g' : D → D → PM D} (h : OpD X f g) (e : ∀ a b s, g' a b s = g a b s ∨ g' a b s = .bad) : OpD X f g' := by
  obtain ⟨r, h1, h2⟩ := h
  refine ⟨r, h1, fun W pa σ G H s x y a b Q hs hp ra rb P => ?_⟩
  rcases e a b s with q | q
  · rw [q] at P
    exact h2 W pa σ G H s x y a b Q hs hp ra rb P
  · rw [q] at P
    exact P.elim
theorem ev_op {op : Operator} {g : D → D → PM D} {a b : Expr} {ma mb : PM D} (ho : OpD X (binaryOp op) g) (ha : EV X W pa Γ a ma) (hb : EV X W pa Γ b mb) : EV X W pa Γ (.BinOp a op b pos) (ma >>= fun x => mb >>= fun y => g x y) := by
  obtain ⟨r, h1, h2⟩ := ho
  exact pe_imp (pe_op h1 ha hb) fun σ H Q ⟨G0, H0, G, s, E, P⟩ =>
    ⟨G0, H0, G, s, E, P.bind.imp fun G1 H1 a s1 x1 p1 P1 v r => ⟨G0, H0, G1, s1, E.step x1 p1, P1.bind.imp fun G2 H2 b s2 x2 p2 P2 w rw => h2 W pa σ G2 H2 s2 v w a b Q x2.sub p2 (r.mono x2.g) rw P2⟩⟩
theorem ev_cmp {op : CmpOp} {g : D → D → PM D} {a b : Expr} {ma mb : PM D} (ho : OpD X (compareOp op) g) (ha : EV X W pa Γ a ma) (hb : EV X W pa Γ b mb) (hm : behindInMarks op b = false) : EV X W pa Γ (.Compare a [op] [b] pos) (ma >>= fun x => mb >>= fun y => g x y) := by
  obtain ⟨r, h1, h2⟩ := ho
  exact pe_imp (pe_cmpR h1 ha hb hm) fun σ H Q ⟨G0, H0, G, s, E, P⟩ =>
    ⟨G0, H0, G, s, E, P.bind.imp fun G1 H1 a s1 x1 p1 P1 v r => ⟨G0, H0, G1, s1, E.step x1 p1, P1.bind.imp fun G2 H2 b s2 x2 p2 P2 w rw => h2 W pa σ G2 H2 s2 v w a b Q x2.sub p2 (r.mono x2.g) rw P2⟩⟩
def asB : D → PM Bool
  | .bl b => pure b
  | _ => bad
theorem eb_cmp {op : CmpOp} {g : D → D → PM D} {a b : Expr} {ma mb : PM D} (ho : OpD X (compareOp op) g) (ha : EV X W pa Γ a ma) (hb : EV X W pa Γ b mb) (hm : behindInMarks op b = false) : EB X W pa Γ (.Compare a [op] [b] pos) (ma >>= fun x => mb >>= fun y => g x y >>= asB) := by
  obtain ⟨r, h1, h2⟩ := ho
  exact pt_imp (pt_cmpR h1 ha hb hm) fun σ H Q ⟨G0, H0, G, s, E, P⟩ =>
    ⟨G0, H0, G, s, E, P.bind.imp fun G1 H1 a s1 x1 p1 P1 v r => ⟨G0, H0, G1, s1, E.step x1 p1, P1.bind.imp fun G2 H2 b s2 x2 p2 P2 w rw => h2 W pa σ G2 H2 s2 v w a b _ x2.sub p2 (r.mono x2.g) rw
      (P2.bind.imp fun G3 H3 d s3 x3 p3 P3 u ru => by
        cases ru with
        | bl c => exact ⟨c, rfl, P3.now x3.sub p3⟩
        | _ => exact P3.elim)⟩⟩
/-- an expression whose value is a bool -/
theorem eb_val {e : Expr} {m : PM D} (h : EV X W pa Γ e m) (he : ∀ whole, isTrue e X.env whole = (do let v ← whole; standAt e.pos; holding [v] (truthy v)) := by intro _; rfl) : EB X W pa Γ e (m >>= asB) :=
  pt_imp (pt_val h he) fun σ H Q ⟨G0, H0, G, s, E, P⟩ => ⟨G0, H0, G, s, E, P.bind.imp fun G1 H1 d s1 x1 p1 P1 v r => by
    cases r with
    | bl c => exact ⟨c, rfl, P1.now x1.sub p1⟩
    | _ => exact P1.elim⟩
theorem eb_not {a : Expr} {m : PM Bool} (h : EB X W pa Γ a m) : EB X W pa Γ (.UnaryOp .Not a pos) (m >>= fun b => pure (!b)) :=
  pt_imp (pt_not h) fun σ H Q ⟨G0, H0, G, s, E, P⟩ => ⟨G0, H0, G, s, E, P.bind.imp fun G1 H1 d s1 x1 p1 P1 => P1.now x1.sub p1⟩
abbrev EW (X : Cx) (W : WX) (pa : Option Addr) (Γ : List Sl) (e : Expr) (m : PM Bool) : Prop := PW X e (evB X W pa Γ m)
theorem pw_imp {e : Expr} {t t' : TT} (h : PW X e t) (i : ∀ σ H Q, t' σ H Q → t σ H Q) : PW X e t' := ⟨fun wh pins s σ H Q I q => h.run wh pins s σ H Q I (i σ H Q q)⟩
theorem ew_and1 {a : Expr} {m : PM Bool} (h : EB X W pa Γ a m) : EW X W pa Γ (.BoolOp .And [a] pos) m := pw_and1 h
theorem ew_or1 {a : Expr} {m : PM Bool} (h : EB X W pa Γ a m) : EW X W pa Γ (.BoolOp .Or [a] pos) m := pw_or1 h
theorem ew_and {a b : Expr} {rest : List Expr} {m ml : PM Bool} (h : EB X W pa Γ a m) (t : EW X W pa Γ (.BoolOp .And (b :: rest) pos) ml) : EW X W pa Γ (.BoolOp .And (a :: b :: rest) pos) (m >>= fun c => if c = true then ml else pure false) :=
  pw_imp (pw_and h t) fun σ H Q ⟨G0, H0, G, s, E, P⟩ => ⟨G0, H0, G, s, E, P.bind.imp fun G1 H1 c s1 x1 p1 P1 => by
    cases c with
    | true => exact (show evB X W pa Γ ml σ H1 Q from ⟨G0, H0, G1, s1, E.step x1 p1, P1⟩)
    | false => exact (show Q false H1 from P1.now x1.sub p1)⟩
theorem ew_or {a b : Expr} {rest : List Expr} {m ml : PM Bool} (h : EB X W pa Γ a m) (t : EW X W pa Γ (.BoolOp .Or (b :: rest) pos) ml) : EW X W pa Γ (.BoolOp .Or (a :: b :: rest) pos) (m >>= fun c => if c = true then pure true else ml) :=
  pw_imp (pw_or h t) fun σ H Q ⟨G0, H0, G, s, E, P⟩ => ⟨G0, H0, G, s, E, P.bind.imp fun G1 H1 c s1 x1 p1 P1 => by
    cases c with
    | true => exact (show Q true H1 from P1.now x1.sub p1)
    | false => exact (show evB X W pa Γ ml σ H1 Q from ⟨G0, H0, G1, s1, E.step x1 p1, P1⟩)⟩
theorem eb_bool {e : Expr} {m : PM Bool} (h : EW X W pa Γ e m) : EB X W pa Γ e m := h.pt
/-- a test's value, as a value (an and, an or, a not of bools) -/
theorem ev_one {op} {a : Expr} {m : PM D} (h : EV X W pa Γ a m) : EV X W pa Γ (.BoolOp op [a] pos) m := pe_one h
theorem ev_and {a b : Expr} {rest : List Expr} {m ml : PM D} (h : EV X W pa Γ a m) (t : EV X W pa Γ (.BoolOp .And (b :: rest) pos) ml) : EV X W pa Γ (.BoolOp .And (a :: b :: rest) pos) (m >>= fun d => asB d >>= fun c => if c = true then ml else pure (.bl false)) :=
  pe_imp (pe_and h t) fun σ H Q ⟨G0, H0, G, s, E, P⟩ => ⟨G0, H0, G, s, E, P.bind.imp fun G1 H1 d s1 x1 p1 P1 v r => by
    cases r with
    | bl c =>
      refine ⟨c, rfl, ?_⟩
      have P2 := (P1.bind).now x1.sub p1
      cases c with
      | true => exact (show evT X W pa Γ ml σ H1 Q from ⟨G0, H0, G1, s1, E.step x1 p1, P2⟩)
      | false => exact (show Q (.bl false) H1 from P2.now x1.sub p1 _ (.bl false))
    | _ => exact P1.elim⟩
theorem ev_not {a : Expr} {m : PM D} (h : EV X W pa Γ a m) : EV X W pa Γ (.UnaryOp .Not a pos) (m >>= fun d => asB d >>= fun c => pure (.bl (!c))) :=
  pe_imp (pe_not h) fun σ H Q ⟨G0, H0, G, s, E, P⟩ => ⟨G0, H0, G, s, E, P.bind.imp fun G1 H1 d s1 x1 p1 P1 v r => by
    cases r with
    | bl c => exact ⟨c, rfl, ((P1.bind).now x1.sub p1).now x1.sub p1 _ (.bl _)⟩
    | _ => exact P1.elim⟩
theorem ev_ifExp {c a b : Expr} {mc : PM Bool} {ma mb : PM D} (hc : EB X W pa Γ c mc) (ha : EV X W pa Γ a ma) (hb : EV X W pa Γ b mb) : EV X W pa Γ (.IfExp c a b pos) (mc >>= fun t => if t = true then ma else mb) :=
  pe_imp (pe_ifExp hc ha hb) fun σ H Q ⟨G0, H0, G, s, E, P⟩ => ⟨G0, H0, G, s, E, P.bind.imp fun G1 H1 t s1 x1 p1 P1 => by
    cases t with
    | true => exact (show evT X W pa Γ ma σ H1 Q from ⟨G0, H0, G1, s1, E.step x1 p1, P1⟩)
    | false => exact (show evT X W pa Γ mb σ H1 Q from ⟨G0, H0, G1, s1, E.step x1 p1, P1⟩)⟩
abbrev lim : Nat := 1000000
theorem lim_le {n : Nat} (h : n ≤ lim) : n ≤ sizeLine := Nat.le_trans h (by decide)
theorem lim_lt {n : Nat} (h : n ≤ lim) : n < sizeLine := Nat.lt_of_le_of_lt h (by decide)
def mkT (xs : List D) : PM D := if xs.length ≤ lim then pure (.tup xs) else bad
def mkL (xs : List D) : PM D := if xs.length ≤ lim then pure (.lst xs) else bad
theorem mkT_ok {xs : List D} (h : xs.length ≤ lim) : mkT xs = pure (.tup xs) := if_pos h
theorem mkL_ok {xs : List D} (h : xs.length ≤ lim) : mkL xs = pure (.lst xs) := if_pos h
section
variable {mg : Str → Option Value} {K : PySem.W.Frag} {pa : Option Addr} {σ : L2.St} {G H : Hp} {s : List Int} {Q : VK}
theorem mkT_len {vs : List V} {ds : List D} (P : Pst K W mg pa σ (FD K Q) G H (mkT ds s)) (r : RpL K G vs ds) : vs.length ≤ sizeLine := by
  unfold mkT at P
  split at P
  · rename_i h
    rw [r.1]
    exact lim_le h
  · exact P.elim
theorem mkT_use {vs : List V} {ds : List D} (P : Pst K W mg pa σ (FD K Q) G H (mkT ds s)) (r : RpL K G vs ds) (hs : Same G H) (hp : PenOk pa G H s) {p : Addr} (np : H p = none) : Q (.ref p) (upd H p (.tup vs)) := by
  unfold mkT at P
  split at P
  · have x := Ext.new (K := K) (pa := pa) hs np (.tup vs)
    exact P _ _ x (hp.upd np _) _ (.mkT (SqT.of upd_same) (r.mono x.g))
  · exact P.elim
theorem mkL_len {vs : List V} {ds : List D} (P : Pst K W mg pa σ (FD K Q) G H (mkL ds s)) (r : RpL K G vs ds) : vs.length ≤ sizeLine := by
  unfold mkL at P
  split at P
  · rename_i h
    rw [r.1]
    exact lim_le h
  · exact P.elim
theorem mkL_use {vs : List V} {ds : List D} (P : Pst K W mg pa σ (FD K Q) G H (mkL ds s)) (r : RpL K G vs ds) (hs : Same G H) (hp : PenOk pa G H s) {p : Addr} (np : H p = none) : Q (.ref p) (upd H p (.lst vs)) := by
  unfold mkL at P
  split at P
  · have x := Ext.new (K := K) (pa := pa) hs np (.lst vs)
    exact P _ _ x (hp.upd np _) _ (.mkL upd_same (r.mono x.g))
  · exact P.elim
end
theorem ev_tup {es : List Expr} {x1} {ml : PM (List D)} (h : EL X W pa Γ es ml) : EV X W pa Γ (.Tuple es x1 pos) (ml >>= mkT) :=
  pe_imp (L2.pe_tup h) fun σ H Q ⟨G0, H0, G, s, E, P⟩ => ⟨G0, H0, G, s, E, P.bind.imp fun G1 H1 ds s1 x1 p1 P1 vs r =>
    ⟨mkT_len P1 r, fun p np => mkT_use P1 r x1.sub p1 np⟩⟩
theorem ev_lst {es : List Expr} {ml : PM (List D)} (h : EL X W pa Γ es ml) : EV X W pa Γ (.List es pos) (ml >>= mkL) :=
  pe_imp (L2.pe_lst h) fun σ H Q ⟨G0, H0, G, s, E, P⟩ => ⟨G0, H0, G, s, E, P.bind.imp fun G1 H1 ds s1 x1 p1 P1 vs r =>
    ⟨mkL_len P1 r, fun p np => mkL_use P1 r x1.sub p1 np⟩⟩
/-- a call by values -/
def CallD (X : Cx) (f : Value) (g : List D → PM D) : Prop := ∃ r : List V → Hp → VK → Prop, CallR X f r ∧
  ∀ (W : WX) (pa : Option Addr) (σ : L2.St) (G H : Hp) (s : List Int) (xs : List V) (ds : List D) (Q : VK), Same G H → PenOk pa G H s → RpL X.K G xs ds → Pst X.K W X.mg pa σ (FD X.K Q) G H (g ds s) → r xs H Q
theorem CallD.or {f : Value} {g g' : List D → PM D} {c : List D → Bool} (h : CallD X f g) (h' : CallD X f g') : CallD X f (fun a => if c a = true then g a else g' a) := by
  obtain ⟨r, h1, h2⟩ := h
  obtain ⟨r', h1', h2'⟩ := h'
  refine ⟨_, h1.or h1', fun W pa σ G H s x a Q hs hp ra P => ?_⟩
  by_cases hc : c a = true
  · dsimp only at P
    rw [if_pos hc] at P
    exact .inl (h2 W pa σ G H s x a Q hs hp ra P)
  · dsimp only at P
    rw [if_neg hc] at P
    exact .inr (h2' W pa σ G H s x a Q hs hp ra P)
theorem CallD.to {f : Value} {g g' : List D → PM D} (h : CallD X f g) (e : ∀ a s, g' a s = g a s ∨ g' a s = .bad) : CallD X f g' := by
  obtain ⟨r, h1, h2⟩ := h
  refine ⟨r, h1, fun W pa σ G H s x a Q hs hp ra P => ?_⟩
  rcases e a s with q | q
  · rw [q] at P
    exact h2 W pa σ G H s x a Q hs hp ra P
  · rw [q] at P
    exact P.elim
theorem ev_callB {x : Str} {id : String} {g : List D → PM D} {e : Expr} {es : List Expr} {p : Pos} {ml : PM (List D)} (hc : CallD X (.builtin id) g) (hg : Gl X x) (hm : X.mg x = none) (hv : bootBuiltins x = some (.builtin id)) (ha : EL X W pa Γ (e :: es) ml)
    (hn : x ≠ "__name__" := by decide) (hdb : (x == ("__debug__" : Str)) = false := by decide) (hs : starEach (e :: es) X.env = (false, eval e X.env) :: starEach es X.env := by rfl)
    (hpl : (backTo pos (starEach es X.env)).any (·.1) = false := by rfl) : EV X W pa Γ (.Call (.Name x p) (e :: es) [] pos) (ml >>= g) := by
  obtain ⟨r, h1, h2⟩ := hc
  exact pe_imp (pe_callB h1 hg hm hv ha hn hdb hs hpl) fun σ H Q ⟨G0, H0, G, s, E, P⟩ => ⟨G0, H0, G, s, E, P.bind.imp fun G1 H1 ds s1 x1 p1 P1 vs rs => h2 W pa σ G1 H1 s1 vs ds Q x1.sub p1 rs P1⟩
theorem ev_callTy {x : Str} {T : String} {g : List D → PM D} {e : Expr} {es : List Expr} {p : Pos} {ml : PM (List D)} (hc : CallD X (.type T) g) (hg : Gl X x) (hm : X.mg x = none) (hv : bootBuiltins x = some (.type T)) (ha : EL X W pa Γ (e :: es) ml)
    (hn : x ≠ "__name__" := by decide) (hdb : (x == ("__debug__" : Str)) = false := by decide) (hs : starEach (e :: es) X.env = (false, eval e X.env) :: starEach es X.env := by rfl)
    (hpl : (backTo pos (starEach es X.env)).any (·.1) = false := by rfl) : EV X W pa Γ (.Call (.Name x p) (e :: es) [] pos) (ml >>= g) := by
  obtain ⟨r, h1, h2⟩ := hc
  exact pe_imp (pe_callTy h1 hg hm hv ha hn hdb hs hpl) fun σ H Q ⟨G0, H0, G, s, E, P⟩ => ⟨G0, H0, G, s, E, P.bind.imp fun G1 H1 ds s1 x1 p1 P1 vs rs => h2 W pa σ G1 H1 s1 vs ds Q x1.sub p1 rs P1⟩
end
end EV
namespace EV
open PySem PySem.Spec PyProof.Rows L2
section
variable {X : Cx} {k : Nat}
theorem od_i0 {f : Value → Value → Sem Value} {v : Int → Int → V} {d : Int → Int → D} (h : OpR X f (rI0 v)) (r : ∀ K G i j, Rp K G (v i j) (d i j)) {g : D → D → PM D}
    (e : ∀ a b s, (∃ i j, a = .int i ∧ b = .int j ∧ g a b s = .ok (d i j) s) ∨ g a b s = .bad) : OpD X f g := by
  refine ⟨_, h, fun W pa σ G H s x y a b Q hs hp ra rb P => ?_⟩
  rcases e a b s with ⟨i, j, rfl, rfl, q⟩ | q
  · rw [q] at P
    cases ra
    cases rb
    exact ⟨i, j, rfl, rfl, P G H (Ext.refl hs) hp _ (r _ _ _ _)⟩
  · rw [q] at P
    exact P.elim
theorem od_i {f : Value → Value → Sem Value} {C : Int → Int → Prop} {v : Int → Int → V} {d : Int → Int → D} (h : OpR X f (rI C v)) (r : ∀ K G i j, Rp K G (v i j) (d i j)) {g : D → D → PM D}
    (e : ∀ a b s, (∃ i j, a = .int i ∧ b = .int j ∧ C i j ∧ g a b s = .ok (d i j) s) ∨ g a b s = .bad) : OpD X f g := by
  refine ⟨_, h, fun W pa σ G H s x y a b Q hs hp ra rb P => ?_⟩
  rcases e a b s with ⟨i, j, rfl, rfl, c, q⟩ | q
  · rw [q] at P
    cases ra
    cases rb
    exact ⟨i, j, rfl, rfl, c, P G H (Ext.refl hs) hp _ (r _ _ _ _)⟩
  · rw [q] at P
    exact P.elim
/-- of two ints -/
def intD (f : Int → Int → PM D) (a b : D) : PM D := match a with
  | .int i => (match b with
    | .int j => f i j
    | _ => bad)
  | _ => bad
theorem intD_or (f : Int → Int → PM D) (a b : D) (s : List Int) : (∃ i j, a = .int i ∧ b = .int j ∧ intD f a b s = f i j s) ∨ intD f a b s = .bad := by
  cases a with
  | int i =>
    cases b with
    | int j => exact .inl ⟨i, j, rfl, rfl, rfl⟩
    | _ => exact .inr rfl
  | _ => exact .inr rfl
theorem od_iD0 {f : Value → Value → Sem Value} {v : Int → Int → V} {d : Int → Int → D} (h : OpR X f (rI0 v)) (r : ∀ K G i j, Rp K G (v i j) (d i j)) : OpD X f (intD fun i j => pure (d i j)) := od_i0 h r fun a b s => by
  rcases intD_or (fun i j => pure (d i j)) a b s with ⟨i, j, e1, e2, q⟩ | q
  · exact .inl ⟨i, j, e1, e2, q⟩
  · exact .inr q
theorem od_iD {f : Value → Value → Sem Value} {C : Int → Int → Prop} [I : ∀ i j, Decidable (C i j)] {v : Int → Int → V} {d : Int → Int → D} (h : OpR X f (rI C v)) (r : ∀ K G i j, Rp K G (v i j) (d i j)) : OpD X f (intD fun i j => if C i j then pure (d i j) else bad) := od_i h r fun a b s => by
  rcases intD_or (fun i j => if C i j then pure (d i j) else bad) a b s with ⟨i, j, e1, e2, q⟩ | q
  · by_cases c : C i j
    · rw [if_pos c] at q
      exact .inl ⟨i, j, e1, e2, c, q⟩
    · rw [if_neg c] at q
      exact .inr q
  · exact .inr q
def addD : D → D → PM D
  | .int i, .int j => pure (.int (i + j))
  | .lst a, .lst b => mkL (a ++ b)
  | .tup a, .tup b => mkT (a ++ b)
  | .str a, .str b => if a.length + b.length ≤ lim then pure (.str (a ++ b)) else bad
  | _, _ => bad
theorem mkT_same {mg : Str → Option Value} {K : PySem.W.Frag} {W : WX} {pa : Option Addr} {σ : L2.St} {G H : Hp} {s : List Int} {Q : VK} {a : Addr} {vs : List V} {ds : List D} (P : Pst K W mg pa σ (FD K Q) G H (mkT ds s)) (h : SqT K G a vs) (r : RpL K G vs ds) (hs : Same G H) (hp : PenOk pa G H s) : Q (.ref a) H := by
  unfold mkT at P
  split at P
  · exact P G H (Ext.refl hs) hp _ (.mkT h r)
  · exact P.elim
theorem nil_of {vs : List V} {ds : List D} {K : PySem.W.Frag} {G : Hp} (h : RpL K G vs ds) (e : vs = []) : ds = [] := by
  have := h.1
  subst e
  cases ds with
  | nil => rfl
  | cons _ _ => simp at this
theorem od_add : OpD X (binaryOp .Add) addD := by
  refine ⟨_, op_add.or (op_cat.or (op_catA.or op_add_str)), fun W pa σ G H s x y a b Q hs hp ra rb P => ?_⟩
  cases ra with
  | int i =>
    cases rb with
    | int j => exact .inl ⟨i, j, rfl, rfl, P G H (Ext.refl hs) hp _ (.int _)⟩
    | _ => exact P.elim
  | str i =>
    cases rb with
    | str j =>
      have P : Pst X.K W X.mg pa σ (FD X.K Q) G H ((if i.length + j.length ≤ lim then pure (.str (i ++ j)) else bad : PM D) s) := P
      split at P
      · rename_i hl
        exact .inr (.inr (.inr ⟨i, j, rfl, rfl, lim_le hl, P G H (Ext.refl hs) hp _ (.str _)⟩))
      · exact P.elim
    | _ => exact P.elim
  | lst h n r =>
    cases rb with
    | lst h' n' r' =>
      have q : RpL X.K G _ _ := RpL.app ⟨n, r⟩ ⟨n', r'⟩
      have z := mkL_len P q
      rw [List.length_append] at z
      exact .inr (.inl ⟨_, _, _, _, rfl, rfl, hs _ _ h, hs _ _ h', z, fun p np => mkL_use P q hs hp np⟩)
    | _ => exact P.elim
  | tup h n r =>
    cases rb with
    | tup h' n' r' =>
      have q : RpL X.K G _ _ := RpL.app ⟨n, r⟩ ⟨n', r'⟩
      have z := mkT_len P q
      rw [List.length_append] at z
      refine .inr (.inr (.inl ⟨_, _, _, _, rfl, rfl, sameT hs h, sameT hs h', z, fun e => ?_, fun e1 e2 => ?_, fun e1 e2 p np => mkT_use P q hs hp np⟩))
      · have e' := nil_of ⟨n, r⟩ e
        subst e'
        exact mkT_same (P : Pst X.K W X.mg pa σ (FD X.K Q) G H (mkT ([] ++ _) s)) h' (by rw [List.nil_append]; exact ⟨n', r'⟩) hs hp
      · have e' := nil_of ⟨n', r'⟩ e2
        subst e'
        exact mkT_same (P : Pst X.K W X.mg pa σ (FD X.K Q) G H (mkT (_ ++ []) s)) h (by rw [List.append_nil]; exact ⟨n, r⟩) hs hp
    | _ => exact P.elim
  | _ => exact P.elim
def subD : D → D → PM D := intD fun i j => pure (.int (i - j))
theorem od_sub : OpD X (binaryOp .Sub) subD := od_iD0 (d := fun i j => .int (i - j)) op_sub (fun _ _ _ _ => .int _)
instance (i j : Int) : Decidable (CMul i j) := inferInstanceAs (Decidable ((-(2 ^ 64) < i ∧ i < 2 ^ 64) ∨ (-(2 ^ 64) < j ∧ j < 2 ^ 64)))
instance (i j : Int) : Decidable (CDivN i j) := inferInstanceAs (Decidable (j ≠ 0 ∧ j.natAbs < 1073741824))
instance (i j : Int) : Decidable (CPow i j) := inferInstanceAs (Decidable (0 ≤ j ∧ j ≤ 1000000 ∧ i.natAbs < 2 ^ 64))
def mulD : D → D → PM D := intD fun i j => if CMul i j then pure (.int (i * j)) else bad
theorem od_mul : OpD X (binaryOp .Mult) mulD := od_iD (C := CMul) (d := fun i j => .int (i * j)) op_mul (fun _ _ _ _ => .int _)
def fdivD : D → D → PM D := intD fun i j => if CDivN i j then pure (.int (i.fdiv j)) else bad
theorem od_fdiv : OpD X (binaryOp .FloorDiv) fdivD := od_iD (C := CDivN) (d := fun i j => .int (i.fdiv j)) op_fdivN (fun _ _ _ _ => .int _)
def modD : D → D → PM D := intD fun i j => if j ≠ 0 then pure (.int (i.fmod j)) else bad
theorem od_mod : OpD X (binaryOp .Mod) modD := od_iD (C := fun _ j => j ≠ 0) (d := fun i j => .int (i.fmod j)) op_modN (fun _ _ _ _ => .int _)
def powD : D → D → PM D := intD fun i j => if CPow i j then pure (.int (i ^ j.toNat)) else bad
theorem od_pow : OpD X (binaryOp .Pow) powD := od_iD (C := CPow) (d := fun i j => .int (i ^ j.toNat)) op_pow (fun _ _ _ _ => .int _)
def eqD0 (a b : D) : PM D := if shp a = true ∧ shp b = true then pure (.bl (eqvD a b)) else bad
def neD0 (a b : D) : PM D := if shp a = true ∧ shp b = true then pure (.bl (!eqvD a b)) else bad
def twoS : D → D → Bool
  | .str _, .str _ => true
  | _, _ => false
/-- two texts: no more is asked -/
def eqD : D → D → PM D
  | .str x, .str y => pure (.bl (x == y))
  | a, b => eqD0 a b
def neD : D → D → PM D
  | .str x, .str y => pure (.bl (!(x == y)))
  | a, b => neD0 a b
theorem eqD_0 {a b : D} (h : twoS a b = false) : eqD a b = eqD0 a b := by
  cases a <;> cases b <;> first | rfl | cases h
theorem neD_0 {a b : D} (h : twoS a b = false) : neD a b = neD0 a b := by
  cases a <;> cases b <;> first | rfl | cases h
theorem twoS_rp {K : PySem.W.Frag} {G : Hp} {x y : V} {a b : D} (h : twoS a b = true) (ra : Rp K G x a) (rb : Rp K G y b) : ∃ z t, a = .str z ∧ b = .str t ∧ x = .str z ∧ y = .str t := by
  cases ra with
  | str z =>
    cases rb with
    | str t => exact ⟨z, t, rfl, rfl, rfl, rfl⟩
    | _ => cases h
  | _ => cases h
theorem od_eq (hr : Room k X.A) : OpD X (compareOp .Eq) eqD := by
  refine ⟨_, op_eq.or (op_eqD hr.units), fun W pa σ G H s x y a b Q hs hp ra rb P => ?_⟩
  cases e : twoS a b with
  | true =>
    obtain ⟨z, t, rfl, rfl, rfl, rfl⟩ := twoS_rp e ra rb
    exact .inl ⟨rfl, by rw [dec_str]; exact P G H (Ext.refl hs) hp _ (.bl _)⟩
  | false =>
    rw [eqD_0 e] at P
    unfold eqD0 at P
    split at P
    · rename_i h
      exact .inr ⟨toPy a, toPy b, (ra.mono hs).dpS h.1, (rb.mono hs).dpS h.2, h.1, h.2, P G H (Ext.refl hs) hp _ (.bl _)⟩
    · exact P.elim
theorem od_ne (hr : Room k X.A) : OpD X (compareOp .NotEq) neD := by
  refine ⟨_, op_ne.or (op_neD hr.units), fun W pa σ G H s x y a b Q hs hp ra rb P => ?_⟩
  cases e : twoS a b with
  | true =>
    obtain ⟨z, t, rfl, rfl, rfl, rfl⟩ := twoS_rp e ra rb
    exact .inl ⟨rfl, by rw [dec_str]; exact P G H (Ext.refl hs) hp _ (.bl _)⟩
  | false =>
    rw [neD_0 e] at P
    unfold neD0 at P
    split at P
    · rename_i h
      exact .inr ⟨toPy a, toPy b, (ra.mono hs).dpS h.1, (rb.mono hs).dpS h.2, h.1, h.2, P G H (Ext.refl hs) hp _ (.bl _)⟩
    · exact P.elim
def ltD : D → D → PM D := intD fun i j => pure (.bl (decide (i < j)))
def leD : D → D → PM D := intD fun i j => pure (.bl (decide (i ≤ j)))
def gtD : D → D → PM D := intD fun i j => pure (.bl (decide (j < i)))
theorem od_lt : OpD X (compareOp .Lt) ltD := od_iD0 (d := fun i j => .bl (decide (i < j))) op_lt (fun _ _ _ _ => .bl _)
theorem od_le : OpD X (compareOp .LtE) leD := od_iD0 (d := fun i j => .bl (decide (i ≤ j))) op_le (fun _ _ _ _ => .bl _)
theorem od_gt : OpD X (compareOp .Gt) gtD := od_iD0 (d := fun i j => .bl (decide (j < i))) op_gt (fun _ _ _ _ => .bl _)
/-- x is None -/
def isNonD : D → Bool
  | .non => true
  | _ => false
def isND (a b : D) : PM D := match b with
  | .non => pure (.bl (isNonD a))
  | _ => bad
def notND (a b : D) : PM D := match b with
  | .non => pure (.bl (!isNonD a))
  | _ => bad
theorem od_isN : OpD X (compareOp .Is) isND := by
  refine ⟨_, op_isN, fun W pa σ G H s x y a b Q hs hp ra rb P => ?_⟩
  cases rb with
  | non =>
    refine ⟨rfl, ?_⟩
    cases ra <;> exact P G H (Ext.refl hs) hp _ (.bl _)
  | _ => exact P.elim
theorem od_notN : OpD X (compareOp .IsNot) notND := by
  refine ⟨_, op_notN, fun W pa σ G H s x y a b Q hs hp ra rb P => ?_⟩
  cases rb with
  | non =>
    refine ⟨rfl, ?_⟩
    cases ra <;> exact P G H (Ext.refl hs) hp _ (.bl _)
  | _ => exact P.elim
theorem room65 {A : Around} (hr : Room k A) : A.units + 65 < cLine := by have := hr.un; omega
def rInT (K : PySem.W.Frag) : R2 := fun x y H Q => ∃ d ds, Dp K H x d ∧ Dp K H y (.tuple ds) ∧ SeqAt.shaped d = true ∧ SeqAt.shaped (.tuple ds) = true ∧ Q (.bl (ds.any fun z => PyData.eqv z d)) H
def rNotInT (K : PySem.W.Frag) : R2 := fun x y H Q => ∃ d ds, Dp K H x d ∧ Dp K H y (.tuple ds) ∧ SeqAt.shaped d = true ∧ SeqAt.shaped (.tuple ds) = true ∧ Q (.bl (!ds.any fun z => PyData.eqv z d)) H
def inD (a b : D) : PM D := match b with
  | .lst xs => if shp a = true ∧ shp (.lst xs) = true then pure (.bl (xs.any fun z => eqvD z a)) else bad
  | .tup xs => if shp a = true ∧ shp (.tup xs) = true then pure (.bl (xs.any fun z => eqvD z a)) else bad
  | .str b => (match a with
    | .str a => pure (.bl (!(Builtin.Str.occurrences b a 0 b.length 1).isEmpty))
    | _ => bad)
  | _ => bad
def notInD (a b : D) : PM D := match b with
  | .lst xs => if shp a = true ∧ shp (.lst xs) = true then pure (.bl (!xs.any fun z => eqvD z a)) else bad
  | .tup xs => if shp a = true ∧ shp (.tup xs) = true then pure (.bl (!xs.any fun z => eqvD z a)) else bad
  | _ => bad
theorem op_inT (hu : X.A.units + 65 < cLine) : OpR X (compareOp .In) (rInT X.K) := by
  intro pins s σ H x y v u Q I rx ry ⟨d, ds, hd, he, sd, se, q⟩
  obtain ⟨as, r1⟩ := Dp.reads I d x v hd rx
  obtain ⟨bs, r2⟩ := Dp.reads I (.tuple ds) y u he ry
  have sc : PyData.canLayAll0 ds = true := by
    have z := SeqAt.canLay_of_shaped se
    simpa only [PyData.canLay0] using z
  exact SeqAt.in_tuple_reads r2 r1 sc (SeqAt.canLay_of_shaped sd) (room_in_shaped sd hu) ⟨.bl _, H, I, rfl, q⟩
theorem op_notInT (hu : X.A.units + 65 < cLine) : OpR X (compareOp .NotIn) (rNotInT X.K) := by
  intro pins s σ H x y v u Q I rx ry ⟨d, ds, hd, he, sd, se, q⟩
  obtain ⟨as, r1⟩ := Dp.reads I d x v hd rx
  obtain ⟨bs, r2⟩ := Dp.reads I (.tuple ds) y u he ry
  have sc : PyData.canLayAll0 ds = true := by
    have z := SeqAt.canLay_of_shaped se
    simpa only [PyData.canLay0] using z
  exact SeqAt.notIn_tuple_reads r2 r1 sc (SeqAt.canLay_of_shaped sd) (room_in_shaped sd hu) ⟨.bl _, H, I, rfl, q⟩
theorem any_py (xs : List D) (a : D) : ((xs.map toPy).any fun z => PyData.eqv z (toPy a)) = xs.any fun z => eqvD z a := by
  rw [List.any_map]
  rfl
theorem od_in (hr : Room k X.A) : OpD X (compareOp .In) inD := by
  refine ⟨_, (op_inD (room65 hr)).or ((op_inT (room65 hr)).or op_in_str), fun W pa σ G H s x y a b Q hs hp ra rb P => ?_⟩
  cases rb with
  | @lst p vs ds h n r =>
    have P : Pst X.K W X.mg pa σ (FD X.K Q) G H ((if shp a = true ∧ shp (.lst ds) = true then pure (.bl (ds.any fun z => eqvD z a)) else bad : PM D) s) := P
    split at P
    · rename_i hh
      have dy : Dp X.K H (.ref p) (.list (ds.map toPy)) := by
        have z := (((Rp.lst h n r : Rp X.K G (.ref p) (.lst ds)).mono hs).dpS hh.2)
        simpa only [toPy, toPyL_map] using z
      have sy : SeqAt.shaped (.list (ds.map toPy)) = true := by
        have z : SeqAt.shaped (toPy (.lst ds)) = true := hh.2
        simpa only [toPy, toPyL_map] using z
      refine .inl ⟨toPy a, ds.map toPy, (ra.mono hs).dpS hh.1, dy, hh.1, sy, ?_⟩
      rw [any_py]
      exact P G H (Ext.refl hs) hp _ (.bl _)
    · exact P.elim
  | @tup p vs ds h n r =>
    have P : Pst X.K W X.mg pa σ (FD X.K Q) G H ((if shp a = true ∧ shp (.tup ds) = true then pure (.bl (ds.any fun z => eqvD z a)) else bad : PM D) s) := P
    split at P
    · rename_i hh
      have dy : Dp X.K H (.ref p) (.tuple (ds.map toPy)) := by
        have z := (((Rp.tup h n r : Rp X.K G (.ref p) (.tup ds)).mono hs).dpS hh.2)
        simpa only [toPy, toPyL_map] using z
      have sy : SeqAt.shaped (.tuple (ds.map toPy)) = true := by
        have z : SeqAt.shaped (toPy (.tup ds)) = true := hh.2
        simpa only [toPy, toPyL_map] using z
      refine .inr (.inl ⟨toPy a, ds.map toPy, (ra.mono hs).dpS hh.1, dy, hh.1, sy, ?_⟩)
      rw [any_py]
      exact P G H (Ext.refl hs) hp _ (.bl _)
    · exact P.elim
  | str z =>
    cases ra with
    | str y => exact .inr (.inr ⟨y, z, rfl, rfl, P G H (Ext.refl hs) hp _ (.bl _)⟩)
    | _ => exact P.elim
  | _ => exact P.elim
theorem od_notIn (hr : Room k X.A) : OpD X (compareOp .NotIn) notInD := by
  refine ⟨_, (op_notInD (room65 hr)).or (op_notInT (room65 hr)), fun W pa σ G H s x y a b Q hs hp ra rb P => ?_⟩
  cases rb with
  | @lst p vs ds h n r =>
    have P : Pst X.K W X.mg pa σ (FD X.K Q) G H ((if shp a = true ∧ shp (.lst ds) = true then pure (.bl (!ds.any fun z => eqvD z a)) else bad : PM D) s) := P
    split at P
    · rename_i hh
      have dy : Dp X.K H (.ref p) (.list (ds.map toPy)) := by
        have z := (((Rp.lst h n r : Rp X.K G (.ref p) (.lst ds)).mono hs).dpS hh.2)
        simpa only [toPy, toPyL_map] using z
      have sy : SeqAt.shaped (.list (ds.map toPy)) = true := by
        have z : SeqAt.shaped (toPy (.lst ds)) = true := hh.2
        simpa only [toPy, toPyL_map] using z
      refine .inl ⟨toPy a, ds.map toPy, (ra.mono hs).dpS hh.1, dy, hh.1, sy, ?_⟩
      rw [any_py]
      exact P G H (Ext.refl hs) hp _ (.bl _)
    · exact P.elim
  | @tup p vs ds h n r =>
    have P : Pst X.K W X.mg pa σ (FD X.K Q) G H ((if shp a = true ∧ shp (.tup ds) = true then pure (.bl (!ds.any fun z => eqvD z a)) else bad : PM D) s) := P
    split at P
    · rename_i hh
      have dy : Dp X.K H (.ref p) (.tuple (ds.map toPy)) := by
        have z := (((Rp.tup h n r : Rp X.K G (.ref p) (.tup ds)).mono hs).dpS hh.2)
        simpa only [toPy, toPyL_map] using z
      have sy : SeqAt.shaped (.tuple (ds.map toPy)) = true := by
        have z : SeqAt.shaped (toPy (.tup ds)) = true := hh.2
        simpa only [toPy, toPyL_map] using z
      refine .inr ⟨toPy a, ds.map toPy, (ra.mono hs).dpS hh.1, dy, hh.1, sy, ?_⟩
      rw [any_py]
      exact P G H (Ext.refl hs) hp _ (.bl _)
    · exact P.elim
  | _ => exact P.elim
theorem ev_chain {W : WX} {pa : Option Addr} {Γ : List Sl} {pos : Pos} {op op' : CmpOp} {g g' : D → D → PM D} {a b c : Expr} {ma mb mc : PM D} (ho : OpD X (compareOp op) g) (ho' : OpD X (compareOp op') g') (ha : EV X W pa Γ a ma) (hb : EV X W pa Γ b mb) (hc : EV X W pa Γ c mc)
    (hm : lastMarks [op, op'] [b, c] = false := by with_unfolding_all rfl) : EV X W pa Γ (.Compare a [op, op'] [b, c] pos) (ma >>= fun x => mb >>= fun y => g x y >>= fun r => asB r >>= fun t => if t = true then mc >>= fun z => g' y z else pure (.bl false)) := by
  obtain ⟨r, h1, h2⟩ := ho
  obtain ⟨r', h1', h2'⟩ := ho'
  refine pe_imp (pe_chain h1 h1' ha hb hc hm) fun σ H Q ⟨G0, H0, G, s, E, P⟩ =>
    ⟨G0, H0, G, s, E, P.bind.imp fun G1 H1 a s1 x1 p1 P1 v rv => ⟨G0, H0, G1, s1, E.step x1 p1, P1.bind.imp fun G2 H2 b s2 x2 p2 P2 w rw => ?_⟩⟩
  refine h2 W pa σ G2 H2 s2 v w a b _ x2.sub p2 (rv.mono x2.g) rw (P2.bind.imp fun G3 H3 d s3 x3 p3 P3 u ru => ?_)
  cases ru with
  | bl t =>
    refine ⟨t, rfl, ?_⟩
    have P4 := (P3.bind).now x3.sub p3
    cases t with
    | false => exact (show Q (.bl false) H3 from P4.now x3.sub p3 _ (.bl _))
    | true =>
      refine (show evT X W pa Γ mc σ H3 _ from ⟨G0, H0, G3, s3, ((E.step x1 p1).step x2 p2).step x3 p3, (P4.bind : Pst X.K W X.mg pa σ _ G3 H3 (mc s3)).imp fun G5 H5 z s5 x5 p5 P5 u' ru' => ?_⟩)
      exact h2' W pa σ G5 H5 s5 w u' b z Q x5.sub p5 (rw.mono (x3.g.trans x5.g)) ru' P5
  | _ => exact P3.elim
def getD : D → D → PM D
  | .lst xs, .int i => match atI xs i with | some d => pure d | none => bad
  | .tup xs, .int i => match atI xs i with | some d => pure d | none => bad
  | .str z, .int i => if z.length ≤ lim then (match atI z.cps.toList i with | some c => pure (.str ⟨#[c]⟩) | none => bad) else bad
  | _, _ => bad
theorem atI_rp {K : PySem.W.Frag} {G : Hp} {vs : List V} {ds : List D} (h : RpL K G vs ds) {i : Int} {d : D} (e : atI ds i = some d) : ∃ v, atI vs i = some v ∧ Rp K G v d := by
  unfold atI at e ⊢
  rw [h.1]
  cases q : ixN ds.length i with
  | none => rw [q] at e; cases e
  | some j =>
    rw [q] at e
    exact h.get e
theorem ev_ix {W : WX} {pa : Option Addr} {Γ : List Sl} {pos : Pos} {a b : Expr} {ma mb : PM D} (ha : EV X W pa Γ a ma) (hb : EV X W pa Γ b mb) (hs : PlainIx b) : EV X W pa Γ (.Subscript a b pos) (ma >>= fun x => mb >>= fun y => getD x y) :=
  pe_imp (pe_ix ix_seq ha hb hs) fun σ H Q ⟨G0, H0, G, s, E, P⟩ =>
    ⟨G0, H0, G, s, E, P.bind.imp fun G1 H1 a s1 x1 p1 P1 v rv => ⟨G0, H0, G1, s1, E.step x1 p1, P1.bind.imp fun G2 H2 b s2 x2 p2 P2 w rw => by
      have rv := rv.mono x2.g
      cases rv with
      | lst h n r =>
        cases rw with
        | int i =>
          rename_i ds
          have P2 : Pst X.K W X.mg pa σ (FD X.K Q) G2 H2 ((match atI ds i with | some d => pure d | none => bad : PM D) s2) := P2
          cases e : atI ds i with
          | none => rw [e] at P2; exact P2.elim
          | some d =>
            rw [e] at P2
            obtain ⟨u, e', ru⟩ := atI_rp ⟨n, r⟩ e
            exact .inl ⟨_, _, i, u, rfl, rfl, SqL.of (x2.sub _ _ h), e', P2 G2 H2 (Ext.refl x2.sub) p2 u ru⟩
        | _ => exact P2.elim
      | tup h n r =>
        cases rw with
        | int i =>
          rename_i ds
          have P2 : Pst X.K W X.mg pa σ (FD X.K Q) G2 H2 ((match atI ds i with | some d => pure d | none => bad : PM D) s2) := P2
          cases e : atI ds i with
          | none => rw [e] at P2; exact P2.elim
          | some d =>
            rw [e] at P2
            obtain ⟨u, e', ru⟩ := atI_rp ⟨n, r⟩ e
            exact .inr (.inl ⟨_, _, i, u, rfl, rfl, sameT x2.sub h, e', P2 G2 H2 (Ext.refl x2.sub) p2 u ru⟩)
        | _ => exact P2.elim
      | str z =>
        cases rw with
        | int i =>
          have P2 : Pst X.K W X.mg pa σ (FD X.K Q) G2 H2 ((if z.length ≤ lim then (match atI z.cps.toList i with | some c => pure (.str ⟨#[c]⟩) | none => bad) else bad : PM D) s2) := P2
          split at P2
          · rename_i hl
            cases e : atI z.cps.toList i with
            | none => rw [e] at P2; exact P2.elim
            | some c =>
              rw [e] at P2
              exact .inr (.inr ⟨z, i, c, rfl, rfl, lim_le hl, e, P2 G2 H2 (Ext.refl x2.sub) p2 _ (.str _)⟩)
          · exact P2.elim
        | _ => exact P2.elim
      | _ => exact P2.elim⟩⟩
/-- the bounds of a slice -/
abbrev EO (X : Cx) (W : WX) (pa : Option Addr) (Γ : List Sl) (e : Option Expr) (m : PM (Option Int)) : Prop := PO X e (fun σ H Q => ∃ G0 H0 G s, Nv X.K pa G0 H0 G H σ Γ s ∧ Pst X.K W X.mg pa σ (fun _ H' o _ => Q o H') G H (m s))
theorem po_imp {e : Option Expr} {t t' : TO} (h : PO X e t) (i : ∀ σ H Q, t' σ H Q → t σ H Q) : PO X e t' := ⟨fun pins s σ H Q I q => h.run pins s σ H Q I (i σ H Q q)⟩
def asI : D → PM (Option Int)
  | .int i => pure (some i)
  | _ => bad
theorem eo_none {W : WX} {pa : Option Addr} {Γ : List Sl} : EO X W pa Γ none (pure none) := po_imp po_none fun σ H Q ⟨G0, H0, G, s, E, P⟩ => P.now E.sub E.ps
theorem eo_some {W : WX} {pa : Option Addr} {Γ : List Sl} {e : Expr} {m : PM D} (h : EV X W pa Γ e m) : EO X W pa Γ (some e) (m >>= asI) := po_imp (po_some h) fun σ H Q ⟨G0, H0, G, s, E, P⟩ =>
  ⟨G0, H0, G, s, E, P.bind.imp fun G1 H1 a s1 x1 p1 P1 v rv => by
    cases rv with
    | int i => exact ⟨i, rfl, P1.now x1.sub p1⟩
    | _ => exact P1.elim⟩
def cutD (xs : List D) (lo hi : Option Int) : List D := (xs.drop (HT.sIx xs.length 0 lo)).take (HT.sIx xs.length xs.length hi - HT.sIx xs.length 0 lo)
def sliceD : D → Option Int → Option Int → PM D
  | .lst xs, lo, hi => mkL (cutD xs lo hi)
  | .tup xs, lo, hi => mkT (cutD xs lo hi)
  | .str z, lo, hi => if z.length ≤ lim then pure (.str (cutS z lo hi)) else bad
  | _, _, _ => bad
theorem cut_rp {K : PySem.W.Frag} {G : Hp} {vs : List V} {ds : List D} (h : RpL K G vs ds) (lo hi : Option Int) : RpL K G (cutV vs lo hi) (cutD ds lo hi) := by
  unfold cutV cutD
  rw [h.1]
  exact (h.drop _).take _
theorem ev_slice {W : WX} {pa : Option Addr} {Γ : List Sl} {pos p2 : Pos} {a : Expr} {lo hi : Option Expr} {ma : PM D} {ml mh : PM (Option Int)} (ha : EV X W pa Γ a ma) (hl : EO X W pa Γ lo ml) (hh : EO X W pa Γ hi mh) :
    EV X W pa Γ (.Subscript a (.Slice lo hi none p2) pos) (ma >>= fun x => ml >>= fun l => mh >>= fun u => sliceD x l u) :=
  pe_imp (pe_slice (SlR.or sl_list (SlR.or sl_tupA sl_str)) ha hl hh) fun σ H Q ⟨G0, H0, G, s, E, P⟩ =>
    ⟨G0, H0, G, s, E, P.bind.imp fun G1 H1 a s1 x1 p1 P1 v rv => ⟨G0, H0, G1, s1, E.step x1 p1, P1.bind.imp fun G2 H2 l s2 x2 p2 P2 => ⟨G0, H0, G2, s2, (E.step x1 p1).step x2 p2, P2.bind.imp fun G3 H3 u s3 x3 p3 P3 => by
      have rv := rv.mono (x2.g.trans x3.g)
      cases rv with
      | lst h n r =>
        rename_i ds
        exact .inl ⟨_, _, rfl, SqL.of (x3.sub _ _ h), fun p np => mkL_use (P3 : Pst X.K W X.mg pa σ (FD X.K Q) G3 H3 (mkL (cutD ds l u) s3)) (cut_rp ⟨n, r⟩ l u) x3.sub p3 np⟩
      | tup h n r =>
        rename_i ds
        have P3 : Pst X.K W X.mg pa σ (FD X.K Q) G3 H3 (mkT (cutD ds l u) s3) := P3
        refine .inr (.inl ⟨_, _, rfl, sameT x3.sub h, fun hw => ?_, fun hw p np => mkT_use P3 (cut_rp ⟨n, r⟩ l u) x3.sub p3 np⟩)
        have e : cutD ds l u = ds := by
          rw [n] at hw
          unfold cutD
          rw [hw.1, hw.2]
          simp
        rw [e] at P3
        exact mkT_same P3 h ⟨n, r⟩ x3.sub p3
      | str z =>
        have P3 : Pst X.K W X.mg pa σ (FD X.K Q) G3 H3 ((if z.length ≤ lim then pure (.str (cutS z l u)) else bad : PM D) s3) := P3
        split at P3
        · rename_i hz
          exact .inr (.inr ⟨z, rfl, lim_le hz, P3 G3 H3 (Ext.refl x3.sub) p3 _ (.str _)⟩)
        · exact P3.elim
      | _ => exact P3.elim⟩⟩⟩
def lenF : List D → PM D
  | [.lst xs] => pure (.int xs.length)
  | [.tup xs] => pure (.int xs.length)
  | [.str z] => if z.length ≤ lim then pure (.int z.length) else bad
  | _ => bad
theorem rp1 {K : PySem.W.Frag} {G : Hp} {vs : List V} {d : D} (h : RpL K G vs [d]) : ∃ v, vs = [v] ∧ Rp K G v d := by
  have n := h.1
  cases vs with
  | nil => simp at n
  | cons v r =>
    cases r with
    | nil => exact ⟨v, rfl, h.tail.1⟩
    | cons _ _ => simp at n
theorem rp2 {K : PySem.W.Frag} {G : Hp} {vs : List V} {d e : D} (h : RpL K G vs [d, e]) : ∃ v w, vs = [v, w] ∧ Rp K G v d ∧ Rp K G w e := by
  have n := h.1
  cases vs with
  | nil => simp at n
  | cons v r =>
    obtain ⟨w, rfl, r2⟩ := rp1 h.tail.2
    exact ⟨v, w, rfl, h.tail.1, r2⟩
theorem cd_len : CallD X (.builtin "len") lenF := by
  refine ⟨_, call_len_seq.or call_len_str, fun W pa σ G H s xs ds Q hs hp rs P => ?_⟩
  match ds, rs, P with
  | [d], rs, P =>
    obtain ⟨v, rfl, r⟩ := rp1 rs
    cases r with
    | lst h n r => exact .inl ⟨_, _, rfl, .inl (SqL.of (hs _ _ h)), by rw [n]; exact P G H (Ext.refl hs) hp _ (.int _)⟩
    | tup h n r => exact .inl ⟨_, _, rfl, .inr (sameT hs h), by rw [n]; exact P G H (Ext.refl hs) hp _ (.int _)⟩
    | str z =>
      have P : Pst X.K W X.mg pa σ (FD X.K Q) G H ((if z.length ≤ lim then pure (.int z.length) else bad : PM D) s) := P
      split at P
      · rename_i hz
        exact .inr ⟨z, rfl, lim_le hz, P G H (Ext.refl hs) hp _ (.int _)⟩
      · exact P.elim
    | _ => exact P.elim
  | [], _, P => exact P.elim
  | a :: _ :: _, _, P => cases a <;> exact P.elim
def tupleF : List D → PM D
  | [.lst xs] => mkT xs
  | [.tup xs] => mkT xs
  | _ => bad
theorem cd_tuple : CallD X (.type "tuple") tupleF := by
  refine ⟨_, call_tuple_of, fun W pa σ G H s xs ds Q hs hp rs P => ?_⟩
  match ds, rs, P with
  | [d], rs, P =>
    obtain ⟨v, rfl, r⟩ := rp1 rs
    cases r with
    | lst h n r => exact ⟨_, _, rfl, .inl ⟨SqL.of (hs _ _ h), fun p np => mkT_use (P : Pst X.K W X.mg pa σ (FD X.K Q) G H (mkT _ s)) ⟨n, r⟩ hs hp np⟩⟩
    | tup h n r => exact ⟨_, _, rfl, .inr ⟨sameT hs h, mkT_same (P : Pst X.K W X.mg pa σ (FD X.K Q) G H (mkT _ s)) h ⟨n, r⟩ hs hp⟩⟩
    | _ => exact P.elim
  | [], _, P => exact P.elim
  | a :: _ :: _, _, P => cases a <;> exact P.elim
def listF : List D → PM D
  | [.lst xs] => mkL xs
  | [.tup xs] => mkL xs
  | _ => bad
theorem cd_list : CallD X (.type "list") listF := by
  refine ⟨_, call_list_of, fun W pa σ G H s xs ds Q hs hp rs P => ?_⟩
  match ds, rs, P with
  | [d], rs, P =>
    obtain ⟨v, rfl, r⟩ := rp1 rs
    cases r with
    | lst h n r => exact ⟨_, _, rfl, .inl (SqL.of (hs _ _ h)), fun p np => mkL_use (P : Pst X.K W X.mg pa σ (FD X.K Q) G H (mkL _ s)) ⟨n, r⟩ hs hp np⟩
    | tup h n r => exact ⟨_, _, rfl, .inr (sameT hs h), fun p np => mkL_use (P : Pst X.K W X.mg pa σ (FD X.K Q) G H (mkL _ s)) ⟨n, r⟩ hs hp np⟩
    | _ => exact P.elim
  | [], _, P => exact P.elim
  | a :: _ :: _, _, P => cases a <;> exact P.elim
def maxF : List D → PM D
  | [.int i, .int j] => pure (.int (if j > i then j else i))
  | _ => bad
def minF : List D → PM D
  | [.int i, .int j] => pure (.int (if j < i then j else i))
  | _ => bad
theorem cd_max (hc : X.calm = true) : CallD X (.builtin "max") maxF := by
  refine ⟨_, call_max2 hc, fun W pa σ G H s xs ds Q hs hp rs P => ?_⟩
  match ds, rs, P with
  | [.int i, .int j], rs, P =>
    obtain ⟨v, w, rfl, r1, r2⟩ := rp2 rs
    cases r1
    cases r2
    exact ⟨i, j, rfl, P G H (Ext.refl hs) hp _ (.int _)⟩
  | [], _, P => exact P.elim
  | [a], _, P => cases a <;> exact P.elim
  | a :: b :: c :: r, _, P => cases a <;> cases b <;> exact P.elim
  | [.non, b], _, P => exact P.elim
  | [.bl _, b], _, P => exact P.elim
  | [.str _, b], _, P => exact P.elim
  | [.tup _, b], _, P => exact P.elim
  | [.lst _, b], _, P => exact P.elim
  | [.dct _, b], _, P => exact P.elim
  | [.obj _ _, b], _, P => exact P.elim
  | [.cls _, b], _, P => exact P.elim
  | [.int _, .non], _, P => exact P.elim
  | [.int _, .bl _], _, P => exact P.elim
  | [.int _, .str _], _, P => exact P.elim
  | [.int _, .tup _], _, P => exact P.elim
  | [.int _, .lst _], _, P => exact P.elim
  | [.int _, .dct _], _, P => exact P.elim
  | [.int _, .obj _ _], _, P => exact P.elim
  | [.int _, .cls _], _, P => exact P.elim
theorem cd_min (hc : X.calm = true) : CallD X (.builtin "min") minF := by
  refine ⟨_, call_min2 hc, fun W pa σ G H s xs ds Q hs hp rs P => ?_⟩
  match ds, rs, P with
  | [.int i, .int j], rs, P =>
    obtain ⟨v, w, rfl, r1, r2⟩ := rp2 rs
    cases r1
    cases r2
    exact ⟨i, j, rfl, P G H (Ext.refl hs) hp _ (.int _)⟩
  | [], _, P => exact P.elim
  | [a], _, P => cases a <;> exact P.elim
  | a :: b :: c :: r, _, P => cases a <;> cases b <;> exact P.elim
  | [.non, b], _, P => exact P.elim
  | [.bl _, b], _, P => exact P.elim
  | [.str _, b], _, P => exact P.elim
  | [.tup _, b], _, P => exact P.elim
  | [.lst _, b], _, P => exact P.elim
  | [.dct _, b], _, P => exact P.elim
  | [.obj _ _, b], _, P => exact P.elim
  | [.cls _, b], _, P => exact P.elim
  | [.int _, .non], _, P => exact P.elim
  | [.int _, .bl _], _, P => exact P.elim
  | [.int _, .str _], _, P => exact P.elim
  | [.int _, .tup _], _, P => exact P.elim
  | [.int _, .lst _], _, P => exact P.elim
  | [.int _, .dct _], _, P => exact P.elim
  | [.int _, .obj _ _], _, P => exact P.elim
  | [.int _, .cls _], _, P => exact P.elim
/-- lists of bools, of ints -/
def blsOf : List D → Option (List Bool)
  | [] => some []
  | .bl b :: r => (blsOf r).map (b :: ·)
  | _ :: _ => none
def intsOf : List D → Option (List Int)
  | [] => some []
  | .int b :: r => (intsOf r).map (b :: ·)
  | _ :: _ => none
theorem blsOf_map : ∀ bs : List Bool, blsOf (bs.map D.bl) = some bs
  | [] => rfl
  | b :: r => by simp only [List.map_cons, blsOf, blsOf_map r, Option.map_some]
theorem intsOf_map : ∀ bs : List Int, intsOf (bs.map D.int) = some bs
  | [] => rfl
  | b :: r => by simp only [List.map_cons, intsOf, intsOf_map r, Option.map_some]
theorem blsOf_inv {ds : List D} : ∀ {bs : List Bool}, blsOf ds = some bs → ds = bs.map D.bl := by
  induction ds with
  | nil =>
    intro bs e
    cases e
    rfl
  | cons d r ih =>
    intro bs e
    cases d with
    | bl b =>
      have e : (blsOf r).map (b :: ·) = some bs := e
      cases q : blsOf r with
      | none => rw [q] at e; cases e
      | some cs =>
        rw [q] at e
        cases e
        rw [ih q]
        rfl
    | _ => cases e
theorem intsOf_inv {ds : List D} : ∀ {bs : List Int}, intsOf ds = some bs → ds = bs.map D.int := by
  induction ds with
  | nil =>
    intro bs e
    cases e
    rfl
  | cons d r ih =>
    intro bs e
    cases d with
    | int b =>
      have e : (intsOf r).map (b :: ·) = some bs := e
      cases q : intsOf r with
      | none => rw [q] at e; cases e
      | some cs =>
        rw [q] at e
        cases e
        rw [ih q]
        rfl
    | _ => cases e
theorem rpL_mapI {α : Type} {K : PySem.W.Frag} {G : Hp} {f : α → D} {g : α → V} (h : ∀ v a, Rp K G v (f a) → v = g a) {bs : List α} : ∀ {vs : List V}, RpL K G vs (bs.map f) → vs = bs.map g := by
  induction bs with
  | nil =>
    intro vs r
    exact List.length_eq_zero_iff.mp r.1
  | cons b bs ih =>
    intro vs r
    cases vs with
    | nil => exact absurd r.1 (by simp)
    | cons v vs =>
      have z : RpL K G (v :: vs) (f b :: bs.map f) := r
      show v :: vs = g b :: bs.map g
      rw [h _ _ z.tail.1, ih z.tail.2]
theorem blsOf_rp {K : PySem.W.Frag} {G : Hp} {vs : List V} {ds : List D} {bs : List Bool} (r : RpL K G vs ds) (e : blsOf ds = some bs) : vs = bs.map V.bl := by
  rw [blsOf_inv e] at r
  exact rpL_mapI (fun v a z => by cases z; rfl) r
theorem intsOf_rp {K : PySem.W.Frag} {G : Hp} {vs : List V} {ds : List D} {bs : List Int} (r : RpL K G vs ds) (e : intsOf ds = some bs) : vs = bs.map V.int := by
  rw [intsOf_inv e] at r
  exact rpL_mapI (fun v a z => by cases z; rfl) r
def anyF : List D → PM D
  | [.lst xs] => match blsOf xs with | some bs => pure (.bl (bs.any id)) | none => bad
  | _ => bad
def allF : List D → PM D
  | [.lst xs] => match blsOf xs with | some bs => pure (.bl (bs.all id)) | none => bad
  | _ => bad
theorem cd_any (hc : X.calm = true) : CallD X (.builtin "any") anyF := by
  refine ⟨_, cr_any hc, fun W pa σ G H s xs ds Q hs hp rs P => ?_⟩
  match ds, rs, P with
  | [d], rs, P =>
    obtain ⟨v, rfl, r⟩ := rp1 rs
    cases r with
    | @lst a vs es h n r =>
      have P : Pst X.K W X.mg pa σ (FD X.K Q) G H ((match blsOf es with | some bs => pure (.bl (bs.any id)) | none => bad : PM D) s) := P
      cases e : blsOf es with
      | none => rw [e] at P; exact P.elim
      | some bs =>
        rw [e] at P
        exact ⟨_, bs, rfl, by rw [← blsOf_rp ⟨n, r⟩ e]; exact SqL.of (hs _ _ h), P G H (Ext.refl hs) hp _ (.bl _)⟩
    | _ => exact P.elim
  | [], _, P => exact P.elim
  | a :: _ :: _, _, P => cases a <;> exact P.elim
theorem cd_all (hc : X.calm = true) : CallD X (.builtin "all") allF := by
  refine ⟨_, cr_all hc, fun W pa σ G H s xs ds Q hs hp rs P => ?_⟩
  match ds, rs, P with
  | [d], rs, P =>
    obtain ⟨v, rfl, r⟩ := rp1 rs
    cases r with
    | @lst a vs es h n r =>
      have P : Pst X.K W X.mg pa σ (FD X.K Q) G H ((match blsOf es with | some bs => pure (.bl (bs.all id)) | none => bad : PM D) s) := P
      cases e : blsOf es with
      | none => rw [e] at P; exact P.elim
      | some bs =>
        rw [e] at P
        exact ⟨_, bs, rfl, by rw [← blsOf_rp ⟨n, r⟩ e]; exact SqL.of (hs _ _ h), P G H (Ext.refl hs) hp _ (.bl _)⟩
    | _ => exact P.elim
  | [], _, P => exact P.elim
  | a :: _ :: _, _, P => cases a <;> exact P.elim
/-- sorted of ints -/
def insI (x : Int) : List Int → List Int
  | [] => [x]
  | y :: r => if x ≤ y then x :: y :: r else y :: insI x r
def sortI : List Int → List Int
  | [] => []
  | x :: r => insI x (sortI r)
theorem insI_perm (x : Int) : ∀ l, (insI x l).Perm (x :: l)
  | [] => .refl _
  | y :: r => by
    unfold insI
    split
    · exact .refl _
    · exact ((insI_perm x r).cons y).trans (.swap x y r)
theorem sortI_perm : ∀ l, (sortI l).Perm l
  | [] => .refl _
  | x :: r => (insI_perm x (sortI r)).trans ((sortI_perm r).cons x)
theorem insI_sorted (x : Int) : ∀ l, l.Pairwise (· ≤ ·) → (insI x l).Pairwise (· ≤ ·)
  | [], _ => by simp [insI]
  | y :: r, h => by
    unfold insI
    have h' := List.pairwise_cons.mp h
    split
    · rename_i hxy
      refine List.pairwise_cons.mpr ⟨fun z hz => ?_, h⟩
      rcases List.mem_cons.mp hz with rfl | hz
      · exact hxy
      · exact Int.le_trans hxy (h'.1 z hz)
    · rename_i hxy
      refine List.pairwise_cons.mpr ⟨fun z hz => ?_, insI_sorted x r h'.2⟩
      have hz' := (insI_perm x r).mem_iff.mp hz
      rcases List.mem_cons.mp hz' with rfl | hz'
      · omega
      · exact h'.1 z hz'
theorem sortI_sorted : ∀ l, (sortI l).Pairwise (· ≤ ·)
  | [] => .nil
  | x :: r => insI_sorted x _ (sortI_sorted r)
theorem sorted_eq {l r : List Int} (p : l.Perm r) (hl : l.Pairwise (· ≤ ·)) (hr : r.Pairwise (· ≤ ·)) : l = r :=
  List.Perm.eq_of_pairwise (fun a b _ _ h1 h2 => Int.le_antisymm h1 h2) hl hr p
def sortedF : List D → PM D
  | [.lst xs] => match intsOf xs with | some ns => mkL ((sortI ns).map D.int) | none => bad
  | _ => bad
theorem rpl_ints {K : PySem.W.Frag} {G : Hp} (ns : List Int) : RpL K G (ns.map V.int) (ns.map D.int) := RpL.map_of ns fun x _ => .int x
theorem cd_sortedI : CallD X (.builtin "sorted") sortedF := by
  refine ⟨_, cr_sortedI, fun W pa σ G H s xs ds Q hs hp rs P => ?_⟩
  match ds, rs, P with
  | [d], rs, P =>
    obtain ⟨v, rfl, r⟩ := rp1 rs
    cases r with
    | @lst a vs es h n r =>
      have P : Pst X.K W X.mg pa σ (FD X.K Q) G H ((match intsOf es with | some ns => mkL ((sortI ns).map D.int) | none => bad : PM D) s) := P
      cases e : intsOf es with
      | none => rw [e] at P; exact P.elim
      | some bs =>
        rw [e] at P
        refine ⟨_, bs, rfl, by rw [← intsOf_rp ⟨n, r⟩ e]; exact SqL.of (hs _ _ h), fun ns' p q1 q2 np => ?_⟩
        have e2 : ns' = sortI bs := sorted_eq (q1.trans (sortI_perm bs).symm) q2 (sortI_sorted bs)
        rw [e2]
        exact mkL_use (P : Pst X.K W X.mg pa σ (FD X.K Q) G H (mkL _ s)) (rpl_ints _) hs hp np
    | _ => exact P.elim
  | [], _, P => exact P.elim
  | a :: _ :: _, _, P => cases a <;> exact P.elim
mutual
def okD : D → Bool
  | .non => true
  | .bl _ => true
  | .int i => decide (i.natAbs.log2 < 1920)
  | .str _ => true
  | .tup xs => okDL xs
  | .lst xs => okDL xs
  | .dct _ => false
  | .obj _ _ => false
  | .cls _ => false
def okDL : List D → Bool
  | [] => true
  | x :: xs => okD x && okDL xs
end
mutual
theorem okD_py : ∀ d : D, okD d = true → (toPy d).showable = true ∧ (toPy d).hasDict = false
  | .non, _ => ⟨rfl, rfl⟩
  | .bl _, _ => ⟨rfl, rfl⟩
  | .int i, h => ⟨by simpa [toPy, PyData.showable, okD] using h, rfl⟩
  | .str _, _ => ⟨rfl, rfl⟩
  | .tup xs, h => by
    have z := okDL_py xs (by simpa [okD] using h)
    exact ⟨by simpa [toPy, PyData.showable] using z.1, by simpa [toPy, PyData.hasDict] using z.2⟩
  | .lst xs, h => by
    have z := okDL_py xs (by simpa [okD] using h)
    exact ⟨by simpa [toPy, PyData.showable] using z.1, by simpa [toPy, PyData.hasDict] using z.2⟩
  | .dct _, h => by simp [okD] at h
  | .obj _ _, h => by simp [okD] at h
  | .cls _, h => by simp [okD] at h
theorem okDL_py : ∀ ds : List D, okDL ds = true → PyData.showableAll (toPyL ds) = true ∧ PyData.hasDictAll (toPyL ds) = false
  | [], _ => ⟨rfl, rfl⟩
  | x :: xs, h => by
    simp only [okDL, Bool.and_eq_true] at h
    have z1 := okD_py x h.1
    have z2 := okDL_py xs h.2
    exact ⟨by simp [toPyL, PyData.showableAll, z1.1, z2.1], by simp [toPyL, PyData.hasDictAll, z1.2, z2.2]⟩
end
def reprF : List D → PM D
  | [d] => if okD d = true ∧ (toPy d).depth ≤ 60 ∧ (shown d).length ≤ lim then pure (.str (shown d)) else bad
  | _ => bad
def rRepr (K : PySem.W.Frag) : List V → Hp → VK → Prop := fun xs H Q => ∃ x d, xs = [x] ∧ Dp K H x d ∧ d.showable = true ∧ d.hasDict = false ∧ d.depth ≤ 60 ∧ d.shown.length ≤ sizeLine ∧ Q (.str d.shown) H
theorem call_reprD (hr : Room k X.A) (hg : X.A.guards = some []) : CallR X (.builtin "repr") (rRepr X.K) := by
  intro pins s σ H xs us Q I r h
  obtain ⟨x, d, rfl, dp, h1, h2, h3, h4, q⟩ := h
  obtain ⟨u, rfl, ru⟩ := vals1 r
  obtain ⟨as, rd⟩ := Dp.reads I d x u dp ru
  have hu := hr.un
  cases rd with
  | none => exact PySem.P.repr_of_none ⟨.str _, H, I.tok _, ⟨_, rfl⟩, q⟩
  | bool b => exact PySem.P.repr_of_bool ⟨.str _, H, I.tok _, ⟨_, rfl⟩, by cases b <;> exact q⟩
  | int i t => exact PySem.P.repr_of_int (by simpa [PyData.showable] using h1) ⟨.str _, H, I.tok _, ⟨_, rfl⟩, q⟩
  | str z t => exact PySem.P.repr_of_str ⟨.str _, H, I.tok _, ⟨_, rfl⟩, q⟩ h4
  | list a1 a2 a3 a4 => exact repr_of_reads' (.list a1 a2 a3 a4) h1 (fun e => by rw [h2] at e; cases e) hg (by omega) (fun _ _ e => e) (fun h' u tk hk => ⟨.str _, H, I.kept (t' := tk) hk, ⟨_, rfl⟩, q⟩) h4
  | tuple a1 a2 a3 a4 => exact repr_of_reads' (.tuple a1 a2 a3 a4) h1 (fun e => by rw [h2] at e; cases e) hg (by omega) (fun _ _ e => e) (fun h' u tk hk => ⟨.str _, H, I.kept (t' := tk) hk, ⟨_, rfl⟩, q⟩) h4
  | dict a1 a2 a3 a4 a5 => simp [PyData.hasDict] at h2
end
end EV
namespace EV
open PySem PySem.Spec PyProof.Rows L2
theorem pure_any {α : Type} {M : Model} {A : Around} {Q : α → Shared → Prop} {E : Value → Shared → Prop} {s : Shared} {x : α} (h : ∀ b, Q b s) : wpAny M A (pure x) Q E s := wpAny_pure (h x)
theorem newEnumB {v : Value} {o : Obj} {H : Heap → Prop} (B : Begins v o H) :
    Meets (Builtin.«enumerate.__new__» ⟨[.type "enumerate", v], []⟩)
      (fun _ R s => H s.heap ∧ R (.ok (.ret (.ref (s.heap.push o).objs.size)))
        { s with heap := (s.heap.push o).push { cls := .type "enumerate", data := .fields #[.none, .bool false, .ref s.heap.objs.size, rawInt 0, .none, .none] } }) :=
  .of_wp fun prog w A R s h => by
    obtain ⟨hp, g, d, tk, os⟩ := s
    obtain ⟨h1, h⟩ := h
    have hsub := sub_enumerate
    have q1 : ∀ {A' : Around} {E : Value → Shared → Prop} {Q : Value → Shared → Prop}, Q (.ref hp.objs.size) ⟨hp.push o, g, d, tk, os⟩ → wpAny (model prog w) A' (pyIter v) Q E ⟨hp, g, d, tk, os⟩ :=
      fun q => B.iter prog w _ _ ⟨hp, g, d, tk, os⟩ _ h1 q
    wp_walk using q1
    refine wpAny_stack_any fun st => pure_any fun b => ?_
    cases b <;> (wp_walk using q1; exact ⟨_, rfl, h⟩)
theorem callEnumT {prog : Program} {w : World} {A : Around} {E : Value → Shared → Prop} {s : Shared} {l : Addr} {items : Array Value} {Q : Value → Shared → Prop} (hT : s.heap.IsTuple l items)
    (h : ∀ h', IsEnum h' (s.heap.objs.size + 1) s.heap.objs.size 0 .none → h'.IsTupleIter s.heap.objs.size l 0 →
      (∀ b o, s.heap.get? b = some o → h'.get? b = some o) → Q (.ref (s.heap.objs.size + 1)) { s with heap := h' }) :
    wpAny (model prog w) A (call (.type "enumerate") [.ref l]) Q E s := by
  refine callType_new F.called_enumerate (by decide) (F.typeCall_enumerate_1 _) (F.newCall_enumerate_1 _) (fun obj => F.args_object_init_2 obj _)
    F.entry_enumerate_new (newEnumB (begins_tuple l items)) ⟨hT, ?_⟩
  generalize ho : ({ cls := .type "tuple_iterator", data := .fields #[.ref l, .int 0 0] } : Obj) = ob
  have hf : ob.isFreed = false := by rw [← ho]; rfl
  have hz : (s.heap.push ob).objs.size = s.heap.objs.size + 1 := Heap.size_push ..
  show _ ∧ _
  rw [hz]
  generalize he0 : ({ cls := .type "enumerate", data := .fields #[.none, .bool false, .ref s.heap.objs.size, rawInt 0, .none, .none] } : Obj) = oe
  have hfe : oe.isFreed = false := by rw [← he0]; rfl
  have he : ((s.heap.push ob).push oe).get? (s.heap.objs.size + 1) = some oe := by
    have := Heap.get?_push_size (s.heap.push ob) (o := oe) hfe
    rw [hz] at this
    exact this
  have he2 : IsEnum ((s.heap.push ob).push oe) (s.heap.objs.size + 1) s.heap.objs.size 0 .none := by
    subst he0
    exact he
  refine ⟨⟨_, he2, rfl⟩, h _ he2 ?_ fun b o x => Heap.get?_push_of_some _ (Heap.get?_push_of_some _ x)⟩
  subst ho
  exact ⟨_, Heap.get?_push_of_some _ (Heap.get?_push_size _ hf), rfl, rfl⟩
/-- the tuple at a, each item in a new pair -/
def IteT (K : PySem.W.Frag) (a : Addr) : It :=
  ⟨fun i H => ∃ (xs : List V) (x : V), SqT K H a xs ∧ xs[i]? = some x,
    fun i H v H' => ∃ T x, v = .ref T ∧ H T = none ∧ H' = upd H T (.tup [.int (i : Nat), x]) ∧ ∀ xs, SqT K H a xs → xs[i]? = some x,
    fun i H => ∃ xs : List V, SqT K H a xs ∧ xs.length ≤ i⟩
theorem turnEnumT {P : Program} {w : World} {K : PySem.W.Frag} {elts : List Expr} {kk : Nat} {tpos : Pos} (a e it : Addr) :
    Turn P w K (.Tuple elts kk tpos) (IteT K a) [e, it] e (fun i h => (∃ old, IsEnum h e it ((i : Nat) : Int) old) ∧ h.IsTupleIter it a i ∧ e ≠ it ∧ a ≠ it ∧ a ≠ e) where
  mem := by simp
  obj := fun i h st b hb => by
    obtain ⟨⟨old, he⟩, ⟨o, ho, hc, hd⟩, _⟩ := st
    have e' : b = e ∨ b = it := by simpa using hb
    rcases e' with z | z
    · rw [z]
      exact ⟨_, he, fun v q => nomatch q⟩
    · rw [z]
      exact ⟨o, ho, fun v q => by rw [hd] at q; cases q⟩
  keep := fun i h h' st k => by
    obtain ⟨⟨old, he⟩, hi, hne⟩ := st
    exact ⟨⟨old, k e (by simp) _ he⟩, hi.at fun o q => k it (by simp) o q, hne⟩
  item := by
    intro X hP hw hK hc i pins s σ H E I hf st hg
    subst hP hw hK
    obtain ⟨⟨old, he⟩, hit, hne, hai, hae⟩ := st
    obtain ⟨xs, x, hq, hx⟩ := hg
    obtain ⟨its, rv, p, hz⟩ := I.tuple hq
    have hlt : i < its.toArray.size := by
      have h1 := (List.getElem?_eq_some_iff.mp hx).1
      have h2 := rv.length
      simp only [List.size_toArray]
      omega
    have hel : e < s.heap.objs.size := Heap.lt_size he
    have hil : it < s.heap.objs.size := by
      obtain ⟨_, q, _⟩ := hit
      exact Heap.lt_size q
    refine wpAny_pyNext_enum_itemD (Draws.tuple (prog := X.prog) (w := X.w) (A := X.A.in1) (I.ok.hd hc) it a hai its.toArray) he ⟨hit, p⟩ hlt hne (by simp [hne, Ne.symm hae]) fun u h' tk hu ho hit' hT hsz hk => ?_
    obtain ⟨u', hu', ru'⟩ := rv.get hx
    have eu : u = u' := by
      have z : its[i]? = some u := by simpa using hu
      rw [hu'] at z
      exact (Option.some.inj z).symm
    subst eu
    refine ⟨_, rfl, wpAny_letOwnedTupleGo_enum (s := { s with heap := h', toks := tk + 1 }) ho fun h'' he' sb => ?_⟩
    have hT2 : h''.get? s.heap.objs.size = some { cls := .type "tuple", data := .seq #[.int i tk, u] } := (sb.2 _ (Nat.ne_of_gt hel)).trans hT
    have new : ObjOk X.prog X.w (upd H s.heap.objs.size (.tup [.int (i : Nat), x])) h'' s.heap.objs.size (.tup [.int (i : Nat), x]) :=
      ⟨(by show 2 ≤ sizeLine; decide), [.int i tk, u], .cons ⟨_, rfl⟩ (.cons ru' .nil), ⟨_, hT2, rfl, _, rfl⟩⟩
    have I1 : Inv X pins σ (upd H s.heap.objs.size (.tup [.int (i : Nat), x])) { s with heap := h'', toks := tk + 1 } := by
      refine I.turnedNew (ch := [e, it]) (fun b ob hb q => ?_) hf (Nat.le_refl _) new
      have n1 : b ≠ e := fun z => hb (by simp [z])
      have n2 : b ≠ it := fun z => hb (by simp [z])
      exact (sb.2 b n1).trans (hk b ob n1 n2 q)
    refine ⟨.ref s.heap.objs.size, _, I1, rfl, ⟨_, x, rfl, I.hok.fresh (Nat.le_refl _), rfl, fun ys hy => ?_⟩, ⟨⟨u, ?_⟩, ?_, hne, hai, hae⟩, fun b hb => ?_⟩
    · rw [I.tuple_inj hy hq]
      exact hx
    · have e1 : ((i + 1 : Nat) : Int) = (i : Int) + 1 := by omega
      rw [e1]
      exact he'
    · exact hit'.1.at fun o q => (sb.2 it (Ne.symm hne)).trans q
    · have hb' : b < s.heap.objs.size := by
        have e' : b = e ∨ b = it := by simpa using hb
        rcases e' with z | z <;> (rw [z]; assumption)
      rw [upd_ne (Nat.ne_of_lt hb')]
      exact (hf b hb).1
  done := by
    intro X hP hw hK hc i pins s σ H E I hf st hg
    subst hP hw hK
    obtain ⟨⟨old, he⟩, hit, hne, hai, hae⟩ := st
    obtain ⟨xs, hq, hx⟩ := hg
    obtain ⟨its, rv, p, hz⟩ := I.tuple hq
    obtain ⟨f0, f1, f2, f3, f4, f5⟩ := hf it (by simp)
    have hl := rv.length
    have D0 := Draws.tuple (prog := X.prog) (w := X.w) (A := X.A.in1) (I.ok.hd hc) it a hai its.toArray
    have D : Draws X.prog X.w X.A.in1 it [it, a] i (fun _ _ => True) (fun j h => j = i ∧ h.IsTupleIter it a i ∧ h.IsTuple a its.toArray) := by
      refine ⟨fun _ _ st => ?_, fun _ _ _ st hk => ⟨st.1, st.2.1.at fun o e => hk it (by simp) o e, st.2.2.at fun o e => hk a (by simp) o e⟩, fun j s Q E hj st => ?_, fun s Q E st hE => ?_⟩
      · obtain ⟨_, ⟨o, ho, _⟩, _⟩ := st
        exact ⟨o, ho⟩
      · have := st.1
        omega
      · exact wpAny_nextOf_tuple_end (I.ok.hd hc) st.2.1 st.2.2 (by simp; omega) hE
    exact wpAny_pyNext_enum_endD D he ⟨rfl, hit, p⟩ fun h' eb => ⟨rfl, I.turned (t' := s.toks) (fun b o hb q => eb b o hb q) f0 f1 f3 f4 f5⟩
  self := fun A i s Q E st h => by
    obtain ⟨⟨_, he⟩, _⟩ := st
    exact wpAny_pyIter_enum he h
def IterOk (K : PySem.W.Frag) (J : It) (G : Hp) (xs : List D) : Prop := ∀ G' H', Same G G' → Same G' H' →
  (∀ (i : Nat) x, xs[i]? = some x → J.go i H' ∧ ∀ v H'', J.yld i H' v H'' → ∃ G'', Ext K none G' H' G'' H'' ∧ Rp K G'' v x) ∧ (∀ i : Nat, xs.length ≤ i → J.stop i H')
def evI (X : Cx) (W : WX) (pa : Option Addr) (Γ : List Sl) (m : PM (List D)) : TI := fun σ H R => ∃ G0 H0 G s, Nv X.K pa G0 H0 G H σ Γ s ∧ Pst X.K W X.mg pa σ (fun G' H' xs _ => ∀ J, IterOk X.K J G' xs → R J H') G H (m s)
abbrev EI (X : Cx) (W : WX) (pa : Option Addr) (Γ : List Sl) (tg iter : Expr) (m : PM (List D)) : Prop := PI X tg iter (evI X W pa Γ m)
theorem pi_imp {X : Cx} {tg iter : Expr} {t t' : TI} (h : PI X tg iter t) (i : ∀ σ H Q, t' σ H Q → t σ H Q) : PI X tg iter t' := ⟨fun pins s σ H Q I q => h.run pins s σ H Q I (i σ H Q q)⟩
theorem Ext.any {K : PySem.W.Frag} {pa : Option Addr} {G H G' H' : Hp} (x : Ext K none G H G' H') : Ext K pa G H G' H' := ⟨x.g, fun a o e _ t => x.h a o e (fun z => by cases z) t, x.t, x.n, x.sub, x.tk, x.gt⟩
theorem PenOk.ext {K : PySem.W.Frag} {pa : Option Addr} {G H G' H' : Hp} {s : List Int} (p : PenOk pa G H s) (x : Ext K Option.none G H G' H') : PenOk pa G' H' s := fun q e => by
  obtain ⟨h1, h2⟩ := p q e
  exact ⟨x.n _ _ h2 h1, x.h _ _ h2 (fun z => by cases z)⟩
section
variable {K : PySem.W.Frag} {G : Hp} {vs : List V} {ds : List D} {a : Addr}
theorem iter_list (h : G a = some (.lst vs)) (r : RpL K G vs ds) : IterOk K (Itl K a) G ds := fun G' H' g s => by
  refine ⟨fun i x e => ?_, fun i hi => ⟨vs, SqL.of (s _ _ (g _ _ h)), by rw [r.1]; exact hi⟩⟩
  obtain ⟨v, e', rv⟩ := r.get e
  refine ⟨⟨vs, v, SqL.of (s _ _ (g _ _ h)), e'⟩, fun w H'' y => ?_⟩
  obtain ⟨rfl, y⟩ := y
  have e2 := y vs (SqL.of (s _ _ (g _ _ h)))
  rw [e'] at e2
  cases e2
  exact ⟨G', Ext.refl s, rv.mono g⟩
theorem iter_tup (h : SqT K G a vs) (r : RpL K G vs ds) : IterOk K (Itt K a) G ds := fun G' H' g s => by
  refine ⟨fun i x e => ?_, fun i hi => ⟨vs, sameT s (sameT g h), by rw [r.1]; exact hi⟩⟩
  obtain ⟨v, e', rv⟩ := r.get e
  refine ⟨⟨vs, v, sameT s (sameT g h), e'⟩, fun w H'' y => ?_⟩
  obtain ⟨rfl, y⟩ := y
  have e2 := y vs (sameT s (sameT g h))
  rw [e'] at e2
  cases e2
  exact ⟨G', Ext.refl s, rv.mono g⟩
def pairsFrom : Nat → List D → List D
  | _, [] => []
  | n, x :: r => .tup [.int n, x] :: pairsFrom (n + 1) r
theorem pairsFrom_get : ∀ (xs : List D) (n i : Nat) (y : D), (pairsFrom n xs)[i]? = some y → ∃ x, xs[i]? = some x ∧ y = .tup [.int ((n + i : Nat) : Int), x]
  | [], _, _, _, h => by simp [pairsFrom] at h
  | x :: r, n, 0, y, h => by
    simp [pairsFrom] at h
    exact ⟨x, rfl, h.symm⟩
  | x :: r, n, i + 1, y, h => by
    simp only [pairsFrom, List.getElem?_cons_succ] at h
    obtain ⟨z, h1, h2⟩ := pairsFrom_get r (n + 1) i y h
    refine ⟨z, by simpa using h1, ?_⟩
    rw [h2]
    have : n + 1 + i = n + (i + 1) := by omega
    rw [this]
theorem pairsFrom_len : ∀ (xs : List D) (n : Nat), (pairsFrom n xs).length = xs.length
  | [], _ => rfl
  | x :: r, n => by simp [pairsFrom, pairsFrom_len r]
theorem pairNew {G' H' : Hp} {T : Addr} {u v : V} {d e : D} (s : Same G' H') (nT : H' T = none) (r1 : Rp K G' u d) (r2 : Rp K G' v e) : ∃ G'', Ext K none G' H' G'' (upd H' T (.tup [u, v])) ∧ Rp K G'' (.ref T) (.tup [d, e]) := by
  have x := Ext.new (K := K) (pa := none) s nT (.tup [u, v])
  exact ⟨_, x, .mkT (SqT.of upd_same) (.cons (r1.mono x.g) (.cons (r2.mono x.g) .nil))⟩
theorem iter_enumL (h : G a = some (.lst vs)) (r : RpL K G vs ds) : IterOk K (Ite K a) G (pairsFrom 0 ds) := fun G' H' g s => by
  have hq := SqL.of (K := K) (s _ _ (g _ _ h))
  refine ⟨fun i x e => ?_, fun i hi => ⟨vs, hq, by rw [r.1, ← pairsFrom_len ds 0]; exact hi⟩⟩
  obtain ⟨z, e1, rfl⟩ := pairsFrom_get ds 0 i x e
  obtain ⟨v, e', rv⟩ := r.get e1
  refine ⟨⟨vs, v, hq, e'⟩, fun w H'' y => ?_⟩
  obtain ⟨T, u, rfl, nT, rfl, y⟩ := y
  have e2 := y vs hq
  rw [e'] at e2
  cases e2
  rw [Nat.zero_add]
  exact pairNew s nT (.int _) (rv.mono g)
theorem iter_enumT (h : SqT K G a vs) (r : RpL K G vs ds) : IterOk K (IteT K a) G (pairsFrom 0 ds) := fun G' H' g s => by
  have hq := sameT s (sameT g h)
  refine ⟨fun i x e => ?_, fun i hi => ⟨vs, hq, by rw [r.1, ← pairsFrom_len ds 0]; exact hi⟩⟩
  obtain ⟨z, e1, rfl⟩ := pairsFrom_get ds 0 i x e
  obtain ⟨v, e', rv⟩ := r.get e1
  refine ⟨⟨vs, v, hq, e'⟩, fun w H'' y => ?_⟩
  obtain ⟨T, u, rfl, nT, rfl, y⟩ := y
  have e2 := y vs hq
  rw [e'] at e2
  cases e2
  rw [Nat.zero_add]
  exact pairNew s nT (.int _) (rv.mono g)
def zipT : List D → List D → List D
  | x :: xs, y :: ys => .tup [x, y] :: zipT xs ys
  | _, _ => []
theorem zipT_get : ∀ (xs ys : List D) (i : Nat) (p : D), (zipT xs ys)[i]? = some p → ∃ x y, xs[i]? = some x ∧ ys[i]? = some y ∧ p = .tup [x, y]
  | [], _, _, _, h => by simp [zipT] at h
  | _ :: _, [], _, _, h => by simp [zipT] at h
  | x :: xs, y :: ys, 0, p, h => by
    simp [zipT] at h
    exact ⟨x, y, rfl, rfl, h.symm⟩
  | x :: xs, y :: ys, i + 1, p, h => by
    simp only [zipT, List.getElem?_cons_succ] at h
    obtain ⟨a, b, h1, h2, h3⟩ := zipT_get xs ys i p h
    exact ⟨a, b, by simpa using h1, by simpa using h2, h3⟩
theorem zipT_len : ∀ (xs ys : List D) (i : Nat), (zipT xs ys).length ≤ i → xs.length ≤ i ∨ ys.length ≤ i
  | [], _, _, _ => .inl (Nat.zero_le _)
  | _ :: _, [], _, _ => .inr (Nat.zero_le _)
  | x :: xs, y :: ys, 0, h => by simp [zipT] at h
  | x :: xs, y :: ys, i + 1, h => by
    have := zipT_len xs ys i (by simpa [zipT] using h)
    simpa using this
theorem iter_zipL {b : Addr} {ws : List V} {es : List D} (h : G a = some (.lst vs)) (r : RpL K G vs ds) (h' : G b = some (.lst ws)) (r' : RpL K G ws es) : IterOk K (Itz K a b) G (zipT ds es) := fun G' H' g s => by
  have hq := SqL.of (K := K) (s _ _ (g _ _ h))
  have hq' := SqL.of (K := K) (s _ _ (g _ _ h'))
  refine ⟨fun i x e => ?_, fun i hi => ⟨vs, ws, hq, hq', by rw [r.1, r'.1]; exact zipT_len ds es i hi⟩⟩
  obtain ⟨z1, z2, e1, e2, rfl⟩ := zipT_get ds es i x e
  obtain ⟨v, ev, rv⟩ := r.get e1
  obtain ⟨w, ew, rw'⟩ := r'.get e2
  refine ⟨⟨vs, ws, v, w, hq, hq', ev, ew⟩, fun q H'' y => ?_⟩
  obtain ⟨T, u1, u2, rfl, nT, rfl, y1, y2⟩ := y
  have q1 := y1 vs hq
  have q2 := y2 ws hq'
  rw [ev] at q1
  rw [ew] at q2
  cases q1
  cases q2
  exact pairNew s nT (rv.mono g) (rw'.mono g)
theorem iter_zipT {b : Addr} {ws : List V} {es : List D} (h : SqT K G a vs) (r : RpL K G vs ds) (h' : SqT K G b ws) (r' : RpL K G ws es) : IterOk K (RZ.ItzT K a b) G (zipT ds es) := fun G' H' g s => by
  have hq := sameT s (sameT g h)
  have hq' := sameT s (sameT g h')
  refine ⟨fun i x e => ?_, fun i hi => ⟨vs, ws, hq, hq', by rw [r.1, r'.1]; exact zipT_len ds es i hi⟩⟩
  obtain ⟨z1, z2, e1, e2, rfl⟩ := zipT_get ds es i x e
  obtain ⟨v, ev, rv⟩ := r.get e1
  obtain ⟨w, ew, rw'⟩ := r'.get e2
  refine ⟨⟨vs, ws, v, w, hq, hq', ev, ew⟩, fun q H'' y => ?_⟩
  obtain ⟨T, u1, u2, rfl, nT, rfl, y1, y2⟩ := y
  have q1 := y1 vs hq
  have q2 := y2 ws hq'
  rw [ev] at q1
  rw [ew] at q2
  cases q1
  cases q2
  exact pairNew s nT (rv.mono g) (rw'.mono g)
def rangeL (lo : Int) (n : Nat) : List D := (List.range n).map fun (i : Nat) => D.int (lo + (i : Int))
theorem iter_range {lo : Int} {n : Nat} : IterOk K (Itr lo n) G (rangeL lo n) := fun G' H' g s => by
  refine ⟨fun i x e => ?_, fun i hi => by simpa [rangeL, Itr] using hi⟩
  unfold rangeL at e
  rw [List.getElem?_map] at e
  by_cases hi : i < n
  · rw [List.getElem?_range hi] at e
    cases e
    refine ⟨hi, fun v H'' y => ?_⟩
    obtain ⟨rfl, rfl⟩ := y
    exact ⟨G', Ext.refl s, .int _⟩
  · rw [List.getElem?_eq_none (by simpa using hi)] at e
    cases e
end
section
variable {X : Cx} {W : WX} {pa : Option Addr} {Γ : List Sl} {tg : Expr} {p pos : Pos}
def itemsD : D → PM (List D)
  | .lst xs => pure xs
  | .tup xs => pure xs
  | _ => bad
/-- a list or a tuple -/
theorem pi_seq {l : Expr} {tl : TE} (hl : PE X l tl) : PI X tg l (fun σ H R => tl σ H fun x H1 => ∃ a, x = .ref a ∧ ((∃ xs, SqL X.K H1 a xs ∧ R (Itl X.K a) H1) ∨ (∃ xs, SqT X.K H1 a xs ∧ R (Itt X.K a) H1))) := by
  refine ⟨fun pins s σ H R I h => ?_⟩
  refine thn (hl.run pins s σ H _ I h) fun v s1 ⟨x, H1, I1, r1, a, e, q⟩ => ?_
  subst e
  cases r1
  have fr := fun (b : Addr) (hb : b ∈ [s1.heap.objs.size]) => (by
    have e : b = s1.heap.objs.size := by simpa using hb
    subst e
    exact I1.fpOk (Nat.le_refl _) (I1.hok.fresh (Nat.le_refl _)) : FpOk X pins H1 b)
  rcases q with ⟨xs, hq, q⟩ | ⟨xs, hq, q⟩
  · obtain ⟨its, rv, pl, hz⟩ := I1.list hq
    refine wpAny_pyIter_list pl.isList ?_
    exact ⟨s1.heap.objs.size, [s1.heap.objs.size], _, _, H1, rfl, I1.kept (t' := s1.toks) fun b o e => Heap.get?_push_of_some _ e, turn_list a _, ⟨_, Heap.get?_push_size _ rfl, rfl, rfl⟩, fr, q⟩
  · obtain ⟨its, rv, pl, hz⟩ := I1.tuple hq
    refine wpAny_pyIter_tuple (show s1.heap.IsTuple a its.toArray from pl) ?_
    exact ⟨s1.heap.objs.size, [s1.heap.objs.size], _, _, H1, rfl, I1.kept (t' := s1.toks) fun b o e => Heap.get?_push_of_some _ e, turn_tuple a _, ⟨_, Heap.get?_push_size _ rfl, rfl, rfl⟩, fr, q⟩
theorem ei_seq {l : Expr} {m : PM D} (h : EV X W pa Γ l m) : EI X W pa Γ tg l (m >>= itemsD) := pi_imp (pi_seq h) fun σ H R ⟨G0, H0, G, s, E, P⟩ => ⟨G0, H0, G, s, E, P.bind.imp fun G1 H1 d s1 x1 p1 P1 v r => by
  cases r with
  | lst h n r => exact ⟨_, rfl, .inl ⟨_, SqL.of (x1.sub _ _ h), P1.now x1.sub p1 _ (iter_list h ⟨n, r⟩)⟩⟩
  | tup h n r => exact ⟨_, rfl, .inr ⟨_, sameT x1.sub h, P1.now x1.sub p1 _ (iter_tup h ⟨n, r⟩)⟩⟩
  | _ => exact P1.elim⟩
def rangeF : List D → PM (List D)
  | [.int j] => if -(2 ^ 62) ≤ j ∧ j < 2 ^ 62 then pure (rangeL 0 j.toNat) else bad
  | [.int i, .int j] => if -(2 ^ 62) ≤ i ∧ i < 2 ^ 62 ∧ -(2 ^ 62) ≤ j ∧ j < 2 ^ 62 then pure (rangeL i (j - i).toNat) else bad
  | _ => bad
def rangeF1 : List D → PM (List D)
  | [d] => rangeF [d]
  | _ => bad
theorem ei_range1 {a : Expr} {ml : PM (List D)} (hg : Gl X "range") (hm : X.mg "range" = none) (ha : EL X W pa Γ [a] ml) (hs : starEach [a] X.env = [(false, eval a X.env)] := by rfl) :
    EI X W pa Γ tg (.Call (.Name "range" p) [a] [] pos) (ml >>= rangeF1) := pi_imp (pi_range1 hg hm ha hs) fun σ H R ⟨G0, H0, G, s, E, P⟩ =>
  ⟨G0, H0, G, s, E, P.bind.imp fun G1 H1 ds s1 x1 p1 P1 vs rs => by
    match ds, rs, P1 with
    | [d], rs, P1 =>
      obtain ⟨v, rfl, r⟩ := rp1 rs
      cases r with
      | int j =>
        have P1 : Pst X.K W X.mg pa σ (fun G' H' xs _ => ∀ J, IterOk X.K J G' xs → R J H') G1 H1 ((if -(2 ^ 62) ≤ j ∧ j < 2 ^ 62 then pure (rangeL 0 j.toNat) else bad : PM (List D)) s1) := P1
        split at P1
        · rename_i hj
          exact ⟨j, rfl, hj.1, hj.2, P1.now x1.sub p1 _ iter_range⟩
        · exact P1.elim
      | _ => exact P1.elim
    | [], _, P1 => exact P1.elim
    | _ :: _ :: _, _, P1 => exact P1.elim⟩
def enumF : List D → PM (List D)
  | [.lst xs] => pure (pairsFrom 0 xs)
  | [.tup xs] => pure (pairsFrom 0 xs)
  | _ => bad
theorem pi_enumA {e : Expr} {ta : TA} {tpos : Pos} {elts : List Expr} {kk : Nat} (hg : Gl X "enumerate") (hm : X.mg "enumerate" = none) (ha : PA X [e] ta) (hs : starEach [e] X.env = [(false, eval e X.env)] := by rfl) :
    PI X (.Tuple elts kk tpos) (.Call (.Name "enumerate" p) [e] [] pos) (fun σ H R => ta σ H fun vs H1 => ∃ a xs, vs = [.ref a] ∧ ((SqL X.K H1 a xs ∧ R (Ite X.K a) H1) ∨ (SqT X.K H1 a xs ∧ R (IteT X.K a) H1))) := by
  refine ⟨fun pins s σ H R I h => ?_⟩
  refine Call_ (ld_blt I hg hm boot_enumerate (PyProof.Rows.callWith_type1 (thn (ha.run pos pins s σ H _ I h) fun us s1 ⟨vs, H1, I1, r1, a, xs, ex, q⟩ => ?_) hs rfl))
  subst ex
  cases r1 with
  | cons r rr =>
    cases rr
    cases r
    have fr := fun (b : Addr) (hb : b ∈ [s1.heap.objs.size + 1, s1.heap.objs.size]) => (by
      have e' : b = s1.heap.objs.size + 1 ∨ b = s1.heap.objs.size := by simpa using hb
      have hle : s1.heap.objs.size ≤ b := by
        rcases e' with z | z
        · rw [z]; exact Nat.le_succ _
        · rw [z]; exact Nat.le_refl _
      exact I1.fpOk hle (I1.hok.fresh hle) : FpOk X pins H1 b)
    rcases q with ⟨hq, q⟩ | ⟨hq, q⟩
    · obtain ⟨its, rv, p', hz⟩ := I1.list hq
      refine call_enumerate_list p'.isList fun h' he hit hsz hk => wpAny_pyIter_enum he ?_
      exact ⟨s1.heap.objs.size + 1, [s1.heap.objs.size + 1, s1.heap.objs.size], _, _, H1, rfl, I1.kept (t' := s1.toks) hk, turn_enum a _ _, ⟨⟨.none, he⟩, hit, Nat.succ_ne_self _⟩, fr, q⟩
    · obtain ⟨its, rv, p', hz⟩ := I1.tuple hq
      have hlt : a < s1.heap.objs.size := by
        obtain ⟨o, ho, _⟩ := p'
        exact Heap.lt_size ho
      refine callEnumT (show s1.heap.IsTuple a its.toArray from p') fun h' he hit hk => wpAny_pyIter_enum he ?_
      exact ⟨s1.heap.objs.size + 1, [s1.heap.objs.size + 1, s1.heap.objs.size], _, _, H1, rfl, I1.kept (t' := s1.toks) hk, turnEnumT a _ _, ⟨⟨.none, he⟩, hit, Nat.succ_ne_self _, Nat.ne_of_lt hlt, Nat.ne_of_lt (Nat.lt_succ_of_lt hlt)⟩, fr, q⟩
theorem ei_enum {e : Expr} {ml : PM (List D)} {tpos : Pos} {elts : List Expr} {kk : Nat} (hg : Gl X "enumerate") (hm : X.mg "enumerate" = none) (ha : EL X W pa Γ [e] ml) (hs : starEach [e] X.env = [(false, eval e X.env)] := by rfl) :
    EI X W pa Γ (.Tuple elts kk tpos) (.Call (.Name "enumerate" p) [e] [] pos) (ml >>= enumF) := pi_imp (pi_enumA hg hm ha hs) fun σ H R ⟨G0, H0, G, s, E, P⟩ =>
  ⟨G0, H0, G, s, E, P.bind.imp fun G1 H1 ds s1 x1 p1 P1 vs rs => by
    match ds, rs, P1 with
    | [d], rs, P1 =>
      obtain ⟨v, rfl, r⟩ := rp1 rs
      cases r with
      | lst h n r => exact ⟨_, _, rfl, .inl ⟨SqL.of (x1.sub _ _ h), P1.now x1.sub p1 _ (iter_enumL h ⟨n, r⟩)⟩⟩
      | tup h n r => exact ⟨_, _, rfl, .inr ⟨sameT x1.sub h, P1.now x1.sub p1 _ (iter_enumT h ⟨n, r⟩)⟩⟩
      | _ => exact P1.elim
    | [], _, P1 => exact P1.elim
    | a :: _ :: _, _, P1 => cases a <;> exact P1.elim⟩
def zipF : List D → PM (List D)
  | [a, b] => (match a with
    | .lst xs => (match b with
      | .lst ys => pure (zipT xs ys)
      | _ => bad)
    | .tup xs => (match b with
      | .tup ys => pure (zipT xs ys)
      | _ => bad)
    | _ => bad)
  | _ => bad
theorem ei_zip {e e2 : Expr} {ml : PM (List D)} {tpos : Pos} {elts : List Expr} {kk : Nat} (hg : Gl X "zip") (hm : X.mg "zip" = none) (ha : EL X W pa Γ [e, e2] ml) (hs : starEach [e, e2] X.env = [(false, eval e X.env), (false, eval e2 X.env)] := by rfl)
    (hs2 : starEach [e2] X.env = [(false, eval e2 X.env)] := by rfl) :
    EI X W pa Γ (.Tuple elts kk tpos) (.Call (.Name "zip" p) [e, e2] [] pos) (ml >>= zipF) := pi_imp (RZ.pi_zipA hg hm ha (by rw [hs, hs2]) (by rw [hs2]; rfl)) fun σ H R ⟨G0, H0, G, s, E, P⟩ =>
  ⟨G0, H0, G, s, E, P.bind.imp fun G1 H1 ds s1 x1 p1 P1 vs rs => by
    match ds, rs, P1 with
    | [d, d'], rs, P1 =>
      obtain ⟨v, w, rfl, r, r'⟩ := rp2 rs
      cases r with
      | lst h n r =>
        cases r' with
        | lst h' n' r' => exact ⟨_, _, _, _, rfl, .inl ⟨SqL.of (x1.sub _ _ h), SqL.of (x1.sub _ _ h'), P1.now x1.sub p1 _ (iter_zipL h ⟨n, r⟩ h' ⟨n', r'⟩)⟩⟩
        | _ => exact P1.elim
      | tup h n r =>
        cases r' with
        | tup h' n' r' => exact ⟨_, _, _, _, rfl, .inr ⟨sameT x1.sub h, sameT x1.sub h', P1.now x1.sub p1 _ (iter_zipT h ⟨n, r⟩ h' ⟨n', r'⟩)⟩⟩
        | _ => exact P1.elim
      | _ => exact P1.elim
    | [], _, P1 => exact P1.elim
    | [a], _, P1 => exact P1.elim
    | a :: b :: _ :: _, _, P1 => exact P1.elim⟩
end
end EV
namespace EV
open PySem PySem.Spec PyProof.Rows L2
abbrev W0 : WX := fun _ _ _ _ => False
def noExc {α : Type} (m : PM α) : PM α := fun s => match m s with
  | .ok a s1 => .ok a s1
  | _ => .bad
theorem noExc_pure {α : Type} (a : α) : noExc (pure a : PM α) = pure a := rfl
def compG {ι : Type} (dec : D → Option ι) (mt : ι → PM Bool) (me : ι → PM D) : List D → PM (List D)
  | [] => pure []
  | x :: xs => match dec x with
    | none => bad
    | some z => noExc (mt z) >>= fun b => if b = true then noExc (me z) >>= fun y => compG dec mt me xs >>= fun r => pure (y :: r) else compG dec mt me xs
def compL {ι : Type} (dec : D → Option ι) (mt : ι → PM Bool) (me : ι → PM D) (xs : List D) : PM (List D) := if xs.length ≤ lim then compG dec mt me xs else bad
/-- one name, a pair of names, three -/
def dec1 : D → Option D := some
def dec2 : D → Option (D × D)
  | .tup [a, b] => some (a, b)
  | _ => none
def wipeG (Γ : List Sl) : List Nat → List Sl
  | [] => Γ
  | v :: vs => (wipeG Γ vs).set v .junk
section
variable {K : PySem.W.Frag} {W : WX} {mg : Str → Option Value} {pa : Option Addr} {σ : L2.St} {G0 H0 G H G1 H1 : Hp} {Γ : List Sl} {s : List Int}
theorem Nv.wipe1 (E : Nv K pa G0 H0 G H σ Γ s) (v : Nat) : Nv K pa G0 H0 G H (σ.set v none) (Γ.set v .junk) s where
  len := by simp [E.len]
  val := fun i d e => by
    by_cases hi : v = i
    · subst hi
      have := (List.getElem?_eq_some_iff.mp e).1
      rw [List.getElem?_set_self (by simpa using this)] at e
      cases e
    · rw [List.getElem?_set_ne hi] at e ⊢
      exact E.val i d e
  own := fun i d e => by
    by_cases hi : v = i
    · subst hi
      have := (List.getElem?_eq_some_iff.mp e).1
      rw [List.getElem?_set_self (by simpa using this)] at e
      cases e
    · rw [List.getElem?_set_ne hi] at e ⊢
      exact E.own i d e
  inj := fun i j p xs ys e1 e2 => by
    have n1 : v ≠ i := fun hi => by
      subst hi
      have := (List.getElem?_eq_some_iff.mp e1).1
      rw [List.getElem?_set_self (by simpa using this)] at e1
      cases e1
    have n2 : v ≠ j := fun hi => by
      subst hi
      have := (List.getElem?_eq_some_iff.mp e2).1
      rw [List.getElem?_set_self (by simpa using this)] at e2
      cases e2
    rw [List.getElem?_set_ne n1] at e1 ⊢
    rw [List.getElem?_set_ne n2] at e2 ⊢
    exact E.inj i j p xs ys e1 e2
  pen := fun i e => by
    have n1 : v ≠ i := fun hi => by
      subst hi
      have := (List.getElem?_eq_some_iff.mp e).1
      rw [List.getElem?_set_self (by simpa using this)] at e
      cases e
    rw [List.getElem?_set_ne n1] at e ⊢
    exact E.pen i e
  scr := fun i ns e => by
    have n1 : v ≠ i := fun hi => by
      subst hi
      have := (List.getElem?_eq_some_iff.mp e).1
      rw [List.getElem?_set_self (by simpa using this)] at e
      cases e
    rw [List.getElem?_set_ne n1] at e ⊢
    exact E.scr i ns e
  ps := E.ps
  ext := E.ext
  x := E.x.put v rfl
theorem Nv.wipe (E : Nv K pa G0 H0 G H σ Γ s) : ∀ vs : List Nat, Nv K pa G0 H0 G H (L2.wipe σ vs) (wipeG Γ vs) s
  | [] => E
  | v :: vs => (E.wipe vs).wipe1 v
theorem Pst.bind0 {α β : Type} {F : Hp → Hp → β → List Int → Prop} {m : PM α} {f : α → PM β} {s : List Int} (x : Ext K pa G1 H1 G H) (h : Pst K W mg pa σ F G1 H1 ((m >>= f) s)) : Pst K W mg pa σ (fun _ _ a s' => Pst K W mg pa σ F G1 H1 (f a s')) G H (m s) := by
  rw [PM.bind_def] at h
  cases e : m s with
  | ok a s1 =>
    rw [e] at h
    exact fun _ _ _ _ => h
  | exc z =>
    rw [e] at h
    exact fun cls dx G' H' y q => h cls dx G' H' (x.trans y) q
  | bad => rw [e] at h; exact h
theorem Pst.noExc {α : Type} {W' : WX} {F : Hp → Hp → α → List Int → Prop} {m : PM α} {s : List Int} {σ' : L2.St} (h : Pst K W mg pa σ F G H (noExc m s)) : Pst K W' mg pa σ' F G H (m s) := by
  unfold EV.noExc at h
  cases e : m s with
  | ok a s1 => rw [e] at h; exact h
  | exc z => rw [e] at h; exact h.elim
  | bad => rw [e] at h; exact h.elim
end
/-- the target of a comprehension or of a loop: from an item to what the slots know -/
def TgOk (X : Cx) (pa : Option Addr) {ι : Type} (dec : D → Option ι) (g : TG) (vs : List Nat) (Γ : List Sl) (Γz : ι → List Sl) : Prop :=
  ∀ (G0 H0 G H : Hp) (σ : L2.St) (s : List Int) (v : V) (d : D) (z : ι) (Q : L2.St → Hp → Prop), Nv X.K pa G0 H0 G H σ Γ s → Rp X.K G v d → dec d = some z →
    (∀ σ', Nv X.K pa G0 H0 G H σ' (Γz z) s → L2.wipe σ' vs = L2.wipe σ vs → Q σ' H) → g v σ H Q
theorem wipe_set {σ : L2.St} {i : Nat} {x : Option V} : ∀ {vs : List Nat}, i ∈ vs → L2.wipe (σ.set i x) vs = L2.wipe σ vs
  | v :: vs, h => by
    unfold L2.wipe
    by_cases hv : i ∈ vs
    · rw [wipe_set hv]
    · have e : i = v := by
        rcases List.mem_cons.mp h with z | z
        · exact z
        · exact absurd z hv
      subst e
      clear h
      have step : ∀ us : List Nat, i ∉ us → (L2.wipe (σ.set i x) us) = (L2.wipe σ us).set i x := by
        intro us
        induction us with
        | nil => intro _; rfl
        | cons u us ih =>
          intro hu
          have h1 : u ≠ i := fun z => hu (by simp [z])
          have h2 : i ∉ us := fun z => hu (List.mem_cons_of_mem _ z)
          unfold L2.wipe
          rw [ih h2, List.set_comm _ _ (Ne.symm h1)]
      rw [step vs hv]
      simp
theorem tg_name {X : Cx} {pa : Option Addr} {i : Nat} {Γ : List Sl} {vs : List Nat} (hi : i ∈ vs) : TgOk X pa dec1 (gName i) vs Γ (fun d => Γ.set i (.val d)) := by
  intro G0 H0 G H σ s v d z Q E r e h
  cases e
  exact h _ (E.set i r) (wipe_set hi)
theorem tg_pair {X : Cx} {pa : Option Addr} {i j : Nat} {Γ : List Sl} {vs : List Nat} (hi : i ∈ vs) (hj : j ∈ vs) : TgOk X pa dec2 (gTup X.K 2 (gCons (gName i) (gCons (gName j) gNil))) vs Γ (fun z => (Γ.set i (.val z.1)).set j (.val z.2)) := by
  intro G0 H0 G H σ s v d z Q E r e h
  cases r with
  | tup hq n rr =>
    rename_i vs' ds
    match ds, e, n, rr with
    | [a, b], e, n, rr =>
      cases e
      obtain ⟨x, y, rfl, r1, r2⟩ := rp2 ⟨n, rr⟩
      refine ⟨_, _, rfl, sameT E.sub hq, rfl, x, [y], rfl, y, [], rfl, rfl, ?_⟩
      exact h _ ((E.set i r1).set j r2) (by rw [wipe_set hj, wipe_set hi])
    | [], e, _, _ => cases e
    | [_], e, _, _ => cases e
    | _ :: _ :: _ :: _, e, _, _ => cases e
  | _ => cases e
theorem pt_ex {X : Cx} {ι : Type} {e : Expr} {t : ι → TT} (h : ∀ z, PT X e (t z)) : PT X e (fun σ H Q => ∃ z, t z σ H Q) := ⟨fun pins s σ H Q I ⟨z, q⟩ => (h z).run pins s σ H Q I q⟩
theorem pe_ex {X : Cx} {ι : Type} {e : Expr} {t : ι → TE} (h : ∀ z, PE X e (t z)) : PE X e (fun σ H Q => ∃ z, t z σ H Q) := ⟨fun pins s σ H Q I ⟨z, q⟩ => (h z).run pins s σ H Q I q⟩
theorem pts_ex {X : Cx} {ι : Type} {e : List Expr} {t : ι → TT} (h : ∀ z, PTs X e (t z)) : PTs X e (fun σ H Q => ∃ z, t z σ H Q) := ⟨fun pins s σ H Q I ⟨z, q⟩ => (h z).run pins s σ H Q I q⟩
theorem pts_imp {X : Cx} {e : List Expr} {t t' : TT} (h : PTs X e t) (i : ∀ σ H Q, t' σ H Q → t σ H Q) : PTs X e t' := ⟨fun pins s σ H Q I q => h.run pins s σ H Q I (i σ H Q q)⟩
abbrev ETs (X : Cx) (W : WX) (pa : Option Addr) (Γ : List Sl) (es : List Expr) (m : PM Bool) : Prop := PTs X es (evB X W pa Γ m)
theorem ets_nil {X : Cx} {W : WX} {pa : Option Addr} {Γ : List Sl} : ETs X W pa Γ [] (pure true) := pts_imp pts_nil fun σ H Q ⟨G0, H0, G, s, E, P⟩ => P.now E.sub E.ps
theorem ets_one {X : Cx} {W : WX} {pa : Option Addr} {Γ : List Sl} {e : Expr} {m : PM Bool} (h : EB X W pa Γ e m) : ETs X W pa Γ [e] m := pts_one h
theorem lcCore {X : Cx} {W : WX} {pa : Option Addr} {Γ : List Sl} {ι β : Type} {dec : D → Option ι} {mt : ι → PM Bool} {me : ι → PM D} {g : TG} {vs : List Nat} {Γz : ι → List Sl} {σ : L2.St} {J : It} {xs : List D} {D0 : Addr}
    {G0 H0 G1 H1 : Hp} {s1 : List Int} {F : Hp → Hp → β → List Int → Prop} {cont : List D → PM β} {Qd : Hp → Prop}
    (hg : TgOk X pa dec g vs (wipeG Γ vs) Γz) (E : Nv X.K pa G0 H0 G1 H1 σ Γ s1) (hJ : IterOk X.K J G1 xs) (nD : H1 D0 = none)
    (P : Pst X.K W X.mg pa σ F G1 H1 ((compL dec mt me xs >>= cont) s1))
    (fin : ∀ G H accV accD s', Ext X.K pa G1 H1 G H → PenOk pa G H s' → H D0 = some (.lst accV) → G D0 = none → RpL X.K G accV accD → Pst X.K W X.mg pa σ F G1 H1 (cont accD s') → Qd H) :
    ∃ Wv : Nat → Nat → Hp → Prop, (∃ m, Wv 0 m (upd H1 D0 (.lst []))) ∧ ∀ i m H, Wv i m H →
      (J.stop i H ∧ Qd H) ∨ (J.go i H ∧ ∃ Nx : Hp → Prop, (∀ H', Nx H' → ∃ m', m' < m ∧ Wv (i + 1) m' H') ∧ ∀ x H', J.yld i H x H' → g x (L2.wipe σ vs) H' fun σ2 H2 => L2.wipe σ2 vs = L2.wipe σ vs ∧
        (fun σ H Q => ∃ z, evB X W0 pa (Γz z) (mt z) σ H Q : TT) σ2 H2 fun b H3 =>
          if b = true then (fun σ H Q => ∃ z, evT X W0 pa (Γz z) (me z) σ H Q : TE) σ2 H3 fun y H4 => ∃ acc, H4 D0 = some (.lst acc) ∧ acc.length < sizeLine ∧ Nx (upd H4 D0 (.lst (acc ++ [y]))) else Nx H3) := by
  have hlen : xs.length ≤ lim := by
    by_cases h : xs.length ≤ lim
    · exact h
    · unfold compL at P
      rw [if_neg h] at P
      exact P.elim
  unfold compL at P
  rw [if_pos hlen] at P
  let Wv : Nat → Nat → Hp → Prop := fun i m H => m = xs.length - i ∧ i ≤ xs.length ∧ ∃ G accV accD s', Ext X.K pa G1 H1 G H ∧ PenOk pa G H s' ∧ H D0 = some (.lst accV) ∧ G D0 = none ∧ RpL X.K G accV accD ∧ accD.length ≤ i ∧
    Pst X.K W X.mg pa σ F G1 H1 ((compG dec mt me (xs.drop i) >>= fun r => cont (accD ++ r)) s')
  refine ⟨Wv, ⟨xs.length, by simp, Nat.zero_le _, G1, [], [], s1, Ext.newH E.sub nD _, E.ps.updH nD _, upd_same, E.sub.free nD, .nil, Nat.le_refl _, by simpa using P⟩, ?_⟩
  rintro i m H ⟨rfl, hi, G, accV, accD, s', x1, p1, hD, gD, racc, hacc, P⟩
  by_cases hlt : i < xs.length
  · obtain ⟨x, hx⟩ : ∃ x, xs[i]? = some x := ⟨_, List.getElem?_eq_getElem hlt⟩
    obtain ⟨hgo, hyld⟩ := (hJ G H x1.g x1.sub).1 i x hx
    have hdrop : xs.drop i = x :: xs.drop (i + 1) := by
      rw [List.drop_eq_getElem_cons hlt]
      congr 1
      rw [List.getElem?_eq_getElem hlt] at hx
      exact Option.some.inj hx
    rw [hdrop] at P
    refine .inr ⟨hgo, fun H' => Wv (i + 1) (xs.length - (i + 1)) H', fun H' w => ⟨_, Nat.sub_lt_sub_left (by assumption) (Nat.lt_succ_self i), w⟩, fun v H2 hy => ?_⟩
    obtain ⟨G2, x2, rv⟩ := hyld v H2 hy
    have x2 : Ext X.K pa G H G2 H2 := x2.any
    have hD2 : H2 D0 = some (.lst accV) := (by assumption : Ext X.K none G H G2 H2).h _ _ hD (fun z => by cases z)
    have gD2 : G2 D0 = none := x2.n _ _ hD gD
    have p2 : PenOk pa G2 H2 s' := p1.ext (by assumption)
    have E2 : Nv X.K pa G0 H0 G2 H2 σ Γ s' := E.step (x1.trans x2) p2
    unfold compG at P
    cases hd : dec x with
    | none => rw [hd] at P; exact P.elim
    | some z =>
      rw [hd] at P
      dsimp only at P
      have P : Pst X.K W X.mg pa σ F G1 H1 ((noExc (mt z) >>= fun b => (if b = true then noExc (me z) >>= fun y => compG dec mt me (xs.drop (i + 1)) >>= fun r => pure (y :: r) else compG dec mt me (xs.drop (i + 1))) >>= fun r => cont (accD ++ r)) s') := by
        rw [bind_assoc] at P
        exact P
      refine hg G0 H0 G2 H2 (L2.wipe σ vs) s' v x z _ (E2.wipe vs) rv hd fun σ3 E3 hw => ⟨?_, z, G0, H0, G2, s', E3, ?_⟩
      · have ww : L2.wipe (L2.wipe σ vs) vs = L2.wipe σ vs := by
          have : ∀ us : List Nat, (∀ u ∈ us, u ∈ vs) → L2.wipe (L2.wipe σ us) vs = L2.wipe σ vs := by
            intro us
            induction us with
            | nil => intro _; rfl
            | cons u us ih =>
              intro hu
              show L2.wipe ((L2.wipe σ us).set u none) vs = _
              rw [wipe_set (hu u List.mem_cons_self)]
              exact ih fun w hw => hu w (List.mem_cons_of_mem _ hw)
          exact this vs fun _ h => h
        rw [hw, ww]
      · have Q1 := P.bind0 (x1.trans x2)
        refine (Pst.noExc Q1).imp fun G3 H3 b s3 x3 p3 P3 => ?_
        have hD3 : H3 D0 = some (.lst accV) := x3.h _ _ hD2 (fun z => by
          have := (p1 D0 z).2
          have := p1 D0 z
          have e1 := E.ps D0 z
          rw [e1.2] at nD
          cases nD)
        have gD3 : G3 D0 = none := x3.n _ _ hD2 gD2
        cases b with
        | false =>
          rw [if_neg Bool.false_ne_true] at P3
          show Wv (i + 1) (xs.length - (i + 1)) H3
          exact ⟨rfl, hlt, G3, accV, accD, s3, (x1.trans x2).trans x3, p3, hD3, gD3, racc.mono (x2.g.trans x3.g), by omega, P3⟩
        | true =>
          rw [if_pos rfl] at P3
          rw [bind_assoc] at P3
          show ∃ z, evT X W0 pa (Γz z) (me z) σ3 H3 _
          refine ⟨z, G0, H0, G3, s3, E3.step x3 p3, ?_⟩
          have Q3 := P3.bind0 ((x1.trans x2).trans x3)
          refine (Pst.noExc Q3).imp fun G4 H4 y s4 x4 p4 P4 => fun w rw4 => ?_
          have hD4 : H4 D0 = some (.lst accV) := x4.h _ _ hD3 (fun z => by
            have e1 := E.ps D0 z
            rw [e1.2] at nD
            cases nD)
          have gD4 : G4 D0 = none := x4.n _ _ hD3 gD3
          have xx := ((x1.trans x2).trans x3).trans x4
          have racc4 := racc.mono ((x2.g.trans x3.g).trans x4.g)
          have hl : accV.length < sizeLine := by
            rw [racc.1]
            exact lim_lt (by omega)
          refine ⟨accV, hD4, hl, rfl, hlt, G4, accV ++ [w], accD ++ [y], s4, ?_, ?_, upd_same, gD4, racc4.app (.cons rw4 .nil), by simp; omega, ?_⟩
          · refine ⟨xx.g, fun a o e np nt => ?_, fun a o e => ?_, xx.n, fun a o e => ?_, fun h => (xx.tk h).updL hD4, xx.gt⟩
            · rw [upd_ne (ne_of_none e nD)]
              exact xx.h a o e np nt
            · rw [upd_ne (ne_of_none e nD)]
              exact xx.t a o e
            · have : a ≠ D0 := ne_of_none e gD4
              rw [upd_ne this]
              exact xx.sub a o e
          · intro q e
            obtain ⟨q1, q2⟩ := p4 q e
            have : q ≠ D0 := fun z => by
              rw [z] at e
              have e1 := E.ps D0 e
              rw [e1.2] at nD
              cases nD
            rw [upd_ne this]
            exact ⟨q1, q2⟩
          · rw [bind_assoc] at P4
            have e5 : (fun r => cont (accD ++ [y] ++ r)) = fun r => (pure (y :: r) : PM (List D)) >>= fun r => cont (accD ++ r) := by
              funext r
              rw [pure_bind]
              simp
            rw [e5]
            exact P4
  · have e : i = xs.length := by omega
    subst e
    refine .inl ⟨(hJ G H x1.g x1.sub).2 _ (Nat.le_refl _), fin G H accV accD s' x1 p1 hD gD racc ?_⟩
    rw [List.drop_length] at P
    have P : Pst X.K W X.mg pa σ F G1 H1 (((pure [] : PM (List D)) >>= fun r => cont (accD ++ r)) s') := P
    rw [pure_bind, List.append_nil] at P
    exact P
end EV
namespace EV
open PySem PySem.Spec PyProof.Rows L2
theorem Cok.blk {X : Cx} {W : WX} {k : Nat} (C : Cok X W k) {s : Shared} {H : Hp} {scope : Scope} {cenv : PySem.Env} {fp : List Addr} : Cok (X.blk s H scope cenv fp) W0 k where
  calm := C.calm
  nd := C.nd
  takes := takes0
  room := C.room
  guards := C.guards
  passes := PassesOwn.never
theorem Cok.mono {X : Cx} {W : WX} {j k : Nat} (C : Cok X W k) (h : j ≤ k) : Cok X W j := ⟨C.calm, C.nd, C.takes, C.room.mono h, fun q => C.guards (Nat.le_trans q h), C.passes⟩
/-- the rest after a list that is made: it is public -/
theorem lc_pub {X : Cx} {W : WX} {pa : Option Addr} {σ : L2.St} {G1 H1 : Hp} {D0 : Addr} {Q : VK} {s1 : List Int} (nD : H1 D0 = none) (hs1 : Same G1 H1) (hp1 : PenOk pa G1 H1 s1) (G H : Hp) (accV : List V) (accD : List D) (s' : List Int) (x : Ext X.K pa G1 H1 G H) (p : PenOk pa G H s') (hD : H D0 = some (.lst accV))
    (gD : G D0 = none) (r : RpL X.K G accV accD) (P : Pst X.K W X.mg pa σ (FD X.K Q) G1 H1 ((pure (.lst accD) : PM D) s')) : Q (.ref D0) H := by
  have sg : Same G (upd G D0 (.lst accV)) := fun a o e => by
    rw [upd_ne (ne_of_none e gD)]
    exact e
  have x' : Ext X.K pa G1 H1 (upd G D0 (.lst accV)) H := by
    refine ⟨x.g.trans sg, x.hh, x.t, fun a o e n => ?_, fun a o e => ?_, x.tk, fun h => (x.gt h).upd (nt_lst _)⟩
    · rw [upd_ne (ne_of_none e nD)]
      exact x.n a o e n
    · by_cases h : a = D0
      · subst h
        rw [upd_same] at e
        rw [← e]
        exact hD
      · rw [upd_ne h] at e
        exact x.sub a o e
  refine P _ _ x' (fun q e => ?_) _ (.mkL upd_same (r.mono sg))
  obtain ⟨q1, q2⟩ := p q e
  refine ⟨?_, q2⟩
  rw [upd_ne (ne_of_none (hp1 q e).2 nD)]
  exact q1
section
variable {X : Cx} {W : WX} {pa : Option Addr} {Γ : List Sl} {k : Nat} {pos : Pos} {ι : Type}
theorem lc_read {dec : D → Option ι} {mt : ι → PM Bool} {me : ι → PM D} {mi : PM (List D)} {g : TG} {vs : List Nat} {Γz : ι → List Sl} (hg : TgOk X pa dec g vs (wipeG Γ vs) Γz) (σ : L2.St) (H : Hp) (Q : VK)
    (h : evT X W pa Γ (mi >>= fun xs => compL dec mt me xs >>= fun r => pure (.lst r)) σ H Q) :
    tLc (evI X W pa Γ mi) g (fun σ H Q => ∃ z, evB X W0 pa (Γz z) (mt z) σ H Q) (fun σ H Q => ∃ z, evT X W0 pa (Γz z) (me z) σ H Q) vs σ H Q := by
  obtain ⟨G0, H0, G, s, E, P⟩ := h
  refine ⟨G0, H0, G, s, E, P.bind.imp fun G1 H1 xs s1 x1 p1 P1 J hJ D0 nD => ?_⟩
  exact lcCore hg (E.step x1 p1) hJ nD P1 fun G H accV accD s' x p hD gD r P => lc_pub nD x1.sub p1 G H accV accD s' x p hD gD r P
/-- [elt for tg in iter if ..] -/
theorem ev_lc {elt tg iter : Expr} {ifs : List Expr} {scope : Scope} {own : List (Str × Nat)} {dec : D → Option ι} {mt : ι → PM Bool} {me : ι → PM D} {mi : PM (List D)} {g : TG} {Γz : ι → List Sl} (C : Cok X W k) (hi : EI X W pa Γ tg iter mi) (ok : BlkOk X.N X.env.scope scope own)
    (hg : TgOk X pa dec g (own.map (·.2)) (wipeG Γ (own.map (·.2))) Γz)
    (hp : ∀ (s : Shared) (H : Hp) (C : Addr) (cl : List (Str × Addr)) (fp : List Addr), PG (X.blk s H scope (compEnvC scope cl C X.env) fp) tg g)
    (ht : ∀ (z : ι) (s : Shared) (H : Hp) (C : Addr) (cl : List (Str × Addr)) (fp : List Addr), ETs (X.blk s H scope (compEnvC scope cl C X.env) fp) W0 pa (Γz z) ifs (mt z))
    (he : ∀ (z : ι) (s : Shared) (H : Hp) (C : Addr) (cl : List (Str × Addr)) (fp : List Addr), EV (X.blk s H scope (compEnvC scope cl C X.env) fp) W0 pa (Γz z) elt (me z))
    (hs : ∀ x, foldedSetIterable iter X.env x = pure x := by intro _; rfl) :
    EV X W pa Γ (.ListComp elt [⟨tg, iter, ifs, 0⟩] scope pos) (mi >>= fun xs => compL dec mt me xs >>= fun r => pure (.lst r)) :=
  pe_imp (pe_lc C.calm C.nd hi ok hp (fun s H C cl fp => pts_ex fun z => ht z s H C cl fp) (fun s H C cl fp => pe_ex fun z => he z s H C cl fp) hs) fun σ H Q h => lc_read hg σ H Q h
def tyName : D → String
  | .non => "NoneType"
  | .bl _ => "bool"
  | .int _ => "int"
  | .str _ => "str"
  | .tup _ => "tuple"
  | .lst _ => "list"
  | .dct _ => "dict"
  | .obj _ _ => "object"
  | .cls _ => "type"
theorem Rp.ty {K : PySem.W.Frag} {G H : Hp} {v : V} {d : D} (hs : Same G H) (h : Rp K G v d) (hd : ∀ C fs, d ≠ .obj C fs) (hq : ∀ C, d ≠ .cls C) : TyX K H v (.type (tyName d)) := by
  cases h with
  | obj _ _ _ _ => exact absurd rfl (hd _ _)
  | cls _ => exact absurd rfl (hq _)
  | @dct a sh vs kvs h hk n r =>
    have h := hs _ _ h
    cases sh with
    | t ks => exact .base (.dT h)
    | k ks => exact .base (.dK h)
    | tu m => cases hk
    | tn o m => cases hk
    | ins _ _ _ _ => cases hk
  | non => exact .base .non
  | bl b => exact .base (.bl b)
  | int i => exact .base (.int i)
  | str x => exact .base (.str x)
  | lst h _ _ => exact .base (.lst (hs _ _ h))
  | tup h _ _ =>
    rcases h with (h | ⟨o, h⟩) | ⟨o, its, n, h1, h2, _⟩
    · exact .base (.tup (hs _ _ h))
    · exact .fTuple (hs _ _ h)
    · exact .kTuple h1 h2
/-- one of int, bool, tuple, str, list -/
def isTy (T : String) (d : D) : Bool := tyName d == T || (tyName d == "bool" && T == "int")
def isF (T : String) : D → PM D
  | .obj _ _ => pure (.bl false)
  | .cls _ => bad
  | d => pure (.bl (isTy T d))
theorem kitTable : ∀ a ∈ ["NoneType", "bool", "int", "str", "tuple", "list", "dict"], ∀ T ∈ ["int", "bool", "tuple", "str", "list"], kitB a T = some (a == T || (a == "bool" && T == "int")) := by decide +kernel
theorem kit_isTy (T : String) (hT : T ∈ ["int", "bool", "tuple", "str", "list"]) (d : D) (K : PySem.W.Frag) (h : ∀ c fs, d ≠ .obj c fs) (hq : ∀ c, d ≠ .cls c) : PySem.W.kitOne K (.type (tyName d)) (.type T) = some (isTy T d) := by
  refine kit_ty (kitTable (tyName d) ?_ T hT)
  cases d with
  | obj c fs => exact absurd rfl (h c fs)
  | cls c => exact absurd rfl (hq c)
  | _ => simp [tyName]
theorem ev_isi {e : Expr} {T : String} {x : Str} {m : PM D} {p p2 : Pos} (hT : T ∈ ["int", "bool", "tuple", "str", "list"]) (h : EV X W pa Γ e m) (hg : Gl X "isinstance") (hm : X.mg "isinstance" = none) (hg2 : Gl X x) (hm2 : X.mg x = none) (hv : bootBuiltins x = some (.type T))
    (hn : x ≠ "__name__" := by decide) (hdb : (x == ("__debug__" : Str)) = false := by decide)
    (hs : starEach [e, .Name x p2] X.env = (false, eval e X.env) :: starEach [.Name x p2] X.env := by rfl) (hs2 : starEach [.Name x p2] X.env = (false, eval (.Name x p2) X.env) :: starEach [] X.env := by rfl)
    (hpl : (backTo pos (starEach [.Name x p2] X.env)).any (·.1) = false := by rfl) :
    EV X W pa Γ (.Call (.Name "isinstance" p) [e, .Name x p2] [] pos) (m >>= isF T) := by
  have hb : PE X (.Name x p2) (tC (.ty T)) := pe_bltn hg2 hm2 hv rfl hn hdb
  refine pe_imp (pe_callB call_isi hg hm (by decide +kernel) (pa_cons h (pa_cons hb pa_nil hs2) hs) (by decide) (by decide) hs hpl) fun σ H Q ⟨G0, H0, G, s, E, P⟩ =>
    ⟨G0, H0, G, s, E, P.bind.imp fun G1 H1 d s1 x1 p1 P1 v r => ?_⟩
  by_cases ho : ∃ c fs, d = .obj c fs
  · obtain ⟨c, fs, rfl⟩ := ho
    cases r with
    | @obj a C dx fvs fs h hc hk rr => exact ⟨.ref a, .ty T, _, _, false, rfl, .ty T, .base (.ins (x1.sub _ _ h) hc.cl hc.ha hc.hn hc.htk hc.hm), hc.bt T hT, P1.now x1.sub p1 _ (.bl _)⟩
  · by_cases hq : ∃ c, d = .cls c
    · obtain ⟨c, rfl⟩ := hq
      exact P1.elim
    have e : isF T d = pure (.bl (isTy T d)) := by
      cases d <;> first | rfl | exact absurd ⟨_, _, rfl⟩ ho | exact absurd ⟨_, rfl⟩ hq
    rw [e] at P1
    exact ⟨v, .ty T, _, _, isTy T d, rfl, .ty T, r.ty x1.sub (fun c fs z => ho ⟨c, fs, z⟩) (fun c z => hq ⟨c, z⟩), kit_isTy T hT d X.K (fun c fs z => ho ⟨c, fs, z⟩) (fun c z => hq ⟨c, z⟩), P1.now x1.sub p1 _ (.bl _)⟩
end
/-- a def's promise, where no guard is held around -/
structure FnG (P : Program) (w : World) (K : PySem.W.Frag) (mg : Str → Option Value) (base : Heap) (k : Nat) (f : Addr) (fd : FuncData) (ps : List Str) (sp : Sp) : Prop where
  len : ∀ vs H Q E, sp vs H Q E → vs.length = ps.length
  run : ∀ (A : Around) (outer : List PySem.Env) (s : Shared) (H : Hp) (args : Args) (us : List Value) (vs : List V) (Q : VK) (E : XK), (32 ≤ k → A.guards = some []) → Room k A →
    Env0 P w K mg base A outer s H → BindsTo s fd args (ps.zip us) → Vals vs us → sp vs H Q E → codeAny (model P w) A (.call (.ref f) args) (CR (L2.CX P w) outer P w H s Q E) s
theorem FnG.mono {P : Program} {w : World} {K : PySem.W.Frag} {mg : Str → Option Value} {base : Heap} {j k : Nat} {f : Addr} {fd : FuncData} {ps : List Str} {sp : Sp} (F : FnG P w K mg base j f fd ps sp) (h : j ≤ k) : FnG P w K mg base k f fd ps sp :=
  ⟨F.len, fun A outer s H args us vs Q E hg hr => F.run A outer s H args us vs Q E (fun q => hg (Nat.le_trans q h)) (hr.mono h)⟩
section
variable {X : Cx} {W : WX} {pa : Option Addr} {Γ : List Sl} {k : Nat} {f : Addr} {fd : FuncData} {ps : List Str} {sp : Sp} {ds : List Value} {dvs : List V} {E : L2.St → XK}
/-- as CallSlots' run of a def, for these promises -/
theorem runG {pins : List (Addr × Obj)} {σ : L2.St} {H : Hp} {s : Shared} {Q : VK} {us : List Value} {vs : List V} (C : Cok X W k) (F : FnG X.prog X.w X.K X.mg X.base k f fd ps sp) (hb : Binds X.K fd ps []) (I : Inv X pins σ H s) (r : Vals vs us)
    (h : sp vs H Q (fun cls d H' => W cls d σ H')) : wpAny (model X.prog X.w) X.A (call (.ref f) us) (EP X pins σ Q) X.xe s := by
  have hl : us.length = ps.length := by
    rw [← r.length]
    exact F.len _ _ _ _ h
  have hbd := hb s us I.kIn (by rw [List.append_nil]; exact hl)
  rw [List.append_nil] at hbd
  have key := F.run X.A X.stack s H ⟨us, []⟩ us vs Q _ C.guards C.room I.env0 hbd r h
  refine wpAny_call (codeAny_mono key fun r s' hq => ?_)
  cases r with
  | error e => exact C.takes e s' (XE.of_call I (fun cls d H' q => q) hq)
  | ok fl =>
    cases fl with
    | ret u => exact I.after hq
    | next => exact hq.elim
    | brk => exact hq.elim
    | cont => exact hq.elim
theorem pe_callG {x : Str} {p pos : Pos} {e : Expr} {es : List Expr} {t : TA} (C : Cok X W k) (F : FnG X.prog X.w X.K X.mg X.base k f fd ps sp) (hg : Gl X x) (hm : X.mg x = some (.ref f)) (hk : PySem.W.keepIn X.K (.ref f) = true) (hb : Binds X.K fd ps []) (ha : PA X (e :: es) t)
    (hdb : (x == ("__debug__" : Str)) = false := by decide) (he : starEach (e :: es) X.env = (false, eval e X.env) :: starEach es X.env := by rfl) (hpl : (backTo pos (starEach es X.env)).any (·.1) = false := by rfl) :
    PE X (.Call (.Name x p) (e :: es) [] pos) (fun σ H Q => t σ H fun vs H1 => sp vs H1 Q (fun cls d H' => W cls d σ H')) := by
  refine ⟨fun pins s σ H Q I h => ?_⟩
  have step := fun (us : List Value) (s1 : Shared) (q : AP X pins σ (fun vs H1 => sp vs H1 Q (fun cls d H' => W cls d σ H')) us s1) => (by
    obtain ⟨vs, H1, I1, r, q⟩ := q
    exact ⟨I1.kIn, runG C F hb I1 r q⟩ : X.K.In s1.heap ∧ wpAny (model X.prog X.w) X.A (call (.ref f) us) (EP X pins σ Q) X.xe s1)
  exact wpAny_Call_Name_kw (ld_glob I hg hm (PySem.W.callWith_K (h₀ := X.base) I.ok.mod.kin hk (thn (ha.run pos pins s σ H _ I h) step) he hpl) hdb)
theorem pe_callG0 {x : Str} {p pos : Pos} (C : Cok X W k) (F : FnG X.prog X.w X.K X.mg X.base k f fd ps sp) (hg : Gl X x) (hm : X.mg x = some (.ref f)) (hk : PySem.W.keepIn X.K (.ref f) = true) (hb : Binds X.K fd ps []) (hdb : (x == ("__debug__" : Str)) = false := by decide) :
    PE X (.Call (.Name x p) [] [] pos) (fun σ H Q => sp [] H Q (fun cls d H' => W cls d σ H')) := by
  refine ⟨fun pins s σ H Q I h => ?_⟩
  refine wpAny_Call_Name_kw (ld_glob I hg hm ?_ hdb)
  exact PySem.W.callWith_K0 I.kIn hk (runG (us := []) C F hb I .nil h)
end
end EV
namespace EV
open PySem PySem.Spec PyProof.Rows L2
def fn0 (g : PM D) : List D → PM D
  | [] => g
  | _ => bad
def fn1 (g : D → PM D) : List D → PM D
  | [a] => g a
  | _ => bad
def fn2 (g : D → D → PM D) : List D → PM D
  | [a, b] => g a b
  | _ => bad
def fn3 (g : D → D → D → PM D) : List D → PM D
  | [a, b, c] => g a b c
  | _ => bad
def fn4 (g : D → D → D → D → PM D) : List D → PM D
  | [a, b, c, d] => g a b c d
  | _ => bad
def Arity (n : Nat) (f : List D → PM D) : Prop := ∀ ds s, ds.length ≠ n → f ds s = .bad
theorem ar0 {g} : Arity 0 (fn0 g) := fun ds s h => by
  match ds, h with
  | [], h => exact absurd rfl h
  | _ :: _, _ => rfl
theorem ar1 {g} : Arity 1 (fn1 g) := fun ds s h => by
  match ds, h with
  | [_], h => exact absurd rfl h
  | [], _ => rfl
  | _ :: _ :: _, _ => rfl
theorem ar2 {g} : Arity 2 (fn2 g) := fun ds s h => by
  match ds, h with
  | [_, _], h => exact absurd rfl h
  | [], _ => rfl
  | [_], _ => rfl
  | _ :: _ :: _ :: _, _ => rfl
theorem ar3 {g} : Arity 3 (fn3 g) := fun ds s h => by
  match ds, h with
  | [_, _, _], h => exact absurd rfl h
  | [], _ => rfl
  | [_], _ => rfl
  | [_, _], _ => rfl
  | _ :: _ :: _ :: _ :: _, _ => rfl
theorem ar4 {g} : Arity 4 (fn4 g) := fun ds s h => by
  match ds, h with
  | [_, _, _, _], h => exact absurd rfl h
  | [], _ => rfl
  | [_], _ => rfl
  | [_, _], _ => rfl
  | [_, _, _], _ => rfl
  | _ :: _ :: _ :: _ :: _ :: _, _ => rfl
/-- what a def with a pen (pn) or without makes of its arguments -/
def spF (K : PySem.W.Frag) (mg : Str → Option Value) (pn : Bool) (n : Nat) (f : List D → PM D) : Sp := fun vs H Q E => ∃ (pa : Option Addr) (G : Hp) (s : List Int) (vs' : List V) (ds : List D),
  pa.isSome = pn ∧ vs = pa.toList.map V.ref ++ vs' ∧ (Same G H ∧ TabK K H ∧ NoT G) ∧ PenOk pa G H s ∧ RpL K G vs' ds ∧ ds.length = n ∧
    Pst K (fun cls dx _ H' => E cls dx H') mg pa [] (FD K Q) G H (f ds s)
section
variable {X : Cx} {W : WX} {pa : Option Addr} {Γ : List Sl} {k : Nat} {f : Addr} {fd : FuncData} {ps : List Str} {n : Nat} {F : List D → PM D} {x : Str} {p pos : Pos}
theorem pst_run0 {K : PySem.W.Frag} {mg : Str → Option Value} {σ : L2.St} {G H : Hp} {s : List Int} {Q : VK} {m : PM D} (hp : PenOk pa G H s) (hP : Pst K W mg pa σ (FD K Q) G H (run0 m s)) : Pst K (fun cls dx _ H' => W cls dx σ H') mg none [] (FD K Q) G H (m []) := by
  unfold run0 at hP
  cases e : m [] with
  | ok a s1 =>
    rw [e] at hP
    exact fun G' H' y _ => hP G' H' y.any (hp.ext y)
  | exc z =>
    rw [e] at hP
    exact fun cls dx G' H' y q => hP cls dx G' H' y.any q
  | bad => rw [e] at hP; exact hP.elim
theorem run0_len {m : List D → PM D} (ar : Arity n m) {ds : List D} {K : PySem.W.Frag} {mg : Str → Option Value} {σ : L2.St} {G H : Hp} {s : List Int} {Q : VK} (hP : Pst K W mg pa σ (FD K Q) G H (run0 (m ds) s)) : ds.length = n := by
  by_cases h : ds.length = n
  · exact h
  · unfold run0 at hP
    rw [ar ds [] h] at hP
    exact hP.elim
/-- f(e, ..), a def without a pen -/
theorem ev_call {e : Expr} {es : List Expr} {ml : PM (List D)} (C : Cok X W k) (FG : FnG X.prog X.w X.K X.mg X.base k f fd ps (spF X.K X.mg false n F)) (ar : Arity n F) (hg : Gl X x) (hm : X.mg x = some (.ref f)) (hk : PySem.W.keepIn X.K (.ref f) = true) (hb : Binds X.K fd ps [])
    (ha : EL X W pa Γ (e :: es) ml) (hdb : (x == ("__debug__" : Str)) = false := by decide) (he : starEach (e :: es) X.env = (false, eval e X.env) :: starEach es X.env := by rfl) (hpl : (backTo pos (starEach es X.env)).any (·.1) = false := by rfl) :
    EV X W pa Γ (.Call (.Name x p) (e :: es) [] pos) (ml >>= fun ds => run0 (F ds)) :=
  pe_imp (pe_callG C FG hg hm hk hb ha hdb he hpl) fun σ H Q ⟨G0, H0, G, s, E, P⟩ => ⟨G0, H0, G, s, E, P.bind.imp fun G1 H1 ds s1 x1 p1 P1 vs r =>
    ⟨none, G1, [], vs, ds, rfl, rfl, ⟨x1.sub, x1.tk E.tk, x1.gt E.x.nt⟩, PenOk.none, r, run0_len ar P1, pst_run0 p1 P1⟩⟩
theorem ev_call0 (C : Cok X W k) (FG : FnG X.prog X.w X.K X.mg X.base k f fd ps (spF X.K X.mg false n F)) (ar : Arity n F) (hg : Gl X x) (hm : X.mg x = some (.ref f)) (hk : PySem.W.keepIn X.K (.ref f) = true) (hb : Binds X.K fd ps [])
    (hdb : (x == ("__debug__" : Str)) = false := by decide) : EV X W pa Γ (.Call (.Name x p) [] [] pos) (run0 (F [])) :=
  pe_imp (pe_callG0 C FG hg hm hk hb hdb) fun σ H Q ⟨G0, H0, G, s, E, P⟩ =>
    ⟨none, G, [], [], [], rfl, rfl, ⟨E.sub, E.tk, E.x.nt⟩, PenOk.none, .nil, run0_len ar P, pst_run0 E.ps P⟩
/-- f(pen, e, ..), a def with the pen -/
theorem ev_callP {q : Addr} {i : Nat} {y : Str} {p2 : Pos} {es : List Expr} {ml : PM (List D)} (C : Cok X W k) (FG : FnG X.prog X.w X.K X.mg X.base k f fd ps (spF X.K X.mg true n F)) (ar : Arity n F) (hg : Gl X x) (hm : X.mg x = some (.ref f)) (hk : PySem.W.keepIn X.K (.ref f) = true) (hb : Binds X.K fd ps [])
    (hΓ : Γ[i]? = some .pen) (hN : X.N[i]? = some y) (hv : Vis X.env.scope y) (ha : EL X W (some q) Γ es ml) (hdb : (x == ("__debug__" : Str)) = false := by decide)
    (he : starEach (.Name y p2 :: es) X.env = (false, eval (.Name y p2) X.env) :: starEach es X.env := by rfl) (hpl : (backTo pos (starEach es X.env)).any (·.1) = false := by rfl)
    (hd : (y == ("__debug__" : Str)) = false := by decide) (hcd : (y == ("__classdict__" : Str)) = false := by decide) :
    EV X W (some q) Γ (.Call (.Name x p) (.Name y p2 :: es) [] pos) (ml >>= F) :=
  pe_imp (pe_callG C FG hg hm hk hb (pa_cons (pe_var hN hv hd hcd) ha he) hdb he hpl) fun σ H Q ⟨G0, H0, G, s, E, P⟩ => by
    obtain ⟨q', e1, e2⟩ := E.pen i hΓ
    cases e1
    refine ⟨.ref q, e2, G0, H0, G, s, E, P.bind.imp fun G1 H1 ds s1 x1 p1 P1 vs r => ?_⟩
    refine ⟨some q, G1, s1, vs, ds, rfl, rfl, ⟨x1.sub, x1.tk E.tk, x1.gt E.x.nt⟩, p1, r, ?_, ?_⟩
    · by_cases h : ds.length = n
      · exact h
      · rw [ar ds s1 h] at P1
        exact P1.elim
    · cases e : F ds s1 with
      | ok a s2 => rw [e] at P1; exact P1
      | exc z => rw [e] at P1; exact P1
      | bad => rw [e] at P1; exact P1.elim
end
inductive Out where
  | fall (Γ : List Sl) | ret (d : D) | brk (Γ : List Sl) | cnt (Γ : List Sl) | retG (d : D) (Γ : List Sl) | retP (P : Hp → V → Prop) | retO (xs : List D)
def SPost (K : PySem.W.Frag) (W : WX) (mg : Str → Option Value) (pa : Option Addr) (G0 H0 : Hp) (Dn : Ends) : R Out → Prop
  | .ok (.fall Γ') s => ∀ σ' G' H', Nv K pa G0 H0 G' H' σ' Γ' s → Dn.nx σ' H'
  | .ok (.ret d) s => ∀ v G' H', Ext K pa G0 H0 G' H' → PenOk pa G' H' s → Rp K G' v d → Dn.rt v H'
  | .ok (.brk Γ') s => ∀ σ' G' H', Nv K pa G0 H0 G' H' σ' Γ' s → Dn.bk σ' H'
  | .ok (.cnt Γ') s => ∀ σ' G' H', Nv K pa G0 H0 G' H' σ' Γ' s → Dn.ct σ' H'
  | .ok (.retG d Γ') s => ∀ v σ' G' H', Nv K pa G0 H0 G' H' σ' Γ' s → Rp K G' v d → Dn.rt v H'
  | .ok (.retP P) s => ∀ v G' H', Ext K pa G0 H0 G' H' → PenOk pa G' H' s → P G' v → Dn.rt v H'
  | .ok (.retO xs) s => ∀ p us G' H', Ext K pa G0 H0 G' H' → PenOk pa G' H' s → H0 p = none → G' p = none → H' p = some (.lst us) → RpL K G' us xs → Dn.rt (.ref p) H'
  | .exc e => ∀ cls dx σ' G' H', Ext K pa G0 H0 G' H' → ExcIs K mg G' H' e cls dx → W cls dx σ' H'
  | .bad => False
def svT (X : Cx) (W : WX) (pa : Option Addr) (Γ : List Sl) (m : PM Out) : TS := fun Dn σ H => ∃ G0 H0 G s, Nv X.K pa G0 H0 G H σ Γ s ∧ SPost X.K W X.mg pa G0 H0 Dn (m s)
/-- a block, its outcome m read by out -/
def SV (X : Cx) (W : WX) (pa : Option Addr) (Γ : List Sl) {α : Type} (out : α → Out) (sts : List Stmt) (m : PM α) : Prop := PSs X sts (svT X W pa Γ (m >>= fun a => pure (out a)))
section
variable {K : PySem.W.Frag} {W : WX} {mg : Str → Option Value} {pa : Option Addr} {G0 H0 G H : Hp} {Dn : Ends} {σ : L2.St} {Γ : List Sl} {s : List Int}
theorem SPost.bind {α : Type} {m : PM α} {f : α → PM Out} (E : Nv K pa G0 H0 G H σ Γ s) (h : SPost K W mg pa G0 H0 Dn ((m >>= f) s)) : Pst K W mg pa σ (fun _ _ a s' => SPost K W mg pa G0 H0 Dn (f a s')) G H (m s) := by
  rw [PM.bind_def] at h
  cases e : m s with
  | ok a s1 =>
    rw [e] at h
    exact fun _ _ _ _ => h
  | exc z =>
    rw [e] at h
    exact fun cls dx G' H' y q => h cls dx σ G' H' (E.ext.trans y) q
  | bad => rw [e] at h; exact h
end
theorem pss_imp {X : Cx} {sts : List Stmt} {t t' : TS} (h : PSs X sts t) (i : ∀ Dn σ H, t' Dn σ H → t Dn σ H) : PSs X sts t' := ⟨fun pins s σ H D I q => h.run pins s σ H D I (i D σ H q)⟩
theorem pss_ex {X : Cx} {ι : Type} {sts : List Stmt} {t : ι → TS} (h : ∀ z, PSs X sts (t z)) : PSs X sts (fun D σ H => ∃ z, t z D σ H) := ⟨fun pins s σ H D I ⟨z, q⟩ => (h z).run pins s σ H D I q⟩
section
variable {X : Cx} {W : WX} {pa : Option Addr} {Γ Γ' : List Sl} {k : Nat} {pos : Pos} {α β : Type} {out : α → Out} {rest : List Stmt}
/-- the block's end -/
theorem sv_nil {a : α} (h : out a = .fall Γ') (w : Weak Γ Γ') : SV X W pa Γ out [] (pure a) := by
  unfold SV
  rw [pure_bind, h]
  exact pss_imp pss_nil fun Dn σ H ⟨G0, H0, G, s, E, P⟩ => P σ G H (E.weak w)
/-- x = e -/
theorem sv_set (i : Nat) {x : Str} {e : Expr} {pos' : Pos} {me : PM D} {kk : D → PM α} (hN : X.N.Nodup) (he : EV X W pa Γ e me) (hr : ∀ d, SV X W pa (Γ.set i (.val d)) out rest (kk d)) (hi : X.N[i]? = some x := by rfl) (hx : Loc X.env.scope x := by first | exact Or.inl rfl | exact Or.inr rfl)
    (hs : swapsWith e (some (.Name x pos')) pos.line X.env = pure false := by rfl) (hf : X.fn x = true ∨ X.env.scope.names.lookup x = some .local := by first | exact .inl rfl | exact .inr rfl) :
    SV X W pa Γ out (.Assign [.Name x pos'] e pos :: rest) (me >>= kk) := by
  unfold SV
  rw [bind_assoc]
  exact pss_imp (pss_cons (ps_set (i := i) hN hi hx he hs hf) (pss_ex hr)) fun Dn σ H ⟨G0, H0, G, s, E, P⟩ =>
    ⟨G0, H0, G, s, E, (P.bind E).imp fun G1 H1 d s1 x1 p1 P1 v r => ⟨d, G0, H0, G1, s1, (E.step x1 p1).set i r, P1⟩⟩
/-- return e -/
theorem sv_ret {e : Expr} {me : PM D} {inj : D → α} (hi : ∀ d, out (inj d) = .ret d) (he : EV X W pa Γ e me) : SV X W pa Γ out (.Return (some e) pos :: rest) (me >>= fun d => pure (inj d)) := by
  unfold SV
  rw [bind_assoc]
  refine pss_imp (pss_cons (ps_ret he) (pss_never (sts := rest))) fun Dn σ H ⟨G0, H0, G, s, E, P⟩ => ⟨G0, H0, G, s, E, (P.bind E).imp fun G1 H1 d s1 x1 p1 P1 v r => ?_⟩
  rw [pure_bind, hi] at P1
  exact P1 v G1 H1 (E.ext.trans x1) p1 r
/-- an expression alone -/
theorem sv_expr {e : Expr} {me : PM D} {kk : PM α} (he : EV X W pa Γ e me) (hr : SV X W pa Γ out rest kk) (hs : swapsWith e none pos.line X.env = pure false := by rfl) : SV X W pa Γ out (.Expr e pos :: rest) (me >>= fun _ => kk) := by
  unfold SV
  rw [bind_assoc]
  exact pss_imp (pss_cons (ps_expr he hs) hr) fun Dn σ H ⟨G0, H0, G, s, E, P⟩ => ⟨G0, H0, G, s, E, (P.bind E).imp fun G1 H1 d s1 x1 p1 P1 v r => ⟨G0, H0, G1, s1, E.step x1 p1, P1⟩⟩
/-- if c: .. that leaves the block by return; then the rest -/
theorem sv_ifR {c : Expr} {A : List Stmt} {mc : PM Bool} {mA kk : PM α} (hc : EB X W pa Γ c mc) (hA : SV X W pa Γ out A mA) (hn : ∀ a s s' Γ', mA s = .ok a s' → out a ≠ .fall Γ') (hr : SV X W pa Γ out rest kk) :
    SV X W pa Γ out (.If c A [] pos :: rest) (mc >>= fun b => if b = true then mA else kk) := by
  unfold SV
  rw [bind_assoc]
  refine pss_imp (pss_cons (ps_if hc hA pss_nil) hr) fun Dn σ H ⟨G0, H0, G, s, E, P⟩ => ⟨G0, H0, G, s, E, (P.bind E).imp fun G1 H1 b s1 x1 p1 P1 => ?_⟩
  cases b with
  | false => exact (show svT X W pa Γ (kk >>= fun a => pure (out a)) Dn σ H1 from ⟨G0, H0, G1, s1, E.step x1 p1, P1⟩)
  | true =>
    refine (show svT X W pa Γ (mA >>= fun a => pure (out a)) _ σ H1 from ⟨G0, H0, G1, s1, E.step x1 p1, ?_⟩)
    have P1 : SPost X.K W X.mg pa G0 H0 Dn ((mA >>= fun a => pure (out a)) s1) := P1
    rw [PM.bind_def] at P1 ⊢
    cases e : mA s1 with
    | ok a s2 =>
      rw [e] at P1
      have h := hn a s1 s2
      show SPost X.K W X.mg pa G0 H0 _ (.ok (out a) s2)
      have P1 : SPost X.K W X.mg pa G0 H0 Dn (.ok (out a) s2) := P1
      cases q : out a with
      | fall Γ' => exact absurd q (h Γ' e)
      | ret d => rw [q] at P1; exact P1
      | brk Γ' => rw [q] at P1; exact P1
      | cnt Γ' => rw [q] at P1; exact P1
      | retG d Γ' => rw [q] at P1; exact P1
      | retP _ => rw [q] at P1; exact P1
      | retO _ => rw [q] at P1; exact P1
    | exc z => rw [e] at P1; exact P1
    | bad => rw [e] at P1; exact P1.elim
/-- if c: A else: B, both fall into the rest; a tells what they changed -/
theorem sv_ifJ {c : Expr} {A B : List Stmt} {mc : PM Bool} {mA mB : PM β} {mk : β → List Sl} {kk : β → PM α} (hc : EB X W pa Γ c mc) (hA : SV X W pa Γ (fun b => Out.fall (mk b)) A mA) (hB : SV X W pa Γ (fun b => Out.fall (mk b)) B mB)
    (hr : ∀ b, SV X W pa (mk b) out rest (kk b)) : SV X W pa Γ out (.If c A B pos :: rest) (mc >>= fun b => (if b = true then mA else mB) >>= kk) := by
  unfold SV
  rw [bind_assoc]
  refine pss_imp (pss_cons (ps_if hc hA hB) (pss_ex hr)) fun Dn σ H ⟨G0, H0, G, s, E, P⟩ => ⟨G0, H0, G, s, E, (P.bind E).imp fun G1 H1 b s1 x1 p1 P1 => ?_⟩
  have go : ∀ m : PM β, SPost X.K W X.mg pa G0 H0 Dn (((m >>= kk) >>= fun a => pure (out a)) s1) →
      svT X W pa Γ (m >>= fun b => pure (Out.fall (mk b))) { Dn with nx := fun σ H => ∃ z, svT X W pa (mk z) (kk z >>= fun a => pure (out a)) Dn σ H } σ H1 := fun m P => by
    refine ⟨G0, H0, G1, s1, E.step x1 p1, ?_⟩
    rw [bind_assoc, PM.bind_def] at P
    rw [PM.bind_def]
    cases e : m s1 with
    | ok a s2 =>
      rw [e] at P
      exact fun σ' G' H' E' => ⟨a, G0, H0, G', s2, E', P⟩
    | exc z => rw [e] at P; exact P
    | bad => rw [e] at P; exact P.elim
  cases b with
  | false => exact go mB P1
  | true => exact go mA P1
end
end EV
namespace EV
open PySem PySem.Spec PyProof.Rows L2
def NF {α : Type} (out : α → Out) (m : PM α) : Prop := ∀ a s s' Γ', m s = .ok a s' → out a ≠ .fall Γ'
theorem nf_ret {α : Type} {out : α → Out} {inj : D → α} {m : PM D} (h : ∀ d, out (inj d) = .ret d) : NF out (m >>= fun d => pure (inj d)) := fun a s s' Γ' e q => by
  rw [PM.bind_def] at e
  cases h1 : m s with
  | ok d s1 =>
    rw [h1] at e
    cases e
    rw [h] at q
    cases q
  | exc z => rw [h1] at e; cases e
  | bad => rw [h1] at e; cases e
theorem nf_bad {α : Type} {out : α → Out} : NF out (bad : PM α) := fun a s s' Γ' e => by cases e
theorem nf_bind {α β : Type} {out : α → Out} {m : PM β} {f : β → PM α} (h : ∀ b, NF out (f b)) : NF out (m >>= f) := fun a s s' Γ' e => by
  rw [PM.bind_def] at e
  cases h1 : m s with
  | ok d s1 => rw [h1] at e; exact h d a s1 s' Γ' e
  | exc z => rw [h1] at e; cases e
  | bad => rw [h1] at e; cases e
theorem nf_ite {α : Type} {out : α → Out} {c : Prop} [Decidable c] {m n : PM α} (h : NF out m) (h' : NF out n) : NF out (if c then m else n) := by
  split <;> assumption
section
variable {K : PySem.W.Frag} {W : WX} {mg : Str → Option Value} {pa : Option Addr} {G0 H0 G1 H1 G H : Hp} {σ : L2.St} {Γ : List Sl} {s : List Int}
theorem Ext.base (x : Ext K pa G0 H0 G1 H1) : Ext K pa G1 H0 G1 H1 := ⟨Same.refl _, x.hh, x.t, fun a o e n => n, x.sub, x.tk, fun h => h⟩
theorem Ext.back (x : Ext K pa G0 H0 G1 H1) (y : Ext K pa G1 H0 G H) : Ext K pa G0 H0 G H := ⟨x.g.trans y.g, y.hh, y.t, fun a o e n => y.n a o e (x.n a o e n), y.sub, y.tk, fun h => y.gt (x.gt h)⟩
theorem Nv.base (E : Nv K pa G0 H0 G1 H1 σ Γ s) : Nv K pa G1 H0 G1 H1 σ Γ s := ⟨E.len, E.val, E.own, E.inj, E.pen, E.scr, E.ps, E.ext.base, E.x⟩
theorem Nv.back (x : Ext K pa G0 H0 G1 H1) (E : Nv K pa G1 H0 G H σ Γ s) : Nv K pa G0 H0 G H σ Γ s := ⟨E.len, E.val, E.own, E.inj, E.pen, E.scr, E.ps, x.back E.ext, E.x⟩
theorem SPost.base {Dn : Ends} {r : R Out} (x : Ext K pa G0 H0 G1 H1) (h : SPost K W mg pa G0 H0 Dn r) : SPost K W mg pa G1 H0 Dn r := by
  cases r with
  | ok o s =>
    cases o with
    | fall Γ' => exact fun σ' G' H' E => h σ' G' H' (E.back x)
    | ret d => exact fun v G' H' y p r => h v G' H' (x.back y) p r
    | brk Γ' => exact fun σ' G' H' E => h σ' G' H' (E.back x)
    | cnt Γ' => exact fun σ' G' H' E => h σ' G' H' (E.back x)
    | retG d Γ' => exact fun v σ' G' H' E r => h v σ' G' H' (E.back x) r
    | retP _ => exact fun v G' H' y p r => h v G' H' (x.back y) p r
    | retO _ => exact fun p us G' H' y pp a b c r => h p us G' H' (x.back y) pp a b c r
  | exc e => exact fun cls dx σ' G' H' y q => h cls dx σ' G' H' (x.back y) q
  | bad => exact h
end
inductive Lp (C : Type) where
  | go (c : C) | ret (d : D)
def forS {ι C : Type} (dec : D → Option ι) (mb : C → ι → PM C) : List D → C → PM C
  | [], c => pure c
  | x :: xs, c => match dec x with
    | none => bad
    | some z => mb c z >>= forS dec mb xs
def forL {ι C : Type} (dec : D → Option ι) (mb : C → ι → PM (Lp C)) : List D → C → PM (Lp C)
  | [], c => pure (.go c)
  | x :: xs, c => match dec x with
    | none => bad
    | some z => mb c z >>= fun r => match r with
      | .go c' => forL dec mb xs c'
      | .ret d => pure (.ret d)
def lpOut {C : Type} (mk : C → List Sl) : Lp C → Out
  | .go c => .fall (mk c)
  | .ret d => .ret d
def lpK {C α : Type} (inj : D → α) (kk : C → PM α) : Lp C → PM α
  | .go c => kk c
  | .ret d => pure (inj d)
section
variable {X : Cx} {W : WX} {pa : Option Addr} {Γ : List Sl} {k : Nat} {pos : Pos} {α : Type} {out : α → Out} {rest : List Stmt} {ι C : Type} {dec : D → Option ι} {tg iter : Expr} {body : List Stmt} {g : TG} {vs : List Nat} {mk : C → List Sl} {Γz : C → ι → List Sl} {mi : PM (List D)} {c0 : C}
theorem sv_forL {mb : C → ι → PM (Lp C)} {kk : C → PM α} {inj : D → α} (Cx : Cok X W k) (hi : EI X W pa Γ tg iter mi) (hp : PG X tg g) (hg : ∀ c, TgOk X pa dec g vs (mk c) (Γz c)) (w : Weak Γ (mk c0)) (hj : ∀ d, out (inj d) = .ret d)
    (hb : ∀ c z, SV X W pa (Γz c z) (lpOut mk) body (mb c z)) (hr : ∀ c, SV X W pa (mk c) out rest (kk c)) (hs : ∀ x, foldedSetIterable iter X.env x = pure x := by intro _; rfl) :
    SV X W pa Γ out (.For tg iter body [] pos :: rest) (mi >>= fun xs => forL dec mb xs c0 >>= lpK inj kk) := by
  have hbody : PSs X body (fun D σ H => ∃ p : C × ι, svT X W pa (Γz p.1 p.2) (mb p.1 p.2 >>= fun a => pure (lpOut mk a)) D σ H) := pss_ex (ι := C × ι) fun p => hb p.1 p.2
  unfold SV
  rw [bind_assoc]
  refine pss_imp (pss_cons (ps_for Cx.passes Cx.calm hi hp hbody hs) (pss_ex hr)) fun Dn σ H ⟨G0, H0, G, s, E, P⟩ => ⟨G0, H0, G, s, E, (P.bind E).imp fun G1 H1 xs s1 x1 p1 P1 J hJ => ?_⟩
  have E1 := (E.step x1 p1).weak w
  have P1 : SPost X.K W X.mg pa G1 H0 Dn (((forL dec mb xs c0 >>= lpK inj kk) >>= fun a => pure (out a)) s1) := P1.base E1.ext
  have E1b : Nv X.K pa G1 H0 G1 H1 σ (mk c0) s1 := E1.base
  refine ⟨fun i m σ H => m = xs.length - i ∧ i ≤ xs.length ∧ ∃ G c s', Nv X.K pa G1 H0 G H σ (mk c) s' ∧ SPost X.K W X.mg pa G1 H0 Dn (((forL dec mb (xs.drop i) c >>= lpK inj kk) >>= fun a => pure (out a)) s'),
    ⟨xs.length, by simp, Nat.zero_le _, G1, c0, s1, E1b, by simpa using P1⟩, ?_⟩
  rintro i m σ2 H2 ⟨rfl, hi', G2, c, s2, E2, P2⟩
  have jk := hJ G2 H2 E2.ext.g E2.sub
  by_cases hlt : i < xs.length
  · obtain ⟨x, hx⟩ : ∃ x, xs[i]? = some x := ⟨_, List.getElem?_eq_getElem hlt⟩
    obtain ⟨hgo, hyld⟩ := jk.1 i x hx
    have hdrop : xs.drop i = x :: xs.drop (i + 1) := by
      rw [List.drop_eq_getElem_cons hlt]
      congr 1
      rw [List.getElem?_eq_getElem hlt] at hx
      exact Option.some.inj hx
    rw [hdrop] at P2
    unfold forL at P2
    refine .inr ⟨hgo, fun σ H => ∃ G c s', Nv X.K pa G1 H0 G H σ (mk c) s' ∧ SPost X.K W X.mg pa G1 H0 Dn (((forL dec mb (xs.drop (i + 1)) c >>= lpK inj kk) >>= fun a => pure (out a)) s'), fun σ' H' q => ⟨_, Nat.sub_lt_sub_left (by assumption) (Nat.lt_succ_self i), rfl, hlt, q⟩, fun v H3 hy => ?_⟩
    obtain ⟨G3, x3, rv⟩ := hyld v H3 hy
    have p3 := E2.ps.ext x3
    have E3 := E2.step x3.any p3
    cases hd : dec x with
    | none => rw [hd] at P2; exact P2.elim
    | some z =>
      rw [hd] at P2
      dsimp only at P2
      refine hg c G1 H0 G3 H3 σ2 s2 v x z _ E3 rv hd fun σ4 E4 _ => ⟨(c, z), G1, H0, G3, s2, E4, ?_⟩
      rw [bind_assoc, bind_assoc, PM.bind_def] at P2
      rw [PM.bind_def]
      cases e : mb c z s2 with
      | ok r s5 =>
        rw [e] at P2
        dsimp only at P2
        cases r with
        | go c' => exact fun σ' G' H' E' => ⟨G', c', s5, E', by rw [bind_assoc]; exact P2⟩
        | ret d =>
          have P2 : SPost X.K W X.mg pa G1 H0 Dn ((((pure (.ret d) : PM (Lp C)) >>= lpK inj kk) >>= fun a => pure (out a)) s5) := by rw [bind_assoc]; exact P2
          rw [pure_bind] at P2
          have P2 : SPost X.K W X.mg pa G1 H0 Dn ((((pure (inj d)) : PM α) >>= fun a => pure (out a)) s5) := P2
          rw [pure_bind, hj] at P2
          exact P2
      | exc q => rw [e] at P2; exact P2
      | bad => rw [e] at P2; exact P2.elim
  · have e : i = xs.length := by omega
    subst e
    rw [List.drop_length] at P2
    exact .inl ⟨jk.2 _ (Nat.le_refl _), c, G1, H0, G2, s2, E2, P2⟩
theorem sv_forS {mb : C → ι → PM C} {kk : C → PM α} (Cx : Cok X W k) (hi : EI X W pa Γ tg iter mi) (hp : PG X tg g) (hg : ∀ c, TgOk X pa dec g vs (mk c) (Γz c)) (w : Weak Γ (mk c0))
    (hb : ∀ c z, SV X W pa (Γz c z) (fun c => Out.fall (mk c)) body (mb c z)) (hr : ∀ c, SV X W pa (mk c) out rest (kk c)) (hs : ∀ x, foldedSetIterable iter X.env x = pure x := by intro _; rfl) :
    SV X W pa Γ out (.For tg iter body [] pos :: rest) (mi >>= fun xs => forS dec mb xs c0 >>= kk) := by
  have hbody : PSs X body (fun D σ H => ∃ p : C × ι, svT X W pa (Γz p.1 p.2) (mb p.1 p.2 >>= fun a => pure (Out.fall (mk a))) D σ H) := pss_ex (ι := C × ι) fun p => hb p.1 p.2
  unfold SV
  rw [bind_assoc]
  refine pss_imp (pss_cons (ps_for Cx.passes Cx.calm hi hp hbody hs) (pss_ex hr)) fun Dn σ H ⟨G0, H0, G, s, E, P⟩ => ⟨G0, H0, G, s, E, (P.bind E).imp fun G1 H1 xs s1 x1 p1 P1 J hJ => ?_⟩
  have E1 := (E.step x1 p1).weak w
  have P1 : SPost X.K W X.mg pa G1 H0 Dn (((forS dec mb xs c0 >>= kk) >>= fun a => pure (out a)) s1) := P1.base E1.ext
  have E1b : Nv X.K pa G1 H0 G1 H1 σ (mk c0) s1 := E1.base
  refine ⟨fun i m σ H => m = xs.length - i ∧ i ≤ xs.length ∧ ∃ G c s', Nv X.K pa G1 H0 G H σ (mk c) s' ∧ SPost X.K W X.mg pa G1 H0 Dn (((forS dec mb (xs.drop i) c >>= kk) >>= fun a => pure (out a)) s'),
    ⟨xs.length, by simp, Nat.zero_le _, G1, c0, s1, E1b, by simpa using P1⟩, ?_⟩
  rintro i m σ2 H2 ⟨rfl, hi', G2, c, s2, E2, P2⟩
  have jk := hJ G2 H2 E2.ext.g E2.sub
  by_cases hlt : i < xs.length
  · obtain ⟨x, hx⟩ : ∃ x, xs[i]? = some x := ⟨_, List.getElem?_eq_getElem hlt⟩
    obtain ⟨hgo, hyld⟩ := jk.1 i x hx
    have hdrop : xs.drop i = x :: xs.drop (i + 1) := by
      rw [List.drop_eq_getElem_cons hlt]
      congr 1
      rw [List.getElem?_eq_getElem hlt] at hx
      exact Option.some.inj hx
    rw [hdrop] at P2
    unfold forS at P2
    refine .inr ⟨hgo, fun σ H => ∃ G c s', Nv X.K pa G1 H0 G H σ (mk c) s' ∧ SPost X.K W X.mg pa G1 H0 Dn (((forS dec mb (xs.drop (i + 1)) c >>= kk) >>= fun a => pure (out a)) s'), fun σ' H' q => ⟨_, Nat.sub_lt_sub_left (by assumption) (Nat.lt_succ_self i), rfl, hlt, q⟩, fun v H3 hy => ?_⟩
    obtain ⟨G3, x3, rv⟩ := hyld v H3 hy
    have p3 := E2.ps.ext x3
    have E3 := E2.step x3.any p3
    cases hd : dec x with
    | none => rw [hd] at P2; exact P2.elim
    | some z =>
      rw [hd] at P2
      dsimp only at P2
      refine hg c G1 H0 G3 H3 σ2 s2 v x z _ E3 rv hd fun σ4 E4 _ => ⟨(c, z), G1, H0, G3, s2, E4, ?_⟩
      rw [bind_assoc, bind_assoc, PM.bind_def] at P2
      rw [PM.bind_def]
      cases e : mb c z s2 with
      | ok c' s5 =>
        rw [e] at P2
        dsimp only at P2
        exact fun σ' G' H' E' => ⟨G', c', s5, E', by rw [bind_assoc]; exact P2⟩
      | exc q => rw [e] at P2; exact P2
      | bad => rw [e] at P2; exact P2.elim
  · have e : i = xs.length := by omega
    subst e
    rw [List.drop_length] at P2
    have P2 : SPost X.K W X.mg pa G1 H0 Dn ((((pure c : PM C) >>= kk) >>= fun a => pure (out a)) s2) := P2
    rw [pure_bind] at P2
    exact .inl ⟨jk.2 _ (Nat.le_refl _), c, G1, H0, G2, s2, E2, P2⟩
def whileS {C : Type} (mc : C → PM Bool) (mb : C → PM C) : Nat → C → PM C
  | 0, _ => bad
  | n + 1, c => mc c >>= fun b => if b = true then mb c >>= whileS mc mb n else pure c
theorem sv_while (n : Nat) {cnd : Expr} {mc : C → PM Bool} {mb : C → PM C} {kk : C → PM α} (Cx : Cok X W k) (w : Weak Γ (mk c0)) (hc : ∀ c, EB X W pa (mk c) cnd (mc c)) (hb : ∀ c, SV X W pa (mk c) (fun c => Out.fall (mk c)) body (mb c)) (hr : ∀ c, SV X W pa (mk c) out rest (kk c)) :
    SV X W pa Γ out (.While cnd body [] pos :: rest) (whileS mc mb n c0 >>= kk) := by
  unfold SV
  rw [bind_assoc]
  have hcc : PT X cnd (fun σ H Q => ∃ c, evB X W pa (mk c) (mc c) σ H Q) := pt_ex hc
  have hbb : PSs X body (fun D σ H => ∃ c, svT X W pa (mk c) (mb c >>= fun a => pure (Out.fall (mk a))) D σ H) := pss_ex hb
  refine pss_imp (pss_cons (ps_while Cx.passes hcc hbb) (pss_ex hr)) fun Dn σ H ⟨G0, H0, G, s, E, P⟩ => ?_
  refine ⟨fun m σ H => ∃ G c s', Nv X.K pa G0 H0 G H σ (mk c) s' ∧ SPost X.K W X.mg pa G0 H0 Dn ((whileS mc mb m c >>= fun c => kk c >>= fun a => pure (out a)) s'), ⟨n, G, c0, s, E.weak w, P⟩, ?_⟩
  rintro m σ1 H1 ⟨G1, c, s1, E1, P1⟩
  cases m with
  | zero => exact P1.elim
  | succ m =>
    unfold whileS at P1
    rw [bind_assoc] at P1
    refine ⟨c, G0, H0, G1, s1, E1, (P1.bind E1).imp fun G2 H2 b s2 x2 p2 P2 => ?_⟩
    have E2 := E1.step x2 p2
    cases b with
    | false =>
      have P2 : SPost X.K W X.mg pa G0 H0 Dn (((pure c : PM C) >>= fun c => kk c >>= fun a => pure (out a)) s2) := P2
      rw [pure_bind] at P2
      exact (show ∃ z, svT X W pa (mk z) (kk z >>= fun a => pure (out a)) Dn σ1 H2 from ⟨c, G0, H0, G2, s2, E2, P2⟩)
    | true =>
      have P2 : SPost X.K W X.mg pa G0 H0 Dn (((mb c >>= whileS mc mb m) >>= fun c => kk c >>= fun a => pure (out a)) s2) := P2
      refine (show ∃ N : L2.St → Hp → Prop, _ from ⟨fun σ H => ∃ G c s', Nv X.K pa G0 H0 G H σ (mk c) s' ∧ SPost X.K W X.mg pa G0 H0 Dn ((whileS mc mb m c >>= fun c => kk c >>= fun a => pure (out a)) s'), fun σ' H' q => ⟨m, Nat.lt_succ_self _, q⟩, c, G0, H0, G2, s2, E2, ?_⟩)
      rw [bind_assoc, PM.bind_def] at P2
      rw [PM.bind_def]
      cases e : mb c s2 with
      | ok c' s5 =>
        rw [e] at P2
        exact fun σ' G' H' E' => ⟨G', c', s5, E', P2⟩
      | exc q => rw [e] at P2; exact P2
      | bad => rw [e] at P2; exact P2.elim
end
end EV
namespace EV
open PySem PySem.Spec PyProof.Rows L2
section
variable {K : PySem.W.Frag} {pa : Option Addr} {G0 H0 G H : Hp} {σ : L2.St} {Γ : List Sl} {s : List Int}
theorem Nv.lt (E : Nv K pa G0 H0 G H σ Γ s) {i : Nat} {x : Sl} (h : Γ[i]? = some x) : i < Γ.length := (List.getElem?_eq_some_iff.mp h).1
/-- an own list seen as a value -/
theorem Nv.pubW (E : Nv K pa G0 H0 G H σ Γ s) {i : Nat} {xs : List D} (h : Γ[i]? = some (.own xs)) :
    ∃ p vs, σ[i]? = some (some (.ref p)) ∧ H p = some (.lst vs) ∧ G p = none ∧ RpL K G vs xs ∧ H0 p = none ∧ pa ≠ some p ∧ Nv K pa G0 H0 (upd G p (.lst vs)) H σ (Γ.set i (.val (.lst xs))) s := by
  obtain ⟨p, vs, h1, h2, h3, h4, h5, h6⟩ := E.own i xs h
  have sg : Same G (upd G p (.lst vs)) := fun a o e => by
    rw [upd_ne (ne_of_none e h3)]
    exact e
  refine ⟨p, vs, h1, h2, h3, h4, h5, h6, ?_⟩
  have hlt := E.lt h
  refine ⟨by simp [E.len], fun j d e => ?_, fun j ys e => ?_, fun j l q ys zs e1 e2 e3 e4 => ?_, fun j e => ?_, fun j ns e => ?_, fun q e => ?_, ?_, (E.x.pubL h2 h3).putG i rfl⟩
  · by_cases hj : i = j
    · subst hj
      rw [List.getElem?_set_self hlt] at e
      cases e
      exact ⟨_, h1, .mkL upd_same (h4.mono sg)⟩
    · rw [List.getElem?_set_ne hj] at e
      obtain ⟨v, q1, q2⟩ := E.val j d e
      exact ⟨v, q1, q2.mono sg⟩
  · by_cases hj : i = j
    · subst hj
      rw [List.getElem?_set_self hlt] at e
      cases e
    · rw [List.getElem?_set_ne hj] at e
      obtain ⟨q, ws, q1, q2, q3, q4, q5, q6⟩ := E.own j ys e
      have : q ≠ p := fun z => by
        rw [z] at q1
        exact hj (E.inj i j p _ _ h e h1 q1)
      exact ⟨q, ws, q1, q2, by rw [upd_ne this]; exact q3, q4.mono sg, q5, q6⟩
  · have n1 : i ≠ j := fun z => by
      subst z
      rw [List.getElem?_set_self hlt] at e1
      cases e1
    have n2 : i ≠ l := fun z => by
      subst z
      rw [List.getElem?_set_self hlt] at e2
      cases e2
    rw [List.getElem?_set_ne n1] at e1
    rw [List.getElem?_set_ne n2] at e2
    exact E.inj j l q ys zs e1 e2 e3 e4
  · have n1 : i ≠ j := fun z => by
      subst z
      rw [List.getElem?_set_self hlt] at e
      cases e
    rw [List.getElem?_set_ne n1] at e
    exact E.pen j e
  · have n1 : i ≠ j := fun z => by
      subst z
      rw [List.getElem?_set_self hlt] at e
      cases e
    rw [List.getElem?_set_ne n1] at e
    obtain ⟨a, q1, q2⟩ := E.scr j ns e
    exact ⟨a, q1, sg.seq q2⟩
  · obtain ⟨q1, q2⟩ := E.ps q e
    have : q ≠ p := fun z => h6 (by rw [← z]; exact e)
    rw [upd_ne this]
    exact ⟨q1, q2⟩
  · refine ⟨E.ext.g.trans sg, E.ext.hh, E.ext.t, fun a o e n => ?_, fun a o e => ?_, E.ext.tk, fun h => (E.ext.gt h).upd (nt_lst _)⟩
    · rw [upd_ne (ne_of_none e h5)]
      exact E.ext.n a o e n
    · by_cases ha : a = p
      · subst ha
        rw [upd_same] at e
        rw [← e]
        exact h2
      · rw [upd_ne ha] at e
        exact E.sub a o e
/-- back from a peek -/
theorem unpeek {p : Addr} {vs : List V} {G' H' : Hp} (hG : G p = none) (hp : H p = some (.lst vs)) (x : Ext K pa (upd G p (.lst vs)) H G' H') :
    ∃ G'', Ext K pa G H G'' H' ∧ (∀ s, PenOk pa G' H' s → PenOk pa G'' H' s) := by
  refine ⟨fun a => if a = p then none else G' a, ⟨fun a o e => ?_, x.hh, x.t, fun a o e n => ?_, fun a o e => ?_, x.tk, fun h P ps e => by
    have e : (if P = p then none else G' P) = some (.tbl ps) := e
    by_cases z : P = p
    · rw [if_pos z] at e
      cases e
    · rw [if_neg z] at e
      exact x.gt (h.upd (nt_lst _)) P ps e⟩, fun s q a e => ?_⟩
  · have : a ≠ p := ne_of_none e hG
    show (if a = p then none else G' a) = some o
    rw [if_neg this]
    refine x.g a o ?_
    rw [upd_ne this]
    exact e
  · show (if a = p then none else G' a) = none
    by_cases ha : a = p
    · rw [if_pos ha]
    · rw [if_neg ha]
      exact x.n a o e (by rw [upd_ne ha]; exact n)
  · have e : (if a = p then none else G' a) = some o := e
    by_cases ha : a = p
    · rw [if_pos ha] at e
      cases e
    · rw [if_neg ha] at e
      exact x.sub a o e
  · obtain ⟨q1, q2⟩ := q a e
    refine ⟨?_, q2⟩
    show (if a = p then none else G' a) = none
    by_cases ha : a = p
    · rw [if_pos ha]
    · rw [if_neg ha]
      exact q1
/-- an own list is changed -/
theorem Nv.mut (E : Nv K pa G0 H0 G H σ Γ s) {i : Nat} {xs : List D} {p : Addr} {vs : List V} {ys : List D} (h : Γ[i]? = some (.own xs)) (hp : σ[i]? = some (some (.ref p))) (r : RpL K G vs ys) :
    Nv K pa G0 H0 G (upd H p (.lst vs)) σ (Γ.set i (.own ys)) s := by
  obtain ⟨p', vs', h1, h2, h3, h4, h5, h6⟩ := E.own i xs h
  rw [hp] at h1
  cases h1
  have hlt := E.lt h
  refine ⟨by simp [E.len], fun j d e => ?_, fun j zs e => ?_, fun j l q ys' zs e1 e2 e3 e4 => ?_, fun j e => ?_, fun j ns e => ?_, fun q e => ?_, ?_, (E.x.updL h2).putG i rfl⟩
  · by_cases hj : i = j
    · subst hj
      rw [List.getElem?_set_self hlt] at e
      cases e
    · rw [List.getElem?_set_ne hj] at e
      exact E.val j d e
  · by_cases hj : i = j
    · subst hj
      rw [List.getElem?_set_self hlt] at e
      cases e
      exact ⟨p, vs, hp, upd_same, h3, r, h5, h6⟩
    · rw [List.getElem?_set_ne hj] at e
      obtain ⟨q, ws, q1, q2, q3, q4, q5, q6⟩ := E.own j zs e
      have : q ≠ p := fun z => by
        rw [z] at q1
        exact hj (E.inj i j p _ _ h e hp q1)
      exact ⟨q, ws, q1, by rw [upd_ne this]; exact q2, q3, q4, q5, q6⟩
  · have back : ∀ (m : Nat) zs, (Γ.set i (.own ys))[m]? = some (.own zs) → ∃ zs', Γ[m]? = some (.own zs') := fun m zs e => by
      by_cases hm : i = m
      · subst hm
        exact ⟨xs, h⟩
      · rw [List.getElem?_set_ne hm] at e
        exact ⟨zs, e⟩
    obtain ⟨z1, f1⟩ := back j ys' e1
    obtain ⟨z2, f2⟩ := back l zs e2
    exact E.inj j l q z1 z2 f1 f2 e3 e4
  · have n1 : i ≠ j := fun z => by
      subst z
      rw [List.getElem?_set_self hlt] at e
      cases e
    rw [List.getElem?_set_ne n1] at e
    exact E.pen j e
  · have n1 : i ≠ j := fun z => by
      subst z
      rw [List.getElem?_set_self hlt] at e
      cases e
    rw [List.getElem?_set_ne n1] at e
    exact E.scr j ns e
  · obtain ⟨q1, q2⟩ := E.ps q e
    have : q ≠ p := fun z => h6 (by rw [← z]; exact e)
    rw [upd_ne this]
    exact ⟨q1, q2⟩
  · refine ⟨E.ext.g, fun a o e n nt => ?_, fun a o e => ?_, E.ext.n, fun a o e => ?_, fun h => (E.ext.tk h).updL h2, E.ext.gt⟩
    · rw [upd_ne (ne_of_none e h5)]
      exact E.ext.h a o e n nt
    · rw [upd_ne (ne_of_none e h5)]
      exact E.ext.t a o e
    · rw [upd_ne (ne_of_none e h3)]
      exact E.sub a o e
end
section
variable {X : Cx} {W : WX} {pa : Option Addr} {Γ : List Sl} {k : Nat} {pos : Pos} {α : Type} {out : α → Out} {rest : List Stmt}
theorem eb_peek (i : Nat) {xs : List D} {e : Expr} {m : PM Bool} (h : Γ[i]? = some (.own xs)) (he : EB X W pa (Γ.set i (.val (.lst xs))) e m) : EB X W pa Γ e (noExc m) :=
  pt_imp he fun σ H Q ⟨G0, H0, G, s, E, P⟩ => by
    obtain ⟨p, vs, h1, h2, h3, h4, h5, h6, E'⟩ := E.pubW h
    refine ⟨G0, H0, _, s, E', ?_⟩
    unfold noExc at P
    cases e : m s with
    | ok b s1 =>
      rw [e] at P
      intro G' H' x q
      obtain ⟨G'', y, z⟩ := unpeek h3 h2 x
      exact P G'' H' y (z _ q)
    | exc z => rw [e] at P; exact P.elim
    | bad => rw [e] at P; exact P.elim
def scalD : D → Bool
  | .non | .bl _ | .int _ | .str _ => true
  | _ => false
theorem Rp.scal {K : PySem.W.Frag} {G G' : Hp} {v : V} {d : D} (h : scalD d = true) (r : Rp K G v d) : Rp K G' v d := by
  cases r with
  | non => exact .non
  | bl b => exact .bl b
  | int b => exact .int b
  | str b => exact .str b
  | lst _ _ _ => cases h
  | tup _ _ _ => cases h
  | dct _ _ _ _ => cases h
  | obj _ _ _ _ => cases h
  | cls _ => cases h
theorem sv_pub (i : Nat) {xs : List D} {sts : List Stmt} {m : PM α} (h : Γ[i]? = some (.own xs)) (hr : SV X W pa (Γ.set i (.val (.lst xs))) out sts m) : SV X W pa Γ out sts m :=
  pss_imp hr fun Dn σ H ⟨G0, H0, G, s, E, P⟩ => by
    obtain ⟨p, vs, h1, h2, h3, h4, h5, h6, E'⟩ := E.pubW h
    exact ⟨G0, H0, _, s, E', P⟩
/-- nothing is said -/
theorem sv_bad {sts : List Stmt} : SV X W pa Γ out sts bad := pss_imp pss_never fun Dn σ H ⟨G0, H0, G, s, E, P⟩ => P.elim
def okLen (xs : List D) : PM Unit := if xs.length ≤ lim then pure () else bad
theorem okLen_ok {xs : List D} (h : xs.length ≤ lim) : okLen xs = pure () := if_pos h
theorem sv_append (i : Nat) {x : Str} {e : Expr} {xs : List D} {me : PM D} {kk : D → PM α} {p1 apos cpos : Pos} (h : Γ[i]? = some (.own xs)) (he : EV X W pa Γ e me) (hr : ∀ d, SV X W pa (Γ.set i (.own (xs ++ [d]))) out rest (kk d))
    (hN : X.N[i]? = some x := by rfl) (hv : Vis X.env.scope x := by first | exact Or.inl rfl | exact Or.inr (Or.inl rfl) | exact Or.inr (Or.inr rfl)) (hd : (x == ("__debug__" : Str)) = false := by decide) (hcd : (x == ("__classdict__" : Str)) = false := by decide)
    (hbase : attributeBase (.Name x p1) "append" X.env (eval (.Name x p1) X.env) = eval (.Name x p1) X.env := by rfl)
    (hfew : ((backTo cpos (starEach [e] X.env)).all (fun x => !x.1) && (backToKw cpos (keywordEach [] X.env)).all (fun x => x.1.isSome)
      && decide ([e].length + ([] : List Keyword).length + (if ([] : List Keyword).isEmpty then 0 else 1) < 30)) = true := by rfl)
    (hline : (apos.endLine == cpos.line) = true := by rfl) (hs : starEach [e] X.env = (false, eval e X.env) :: starEach [] X.env := by rfl) (hplain : (backTo cpos (starEach [] X.env)).any (·.1) = false := by rfl)
    (hsw : swapsWith (.Call (.Attribute (.Name x p1) "append" apos) [e] [] cpos) none pos.line X.env = pure false := by rfl) :
    SV X W pa Γ out (.Expr (.Call (.Attribute (.Name x p1) "append" apos) [e] [] cpos) pos :: rest) (me >>= fun d => okLen (xs ++ [d]) >>= fun _ => kk d) := by
  unfold SV
  rw [bind_assoc]
  refine pss_imp (pss_cons (ps_expr (pe_bm PySem.F.plainAttrs_list PySem.F.slot_list_append PySem.F.type_list_append mt_append (pe_var hN hv hd hcd) (pa_cons he pa_nil hs) hbase hfew hline hs hplain) hsw) (pss_ex hr)) fun Dn σ H ⟨G0, H0, G, s, E, P⟩ => ?_
  obtain ⟨p, vs, h1, h2, h3, h4, h5, h6⟩ := E.own i xs h
  refine ⟨.ref p, h1, .inl ⟨rfl, vs, SqL.of h2⟩, G0, H0, G, s, E, (P.bind E).imp fun G1 H1 d s1 x1 p1 P1 v r => ?_⟩
  have h2' := x1.h _ _ h2 h6
  by_cases hl : (xs ++ [d]).length ≤ lim
  · rw [okLen_ok hl, pure_bind] at P1
    have hv' : vs.length < sizeLine := by
      rw [h4.1]
      rw [List.length_append, List.length_singleton] at hl
      exact lim_lt (by omega)
    have E1 := E.step x1 p1
    exact ⟨p, vs, v, rfl, rfl, h2', hv', d, G0, H0, G1, s1, E1.mut h h1 ((h4.mono x1.g).app (.cons r .nil)), P1⟩
  · unfold okLen at P1
    rw [if_neg hl] at P1
    exact P1.elim
def scalL : D → PM (List D)
  | .lst ys => if ys.all scalD = true then pure ys else bad
  | _ => bad
theorem rpl_scal {K : PySem.W.Frag} {G G' : Hp} {vs : List V} {ds : List D} (h : ds.all scalD = true) (r : RpL K G vs ds) : RpL K G' vs ds :=
  ⟨r.1, fun i v d h1 h2 => (r.2 i v d h1 h2).scal (List.all_eq_true.mp h d (List.mem_of_getElem? h2))⟩
/-- x.extend(e), e looks at x; its items are numbers, texts -/
theorem sv_extendP (i : Nat) {x : Str} {e : Expr} {xs : List D} {me : PM D} {kk : List D → PM α} {p1 apos cpos : Pos} (h : Γ[i]? = some (.own xs)) (he : EV X W pa (Γ.set i (.val (.lst xs))) e me) (hr : ∀ ys, SV X W pa (Γ.set i (.own (xs ++ ys))) out rest (kk ys))
    (hN : X.N[i]? = some x := by rfl) (hv : Vis X.env.scope x := by first | exact Or.inl rfl | exact Or.inr (Or.inl rfl) | exact Or.inr (Or.inr rfl)) (hd : (x == ("__debug__" : Str)) = false := by decide) (hcd : (x == ("__classdict__" : Str)) = false := by decide)
    (hbase : attributeBase (.Name x p1) "extend" X.env (eval (.Name x p1) X.env) = eval (.Name x p1) X.env := by rfl)
    (hfew : ((backTo cpos (starEach [e] X.env)).all (fun x => !x.1) && (backToKw cpos (keywordEach [] X.env)).all (fun x => x.1.isSome)
      && decide ([e].length + ([] : List Keyword).length + (if ([] : List Keyword).isEmpty then 0 else 1) < 30)) = true := by rfl)
    (hline : (apos.endLine == cpos.line) = true := by rfl) (hs : starEach [e] X.env = (false, eval e X.env) :: starEach [] X.env := by rfl) (hplain : (backTo cpos (starEach [] X.env)).any (·.1) = false := by rfl)
    (hsw : swapsWith (.Call (.Attribute (.Name x p1) "extend" apos) [e] [] cpos) none pos.line X.env = pure false := by rfl) :
    SV X W pa Γ out (.Expr (.Call (.Attribute (.Name x p1) "extend" apos) [e] [] cpos) pos :: rest) (noExc me >>= scalL >>= fun ys => okLen (xs ++ ys) >>= fun _ => kk ys) := by
  unfold SV
  rw [bind_assoc, bind_assoc]
  refine pss_imp (pss_cons (ps_expr (pe_bm PySem.F.plainAttrs_list PySem.F.slot_list_extend PySem.F.type_list_extend mt_extend (pe_var hN hv hd hcd) (pa_cons he pa_nil hs) hbase hfew hline hs hplain) hsw) (pss_ex hr)) fun Dn σ H ⟨G0, H0, G, s, E, P⟩ => ?_
  obtain ⟨p, vs, h1, h2, h3, h4, h5, h6, E'⟩ := E.pubW h
  refine ⟨.ref p, h1, .inl ⟨rfl, vs, SqL.of h2⟩, G0, H0, _, s, E', ?_⟩
  rw [PM.bind_def] at P
  unfold noExc at P
  cases em : me s with
  | exc z => rw [em] at P; exact P.elim
  | bad => rw [em] at P; exact P.elim
  | ok d s1 =>
    rw [em] at P
    intro G1 H1 x1 p1 v r
    cases r with
    | @lst b zs ys hb n rr =>
      have P : SPost X.K W X.mg pa G0 H0 Dn (((if ys.all scalD = true then pure ys else bad : PM (List D)) >>= fun ys => (okLen (xs ++ ys) >>= fun _ => kk ys) >>= fun a => pure (out a)) s1) := P
      by_cases hsc : ys.all scalD = true
      · rw [if_pos hsc, pure_bind] at P
        by_cases hl : (xs ++ ys).length ≤ lim
        · rw [okLen_ok hl, pure_bind] at P
          obtain ⟨G2, y2, z2⟩ := unpeek h3 h2 x1
          have h2' := x1.h _ _ h2 h6
          have E2 := E.step y2 (z2 _ p1)
          refine ⟨p, b, vs, zs, rfl, rfl, h2', x1.sub _ _ hb, ?_, ys, G0, H0, G2, s1, E2.mut h h1 ((h4.mono y2.g).app (rpl_scal hsc ⟨n, rr⟩)), P⟩
          rw [h4.1, n]
          rw [List.length_append] at hl
          exact lim_le hl
        · unfold okLen at P
          rw [if_neg hl] at P
          exact P.elim
      · rw [if_neg hsc] at P
        exact P.elim
    | _ => exact P.elim
def FO (K : PySem.W.Frag) (Hb : Hp) (Q : VK) : Hp → Hp → List D → List Int → Prop := fun G' H' ds _ => ∀ p vs, Hb p = none → H' p = some (.lst vs) → G' p = none → RpL K G' vs ds → Q (.ref p) H'
def evO (X : Cx) (W : WX) (pa : Option Addr) (Γ : List Sl) (m : PM (List D)) : TE := fun σ H Q => ∃ G0 H0 G s, Nv X.K pa G0 H0 G H σ Γ s ∧ Pst X.K W X.mg pa σ (FO X.K H Q) G H (m s)
abbrev EO' (X : Cx) (W : WX) (pa : Option Addr) (Γ : List Sl) (e : Expr) (m : PM (List D)) : Prop := PE X e (evO X W pa Γ m)
def okL (xs : List D) : PM (List D) := if xs.length ≤ lim then pure xs else bad
theorem eo_lst {es : List Expr} {ml : PM (List D)} (h : EL X W pa Γ es ml) : EO' X W pa Γ (.List es pos) (ml >>= okL) :=
  pe_imp (L2.pe_lst h) fun σ H Q ⟨G0, H0, G, s, E, P⟩ => ⟨G0, H0, G, s, E, P.bind.imp fun G1 H1 ds s1 x1 p1 P1 vs r => by
    unfold okL at P1
    split at P1
    · rename_i hl
      refine ⟨by rw [r.1]; exact lim_le hl, fun p np => ?_⟩
      have hb : H p = none := by
        cases q : H p with
        | none => rfl
        | some o =>
          obtain ⟨o', z⟩ := x1.t p o q
          rw [np] at z
          cases z
      exact P1 G1 _ (Ext.newH x1.sub np _) (p1.updH np _) p vs hb upd_same (x1.sub.free np) r
    · exact P1.elim⟩
theorem sv_setO (i : Nat) {st : Stmt} {me : PM (List D)} {kk : List D → PM α} (he : PS X st (tAsg (evO X W pa Γ me) (gName i))) (hr : ∀ ds, SV X W pa (Γ.set i (.own ds)) out rest (kk ds)) :
    SV X W pa Γ out (st :: rest) (me >>= kk) := by
  unfold SV
  rw [bind_assoc]
  refine pss_imp (pss_cons he (pss_ex hr)) fun Dn σ H ⟨G0, H0, G, s, E, P⟩ =>
    ⟨G0, H0, G, s, E, (P.bind E).imp fun G1 H1 ds s1 x1 p1 P1 p vs hb hp hg r => ⟨ds, G0, H0, G1, s1, ?_, P1⟩⟩
  have E1 := E.step x1 p1
  refine E1.setOwn i hp hg r ?_ (fun e => ?_) fun j ys hj e q => ?_
  · cases z : H0 p with
    | none => rfl
    | some o =>
      obtain ⟨o', z'⟩ := E.ext.t p o z
      rw [hb] at z'
      cases z'
  · have := (E.ps p e).2
    rw [hb] at this
    cases this
  · obtain ⟨p', vs', q1, q2, _⟩ := E.own j ys e
    rw [q] at q1
    cases q1
    rw [hb] at q2
    cases q2
theorem sv_setV (i : Nat) {st : Stmt} {me : PM D} {kk : D → PM α} (he : PS X st (tAsg (evT X W pa Γ me) (gName i))) (hr : ∀ d, SV X W pa (Γ.set i (.val d)) out rest (kk d)) :
    SV X W pa Γ out (st :: rest) (me >>= kk) := by
  unfold SV
  rw [bind_assoc]
  exact pss_imp (pss_cons he (pss_ex hr)) fun Dn σ H ⟨G0, H0, G, s, E, P⟩ =>
    ⟨G0, H0, G, s, E, (P.bind E).imp fun G1 H1 d s1 x1 p1 P1 v r => ⟨d, G0, H0, G1, s1, (E.step x1 p1).set i r, P1⟩⟩
theorem ps_imp {st : Stmt} {t t' : TS} (h : PS X st t) (i : ∀ Dn σ H, t' Dn σ H → t Dn σ H) : PS X st t' := ⟨fun pins s σ H D I q => h.run pins s σ H D I (i D σ H q)⟩
/-- y = [..] on one line, y a plain local: as a value, as a list of one's own -/
theorem ps_lcV {ι : Type} {i : Nat} {y : Str} {py spos : Pos} {elt tg iter : Expr} {ifs : List Expr} {scope : Scope} {own : List (Str × Nat)} {dec : D → Option ι} {mt : ι → PM Bool} {me : ι → PM D} {mi : PM (List D)} {g : TG} {Γz : ι → List Sl} (C : Cok X W k) (hy : X.N[i]? = some y) (hyl : X.env.scope.names.lookup y = some .local)
    (hsw : swapsWith (.ListComp elt [⟨tg, iter, ifs, 0⟩] scope pos) (some (.Name y py)) spos.line X.env = pure true) (hi : EI X W pa Γ tg iter mi) (ok : BlkOk X.N X.env.scope scope own)
    (hg : TgOk X pa dec g (own.map (·.2)) (wipeG Γ (own.map (·.2))) Γz)
    (hp : ∀ (s : Shared) (H : Hp) (C : Addr) (cl : List (Str × Addr)) (fp : List Addr), PG (X.blk s H scope (compEnvC scope cl C X.env) fp) tg g)
    (ht : ∀ (z : ι) (s : Shared) (H : Hp) (C : Addr) (cl : List (Str × Addr)) (fp : List Addr), ETs (X.blk s H scope (compEnvC scope cl C X.env) fp) W0 pa (Γz z) ifs (mt z))
    (he : ∀ (z : ι) (s : Shared) (H : Hp) (C : Addr) (cl : List (Str × Addr)) (fp : List Addr), EV (X.blk s H scope (compEnvC scope cl C X.env) fp) W0 pa (Γz z) elt (me z))
    (hs : ∀ x, foldedSetIterable iter X.env x = pure x := by intro _; rfl) :
    PS X (.Assign [.Name y py] (.ListComp elt [⟨tg, iter, ifs, 0⟩] scope pos) spos) (tAsg (evT X W pa Γ (mi >>= fun xs => compL dec mt me xs >>= fun r => pure (.lst r))) (gName i)) :=
  ps_imp (ps_setLc C.calm C.nd hy hyl hsw hi ok hp (fun s H C cl fp => pts_ex fun z => ht z s H C cl fp) (fun s H C cl fp => pe_ex fun z => he z s H C cl fp) hs) fun Dn σ H h => lc_read hg σ H _ h
/-- y = [..], y a name that is captured -/
theorem ps_o {i : Nat} {x : Str} {e : Expr} {pos' : Pos} {me : PM (List D)} (hN : X.N.Nodup) (he : EO' X W pa Γ e me) (hi : X.N[i]? = some x := by rfl) (hx : Loc X.env.scope x := by first | exact Or.inl rfl | exact Or.inr rfl)
    (hs : swapsWith e (some (.Name x pos')) pos.line X.env = pure false := by rfl) (hf : X.fn x = true ∨ X.env.scope.names.lookup x = some .local := by first | exact .inl rfl | exact .inr rfl) :
    PS X (.Assign [.Name x pos'] e pos) (tAsg (evO X W pa Γ me) (gName i)) := ps_set hN hi hx he hs hf
def penGet : D → PM D
  | .int i => fun s => match atI s i with
    | some n => .ok (.int n) s
    | none => .bad
  | _ => bad
def penSet (i : D) (d : D) : PM Unit := match i, d with
  | .int i, .int n => fun s => match ixN s.length i with
    | some j => .ok () (s.set j n)
    | none => .bad
  | _, _ => bad
theorem atI_map {α β : Type} (g : α → β) (xs : List α) (i : Int) : atI (xs.map g) i = (atI xs i).map g := by
  unfold atI
  rw [List.length_map]
  cases ixN xs.length i with
  | none => rfl
  | some j => simp
theorem ev_pen {q : Addr} {i : Nat} {y : Str} {b : Expr} {p2 : Pos} {mb : PM D} (hΓ : Γ[i]? = some .pen) (hN : X.N[i]? = some y) (hv : Vis X.env.scope y) (hb : EV X W (some q) Γ b mb) (hs : PlainIx b) (hd : (y == ("__debug__" : Str)) = false := by decide) (hcd : (y == ("__classdict__" : Str)) = false := by decide) :
    EV X W (some q) Γ (.Subscript (.Name y p2) b pos) (mb >>= penGet) := pe_imp (pe_ix ix_list (pe_var hN hv hd hcd) hb hs) fun σ H Q ⟨G0, H0, G, s, E, P⟩ => by
  obtain ⟨q', e1, e2⟩ := E.pen i hΓ
  cases e1
  refine ⟨.ref q, e2, G0, H0, G, s, E, P.bind.imp fun G1 H1 d s1 x1 p1 P1 v r => ?_⟩
  cases r with
  | int n =>
    have P1 : Pst X.K W X.mg (some q) σ (FD X.K Q) G1 H1 (match atI s1 n with | some n => R.ok (D.int n) s1 | none => .bad) := P1
    cases e : atI s1 n with
    | none => rw [e] at P1; exact P1.elim
    | some m =>
      rw [e] at P1
      exact ⟨q, s1.map V.int, n, .int m, rfl, rfl, SqL.of (p1 q rfl).2, by rw [atI_map, e]; rfl, P1 G1 H1 (Ext.refl x1.sub) p1 _ (.int m)⟩
  | _ => exact P1.elim
theorem Nv.pens {K : PySem.W.Frag} {q : Addr} {G0 H0 G H : Hp} {σ : L2.St} {s s' : List Int} (E : Nv K (some q) G0 H0 G H σ Γ s) : Nv K (some q) G0 H0 G (upd H q (.lst (s'.map V.int))) σ Γ s' := by
  have h := E.ps q rfl
  have hH : ∀ a o, H a = some o → a ≠ q → (upd H q (.lst (s'.map V.int))) a = some o := fun a o e n => by rw [upd_ne n]; exact e
  refine ⟨E.len, E.val, fun i xs e => ?_, E.inj, E.pen, E.scr, fun a e => ?_, ?_, E.x.updL h.2⟩
  · obtain ⟨p, vs, h1, h2, h3, h4, h5, h6⟩ := E.own i xs e
    exact ⟨p, vs, h1, hH _ _ h2 (fun z => h6 (by rw [z])), h3, h4, h5, h6⟩
  · cases e
    exact ⟨h.1, upd_same⟩
  · refine ⟨E.ext.g, fun a o e n nt => hH a o (E.ext.h a o e n nt) (fun z => n (by rw [z])), fun a o e => ?_, E.ext.n, fun a o e => ?_, fun hK => (E.ext.tk hK).updL h.2, E.ext.gt⟩
    · by_cases ha : a = q
      · subst ha
        exact ⟨_, upd_same⟩
      · rw [upd_ne ha]
        exact E.ext.t a o e
    · rw [upd_ne (ne_of_none e h.1)]
      exact E.sub a o e
/-- pen[i] = e -/
theorem sv_pen {q : Addr} {i : Nat} {y : Str} {b e : Expr} {p2 p3 : Pos} {mb me : PM D} {kk : PM α} (hΓ : Γ[i]? = some .pen) (hN : X.N[i]? = some y) (hv : Vis X.env.scope y) (he : EV X W (some q) Γ e me) (hb : EV X W (some q) Γ b mb) (hr : SV X W (some q) Γ out rest kk)
    (hd : (y == ("__debug__" : Str)) = false := by decide) (hcd : (y == ("__classdict__" : Str)) = false := by decide) (hs : swapsWithSole [.Subscript (.Name y p2) b p3] e pos.line X.env = pure false := by rfl) (hw : swappedStores [.Subscript (.Name y p2) b p3] e X.env = pure none := by rfl)
    (h1 : (assignEach [.Subscript (.Name y p2) b p3] X.env).map (·.2) = [assign (.Subscript (.Name y p2) b p3) X.env] := by rfl)
    (ha : ∀ v, assign (.Subscript (.Name y p2) b p3) X.env v = (do let ov ← holding [v] (eval (.Name y p2) X.env); let iv ← holding [v, ov] (eval b X.env); standAt p3; holding [v, ov, iv] (setItem ov iv v); release [v, ov, iv] []) := by intro _; rfl) :
    SV X W (some q) Γ out (.Assign [.Subscript (.Name y p2) b p3] e pos :: rest) (me >>= fun d => mb >>= fun ix => penSet ix d >>= fun _ => kk) := by
  unfold SV
  rw [bind_assoc]
  refine pss_imp (pss_cons (ps_asg he (pg_sub (pe_var hN hv hd hcd) hb set_list ha) hs hw h1) hr) fun Dn σ H ⟨G0, H0, G, s, E, P⟩ => ⟨G0, H0, G, s, E, (P.bind E).imp fun G1 H1 d s1 x1 p1 P1 v r => ?_⟩
  rw [bind_assoc] at P1
  have E1 := E.step x1 p1
  obtain ⟨q', e1, e2⟩ := E1.pen i hΓ
  cases e1
  refine ⟨.ref q, e2, G0, H0, G1, s1, E1, (P1.bind E1).imp fun G2 H2 ix s2 x2 p2 P2 w rw2 => ?_⟩
  have E2 := E1.step x2 p2
  cases rw2 with
  | int n =>
    cases r with
    | int m =>
      rw [bind_assoc, PM.bind_def] at P2
      have ee : penSet (.int n) (.int m) s2 = match ixN s2.length n with | some j => R.ok () (s2.set j m) | none => .bad := rfl
      rw [ee] at P2
      cases e : ixN s2.length n with
      | none => rw [e] at P2; exact P2.elim
      | some j =>
        rw [e] at P2
        refine ⟨q, s2.map V.int, n, j, rfl, rfl, (p2 q rfl).2, by rw [List.length_map]; exact e, G0, H0, G2, s2.set j m, ?_, P2⟩
        have z := E2.pens (s' := s2.set j m)
        rw [List.map_set] at z
        exact z
    | _ => exact P2.elim
  | _ => cases r <;> exact P2.elim
end
end EV
namespace EV
open PySem PySem.Spec PyProof.Rows L2
section
variable {P : Program} {w : World} {K : PySem.W.Frag} {mg : Str → Option Value} {base : Heap}
theorem fnG_of {x qual : Str} {st : Stmt} {f : Addr} {fd : FuncData} {N ps : List Str} {k : Nat} {sp : Sp} (F : Fun K x qual st f fd) (S : FnScope N ps (defScope st)) (len : ∀ vs H Q E, sp vs H Q E → vs.length = ps.length)
    (hbody : ∀ (cdv : Value), fd.code = cdv → ∀ (A : Around) (outer : List PySem.Env) (s : Shared) (H : Hp) (vs : List V) (Q : VK) (E : XK), (32 ≤ k → A.guards = some []) → Room k (A.deeper (envOfC qual (defScope st) s.heap.objs.size f cdv)) → sp vs H Q E →
      ∃ t, PSs (cxOf (L2.CX P w) P w K mg base N qual (defScope st) f cdv A outer s H E) (defBody st) t ∧ t { nx := fun _ H' => Q .non H', rt := Q } (start N vs) H) :
    FnG P w K mg base (k + 1) f fd ps sp := by
  obtain ⟨oc, od, kV, doc, pm, an, cdv, ct, osl, rfl, lk, hcd⟩ := F.ex
  refine ⟨len, fun A outer s H args us vs Q E hgu hr e0 hb r hsp => ?_⟩
  have hl := len _ _ _ _ hsp
  have KX : K.In s.heap := e0.mod.kin.keeps fun b o e => (e0.bs b o e).1
  have lim : s.heap.NoLimit := e0.mod.nolimit.keeps fun b o e => (e0.bs b o e).1
  have hkind : ∀ y ∈ ps.zip us, (defScope st).names.lookup y.1 = some .local ∨ ((defScope st).names.lookup y.1 = some .cell ∧ ((cellsFrom (s.heap.objs.size + 1) (defScope st).names []).lookup y.1).isSome = true) := by
    intro y hy
    obtain ⟨n, v⟩ := y
    rcases S.par n (List.of_mem_zip hy).1 with q | q
    · exact .inl q
    · exact .inr ⟨q, PySem.W.cellsFrom_some _ _ _ (.inl q)⟩
  refine codeAny_call_function hr.depth (KX _ _ lk) rfl S.co S.gen rfl (PySem.W.codeRec_of KX hcd) (hb _ _ _ _ ?_)
  refine wpAny_newFunctionEnv_cells S.kind hkind fun env he s1 x => ?_
  subst he
  refine ⟨lim.keeps x.toInCall.keep, codeAny_func ?_⟩
  obtain ⟨t, ht, hq⟩ := hbody cdv rfl A outer s H vs Q E (fun q => hgu (Nat.le_succ_of_le q)) (hr.deeper _) hsp
  have I : Inv (cxOf (L2.CX P w) P w K mg base N qual (defScope st) f cdv A outer s H E) [] (start N vs) H s1 := inv_start S hr.hd e0 hl r x
  refine wpAny_mono (ht.run [] s1 (start N vs) H _ I hq) (fun fl s' hs => ?_) fun e s' hs => hs
  cases fl with
  | ret u =>
    obtain ⟨v, σ', H', J, rv, q⟩ := hs
    exact ⟨v, H', J.os, J.bare, J.base, J.hok, rv, q⟩
  | next =>
    obtain ⟨σ', H', J, q⟩ := hs
    exact ⟨V.non, H', J.os, J.bare, J.base, J.hok, rfl, q⟩
  | brk =>
    obtain ⟨_, _, _, q⟩ := hs
    exact q.elim
  | cont =>
    obtain ⟨_, _, _, q⟩ := hs
    exact q.elim
/-- the context of a def's body -/
theorem cok_fn {N : List Str} {qual : Str} {scope : Scope} {f : Addr} {cdv : Value} {A : Around} {outer : List PySem.Env} {s : Shared} {H : Hp} {E : XK} {k : Nat} (nd : N.Nodup) (hg : 32 ≤ k → A.guards = some []) (hr : Room k (A.deeper (envOfC qual scope s.heap.objs.size f cdv))) :
    Cok (cxOf (L2.CX P w) P w K mg base N qual scope f cdv A outer s H E) (fun cls d _ H => E cls d H) k where
  calm := rfl
  nd := nd
  takes := takes_of rfl rfl rfl rfl
  room := hr
  guards := hg
  passes := passes_of rfl
end
section
variable {K : PySem.W.Frag} {W : WX} {mg : Str → Option Value} {G H : Hp} {s : List Int} {N : List Str} {vs : List V} {ds : List D}
theorem start_get {vs : List V} {i : Nat} {v : V} (h : vs[i]? = some v) : (start N vs)[i]? = some (some v) := by
  have hi := (List.getElem?_eq_some_iff.mp h).1
  unfold L2.start
  rw [List.getElem?_append_left (by simpa using hi), List.getElem?_map, h]
  rfl
theorem start_len {vs : List V} (h : vs.length ≤ N.length) : (start N vs).length = N.length := by
  unfold L2.start
  rw [List.length_append, List.length_map, List.length_replicate]
  omega
theorem get_vals {l : List Sl} {m i : Nat} {x : Sl} (h : (l ++ List.replicate m Sl.junk)[i]? = some x) (hx : x ≠ .junk) : l[i]? = some x := by
  by_cases hi : i < l.length
  · rwa [List.getElem?_append_left hi] at h
  · rw [List.getElem?_append_right (by omega), List.getElem?_replicate] at h
    split at h
    · cases h
      exact absurd rfl hx
    · cases h
def slots0 (N : List Str) (ds : List D) : List Sl := ds.map .val ++ List.replicate (N.length - ds.length) .junk
def slotsP (N : List Str) (ds : List D) : List Sl := (.pen :: ds.map .val) ++ List.replicate (N.length - (ds.length + 1)) .junk
def slotsS (N : List Str) (ns : List Int) (ds : List D) : List Sl := (.scr ns :: ds.map .val) ++ List.replicate (N.length - (ds.length + 1)) .junk
theorem plain0 (l : List D) (m : Nat) : ∀ z ∈ l.map Sl.val ++ List.replicate m Sl.junk, plainS z = true := fun z h => by
  rcases List.mem_append.mp h with h | h
  · obtain ⟨d, _, rfl⟩ := List.mem_map.mp h
    rfl
  · rw [List.eq_of_mem_replicate h]
    rfl
theorem nv_start0 (hs : Same G H ∧ TabK K H ∧ NoT G) (r : RpL K G vs ds) (hn : vs.length ≤ N.length) : Nv K none G H G H (start N vs) (slots0 N ds) s where
  len := by
    rw [start_len hn]
    unfold slots0
    have := r.1
    simp
    omega
  val := fun i d e => by
    have e := get_vals e (fun z => by cases z)
    rw [List.getElem?_map] at e
    cases q : ds[i]? with
    | none => rw [q] at e; cases e
    | some d' =>
      rw [q] at e
      cases e
      obtain ⟨v, h1, h2⟩ := r.get q
      exact ⟨v, start_get h1, h2⟩
  own := fun i xs e => by
    have e := get_vals e (fun z => by cases z)
    rw [List.getElem?_map] at e
    cases q : ds[i]? <;> rw [q] at e <;> cases e
  inj := fun i j p xs ys e => by
    have e := get_vals e (fun z => by cases z)
    rw [List.getElem?_map] at e
    cases q : ds[i]? <;> rw [q] at e <;> cases e
  pen := fun i e => by
    have e := get_vals e (fun z => by cases z)
    rw [List.getElem?_map] at e
    cases q : ds[i]? <;> rw [q] at e <;> cases e
  scr := fun i ns e => by
    have e := get_vals e (fun z => by cases z)
    rw [List.getElem?_map] at e
    cases q : ds[i]? <;> rw [q] at e <;> cases e
  ps := PenOk.none
  ext := Ext.refl hs.1
  x := NvX.none (plain0 ds _) hs.2.1 hs.2.2
theorem nv_startP {q : Addr} (hs : Same G H ∧ TabK K H ∧ NoT G) (r : RpL K G vs ds) (hn : vs.length + 1 ≤ N.length) (hp : PenOk (some q) G H s) : Nv K (some q) G H G H (start N (.ref q :: vs)) (slotsP N ds) s where
  len := by
    rw [start_len (by simpa using hn)]
    unfold slotsP
    have := r.1
    simp
    omega
  val := fun i d e => by
    have e := get_vals e (fun z => by cases z)
    cases i with
    | zero => cases e
    | succ i =>
      rw [List.getElem?_cons_succ, List.getElem?_map] at e
      cases q : ds[i]? with
      | none => rw [q] at e; cases e
      | some d' =>
        rw [q] at e
        cases e
        obtain ⟨v, h1, h2⟩ := r.get q
        exact ⟨v, start_get (by simpa using h1), h2⟩
  own := fun i xs e => by
    have e := get_vals e (fun z => by cases z)
    cases i with
    | zero => cases e
    | succ i =>
      rw [List.getElem?_cons_succ, List.getElem?_map] at e
      cases q : ds[i]? <;> rw [q] at e <;> cases e
  inj := fun i j p xs ys e => by
    have e := get_vals e (fun z => by cases z)
    cases i with
    | zero => cases e
    | succ i =>
      rw [List.getElem?_cons_succ, List.getElem?_map] at e
      cases q : ds[i]? <;> rw [q] at e <;> cases e
  pen := fun i e => by
    have e := get_vals e (fun z => by cases z)
    cases i with
    | zero => exact ⟨q, rfl, start_get rfl⟩
    | succ i =>
      rw [List.getElem?_cons_succ, List.getElem?_map] at e
      cases q : ds[i]? <;> rw [q] at e <;> cases e
  scr := fun i ns e => by
    have e := get_vals e (fun z => by cases z)
    cases i with
    | zero => cases e
    | succ i =>
      rw [List.getElem?_cons_succ, List.getElem?_map] at e
      cases q : ds[i]? <;> rw [q] at e <;> cases e
  ps := hp
  ext := Ext.refl hs.1
  x := NvX.none (fun z h => by
    rcases List.mem_cons.mp h with rfl | h
    · rfl
    · exact plain0 ds _ z h) hs.2.1 hs.2.2
theorem nv_startS {a : Addr} {ns : List Int} (hs : Same G H ∧ TabK K H ∧ NoT G) (hq : SqL K G a (ns.map V.int)) (r : RpL K G vs ds) (hn : vs.length + 1 ≤ N.length) : Nv K none G H G H (start N (.ref a :: vs)) (slotsS N ns ds) s where
  len := by
    rw [start_len (by simpa using hn)]
    unfold slotsS
    have := r.1
    simp
    omega
  val := fun i d e => by
    have e := get_vals e (fun z => by cases z)
    cases i with
    | zero => cases e
    | succ i =>
      rw [List.getElem?_cons_succ, List.getElem?_map] at e
      cases q : ds[i]? with
      | none => rw [q] at e; cases e
      | some d' =>
        rw [q] at e
        cases e
        obtain ⟨v, h1, h2⟩ := r.get q
        exact ⟨v, start_get (by simpa using h1), h2⟩
  own := fun i xs e => by
    have e := get_vals e (fun z => by cases z)
    cases i with
    | zero => cases e
    | succ i =>
      rw [List.getElem?_cons_succ, List.getElem?_map] at e
      cases q : ds[i]? <;> rw [q] at e <;> cases e
  inj := fun i j p xs ys e => by
    have e := get_vals e (fun z => by cases z)
    cases i with
    | zero => cases e
    | succ i =>
      rw [List.getElem?_cons_succ, List.getElem?_map] at e
      cases q : ds[i]? <;> rw [q] at e <;> cases e
  pen := fun i e => by
    have e := get_vals e (fun z => by cases z)
    cases i with
    | zero => cases e
    | succ i =>
      rw [List.getElem?_cons_succ, List.getElem?_map] at e
      cases q : ds[i]? <;> rw [q] at e <;> cases e
  scr := fun i ns' e => by
    have e := get_vals e (fun z => by cases z)
    cases i with
    | zero =>
      cases e
      exact ⟨a, start_get rfl, hq⟩
    | succ i =>
      rw [List.getElem?_cons_succ, List.getElem?_map] at e
      cases q : ds[i]? <;> rw [q] at e <;> cases e
  ps := PenOk.none
  ext := Ext.refl hs.1
  x := NvX.none (fun z h => by
    rcases List.mem_cons.mp h with rfl | h
    · rfl
    · exact plain0 ds _ z h) hs.2.1 hs.2.2
def outD : Out → PM D
  | .ret d => pure d
  | .fall _ => pure .non
  | _ => bad
theorem spost_fn {α : Type} {out : α → Out} {m : PM α} {pa : Option Addr} {Q : VK} {E : XK} (h : Pst K (fun cls dx _ H' => E cls dx H') mg pa [] (FD K Q) G H ((m >>= fun a => outD (out a)) s)) :
    SPost K (fun cls d _ H => E cls d H) mg pa G H { nx := fun _ H' => Q .non H', rt := Q } ((m >>= fun a => pure (out a)) s) := by
  rw [PM.bind_def] at h ⊢
  cases e : m s with
  | ok a s1 =>
    rw [e] at h
    have h : Pst K (fun cls dx _ H' => E cls dx H') mg pa [] (FD K Q) G H (outD (out a) s1) := h
    show SPost K _ mg pa G H _ (.ok (out a) s1)
    cases q : out a with
    | fall Γ' =>
      rw [q] at h
      exact fun σ' G' H' E' => h G' H' E'.ext E'.ps _ .non
    | ret d =>
      rw [q] at h
      exact fun v G' H' x p r => h G' H' x p v r
    | brk Γ' => rw [q] at h; exact h.elim
    | cnt Γ' => rw [q] at h; exact h.elim
    | retG d Γ' => rw [q] at h; exact h.elim
    | retP _ => rw [q] at h; exact h.elim
    | retO _ => rw [q] at h; exact h.elim
  | exc z =>
    rw [e] at h
    exact fun cls dx σ' G' H' x q => h cls dx G' H' x q
  | bad => rw [e] at h; exact h.elim
end
section
variable {P : Program} {w : World} {K : PySem.W.Frag} {mg : Str → Option Value} {base : Heap} {x qual : Str} {st : Stmt} {f : Addr} {fd : FuncData} {N ps : List Str} {k n : Nat}
theorem scope_le {sc : Scope} (S : FnScope N ps sc) : ps.length ≤ N.length := by
  have := congrArg List.length S.pre
  rw [List.length_take] at this
  omega
/-- a def without a pen -/
theorem fn_pure {F : List D → PM D} (FU : Fun K x qual st f fd) (S : FnScope N ps (defScope st)) (hps : ps.length = n)
    (hb : ∀ (cdv : Value) (A : Around) (outer : List PySem.Env) (s : Shared) (H : Hp) (E : XK), Cok (cxOf (L2.CX P w) P w K mg base N qual (defScope st) f cdv A outer s H E) (fun cls d _ H => E cls d H) k → ∀ ds : List D, ds.length = n →
      ∃ (α : Type) (out : α → Out) (m : PM α), SV (cxOf (L2.CX P w) P w K mg base N qual (defScope st) f cdv A outer s H E) (fun cls d _ H => E cls d H) none (slots0 N ds) out (defBody st) m ∧ F ds = (m >>= fun a => outD (out a))) :
    FnG P w K mg base (k + 1) f fd ps (spF K mg false n F) := by
  refine fnG_of FU S (fun vs H Q E h => ?_) fun cdv _ A outer s H vs Q E hg hr h => ?_
  · obtain ⟨pa, G, s, vs', ds, hpa, rfl, _, _, r, hn, _⟩ := h
    cases pa with
    | some _ => cases hpa
    | none => rw [show (Option.toList (none : Option Addr)).map V.ref ++ vs' = vs' from rfl, r.1, hn, hps]
  · obtain ⟨pa, G, s', vs', ds, hpa, rfl, hs, hp, r, hn, hP⟩ := h
    cases pa with
    | some _ => cases hpa
    | none =>
      obtain ⟨α, out, m, sv, e⟩ := hb cdv A outer s H E (cok_fn S.nd hg hr) ds hn
      rw [e] at hP
      exact ⟨_, sv, G, H, G, s', nv_start0 hs r (by show vs'.length ≤ _; rw [r.1, hn, ← hps]; exact scope_le S), spost_fn hP⟩
/-- a def with the pen -/
theorem fn_pen {F : List D → PM D} (FU : Fun K x qual st f fd) (S : FnScope N ps (defScope st)) (hps : ps.length = n + 1)
    (hb : ∀ (cdv : Value) (A : Around) (outer : List PySem.Env) (s : Shared) (H : Hp) (E : XK), Cok (cxOf (L2.CX P w) P w K mg base N qual (defScope st) f cdv A outer s H E) (fun cls d _ H => E cls d H) k → ∀ (q : Addr) (ds : List D), ds.length = n →
      ∃ (α : Type) (out : α → Out) (m : PM α), SV (cxOf (L2.CX P w) P w K mg base N qual (defScope st) f cdv A outer s H E) (fun cls d _ H => E cls d H) (some q) (slotsP N ds) out (defBody st) m ∧ F ds = (m >>= fun a => outD (out a))) :
    FnG P w K mg base (k + 1) f fd ps (spF K mg true n F) := by
  refine fnG_of FU S (fun vs H Q E h => ?_) fun cdv _ A outer s H vs Q E hg hr h => ?_
  · obtain ⟨pa, G, s, vs', ds, hpa, rfl, _, _, r, hn, _⟩ := h
    cases pa with
    | none => cases hpa
    | some p =>
      show vs'.length + 1 = _
      rw [r.1, hn, hps]
  · obtain ⟨pa, G, s', vs', ds, hpa, rfl, hs, hp, r, hn, hP⟩ := h
    cases pa with
    | none => cases hpa
    | some p =>
      obtain ⟨α, out, m, sv, e⟩ := hb cdv A outer s H E (cok_fn S.nd hg hr) p ds hn
      rw [e] at hP
      exact ⟨_, sv, G, H, G, s', nv_startP hs r (by show vs'.length + 1 ≤ _; rw [r.1, hn, ← hps]; exact scope_le S) hp, spost_fn hP⟩
/-- a def of the script -/
def spS (K : PySem.W.Frag) (mg : Str → Option Value) (n : Nat) (f : List Int → List D → PM D) : Sp := fun vs H Q E => ∃ (a : Addr) (ns : List Int) (G : Hp) (vs' : List V) (ds : List D),
  vs = .ref a :: vs' ∧ (Same G H ∧ TabK K H ∧ NoT G) ∧ SqL K G a (ns.map V.int) ∧ RpL K G vs' ds ∧ ds.length = n ∧ Pst K (fun cls dx _ H' => E cls dx H') mg none [] (FD K Q) G H (f ns ds [])
theorem fn_scr {F : List Int → List D → PM D} (FU : Fun K x qual st f fd) (S : FnScope N ps (defScope st)) (hps : ps.length = n + 1)
    (hb : ∀ (cdv : Value) (A : Around) (outer : List PySem.Env) (s : Shared) (H : Hp) (E : XK), Cok (cxOf (L2.CX P w) P w K mg base N qual (defScope st) f cdv A outer s H E) (fun cls d _ H => E cls d H) k → ∀ (ns : List Int) (ds : List D), ds.length = n →
      ∃ (α : Type) (out : α → Out) (m : PM α), SV (cxOf (L2.CX P w) P w K mg base N qual (defScope st) f cdv A outer s H E) (fun cls d _ H => E cls d H) none (slotsS N ns ds) out (defBody st) m ∧ F ns ds = (m >>= fun a => outD (out a))) :
    FnG P w K mg base (k + 1) f fd ps (spS K mg n F) := by
  refine fnG_of FU S (fun vs H Q E h => ?_) fun cdv _ A outer s H vs Q E hg hr h => ?_
  · obtain ⟨a, ns, G, vs', ds, rfl, _, _, r, hn, _⟩ := h
    show vs'.length + 1 = _
    rw [r.1, hn, hps]
  · obtain ⟨a, ns, G, vs', ds, rfl, hs, hq, r, hn, hP⟩ := h
    obtain ⟨α, out, m, sv, e⟩ := hb cdv A outer s H E (cok_fn S.nd hg hr) ns ds hn
    rw [e] at hP
    exact ⟨_, sv, G, H, G, [], nv_startS hs hq r (by rw [r.1, hn, ← hps]; exact scope_le S), spost_fn hP⟩
/-- a def that makes a pen -/
def spM (K : PySem.W.Frag) (mg : Str → Option Value) (n : Nat) (f : List D → PM (List Int)) : Sp := fun vs H Q E => ∃ (G : Hp) (ds : List D), (Same G H ∧ TabK K H ∧ NoT G) ∧ RpL K G vs ds ∧ ds.length = n ∧
  Pst K (fun cls dx _ H' => E cls dx H') mg none [] (fun G' H' ns _ => ∀ p, H p = none → H' p = some (.lst (ns.map V.int)) → G' p = none → Q (.ref p) H') G H (f ds [])
def asInts (ds : List D) : PM (List Int) := match intsOf ds with
  | some ns => if ns.length ≤ lim then pure ns else bad
  | none => bad
theorem fn_mk {F : List D → PM (List Int)} {es : List Expr} {p1 p2 : Pos} (FU : Fun K x qual st f fd) (S : FnScope N ps (defScope st)) (hps : ps.length = n) (hst : defBody st = [.Return (some (.List es p1)) p2])
    (hb : ∀ (cdv : Value) (A : Around) (outer : List PySem.Env) (s : Shared) (H : Hp) (E : XK), Cok (cxOf (L2.CX P w) P w K mg base N qual (defScope st) f cdv A outer s H E) (fun cls d _ H => E cls d H) k → ∀ ds : List D, ds.length = n →
      ∃ m, EL (cxOf (L2.CX P w) P w K mg base N qual (defScope st) f cdv A outer s H E) (fun cls d _ H => E cls d H) none (slots0 N ds) es m ∧ F ds = (m >>= asInts)) :
    FnG P w K mg base (k + 1) f fd ps (spM K mg n F) := by
  refine fnG_of FU S (fun vs H Q E h => ?_) fun cdv _ A outer s H vs Q E hg hr h => ?_
  · obtain ⟨G, ds, _, r, hn, _⟩ := h
    rw [r.1, hn, hps]
  · obtain ⟨G, ds, hs, r, hn, hP⟩ := h
    obtain ⟨m, el, e⟩ := hb cdv A outer s H E (cok_fn S.nd hg hr) ds hn
    rw [e] at hP
    rw [hst]
    refine ⟨_, pss_one (ps_ret (L2.pe_lst el)), G, H, G, [], nv_start0 hs r (by rw [r.1, hn, ← hps]; exact scope_le S), ?_⟩
    have hP : Pst K (fun cls d _ H => E cls d H) mg none (L2.start N vs) (fun G' H' ns _ => ∀ p, H p = none → H' p = some (.lst (ns.map V.int)) → G' p = none → Q (.ref p) H') G H ((m >>= asInts) []) := by
      cases q : (m >>= asInts) [] with
      | ok a s => rw [q] at hP; exact hP
      | exc z => rw [q] at hP; exact hP
      | bad => rw [q] at hP; exact hP.elim
    refine hP.bind.imp fun G1 H1 ds1 s1 x1 p1 P1 vs1 r1 => ?_
    unfold asInts at P1
    cases q : intsOf ds1 with
    | none => rw [q] at P1; exact P1.elim
    | some ns =>
      rw [q] at P1
      have P1 : Pst K (fun cls d _ H => E cls d H) mg none (L2.start N vs) (fun G' H' ns _ => ∀ p, H p = none → H' p = some (.lst (ns.map V.int)) → G' p = none → Q (.ref p) H') G1 H1 ((if ns.length ≤ lim then pure ns else bad : PM (List Int)) s1) := P1
      split at P1
      · rename_i hl
        have ev := intsOf_rp r1 q
        refine ⟨by rw [ev, List.length_map]; exact lim_le hl, fun p np => ?_⟩
        have hb : H p = none := by
          cases q : H p with
          | none => rfl
          | some o =>
            obtain ⟨o', z⟩ := x1.t p o q
            rw [np] at z
            cases z
        exact P1 G1 _ (Ext.newH x1.sub np _) PenOk.none p hb (by rw [upd_same, ev]) (x1.sub.free np)
      · exact P1.elim
end
end EV
namespace EV
open PySem PySem.Spec PyProof.Rows L2
section
variable {X : Cx} {W : WX} {pa : Option Addr} {Γ : List Sl} {k : Nat} {pos : Pos} {α : Type} {out : α → Out} {rest : List Stmt} {f : Addr} {fd : FuncData} {ps : List Str} {n : Nat} {x : Str} {p : Pos}
theorem ev_lenScr {i : Nat} {y : Str} {ns : List Int} {p2 : Pos} (hg : Gl X "len") (hm : X.mg "len" = none) (hΓ : Γ[i]? = some (.scr ns)) (hN : X.N[i]? = some y) (hv : Vis X.env.scope y)
    (hs : starEach [.Name y p2] X.env = (false, eval (.Name y p2) X.env) :: starEach [] X.env := by rfl) (hpl : (backTo pos (starEach [] X.env)).any (·.1) = false := by rfl) (hd : (y == ("__debug__" : Str)) = false := by decide) (hcd : (y == ("__classdict__" : Str)) = false := by decide) :
    EV X W pa Γ (.Call (.Name "len" p) [.Name y p2] [] pos) (pure (.int ns.length)) :=
  pe_imp (pe_callB call_len_seq hg hm PySem.boot_len (pa_cons (pe_var hN hv hd hcd) pa_nil hs) (by decide) (by decide) hs hpl) fun σ H Q ⟨G0, H0, G, s, E, P⟩ => by
    obtain ⟨a, h1, h2⟩ := E.scr i ns hΓ
    refine ⟨.ref a, h1, a, ns.map V.int, rfl, .inl (E.sub.seq h2), ?_⟩
    rw [List.length_map]
    exact P.now E.sub E.ps _ (.int _)
def scrGet (ns : List Int) : D → PM D
  | .int i => match atI ns i with
    | some m => pure (.int m)
    | none => bad
  | _ => bad
theorem ev_scr {i : Nat} {y : Str} {ns : List Int} {b : Expr} {p2 : Pos} {mb : PM D} (hΓ : Γ[i]? = some (.scr ns)) (hN : X.N[i]? = some y) (hv : Vis X.env.scope y) (hb : EV X W pa Γ b mb) (hs : PlainIx b) (hd : (y == ("__debug__" : Str)) = false := by decide) (hcd : (y == ("__classdict__" : Str)) = false := by decide) :
    EV X W pa Γ (.Subscript (.Name y p2) b pos) (mb >>= scrGet ns) := pe_imp (pe_ix ix_list (pe_var hN hv hd hcd) hb hs) fun σ H Q ⟨G0, H0, G, s, E, P⟩ => by
  obtain ⟨a, e2, h2⟩ := E.scr i ns hΓ
  refine ⟨.ref a, e2, G0, H0, G, s, E, P.bind.imp fun G1 H1 d s1 x1 p1 P1 v r => ?_⟩
  cases r with
  | int j =>
    have P1 : Pst X.K W X.mg pa σ (FD X.K Q) G1 H1 ((match atI ns j with | some m => pure (.int m) | none => bad : PM D) s1) := P1
    cases e : atI ns j with
    | none => rw [e] at P1; exact P1.elim
    | some m =>
      rw [e] at P1
      exact ⟨a, ns.map V.int, j, .int m, rfl, rfl, (x1.g.trans x1.sub).seq h2, by rw [atI_map, e]; rfl, P1.now x1.sub p1 _ (.int m)⟩
  | _ => exact P1.elim
/-- f(script, e, ..) -/
theorem ev_callS {F : List Int → List D → PM D} {i : Nat} {y : Str} {ns : List Int} {p2 : Pos} {es : List Expr} {ml : PM (List D)} (C : Cok X W k) (FG : FnG X.prog X.w X.K X.mg X.base k f fd ps (spS X.K X.mg n F)) (ar : ∀ ns, Arity n (F ns)) (hg : Gl X x) (hm : X.mg x = some (.ref f)) (hk : PySem.W.keepIn X.K (.ref f) = true) (hb : Binds X.K fd ps [])
    (hΓ : Γ[i]? = some (.scr ns)) (hN : X.N[i]? = some y) (hv : Vis X.env.scope y) (ha : EL X W pa Γ es ml) (hdb : (x == ("__debug__" : Str)) = false := by decide)
    (he : starEach (.Name y p2 :: es) X.env = (false, eval (.Name y p2) X.env) :: starEach es X.env := by rfl) (hpl : (backTo pos (starEach es X.env)).any (·.1) = false := by rfl)
    (hd : (y == ("__debug__" : Str)) = false := by decide) (hcd : (y == ("__classdict__" : Str)) = false := by decide) :
    EV X W pa Γ (.Call (.Name x p) (.Name y p2 :: es) [] pos) (ml >>= fun ds => run0 (F ns ds)) :=
  pe_imp (pe_callG C FG hg hm hk hb (pa_cons (pe_var hN hv hd hcd) ha he) hdb he hpl) fun σ H Q ⟨G0, H0, G, s, E, P⟩ => by
    obtain ⟨a, e2, h2⟩ := E.scr i ns hΓ
    exact ⟨.ref a, e2, G0, H0, G, s, E, P.bind.imp fun G1 H1 ds s1 x1 p1 P1 vs r => ⟨a, ns, G1, vs, ds, rfl, ⟨x1.sub, x1.tk E.tk, x1.gt E.x.nt⟩, x1.g.seq h2, r, run0_len (ar ns) P1, pst_run0 p1 P1⟩⟩
def withPen {α : Type} (ns : List Int) (m : PM α) : PM α := fun s => match m ns with
  | .ok a _ => .ok a s
  | .exc e => .exc e
  | .bad => .bad
def noPen : List Sl → Bool
  | [] => true
  | .pen :: _ => false
  | _ :: r => noPen r
theorem noPen_get : ∀ {l : List Sl} {i : Nat}, noPen l = true → l[i]? ≠ some .pen
  | [], _, _, h => by simp at h
  | x :: r, 0, h, e => by
    simp at e
    subst e
    cases h
  | x :: r, i + 1, h, e => by
    simp at e
    refine noPen_get (l := r) ?_ e
    cases x <;> first | exact h | cases h
theorem Nv.toPen {K : PySem.W.Frag} {G0 H0 G H : Hp} {σ : L2.St} {s : List Int} (E : Nv K none G0 H0 G H σ Γ s) (i : Nat) {q : Addr} {ns : List Int} (hq : H q = some (.lst (ns.map V.int))) (gq : G q = none) (h0 : H0 q = none)
    (hn : ∀ (j : Nat) xs, Γ[j]? = some (.own xs) → σ[j]? ≠ some (some (.ref q))) : Nv K (some q) G0 H0 G H (σ.set i (some (.ref q))) (Γ.set i .pen) ns where
  len := by simp [E.len]
  val := fun j d e => by
    by_cases hj : i = j
    · subst hj
      have := (List.getElem?_eq_some_iff.mp e).1
      rw [List.getElem?_set_self (by simpa using this)] at e
      cases e
    · rw [List.getElem?_set_ne hj] at e ⊢
      exact E.val j d e
  own := fun j d e => by
    by_cases hj : i = j
    · subst hj
      have := (List.getElem?_eq_some_iff.mp e).1
      rw [List.getElem?_set_self (by simpa using this)] at e
      cases e
    · rw [List.getElem?_set_ne hj] at e ⊢
      obtain ⟨p, vs, h1, h2, h3, h4, h5, h6⟩ := E.own j d e
      exact ⟨p, vs, h1, h2, h3, h4, h5, fun z => by
        cases z
        exact hn j d e h1⟩
  inj := fun j l p xs ys e1 e2 => by
    have n1 : i ≠ j := fun hj => by
      subst hj
      have := (List.getElem?_eq_some_iff.mp e1).1
      rw [List.getElem?_set_self (by simpa using this)] at e1
      cases e1
    have n2 : i ≠ l := fun hj => by
      subst hj
      have := (List.getElem?_eq_some_iff.mp e2).1
      rw [List.getElem?_set_self (by simpa using this)] at e2
      cases e2
    rw [List.getElem?_set_ne n1] at e1 ⊢
    rw [List.getElem?_set_ne n2] at e2 ⊢
    exact E.inj j l p xs ys e1 e2
  pen := fun j e => by
    by_cases hj : i = j
    · subst hj
      have hi := (List.getElem?_eq_some_iff.mp e).1
      exact ⟨q, rfl, List.getElem?_set_self (by rw [← E.len]; simpa using hi)⟩
    · rw [List.getElem?_set_ne hj] at e
      obtain ⟨p, h, _⟩ := E.pen j e
      cases h
  scr := fun j d e => by
    by_cases hj : i = j
    · subst hj
      have := (List.getElem?_eq_some_iff.mp e).1
      rw [List.getElem?_set_self (by simpa using this)] at e
      cases e
    · rw [List.getElem?_set_ne hj] at e ⊢
      exact E.scr j d e
  ps := fun a e => by
    cases e
    exact ⟨gq, hq⟩
  ext := E.ext.any
  x := E.x.put i rfl
theorem Nv.unPen {K : PySem.W.Frag} {G0 H0 G H : Hp} {σ : L2.St} {s s' : List Int} {q : Addr} (E : Nv K (some q) G0 H0 G H σ Γ s) (h0 : H0 q = none) (hn : noPen Γ = true) : Nv K none G0 H0 G H σ Γ s' where
  len := E.len
  val := E.val
  own := fun j d e => by
    obtain ⟨p, vs, h1, h2, h3, h4, h5, h6⟩ := E.own j d e
    exact ⟨p, vs, h1, h2, h3, h4, h5, fun z => by cases z⟩
  inj := E.inj
  pen := fun j e => absurd e (noPen_get hn)
  scr := E.scr
  ps := PenOk.none
  ext := ⟨E.ext.g, fun a o e _ nt => E.ext.h a o e (fun z => by
    cases z
    rw [h0] at e
    cases e) nt, E.ext.t, E.ext.n, E.ext.sub, E.ext.tk, E.ext.gt⟩
  x := E.x
theorem sv_penNew (i : Nat) {F : List D → PM (List Int)} {y : Str} {p0 : Pos} {e : Expr} {es : List Expr} {ml : PM (List D)} {kk : PM α} (C : Cok X W k) (FG : FnG X.prog X.w X.K X.mg X.base k f fd ps (spM X.K X.mg n F)) (ar : ∀ ds s, ds.length ≠ n → F ds s = .bad) (hg : Gl X x) (hm : X.mg x = some (.ref f)) (hk : PySem.W.keepIn X.K (.ref f) = true) (hb : Binds X.K fd ps [])
    (ha : EL X W none Γ (e :: es) ml) (hr : ∀ q, SV X W (some q) (Γ.set i .pen) out rest kk) (hnp : ∀ a, match out a with | .fall Γ' => noPen Γ' = true | .ret _ => True | _ => False)
    (hi : X.N[i]? = some y := by rfl) (hx : Loc X.env.scope y := by first | exact Or.inl rfl | exact Or.inr rfl) (hdb : (x == ("__debug__" : Str)) = false := by decide) (he : starEach (e :: es) X.env = (false, eval e X.env) :: starEach es X.env := by rfl) (hpl : (backTo pos (starEach es X.env)).any (·.1) = false := by rfl)
    {spos : Pos} (hs : swapsWith (.Call (.Name x p) (e :: es) [] pos) (some (.Name y p0)) spos.line X.env = pure false := by rfl) (hf : X.fn y = true ∨ X.env.scope.names.lookup y = some .local := by first | exact .inl rfl | exact .inr rfl) :
    SV X W none Γ out (.Assign [.Name y p0] (.Call (.Name x p) (e :: es) [] pos) spos :: rest) (ml >>= fun ds => run0 (F ds) >>= fun ns => withPen ns kk) := by
  unfold SV
  rw [bind_assoc]
  have hrest : PSs X rest (fun D σ H => ∃ q, svT X W (some q) (Γ.set i .pen) (kk >>= fun a => pure (out a)) D σ H) := pss_ex hr
  refine pss_imp (pss_cons (ps_set (i := i) C.nd hi hx (pe_callG C FG hg hm hk hb ha hdb he hpl) hs hf) hrest) fun Dn σ H ⟨G0, H0, G, s, E, P⟩ => ⟨G0, H0, G, s, E, (P.bind E).imp fun G1 H1 ds s1 x1 p1 P1 vs r => ?_⟩
  have E1 := E.step x1 p1
  rw [bind_assoc, PM.bind_def] at P1
  unfold run0 at P1
  have hlen : ds.length = n := by
    by_cases h : ds.length = n
    · exact h
    · rw [ar ds [] h] at P1
      exact P1.elim
  refine ⟨G1, ds, ⟨x1.sub, x1.tk E.tk, x1.gt E.x.nt⟩, r, hlen, ?_⟩
  cases q : F ds [] with
  | exc z =>
    rw [q] at P1
    exact fun cls dx G' H' y q' => P1 cls dx σ G' H' (E1.ext.trans y) q'
  | bad => rw [q] at P1; exact P1.elim
  | ok ns s2 =>
    rw [q] at P1
    have P1 : SPost X.K W X.mg none G0 H0 Dn ((withPen ns kk >>= fun a => pure (out a)) s1) := P1
    intro G' H' y yp p' np hp' gp'
    have E2 := E1.step (s' := s1) y PenOk.none
    have h0 : H0 p' = none := by
      cases z : H0 p' with
      | none => rfl
      | some o =>
        obtain ⟨o', z'⟩ := E1.ext.t p' o z
        rw [np] at z'
        cases z'
    have E3 := E2.toPen i hp' gp' h0 (fun j xs e z => by
      obtain ⟨p2, vs2, h1, h2, _⟩ := E1.own j xs e
      rw [z] at h1
      cases h1
      rw [np] at h2
      cases h2)
    refine ⟨p', G0, H0, G', ns, E3, ?_⟩
    rw [PM.bind_def] at P1 ⊢
    unfold withPen at P1
    cases e5 : kk ns with
    | exc z => rw [e5] at P1; exact fun cls dx σ' G' H' w q => P1 cls dx σ' G' H' ⟨w.g, fun a o e _ nt => w.h a o e (fun z => by
        cases z
        rw [h0] at e
        cases e) nt, w.t, w.n, w.sub, w.tk, w.gt⟩ q
    | bad => rw [e5] at P1; exact P1.elim
    | ok a s3 =>
      rw [e5] at P1
      have P1 : SPost X.K W X.mg none G0 H0 Dn (.ok (out a) s1) := P1
      show SPost X.K W X.mg (some p') G0 H0 Dn (.ok (out a) s3)
      have cv : ∀ G' H', Ext X.K (some p') G0 H0 G' H' → Ext X.K none G0 H0 G' H' := fun G' H' w => ⟨w.g, fun a o e _ nt => w.h a o e (fun z => by
        cases z
        rw [h0] at e
        cases e) nt, w.t, w.n, w.sub, w.tk, w.gt⟩
      have hnpa := hnp a
      cases e6 : out a with
      | fall Γ' =>
        rw [e6] at P1 hnpa
        exact fun σ' G' H' E' => P1 σ' G' H' (E'.unPen h0 hnpa)
      | ret d => rw [e6] at P1; exact fun v G' H' w _ r => P1 v G' H' (cv _ _ w) PenOk.none r
      | brk Γ' => rw [e6] at hnpa; exact hnpa.elim
      | cnt Γ' => rw [e6] at hnpa; exact hnpa.elim
      | retG d Γ' => rw [e6] at hnpa; exact hnpa.elim
      | retP _ => rw [e6] at P1; exact fun v G' H' w _ r => P1 v G' H' (cv _ _ w) PenOk.none r
      | retO _ => rw [e6] at P1; exact fun p us G' H' w _ a b c r => P1 p us G' H' (cv _ _ w) PenOk.none a b c r
def two {β : Type} (kk : D → D → PM β) : List D → PM β
  | [a, b] => kk a b
  | _ => bad
def unp2 {β : Type} (kk : D → D → PM β) (d : D) : PM β := match dec2 d with
  | some z => kk z.1 z.2
  | none => bad
/-- a, b = e1, e2, plain locals -/
theorem sv_par (i j : Nat) {y z : Str} {a b : Expr} {px py pt : Pos} {kt k2 pt2} {ml : PM (List D)} {kk : D → D → PM α} (hc : X.calm = true) (hN : X.N.Nodup) (ha : EL X W pa Γ [a, b] ml) (hij : i ≠ j)
    (hr : ∀ u v, SV X W pa ((Γ.set i (.val u)).set j (.val v)) out rest (kk u v)) (hi : X.N[i]? = some y := by rfl) (hj : X.N[j]? = some z := by rfl)
    (hx : X.env.scope.names.lookup y = some .local := by rfl) (hy : X.env.scope.names.lookup z = some .local := by rfl)
    (hw : swappedStores [.Tuple [.Name y px, .Name z py] kt pt] (.Tuple [a, b] k2 pt2) X.env = pure (some [y, z]) := by rfl)
    (hs : swapsWithSole [.Tuple [.Name y px, .Name z py] kt pt] (.Tuple [a, b] k2 pt2) pos.line X.env = pure false := by rfl) :
    SV X W pa Γ out (.Assign [.Tuple [.Name y px, .Name z py] kt pt] (.Tuple [a, b] k2 pt2) pos :: rest) (ml >>= two kk) := by
  unfold SV
  rw [bind_assoc]
  have hrest : PSs X rest (fun D σ H => ∃ q : EV.D × EV.D, svT X W pa ((Γ.set i (.val q.1)).set j (.val q.2)) (kk q.1 q.2 >>= fun a => pure (out a)) D σ H) := pss_ex (ι := EV.D × EV.D) fun q => hr q.1 q.2
  refine pss_imp (pss_cons (ps_par (i := i) (j := j) hc hN hi hj hij hx hy ha hw hs) hrest) fun Dn σ H ⟨G0, H0, G, s, E, P⟩ => ⟨G0, H0, G, s, E, (P.bind E).imp fun G1 H1 ds s1 x1 p1 P1 vs r => ?_⟩
  match ds, r, P1 with
  | [u, v], r, P1 =>
    obtain ⟨v1, v2, rfl, r1, r2⟩ := rp2 r
    exact ⟨v1, v2, rfl, (u, v), G0, H0, G1, s1, ((E.step x1 p1).set i r1).set j r2, P1⟩
  | [], _, P1 => exact P1.elim
  | [_], _, P1 => exact P1.elim
  | _ :: _ :: _ :: _, _, P1 => exact P1.elim
/-- a, b = e, by a tuple -/
theorem sv_unp (i j : Nat) {y z : Str} {e : Expr} {px py pt : Pos} {kt : Nat} {me : PM D} {kk : D → D → PM α} (C : Cok X W k) (he : EV X W pa Γ e me)
    (hr : ∀ u v, SV X W pa ((Γ.set i (.val u)).set j (.val v)) out rest (kk u v)) (hp : PG X (.Tuple [.Name y px, .Name z py] kt pt) (gTup X.K 2 (gCons (gName i) (gCons (gName j) gNil))))
    (hs : swapsWithSole [.Tuple [.Name y px, .Name z py] kt pt] e pos.line X.env = pure false := by rfl) (hw : swappedStores [.Tuple [.Name y px, .Name z py] kt pt] e X.env = pure none := by rfl)
    (h1 : (assignEach [.Tuple [.Name y px, .Name z py] kt pt] X.env).map (·.2) = [assign (.Tuple [.Name y px, .Name z py] kt pt) X.env] := by rfl) :
    SV X W pa Γ out (.Assign [.Tuple [.Name y px, .Name z py] kt pt] e pos :: rest) (me >>= unp2 kk) := by
  unfold SV
  rw [bind_assoc]
  have hrest : PSs X rest (fun D σ H => ∃ q : EV.D × EV.D, svT X W pa ((Γ.set i (.val q.1)).set j (.val q.2)) (kk q.1 q.2 >>= fun a => pure (out a)) D σ H) := pss_ex (ι := EV.D × EV.D) fun q => hr q.1 q.2
  refine pss_imp (pss_cons (ps_asg he hp hs hw h1) hrest) fun Dn σ H ⟨G0, H0, G, s, E, P⟩ => ⟨G0, H0, G, s, E, (P.bind E).imp fun G1 H1 d s1 x1 p1 P1 v r => ?_⟩
  have E1 := E.step x1 p1
  cases e1 : dec2 d with
  | none =>
    unfold unp2 at P1
    rw [e1] at P1
    exact P1.elim
  | some q =>
    unfold unp2 at P1
    rw [e1] at P1
    exact tg_pair (vs := [i, j]) (by simp) (by simp) G0 H0 G1 H1 σ s1 v d q _ E1 r e1 fun σ' E' _ => ⟨q, G0, H0, G1, s1, E', P1⟩
end
theorem law_end {l : PySem.W.OpenLaw} {n k : Nat} {q : Program} {loose : List Str} {XP : (Str → Option Value) → Heap → Prop} {YP : World → Heap → Prop} {d : DefRec} {K : Params → PySem.W.Frag} {x : Str} {F : List Int → List D → PM D} (cs : List (Addr × Addr))
    (hn : l.most = some n) (hn2 : n ≤ sizeLine) (hdf : d.params.defaults = []) (hr : Room k callerA) (hY : ∀ (w : World) (h : Heap), YP w h → (K w.params).In h) (hT : ∀ (w : World) (h : Heap), YP w h → ∀ p ∈ cs, h.get? p.2 = some { cls := .none, data := .fields #[] })
    (hC : ∀ (w : World) (h : Heap), (K w.params).In h → ∀ p ∈ cs, PySem.W.CodeHd h p.1 p.2) (nT : ∀ w : World, ∀ p ∈ cs, (K w.params).lookup p.2 = none) (hN : ∀ (w : World) (P : Addr), NeedT (K w.params) P → ∃ p ∈ cs, p.2 = P)
    (hF : ∀ (w : World) (mg : Str → Option Value) (fa : Addr) (h : Heap), (K w.params).In h → h.Ns mainGlobals mg → mg d.name = some (.ref fa) →
      ∃ fd : FuncData, (∀ (s : Shared) (u : Value), BindsTo s fd ⟨[u], []⟩ [(x, u)]) ∧ ∀ base : Heap, (K w.params).In base → base.Ns mainGlobals mg → (∀ p ∈ cs, LamX.TabB base mg p.1 p.2) → FnG l.prog w (K w.params) mg base k fa fd [x] (spS (K w.params) mg 0 F))
    (hlaw : ∀ ns : List Int, ns.length ≤ n → ∃ s, F ns [] [] = .ok (.bl true) s) :
    PySem.W.WalkO q loose XP YP l.row.toRowW d [] (fun f vs => PySem.call f vs) := by
  refine Att.attach_call hn hdf fun w s₀ s₁ mg mb fa o pm cd doc a vs ns G Y ho hd hcd hmg hobj hints hlen hg => ?_
  have KX := hY w _ Y
  have tabs := hT w _ Y
  have heads := hC w _ KX
  obtain ⟨fd, hb, hFF⟩ := hF w mg fa _ KX G.T.g hmg
  have rv := vals_ints hints
  have lenV := hints.length
  have lz : ns.length ≤ sizeLine := Nat.le_trans hlen hn2
  have aNo : ∀ p ∈ cs, p.2 ≠ a := fun p hp z => by
    have q := tabs p hp
    rw [z, hobj] at q
    cases (show Data.seq vs.toArray _ = Data.fields #[] from congrArg Obj.data (Option.some.inj q))
  have core : ∀ G0 H : Hp, Same G0 H → NoT G0 → (∀ p ∈ cs, H p.2 = some (.tbl #[])) → (∀ b, H b = none ∨ (H b = some (.tbl #[]) ∧ ∃ p ∈ cs, p.2 = b) ∨ ∃ oz xs, H b = some (.frz oz (.lst xs))) → SqL (K w.params) G0 a (ns.map V.int) → HOk l.prog w H s₁.heap →
      (∀ b, H b ≠ none → b = a ∨ ∃ p ∈ cs, p.2 = b) → (H a ≠ none → (K w.params).lookup a = none) →
      codeAny (model l.prog w) callerA (.call (.ref fa) ⟨[.ref a], []⟩) (fun r s' => r = .ok (.ret (.bool true)) ∧ OldK s₁.heap s'.heap ∧ s'.os = s₁.os ∧ AllBare s'.gens) s₁ := by
    intro G0 H hGH hG0 hTb hO hS hok hA hK
    have offT : ∀ {b : Addr} {ob : Obj}, s₁.heap.get? b = some ob → (∀ us n, ob.data ≠ .seq us n) → ob.data ≠ .fields #[] → H b = none := by
      intro b ob e ne1 ne2
      refine Classical.byContradiction fun q => ?_
      rcases hA b q with e' | ⟨p, hp, e'⟩
      · subst e'
        rw [hobj] at e
        cases e
        exact ne1 _ _ rfl
      · subst e'
        rw [tabs p hp] at e
        cases e
        exact ne2 rfl
    have nodict : ∀ {b : Addr} {ob : Obj} {es : Array DictEntry} {ep : Nat}, s₁.heap.get? b = some ob → ob.data = .dict es ep → H b = none := fun {b ob es ep} e dd =>
      offT e (fun us n z => by rw [dd] at z; cases z) fun z => by rw [dd] at z; cases z
    have nsK : ∀ {b : Addr} {m : Str → Option Value}, s₁.heap.Ns b m → (hidT s₁.heap H).Ns b m := by
      intro b m hm
      obtain ⟨ob, es, ep, e, dd, r⟩ := hm
      exact ⟨ob, es, ep, hidT_get e (nodict e dd), dd, r⟩
    have hKb : (K w.params).In (hidT s₁.heap H) := by
      intro b ob e
      refine hidT_get (KX b ob e) ?_
      refine Classical.byContradiction fun q => ?_
      rcases hA b q with e' | ⟨p, hp, e'⟩
      · subst e'
        rw [hK q] at e
        cases e
      · subst e'
        rw [nT w p hp] at e
        cases e
    have hM : Mod (K w.params) mg (hidT s₁.heap H) := by
      obtain ⟨mc, l1, l2⟩ := G.T.nolimit
      exact ⟨hKb, nsK G.T.g, ⟨mb, nsK G.T.b, G.T.builtins⟩, mc, nsK l1, l2⟩
    have hTB : ∀ p ∈ cs, LamX.TabB (hidT s₁.heap H) mg p.1 p.2 := by
      intro p hp
      obtain ⟨gm, ges, gep, ge, gd, _⟩ := G.T.g
      refine ⟨?_, ?_, fun z => ?_⟩
      · obtain ⟨co, us, fi, tf, fl, tg, inF, tx, tt, c1, c2, c3, c4, rest⟩ := heads p hp
        refine ⟨co, us, fi, tf, fl, tg, inF, tx, tt, hidT_get c1 (offT c1 (fun us' n z => ?_) fun z => ?_), c2, c3, c4, rest⟩ <;> rw [c3] at z <;> cases z
        cases c4
      · obtain ⟨bm, ob, b1, b2, b3, b4, b5, b6⟩ := G.T.bmain
        refine ⟨bm, ob, b1, b2, fun z => ?_, fun z => ?_, hidT_get b3 (offT b3 (fun us' n z => ?_) fun z => ?_), b4, b5, b6⟩
        · rw [z, ge] at b3
          cases b3
          rw [gd] at b6
          cases b6
        · rw [z, tabs p hp] at b3
          cases b3
          cases b6
        · rw [b6] at z
          cases z
        · rw [b6] at z
          cases z
      · rw [z, tabs p hp] at ge
        cases ge
        cases gd
    have nil0 : ∀ b : Addr, b ∉ frs [] := fun b hb => absurd (show b ∈ ([] : List Addr) from hb) (by simp)
    have e0 : Env0 l.prog w (K w.params) mg (hidT s₁.heap H) callerA [] s₁ H :=
      ⟨rfl, hM, fun b ob e => of_hidT e, Nat.le_of_eq (hidT_size _ _), trivial, fun b hb => absurd hb (nil0 b), hok, .of_eq hg⟩
    obtain ⟨sf, hlf⟩ := hlaw ns hlen
    have tk1 : ∀ P ps, H P = some (.tbl ps) → LamX.TabS H P (tauK (K w.params) P) := fun P ps e => by
      rcases hO P with z | ⟨z, _⟩ | ⟨oz, xs, z⟩
      · rw [z] at e
        cases e
      · exact LamX.TabS.nil z
      · rw [z] at e
        cases e
    have tk : TabK (K w.params) H := ⟨tk1, fun P nd => by
      obtain ⟨p, hp, e⟩ := hN w P nd
      rw [← e]
      exact ⟨_, hTb p hp⟩⟩
    have hsp : spS (K w.params) mg 0 F [.ref a] H (fun v _ => v = .bl true) (fun _ _ _ => False) := by
      refine ⟨a, ns, G0, [], [], rfl, ⟨hGH, tk, hG0⟩, hS, .nil, rfl, ?_⟩
      rw [hlf]
      intro G' H' _ _ v rr
      cases rr
      rfl
    refine codeAny_mono ((hFF _ hKb (nsK G.T.g) hTB).run callerA [] s₁ H ⟨[.ref a], []⟩ [.ref a] [.ref a] _ _ (fun _ => rfl) hr e0 (hb s₁ (.ref a)) (.cons rfl .nil) hsp) fun r s' h => ?_
    cases r with
    | error e =>
      obtain ⟨_, _, _, _, _, _, _, _, _, _, _, _, z⟩ := h
      exact z.elim
    | ok fl =>
      cases fl with
      | next => exact h.elim
      | brk => exact h.elim
      | cont => exact h.elim
      | ret u =>
        obtain ⟨v, H', os, bare, un, hok', r', q'⟩ := h
        have q' : v = .bl true := q'
        subst q'
        obtain rfl : u = Value.bool true := r'
        have each : ∀ b ob, s₁.heap.get? b = some ob → s'.heap.get? b = some ob ∨ ∃ p ∈ cs, p.2 = b ∧ ∃ more, s'.heap.get? b = some { cls := .none, data := .fields more } := fun b ob e => by
          rcases hO b with z | ⟨z, p, hp, ep⟩ | ⟨oz, xs, z⟩
          · exact .inl (un.keep b ob e z (nil0 b) (by simp))
          · obtain ⟨more, z2⟩ := un.tbls b #[] z
            exact .inr ⟨p, hp, ep, _, hok' b _ z2⟩
          · have z2 := un.frzs b oz _ z
            obtain ⟨e1, _⟩ := hok b _ z
            obtain ⟨e2, _⟩ := hok' b _ z2
            rw [e] at e1
            cases e1
            exact .inl e2
        refine ⟨rfl, ⟨fun b ob e => ?_, fun b ob e => ?_⟩, os, bare⟩
        · rcases each b ob e with z | ⟨p, hp, rfl, more, z⟩
          · exact .inl z
          · have e1 := tabs p hp
            rw [e1] at e
            cases e
            exact .inr (.inl ⟨((heads p hp).tab e1).isCodeTable, rfl, #[], more, rfl, by rw [Array.empty_append]; exact z⟩)
        · rcases each b ob e with z | ⟨p, hp, rfl, more, z⟩
          · exact ⟨_, z⟩
          · exact ⟨_, z⟩
  have laid : ∀ G0 : Hp, (∀ b, G0 b = none ∨ (b = a ∧ G0 b = some (.frz { cls := .type "list", data := .seq vs.toArray } (.lst (ns.map V.int))))) → SqL (K w.params) G0 a (ns.map V.int) → (G0 a ≠ none → (K w.params).lookup a = none) →
      codeAny (model l.prog w) callerA (.call (.ref fa) ⟨[.ref a], []⟩) (fun r s' => r = .ok (.ret (.bool true)) ∧ OldK s₁.heap s'.heap ∧ s'.os = s₁.os ∧ AllBare s'.gens) s₁ := by
    intro G0 h0 hS hK
    have inT : ∀ {b : Addr}, b ∈ cs.map (·.2) → ∃ p ∈ cs, p.2 = b := fun {b} m => by
      obtain ⟨p, hp, e⟩ := List.mem_map.mp m
      exact ⟨p, hp, e⟩
    have aT : a ∉ cs.map (·.2) := fun m => by
      obtain ⟨p, hp, e⟩ := inT m
      exact aNo p hp e
    refine core G0 (fun b => if b ∈ cs.map (·.2) then some (.tbl #[]) else G0 b) (fun b u e => ?_) (fun P ps e => ?_) (fun p hp => if_pos (List.mem_map.mpr ⟨p, hp, rfl⟩)) (fun b => ?_) hS (fun b u e => ?_) (fun b z => ?_) fun z => hK (by rwa [if_neg aT] at z)
    · rcases h0 b with z | ⟨rfl, _⟩
      · rw [z] at e
        cases e
      · exact (if_neg aT).trans e
    · rcases h0 P with z | ⟨_, z⟩ <;> rw [z] at e <;> cases e
    · by_cases m : b ∈ cs.map (·.2)
      · exact .inr (.inl ⟨if_pos m, inT m⟩)
      · rcases h0 b with z | ⟨_, z⟩
        · exact .inl ((if_neg m).trans z)
        · exact .inr (.inr ⟨_, _, (if_neg m).trans z⟩)
    · by_cases m : b ∈ cs.map (·.2)
      · cases (if_pos m).symm.trans e
        obtain ⟨p, hp, rfl⟩ := inT m
        exact tabs p hp
      · have e := (if_neg m).symm.trans e
        rcases h0 b with z | ⟨rfl, z⟩
        · rw [z] at e
          cases e
        · rw [z] at e
          cases e
          exact ⟨hobj, by rw [List.length_map]; exact lz, vs, _, rv, hobj⟩
    · by_cases m : b ∈ cs.map (·.2)
      · exact .inr (inT m)
      · rcases h0 b with y | ⟨y, _⟩
        · exact absurd ((if_neg m).trans y) z
        · exact .inl y
  cases hk : (K w.params).lookup a with
  | some ok =>
    have e := KX a ok hk
    rw [hobj] at e
    cases e
    refine laid (fun _ => none) (fun _ => .inl rfl) (.inr ⟨_, vs.toArray, _, hk, rfl, rfl, rfl, ?_, ?_⟩) fun z => absurd rfl z
    · rw [List.size_toArray, lenV]
      exact lz
    · simpa using rv
  | none =>
    refine laid (fun b => if b = a then some (.frz { cls := .type "list", data := .seq vs.toArray } (.lst (ns.map V.int))) else none) (fun b => ?_) (.inl (.inr ⟨{ cls := .type "list", data := .seq vs.toArray }, if_pos rfl⟩)) fun _ => hk
    by_cases hb : b = a
    · exact .inr ⟨hb, if_pos hb⟩
    · exact .inl (if_neg hb)
end EV
namespace EV
open PySem PySem.Spec PyProof.Rows L2
section
variable {X : Cx} {W : WX} {pa : Option Addr} {Γ : List Sl} {k : Nat} {pos : Pos}
theorem vv (i : Nat) {x : Str} {d : D} (hΓ : Γ[i]? = some (.val d) := by rfl) (hN : X.N[i]? = some x := by rfl) (hv : Vis X.env.scope x := by first | exact Or.inl rfl | exact Or.inr (Or.inl rfl) | exact Or.inr (Or.inr rfl))
    (hd : (x == ("__debug__" : Str)) = false := by decide) (hcd : (x == ("__classdict__" : Str)) = false := by decide) : EV X W pa Γ (.Name x pos) (pure d) := ev_var hΓ hN hv hd hcd
/-- a def of the text that keeps its promise -/
structure Cal (P : Program) (w : World) (K : PySem.W.Frag) (mg : Str → Option Value) (base : Heap) (k : Nat) (x : Str) (ps : List Str) (sp : Sp) : Prop where
  ex : ∃ f fd, FnG P w K mg base k f fd ps sp ∧ mg x = some (.ref f) ∧ PySem.W.keepIn K (.ref f) = true ∧ Binds K fd ps []
theorem Cal.mono {P : Program} {w : World} {K : PySem.W.Frag} {mg : Str → Option Value} {base : Heap} {j k : Nat} {x : Str} {ps : List Str} {sp : Sp} (F : Cal P w K mg base j x ps sp) (h : j ≤ k) : Cal P w K mg base k x ps sp := by
  obtain ⟨f, fd, h1, h2, h3, h4⟩ := F.ex
  exact ⟨f, fd, h1.mono h, h2, h3, h4⟩
structure FunAt (K : PySem.W.Frag) (mg : Str → Option Value) (x : Str) (st : Stmt) : Prop where
  ex : ∃ f fd, Fun K x x st f fd ∧ mg x = some (.ref f)
theorem call {x : Str} {p : Pos} {n : Nat} {F : List D → PM D} {ps : List Str} {j : Nat} {e : Expr} {es : List Expr} {ml : PM (List D)} (C : Cok X W k) (FC : Cal X.prog X.w X.K X.mg X.base j x ps (spF X.K X.mg false n F)) (ar : Arity n F)
    (ha : EL X W pa Γ (e :: es) ml) (hj : j ≤ k := by decide) (hg : Gl X x := by rfl) (hdb : (x == ("__debug__" : Str)) = false := by decide) (he : starEach (e :: es) X.env = (false, eval e X.env) :: starEach es X.env := by rfl) (hpl : (backTo pos (starEach es X.env)).any (·.1) = false := by rfl) :
    EV X W pa Γ (.Call (.Name x p) (e :: es) [] pos) (ml >>= fun ds => run0 (F ds)) := by
  obtain ⟨f, fd, h1, h2, h3, h4⟩ := FC.ex
  exact ev_call C (h1.mono hj) ar hg h2 h3 h4 ha hdb he hpl
theorem callN {x : Str} {p : Pos} {n : Nat} {F : List D → PM D} {ps : List Str} {j : Nat} (C : Cok X W k) (FC : Cal X.prog X.w X.K X.mg X.base j x ps (spF X.K X.mg false n F)) (ar : Arity n F)
    (hj : j ≤ k := by decide) (hg : Gl X x := by rfl) (hdb : (x == ("__debug__" : Str)) = false := by decide) : EV X W pa Γ (.Call (.Name x p) [] [] pos) (run0 (F [])) := by
  obtain ⟨f, fd, h1, h2, h3, h4⟩ := FC.ex
  exact ev_call0 C (h1.mono hj) ar hg h2 h3 h4 hdb
theorem callP (i : Nat) {q : Addr} {x y : Str} {p p2 : Pos} {n : Nat} {F : List D → PM D} {ps : List Str} {j : Nat} {es : List Expr} {ml : PM (List D)} (C : Cok X W k) (FC : Cal X.prog X.w X.K X.mg X.base j x ps (spF X.K X.mg true n F)) (ar : Arity n F)
    (ha : EL X W (some q) Γ es ml) (hj : j ≤ k := by decide) (hΓ : Γ[i]? = some .pen := by rfl) (hN : X.N[i]? = some y := by rfl) (hv : Vis X.env.scope y := by first | exact Or.inl rfl | exact Or.inr (Or.inl rfl) | exact Or.inr (Or.inr rfl)) (hg : Gl X x := by rfl) (hdb : (x == ("__debug__" : Str)) = false := by decide)
    (he : starEach (.Name y p2 :: es) X.env = (false, eval (.Name y p2) X.env) :: starEach es X.env := by rfl) (hpl : (backTo pos (starEach es X.env)).any (·.1) = false := by rfl)
    (hd : (y == ("__debug__" : Str)) = false := by decide) (hcd : (y == ("__classdict__" : Str)) = false := by decide) :
    EV X W (some q) Γ (.Call (.Name x p) (.Name y p2 :: es) [] pos) (ml >>= F) := by
  obtain ⟨f, fd, h1, h2, h3, h4⟩ := FC.ex
  exact ev_callP C (h1.mono hj) ar hg h2 h3 h4 hΓ hN hv ha hdb he hpl hd hcd
theorem callS (i : Nat) {x y : Str} {ns : List Int} {p p2 : Pos} {n : Nat} {F : List Int → List D → PM D} {ps : List Str} {j : Nat} {es : List Expr} {ml : PM (List D)} (C : Cok X W k) (FC : Cal X.prog X.w X.K X.mg X.base j x ps (spS X.K X.mg n F)) (ar : ∀ ns, Arity n (F ns))
    (ha : EL X W pa Γ es ml) (hj : j ≤ k := by decide) (hΓ : Γ[i]? = some (.scr ns) := by rfl) (hN : X.N[i]? = some y := by rfl) (hv : Vis X.env.scope y := by first | exact Or.inl rfl | exact Or.inr (Or.inl rfl) | exact Or.inr (Or.inr rfl)) (hg : Gl X x := by rfl) (hdb : (x == ("__debug__" : Str)) = false := by decide)
    (he : starEach (.Name y p2 :: es) X.env = (false, eval (.Name y p2) X.env) :: starEach es X.env := by rfl) (hpl : (backTo pos (starEach es X.env)).any (·.1) = false := by rfl)
    (hd : (y == ("__debug__" : Str)) = false := by decide) (hcd : (y == ("__classdict__" : Str)) = false := by decide) :
    EV X W pa Γ (.Call (.Name x p) (.Name y p2 :: es) [] pos) (ml >>= fun ds => run0 (F ns ds)) := by
  obtain ⟨f, fd, h1, h2, h3, h4⟩ := FC.ex
  exact ev_callS C (h1.mono hj) ar hg h2 h3 h4 hΓ hN hv ha hdb he hpl hd hcd
theorem pget (i : Nat) {q : Addr} {y : Str} {b : Expr} {p2 : Pos} {mb : PM D} (hb : EV X W (some q) Γ b mb) (hs : PlainIx b) (hΓ : Γ[i]? = some .pen := by rfl) (hN : X.N[i]? = some y := by rfl) (hv : Vis X.env.scope y := by first | exact Or.inl rfl | exact Or.inr (Or.inl rfl) | exact Or.inr (Or.inr rfl)) (hd : (y == ("__debug__" : Str)) = false := by decide) (hcd : (y == ("__classdict__" : Str)) = false := by decide) :
    EV X W (some q) Γ (.Subscript (.Name y p2) b pos) (mb >>= penGet) := ev_pen hΓ hN hv hb hs hd hcd
theorem sget (i : Nat) {y : Str} {ns : List Int} {b : Expr} {p2 : Pos} {mb : PM D} (hb : EV X W pa Γ b mb) (hs : PlainIx b) (hΓ : Γ[i]? = some (.scr ns) := by rfl) (hN : X.N[i]? = some y := by rfl) (hv : Vis X.env.scope y := by first | exact Or.inl rfl | exact Or.inr (Or.inl rfl) | exact Or.inr (Or.inr rfl)) (hd : (y == ("__debug__" : Str)) = false := by decide) (hcd : (y == ("__classdict__" : Str)) = false := by decide) :
    EV X W pa Γ (.Subscript (.Name y p2) b pos) (mb >>= scrGet ns) := ev_scr hΓ hN hv hb hs hd hcd
theorem slen (i : Nat) {y : Str} {ns : List Int} {p p2 : Pos} (hm : X.mg "len" = none) (hg : Gl X "len" := by rfl) (hΓ : Γ[i]? = some (.scr ns) := by rfl) (hN : X.N[i]? = some y := by rfl) (hv : Vis X.env.scope y := by first | exact Or.inl rfl | exact Or.inr (Or.inl rfl) | exact Or.inr (Or.inr rfl))
    (hs : starEach [.Name y p2] X.env = (false, eval (.Name y p2) X.env) :: starEach [] X.env := by rfl) (hpl : (backTo pos (starEach [] X.env)).any (·.1) = false := by rfl) (hd : (y == ("__debug__" : Str)) = false := by decide) (hcd : (y == ("__classdict__" : Str)) = false := by decide) :
    EV X W pa Γ (.Call (.Name "len" p) [.Name y p2] [] pos) (pure (.int ns.length)) := ev_lenScr hg hm hΓ hN hv hs hpl hd hcd
def negD : D → PM D
  | .int i => pure (.int (-i))
  | _ => bad
theorem ev_neg {e : Expr} {m : PM D} (h : EV X W pa Γ e m) : EV X W pa Γ (.UnaryOp .USub e pos) (m >>= negD) := pe_imp (pe_un un_neg h) fun σ H Q ⟨G0, H0, G, s, E, P⟩ => ⟨G0, H0, G, s, E, P.bind.imp fun G1 H1 d s1 x1 p1 P1 v r => by
  cases r with
  | int i => exact ⟨i, rfl, P1.now x1.sub p1 _ (.int _)⟩
  | _ => exact P1.elim⟩
theorem eb_chain {op op' : CmpOp} {g g' : D → D → PM D} {a b c : Expr} {ma mb mc : PM D} (ho : OpD X (compareOp op) g) (ho' : OpD X (compareOp op') g') (ha : EV X W pa Γ a ma) (hb : EV X W pa Γ b mb) (hc : EV X W pa Γ c mc)
    (hm : lastMarks [op, op'] [b, c] = false := by with_unfolding_all rfl) : EB X W pa Γ (.Compare a [op, op'] [b, c] pos) (ma >>= fun x => mb >>= fun y => g x y >>= fun r => asB r >>= fun t => if t = true then mc >>= fun z => g' y z >>= asB else pure false) := by
  obtain ⟨r, h1, h2⟩ := ho
  obtain ⟨r', h1', h2'⟩ := ho'
  refine pt_imp (pt_chain h1 h1' ha hb hc hm) fun σ H Q ⟨G0, H0, G, s, E, P⟩ =>
    ⟨G0, H0, G, s, E, P.bind.imp fun G1 H1 a s1 x1 p1 P1 v rv => ⟨G0, H0, G1, s1, E.step x1 p1, P1.bind.imp fun G2 H2 b s2 x2 p2 P2 w rw => ?_⟩⟩
  refine h2 W pa σ G2 H2 s2 v w a b _ x2.sub p2 (rv.mono x2.g) rw (P2.bind.imp fun G3 H3 d s3 x3 p3 P3 u ru => ?_)
  cases ru with
  | bl t =>
    refine ⟨t, rfl, ?_⟩
    have P4 := (P3.bind).now x3.sub p3
    cases t with
    | false =>
      have q : Q false H3 := P4.now x3.sub p3
      exact (show ∃ k, V.bl false = V.bl k ∧ Q k H3 from ⟨false, rfl, q⟩)
    | true =>
      refine (show evT X W pa Γ mc σ H3 _ from ⟨G0, H0, G3, s3, ((E.step x1 p1).step x2 p2).step x3 p3, (P4.bind : Pst X.K W X.mg pa σ _ G3 H3 (mc s3)).imp fun G5 H5 z s5 x5 p5 P5 u' ru' => ?_⟩)
      refine h2' W pa σ G5 H5 s5 w u' b z _ x5.sub p5 (rw.mono (x3.g.trans x5.g)) ru' (P5.bind.imp fun G6 H6 d s6 x6 p6 P6 u2 ru2 => ?_)
      cases ru2 with
      | bl c => exact ⟨c, rfl, P6.now x6.sub p6⟩
      | _ => exact P6.elim
  | _ => exact P3.elim
end
section
variable {X : Cx} {pos : Pos}
theorem pgn (i : Nat) {x : Str} (nd : X.N.Nodup) (hi : X.N[i]? = some x := by rfl) (hx : Loc X.env.scope x := by first | exact Or.inl rfl | exact Or.inr rfl) (hf : X.fn x = true ∨ X.env.scope.names.lookup x = some .local := by first | exact .inl rfl | exact .inr rfl) : PG X (.Name x pos) (gName i) := pg_name nd hi hx hf
end
theorem wn : Weak [] [] := trivial
theorem wk {x : Sl} {xs ys : List Sl} (h : Weak xs ys) : Weak (x :: xs) (x :: ys) := ⟨.inr rfl, h⟩
theorem wj {x : Sl} {xs ys : List Sl} (h : Weak xs ys) : Weak (x :: xs) (.junk :: ys) := ⟨.inl rfl, h⟩
theorem out_ret (m : PM D) : m = (m >>= fun a => outD (Out.ret a)) := (bind_pure m).symm
/-- built-in names that the module leaves as they are -/
structure Bn (mg : Str → Option Value) : Prop where
  len : mg "len" = none
  tuple : mg "tuple" = none
  list : mg "list" = none
  sorted : mg "sorted" = none
  set : mg "set" = none
  range : mg "range" = none
  enumerate : mg "enumerate" = none
  zip : mg "zip" = none
  any : mg "any" = none
  all : mg "all" = none
  max : mg "max" = none
  min : mg "min" = none
  repr : mg "repr" = none
  isinstance : mg "isinstance" = none
  int : mg "int" = none
  bool : mg "bool" = none
  str : mg "str" = none
  dict : mg "dict" = none
theorem len0 {ds : List D} (h : ds.length = 0) : ds = [] := List.length_eq_zero_iff.mp h
theorem len1 {ds : List D} (h : ds.length = 1) : ∃ a, ds = [a] := List.length_eq_one_iff.mp h
theorem len2 {ds : List D} (h : ds.length = 2) : ∃ a b, ds = [a, b] := by
  match ds, h with
  | [a, b], _ => exact ⟨a, b, rfl⟩
theorem len3 {ds : List D} (h : ds.length = 3) : ∃ a b c, ds = [a, b, c] := by
  match ds, h with
  | [a, b, c], _ => exact ⟨a, b, c, rfl⟩
theorem len4 {ds : List D} (h : ds.length = 4) : ∃ a b c d, ds = [a, b, c, d] := by
  match ds, h with
  | [a, b, c, d], _ => exact ⟨a, b, c, d, rfl⟩
section
variable {P : Program} {w : World} {K : PySem.W.Frag} {mg : Str → Option Value} {base : Heap} {x : Str} {st : Stmt} {N ps : List Str} {k n : Nat}
theorem mk_pure {F : List D → PM D} (FA : FunAt K mg x st) (S : FnScope N ps (defScope st)) (hps : ps.length = n)
    (hbd : ∀ (kV doc pm : Value) (an : Option Addr) (cdv ct : Value) (us : List Value), us.length = ps.length → bindArgs (PySem.W.fnOf x x (defArgs st) (defBody st) (defScope st) .none kV doc pm an cdv ct) ⟨us, []⟩ = pure (ps.zip us))
    (hb : ∀ (f : Addr) (cdv : Value) (A : Around) (outer : List PySem.Env) (s : Shared) (H : Hp) (E : XK), Cok (cxOf (L2.CX P w) P w K mg base N x (defScope st) f cdv A outer s H E) (fun cls d _ H => E cls d H) k → ∀ ds : List D, ds.length = n →
      ∃ (α : Type) (out : α → Out) (m : PM α), SV (cxOf (L2.CX P w) P w K mg base N x (defScope st) f cdv A outer s H E) (fun cls d _ H => E cls d H) none (slots0 N ds) out (defBody st) m ∧ F ds = (m >>= fun a => outD (out a))) :
    Cal P w K mg base (k + 1) x ps (spF K mg false n F) := by
  obtain ⟨f, fd, FU, hm⟩ := FA.ex
  exact ⟨f, fd, fn_pure FU S hps (hb f), hm, FU.kp, FU.binds hbd⟩
theorem mk_pen {F : List D → PM D} (FA : FunAt K mg x st) (S : FnScope N ps (defScope st)) (hps : ps.length = n + 1)
    (hbd : ∀ (kV doc pm : Value) (an : Option Addr) (cdv ct : Value) (us : List Value), us.length = ps.length → bindArgs (PySem.W.fnOf x x (defArgs st) (defBody st) (defScope st) .none kV doc pm an cdv ct) ⟨us, []⟩ = pure (ps.zip us))
    (hb : ∀ (f : Addr) (cdv : Value) (A : Around) (outer : List PySem.Env) (s : Shared) (H : Hp) (E : XK), Cok (cxOf (L2.CX P w) P w K mg base N x (defScope st) f cdv A outer s H E) (fun cls d _ H => E cls d H) k → ∀ (q : Addr) (ds : List D), ds.length = n →
      ∃ (α : Type) (out : α → Out) (m : PM α), SV (cxOf (L2.CX P w) P w K mg base N x (defScope st) f cdv A outer s H E) (fun cls d _ H => E cls d H) (some q) (slotsP N ds) out (defBody st) m ∧ F ds = (m >>= fun a => outD (out a))) :
    Cal P w K mg base (k + 1) x ps (spF K mg true n F) := by
  obtain ⟨f, fd, FU, hm⟩ := FA.ex
  exact ⟨f, fd, fn_pen FU S hps (hb f), hm, FU.kp, FU.binds hbd⟩
theorem mk_scr {F : List Int → List D → PM D} (FA : FunAt K mg x st) (S : FnScope N ps (defScope st)) (hps : ps.length = n + 1)
    (hbd : ∀ (kV doc pm : Value) (an : Option Addr) (cdv ct : Value) (us : List Value), us.length = ps.length → bindArgs (PySem.W.fnOf x x (defArgs st) (defBody st) (defScope st) .none kV doc pm an cdv ct) ⟨us, []⟩ = pure (ps.zip us))
    (hb : ∀ (f : Addr) (cdv : Value) (A : Around) (outer : List PySem.Env) (s : Shared) (H : Hp) (E : XK), Cok (cxOf (L2.CX P w) P w K mg base N x (defScope st) f cdv A outer s H E) (fun cls d _ H => E cls d H) k → ∀ (ns : List Int) (ds : List D), ds.length = n →
      ∃ (α : Type) (out : α → Out) (m : PM α), SV (cxOf (L2.CX P w) P w K mg base N x (defScope st) f cdv A outer s H E) (fun cls d _ H => E cls d H) none (slotsS N ns ds) out (defBody st) m ∧ F ns ds = (m >>= fun a => outD (out a))) :
    Cal P w K mg base (k + 1) x ps (spS K mg n F) := by
  obtain ⟨f, fd, FU, hm⟩ := FA.ex
  exact ⟨f, fd, fn_scr FU S hps (hb f), hm, FU.kp, FU.binds hbd⟩
theorem mk_mk {F : List D → PM (List Int)} {es : List Expr} {p1 p2 : Pos} (FA : FunAt K mg x st) (S : FnScope N ps (defScope st)) (hps : ps.length = n)
    (hbd : ∀ (kV doc pm : Value) (an : Option Addr) (cdv ct : Value) (us : List Value), us.length = ps.length → bindArgs (PySem.W.fnOf x x (defArgs st) (defBody st) (defScope st) .none kV doc pm an cdv ct) ⟨us, []⟩ = pure (ps.zip us)) (hst : defBody st = [.Return (some (.List es p1)) p2])
    (hb : ∀ (f : Addr) (cdv : Value) (A : Around) (outer : List PySem.Env) (s : Shared) (H : Hp) (E : XK), Cok (cxOf (L2.CX P w) P w K mg base N x (defScope st) f cdv A outer s H E) (fun cls d _ H => E cls d H) k → ∀ ds : List D, ds.length = n →
      ∃ m, EL (cxOf (L2.CX P w) P w K mg base N x (defScope st) f cdv A outer s H E) (fun cls d _ H => E cls d H) none (slots0 N ds) es m ∧ F ds = (m >>= asInts)) :
    Cal P w K mg base (k + 1) x ps (spM K mg n F) := by
  obtain ⟨f, fd, FU, hm⟩ := FA.ex
  exact ⟨f, fd, fn_mk FU S hps hst (hb f), hm, FU.kp, FU.binds hbd⟩
theorem sv_new {X : Cx} {W : WX} {Γ : List Sl} {pos : Pos} {α : Type} {out : α → Out} {rest : List Stmt} (i : Nat) {F : List D → PM (List Int)} {x y : Str} {p p0 : Pos} {e : Expr} {es : List Expr} {ml : PM (List D)} {kk : PM α} {j : Nat} (C : Cok X W k) (FC : Cal X.prog X.w X.K X.mg X.base j x ps (spM X.K X.mg n F)) (ar : ∀ ds s, ds.length ≠ n → F ds s = .bad)
    (ha : EL X W none Γ (e :: es) ml) (hnp : ∀ a, match out a with | .fall Γ' => noPen Γ' = true | .ret _ => True | _ => False) (hr : ∀ q, SV X W (some q) (Γ.set i .pen) out rest kk)
    (hj : j ≤ k := by decide) (hg : Gl X x := by rfl) (hi : X.N[i]? = some y := by rfl) (hx : Loc X.env.scope y := by first | exact Or.inl rfl | exact Or.inr rfl) (hdb : (x == ("__debug__" : Str)) = false := by decide) (he : starEach (e :: es) X.env = (false, eval e X.env) :: starEach es X.env := by rfl) (hpl : (backTo pos (starEach es X.env)).any (·.1) = false := by rfl)
    {spos : Pos} (hs : swapsWith (.Call (.Name x p) (e :: es) [] pos) (some (.Name y p0)) spos.line X.env = pure false := by rfl) (hf : X.fn y = true ∨ X.env.scope.names.lookup y = some .local := by first | exact .inl rfl | exact .inr rfl) :
    SV X W none Γ out (.Assign [.Name y p0] (.Call (.Name x p) (e :: es) [] pos) spos :: rest) (ml >>= fun ds => run0 (F ds) >>= fun ns => withPen ns kk) := by
  obtain ⟨f, fd, h1, h2, h3, h4⟩ := FC.ex
  exact sv_penNew i C (h1.mono hj) ar hg h2 h3 h4 ha hr hnp hi hx hdb he hpl hs hf
end
def mfn1 (g : D → PM (List Int)) : List D → PM (List Int)
  | [a] => g a
  | _ => bad
theorem mar1 {g} : ∀ ds s, ds.length ≠ 1 → mfn1 g ds s = .bad := fun ds s h => by
  match ds, h with
  | [_], h => exact absurd rfl h
  | [], _ => rfl
  | _ :: _ :: _, _ => rfl
structure DefF (K : PySem.W.Frag) (x : Str) (st : Stmt) : Prop where
  ex : ∃ f fd, Fun K x x st f fd ∧ PySem.W.nsIn K mainGlobals x = some (some (.ref f))
theorem defF {K : PySem.W.Frag} {x : Str} {st : Stmt} {f : Addr} {oc : Value} {od an : Option Addr} {osl : Array (Option Value)} {kV doc pm cdv ct : Value} (a : PySem.W.nsIn K mainGlobals x = some (some (.ref f)))
    (l : K.lookup f = some ⟨oc, od, .func (PySem.W.fnOf x x (defArgs st) (defBody st) (defScope st) .none kV doc pm an cdv ct), osl⟩) (c : PySem.W.codeIn K cdv x = true) (k : PySem.W.keepIn K (.ref f) = true) : DefF K x st := ⟨f, _, fun_mk l c k, a⟩
theorem DefF.at {K : PySem.W.Frag} {x : Str} {st : Stmt} {h : Heap} {mg : Str → Option Value} (X : K.In h) (G : h.Ns mainGlobals mg) (d : DefF K x st) : FunAt K mg x st := by
  obtain ⟨f, fd, F, a⟩ := d.ex
  exact ⟨f, fd, F, PySem.W.mg_of X G a⟩
section
variable {X : Cx} {W : WX} {pa : Option Addr} {Γ : List Sl} {k : Nat} {pos : Pos} {α : Type} {out : α → Out} {rest : List Stmt}
theorem peekB (Γ' : List Sl) (i : Nat) {xs : List D} {e : Expr} {m : PM Bool} (h : Γ[i]? = some (.own xs)) (hG : Γ.set i (.val (.lst xs)) = Γ') (he : EB X W pa Γ' e m) : EB X W pa Γ e (noExc m) :=
  eb_peek i h (hG ▸ he)
theorem sv_ext (Γ' : List Sl) (i : Nat) {x : Str} {e : Expr} {xs : List D} {me : PM D} {kk : List D → PM α} {p1 apos cpos : Pos} (h : Γ[i]? = some (.own xs)) (hG : Γ.set i (.val (.lst xs)) = Γ') (he : EV X W pa Γ' e me) (hr : ∀ ys, SV X W pa (Γ.set i (.own (xs ++ ys))) out rest (kk ys))
    (hN : X.N[i]? = some x := by rfl) (hv : Vis X.env.scope x := by first | exact Or.inl rfl | exact Or.inr (Or.inl rfl) | exact Or.inr (Or.inr rfl)) (hd : (x == ("__debug__" : Str)) = false := by decide) (hcd : (x == ("__classdict__" : Str)) = false := by decide)
    (hbase : attributeBase (.Name x p1) "extend" X.env (eval (.Name x p1) X.env) = eval (.Name x p1) X.env := by rfl)
    (hfew : ((backTo cpos (starEach [e] X.env)).all (fun x => !x.1) && (backToKw cpos (keywordEach [] X.env)).all (fun x => x.1.isSome)
      && decide ([e].length + ([] : List Keyword).length + (if ([] : List Keyword).isEmpty then 0 else 1) < 30)) = true := by rfl)
    (hline : (apos.endLine == cpos.line) = true := by rfl) (hs : starEach [e] X.env = (false, eval e X.env) :: starEach [] X.env := by rfl) (hplain : (backTo cpos (starEach [] X.env)).any (·.1) = false := by rfl)
    (hsw : swapsWith (.Call (.Attribute (.Name x p1) "extend" apos) [e] [] cpos) none pos.line X.env = pure false := by rfl) :
    SV X W pa Γ out (.Expr (.Call (.Attribute (.Name x p1) "extend" apos) [e] [] cpos) pos :: rest) (noExc me >>= scalL >>= fun ys => okLen (xs ++ ys) >>= fun _ => kk ys) :=
  sv_extendP i h (hG ▸ he) hr hN hv hd hcd hbase hfew hline hs hplain hsw
end
end EV
namespace L2
open PySem PySem.Spec PyProof.Rows
abbrev nset (w : World) : Obj := { cls := .type "set", dict := none, data := .set #[] 0 (.fresh 0 0 (!w.params.followText "set-order")) }
section
variable {P : Program} {w : World} {A : Around} {E : Value → Shared → Prop} {s : Shared}
set_option maxHeartbeats 3000000 in
theorem call_set_lsI {l : Addr} {items0 : Array Value} (ns0 : List Int) {Q : Value → Shared → Prop} (hh0 : A.handled = none) (hl0 : s.heap.IsList l items0) (hit0 : IntsAre items0.toList ns0) (hb0 : ns0.length + 1 < scanBound)
    (h0 : ∀ (h' : Heap) (tk y62 : Nat), SetR w h' s.heap.objs.size (fun j => decide (j ∈ ns0)) y62 → y62 ≤ ns0.length → (∀ y54 y55, s.heap.get? y54 = some y55 → h'.get? y54 = some y55) → Q (.ref s.heap.objs.size) { s with heap := h', toks := tk }) :
    wpAny (model P w) A (call (.type "set") [Value.ref l]) Q E s := by
  have y5 : items0.size = ns0.length := by
    have y6 := IntsAre.length hit0
    rw [Array.length_toList] at y6
    exact y6
  obtain ⟨y62, y63, y7⟩ := F.called_set.mro
  have y8 := F.called_set.made
  have y9 := F.called_set.sub
  refine wpAny_call (codeAny_of_tree (show wpAny _ _ (callAny (.type "set") _) _ _ _ from ?_))
  refine wpAny_pure (And.intro (Code.quiet_builtin _ (by decide +kernel)) (codeAny_builtin F.entry_type_call ?_))
  rw [Around.under_plain (weight_type_call_type "set" [Value.ref l] []) rfl]
  have y10 := F.called_set.notType
  have y11 := F.called_set.canCreate
  have y12 := F.typeCall_set_1 (.ref l)
  repeat (any_goals first | assumption | wp_step)

  refine codeAny_mono (code_set_led1 (.ref l) (E := E) (Q₁ := fun y69 y64 => y69 = .ref s.heap.objs.size ∧ y64 = { s with heap := s.heap.push (nset w) }) ⟨rfl, rfl⟩) fun y70 y64 y13 => ?_
  cases y70 with
  | error y61 => exact y13
  | ok y68 =>
    cases y68 with
    | ret y69 =>
      obtain ⟨rfl, rfl⟩ := y13
      have y14 : (s.heap.push (nset w)).get? s.heap.objs.size = some (nset w) := Heap.get?_push_size _ rfl
      have y15 : Shared.TypeIs { s with heap := s.heap.push (nset w) } (.ref s.heap.objs.size) "set" := ⟨_, y14, rfl⟩
      have y16 := F.called_set.init.lookup
      have y17 := F.called_set.init.bind (.ref s.heap.objs.size)
      repeat (any_goals first | assumption | wp_step)

      refine codeAny_mono (codeAny_call_builtin (R := wants (fun y70 y65 => y70 = .none ∧ ∃ h' tk y62, y65 = { s with heap := h', toks := tk } ∧ SetR w h' s.heap.objs.size (fun j => decide (j ∈ ns0)) y62 ∧ y62 ≤ ns0.length ∧
          (∀ y54 y55, s.heap.get? y54 = some y55 → h'.get? y54 = some y55)) E) F.called_set.init.plain F.entry_set_init (check_set_init_1 y15 ?_)) fun y66 y65 y18 => ?_
      · obtain ⟨y19, y20, y21, y22, y23⟩ := hl0
        obtain ⟨y24, y25, y26, y27⟩ := y19
        simp only at y21 y23
        subst y21; subst y23
        have y28 : (s.heap.push (nset w)).get? l = some { cls := .type "list", dict := y25, data := .seq items0 y22, slots := y27 } := Heap.get?_push_of_some _ y20
        have y29 := F.sub_list_set
        have y30 := F.sub_list_frozenset
        have y31 : (Value.type "list" == Value.type "dict") = false := by decide
        have y32 : (s.heap.push (nset w)).IsList l items0 := ⟨_, y28, rfl, y22, rfl⟩
        unfold Builtin.«set.__init__» Builtin.Frozenset.updateFrom noKeywords
        generalize y34 : pyIter = y33
        wp_walk
        subst y34

        refine wpAny_pyIter_list y32 ?_
        refine wpAny_bind (wpAny_runValue (?_ : _))
        have y35 : l < s.heap.objs.size := Heap.lt_size y20
        have y36 : A.in1.in1.in1.handled = none := by simp [hh0]
        have y37 : (s.heap.push (nset w)).objs.size = s.heap.objs.size + 1 := Heap.size_push ..
        have y38 : l ≠ (s.heap.push (nset w)).objs.size := by
          rw [Heap.size_push]; exact Nat.ne_of_lt (Nat.lt_succ_of_lt y35)
        have y39 : s.heap.objs.size ∉ [(s.heap.push (nset w)).objs.size, l] := by
          simp only [Heap.size_push, List.mem_cons, List.mem_singleton, List.not_mem_nil, or_false, not_or]
          exact ⟨Nat.ne_of_lt (Nat.lt_succ_self _), Nat.ne_of_gt y35⟩
        have y40 : ∀ (i : Nat) (v : Value), items0[i]? = some v → ∃ k t, ns0[i]? = some k ∧ v = .int k t := fun i v y41 => by
          have y42 : i < ns0.length := by rw [← y5]; exact (Array.getElem?_eq_some_iff.mp y41).1
          obtain ⟨t, y61⟩ := PyProof.Rows.IntsAre.int_at hit0 i v (by rw [Array.getElem?_toList]; exact y41)
          refine ⟨ns0[i], t, List.getElem?_eq_getElem y42, ?_⟩
          rw [y61, List.getD_eq_getElem?_getD, List.getElem?_eq_getElem y42] <;> rfl
        refine set_update_ints ((Walks.list y36 _ l y38 items0).toS) s.heap.objs.size
          y39 ns0 y5 hb0 y40 (items0.size - 0) 0 _ (by omega) (Nat.zero_le _)
          ⟨⟨_, Heap.get?_push_size _ rfl, rfl, rfl⟩, (y32.push _)⟩ ?hS0 ?hR
        case hS0 =>
          have y43 : ((s.heap.push (nset w)).push { cls := .type "list_iterator", data := .fields #[.ref l, .int 0 0] }).get? s.heap.objs.size
              = some (nset w) := Heap.get?_push_of_some _ y14
          exact ⟨0, Nat.le_refl 0, setR_new_at y43⟩
        case hR =>
          intro y73 y60 y44 y46 y45
          obtain ⟨h', y47, y48, y49, y50⟩ := y73
          have y51 : y47 = s.gens := y44.gens
          have y52 : y48 = s.drawn := y44.drawn
          have y53 : y50 = s.os := y44.os
          subst y51; subst y52; subst y53
          show wpAny _ _ _ _ _ _
          refine wpAny_pure ?_
          show wpAny _ _ (ret (.none : Value)) _ _ _
          rw [y5] at y46
          refine wpAny_pure ⟨rfl, h', y49, y60, rfl, y45, y46, fun y54 y55 y61 => ?_⟩
          have y56 : y54 < s.heap.objs.size := Heap.lt_size y61
          have y57 : y54 ≠ s.heap.objs.size := Nat.ne_of_lt y56
          have y58 : y54 ≠ (s.heap.push (nset w)).objs.size := by
            rw [Heap.size_push]; exact Nat.ne_of_lt (Nat.lt_succ_of_lt y56)
          exact y44.heap y54 y55 (by simp only [List.mem_cons, List.mem_singleton, List.not_mem_nil, or_false, not_or]; exact ⟨y57, y58⟩) (Heap.get?_push_of_some _ (Heap.get?_push_of_some _ y61))

      · cases y66 with
        | error y61 => exact y18
        | ok y67 =>
          cases y67 with
          | ret y70 =>
            obtain ⟨rfl, h', tk, y60, rfl, y45, y46, y59⟩ := y18
            repeat (any_goals first | assumption | wp_step)
            exact h0 _ _ _ y45 y46 y59
          | _ => exact y18.elim
    | _ => exact y13.elim
end
end L2
namespace EV
open PySem PySem.Spec PyProof.Rows L2
def putI (x : Int) : List Int → List Int
  | [] => [x]
  | y :: r => if x < y then x :: y :: r else if x = y then y :: r else y :: putI x r
def setI : List Int → List Int
  | [] => []
  | x :: r => putI x (setI r)
theorem mem_putI {x k : Int} : ∀ {l : List Int}, k ∈ putI x l ↔ k = x ∨ k ∈ l
  | [] => by simp [putI]
  | y :: r => by
    unfold putI
    split
    · simp
    · split
      · rename_i h
        subst h
        simp
      · rw [List.mem_cons, mem_putI (l := r), List.mem_cons]
        constructor
        · rintro (h | h | h)
          · exact .inr (.inl h)
          · exact .inl h
          · exact .inr (.inr h)
        · rintro (h | h | h)
          · exact .inr (.inl h)
          · exact .inl h
          · exact .inr (.inr h)
theorem mem_setI {k : Int} : ∀ {l : List Int}, k ∈ setI l ↔ k ∈ l
  | [] => .rfl
  | x :: r => by
    unfold setI
    rw [mem_putI, mem_setI (l := r), List.mem_cons]
theorem putI_asc {x : Int} : ∀ {l : List Int}, l.Pairwise (· < ·) → (putI x l).Pairwise (· < ·)
  | [], _ => by simp [putI]
  | y :: r, h => by
    have q := List.pairwise_cons.mp h
    unfold putI
    split
    · rename_i h1
      refine List.pairwise_cons.mpr ⟨fun z hz => ?_, h⟩
      rcases List.mem_cons.mp hz with rfl | hz
      · exact h1
      · exact Int.lt_trans h1 (q.1 z hz)
    · split
      · exact h
      · refine List.pairwise_cons.mpr ⟨fun z hz => ?_, putI_asc q.2⟩
        rcases mem_putI.mp hz with rfl | hz
        · omega
        · exact q.1 z hz
theorem setI_asc : ∀ (l : List Int), (setI l).Pairwise (· < ·)
  | [] => .nil
  | x :: r => putI_asc (setI_asc r)
theorem asc_eq : ∀ {l r : List Int}, l.Pairwise (· < ·) → r.Pairwise (· < ·) → (∀ k, k ∈ l ↔ k ∈ r) → l = r
  | [], [], _, _, _ => rfl
  | [], y :: r, _, _, h => absurd ((h y).mpr List.mem_cons_self) (by simp)
  | x :: l, [], _, _, h => absurd ((h x).mp List.mem_cons_self) (by simp)
  | x :: l, y :: r, hl, hr, h => by
    have p := List.pairwise_cons.mp hl
    have q := List.pairwise_cons.mp hr
    have e : x = y := by
      rcases List.mem_cons.mp ((h x).mp List.mem_cons_self) with e | m
      · exact e
      · rcases List.mem_cons.mp ((h y).mpr List.mem_cons_self) with e | m'
        · exact e.symm
        · have h1 := q.1 x m
          have h2 := p.1 y m'
          omega
    subst e
    rw [asc_eq p.2 q.2 fun k => ?_]
    constructor
    · intro m
      rcases List.mem_cons.mp ((h k).mp (List.mem_cons_of_mem _ m)) with e | m'
      · have := p.1 k m
        omega
      · exact m'
    · intro m
      rcases List.mem_cons.mp ((h k).mpr (List.mem_cons_of_mem _ m)) with e | m'
      · have := q.1 k m
        omega
      · exact m'
section
variable {X : Cx} {W : WX} {pa : Option Addr} {Γ : List Sl} {k : Nat} {pos : Pos}
def tSetI (K : PySem.W.Frag) (ta : TE) : TE := fun σ H Q => ta σ H fun x H1 => ∃ (l : Addr) (ns : List Int), x = V.ref l ∧ (SqL K H1 l (ns.map V.int) ∨ SqT K H1 l (ns.map V.int)) ∧ (ns.length < 1000 ∧ (setI ns).length < 64) ∧ ∀ p, H1 p = none → Q (.ref p) (upd H1 p (.lst ((setI ns).map V.int)))
/-- as many as there are different ones -/
theorem setR_count {w : World} {h : Heap} {a : Addr} {ns : List Int} {c : Nat} (R : SetR w h a (fun j => decide (j ∈ ns)) c) : c = (setI ns).length := by
  obtain ⟨o, es, ep, t, _, _, _, _, nd, hm, _, _, hn, _, _⟩ := R
  have p : (es.toList.map keyOf).Perm (setI ns) := (List.perm_ext_iff_of_nodup nd ((setI_asc ns).imp fun h => by omega)).mpr fun k => by
    rw [← hm k, decide_eq_true_eq, mem_setI]
  have l := p.length_eq
  rw [List.length_map, Array.length_toList] at l
  omega
theorem sorted_setR {pins : List (Addr × Obj)} {σ : L2.St} {H : Hp} {s : Shared} {a : Addr} {S : Int → Bool} {n : Nat} {Q : VK} (I : Inv X pins σ H s) (hc : X.calm = true) (R : SetR X.w s.heap a S n) (h64 : n < 64)
    (q : ∀ (ns : List Int) (p : Addr), ns.Pairwise (· < ·) → (∀ k : Int, k ∈ ns ↔ S k = true) → ns.length = n → H p = none → Q (.ref p) (upd H p (.lst (ns.map V.int)))) :
    wpAny (model X.prog X.w) X.A (PySem.call (.builtin "sorted") [Value.ref a]) (EP X pins σ Q) X.xe s := by
  refine sorted_set R (I.ok.hd hc) h64 fun t p out c ns k g o hp hgt hi hs hm hl => ?_
  have hz : (ns.map V.int).length ≤ sizeLine := by
    rw [List.length_map, hl, sizeLine_eq]
    omega
  have hn : H p = none := I.hok.fresh hp
  have J : Inv X pins σ (upd H p (.lst (ns.map V.int))) { s with heap := t.heap, gens := t.gens, drawn := t.drawn, toks := t.toks } :=
    I.call (ch := []) (Un.laid k hp hn) (I.hok.laid k hp ⟨hz, out.toList, c, vals_of_ints hi, hgt⟩) (by rw [g]; exact I.bare) (fun _ z => nomatch z)
  have e : t = { s with heap := t.heap, gens := t.gens, drawn := t.drawn, toks := t.toks } := by
    cases t
    cases s
    cases o
    rfl
  rw [e]
  exact ⟨.ref p, _, J, rfl, q ns p hs hm hl hn⟩
theorem pe_setI {a : Expr} {ta : TE} {p p2 q pos : Pos} (hc : X.calm = true) (hg : Gl X "sorted") (hm : X.mg "sorted" = none) (hg2 : Gl X "set") (hm2 : X.mg "set" = none) (ha : PE X a ta)
    (na : starEach [a] X.env = (false, eval a X.env) :: starEach [] X.env := by rfl) : PE X (.Call (.Name "sorted" p) [.Call (.Name "set" p2) [a] [] q] [] pos) (tSetI X.K ta) := by
  refine ⟨fun pins s σ H Q I h => ?_⟩
  refine Call_ (ld_blt I hg hm (by decide +kernel : bootBuiltins ("sorted" : Str) = some (.builtin "sorted")) ?_)
  refine callWith_builtin1 (args_cons ?_ rfl) rfl rfl
  refine Call_ (ld_blt I hg2 hm2 boot_set ?_)
  refine callWith_type1 (args_cons (thn (ha.run pins s σ H _ I h) fun v s1 ⟨x, H1, I1, r1, q1⟩ => args_nil ?_) na) na rfl
  obtain ⟨l, ns, rfl, hq, ⟨h63, h64⟩, q1⟩ := q1
  cases r1
  have go : ∀ (h' : Heap) (tk c : Nat), SetR X.w h' s1.heap.objs.size (fun j => decide (j ∈ ns)) c → c ≤ ns.length → (∀ b o, s1.heap.get? b = some o → h'.get? b = some o) →
      wpAny (model X.prog X.w) X.A (PySem.call (.builtin "sorted") [Value.ref s1.heap.objs.size]) (EP X pins σ Q) X.xe { s1 with heap := h', toks := tk } := fun h' tk c R hc' k =>
    sorted_setR (I1.kept fun b o e => k b o e) hc R (by rw [setR_count R]; exact h64) fun ms p hs hm3 hl hn => by
      have e1 : ms = setI ns := asc_eq hs (setI_asc ns) fun j => by rw [hm3 j, decide_eq_true_eq, mem_setI]
      rw [e1]
      exact q1 p hn
  rcases hq with hq | hq
  · obtain ⟨its, r, pl, hz⟩ := I1.list hq
    exact call_set_lsI ns (I.ok.hd hc) pl.isList (by simpa using r.ints) (by unfold scanBound; omega) fun h' tk c R hc' k => args_nil (go h' tk c R hc' k)
  · obtain ⟨its, r, hT, hz⟩ := I1.tuple hq
    exact call_set_tupI ns (I.ok.hd hc) hT (by simpa using r.ints) (by unfold scanBound; omega) fun h' tk c R hc' k => args_nil (go h' tk c R hc' k)
/-- sorted(set(..)) -/
def sortSetD : D → PM D
  | .lst xs | .tup xs => match intsOf xs with
    | some ns => if ns.length < 1000 ∧ (setI ns).length < 64 then mkL ((setI ns).map D.int) else bad
    | none => bad
  | _ => bad
theorem ev_setI {a : Expr} {m : PM D} {p p2 q pos : Pos} (hc : X.calm = true) (hg : Gl X "sorted") (hm : X.mg "sorted" = none) (hg2 : Gl X "set") (hm2 : X.mg "set" = none) (ha : EV X W pa Γ a m)
    (na : starEach [a] X.env = (false, eval a X.env) :: starEach [] X.env := by rfl) : EV X W pa Γ (.Call (.Name "sorted" p) [.Call (.Name "set" p2) [a] [] q] [] pos) (m >>= sortSetD) :=
  pe_imp (pe_setI hc hg hm hg2 hm2 ha na) fun σ H Q ⟨G0, H0, G, s, E, P⟩ => ⟨G0, H0, G, s, E, P.bind.imp fun G1 H1 d s1 x1 p1 P1 v r => by
    have main : ∀ (l : Addr) (xs : List V) (ds : List D), RpL X.K G1 xs ds → (SqL X.K H1 l xs ∨ SqT X.K H1 l xs) → v = V.ref l →
        Pst X.K W X.mg pa σ (FD X.K Q) G1 H1 ((match intsOf ds with | some ns => if ns.length < 1000 ∧ (setI ns).length < 64 then mkL ((setI ns).map D.int) else bad | none => bad : PM D) s1) →
        ∃ (l : Addr) (ns : List Int), v = V.ref l ∧ (SqL X.K H1 l (ns.map V.int) ∨ SqT X.K H1 l (ns.map V.int)) ∧ (ns.length < 1000 ∧ (setI ns).length < 64) ∧ ∀ p, H1 p = none → Q (.ref p) (upd H1 p (.lst ((setI ns).map V.int))) := by
      intro l xs ds rr hq ev P2
      cases e : intsOf ds with
      | none => rw [e] at P2; exact P2.elim
      | some bs =>
        rw [e] at P2
        by_cases hb : bs.length < 1000 ∧ (setI bs).length < 64
        · have P2 : Pst X.K W X.mg pa σ (FD X.K Q) G1 H1 ((if bs.length < 1000 ∧ (setI bs).length < 64 then mkL ((setI bs).map D.int) else bad : PM D) s1) := P2
          rw [if_pos hb] at P2
          rw [intsOf_rp rr e] at hq
          exact ⟨l, bs, ev, hq, hb, fun p np => mkL_use P2 (rpl_ints _) x1.sub p1 np⟩
        · have P2 : Pst X.K W X.mg pa σ (FD X.K Q) G1 H1 ((if bs.length < 1000 ∧ (setI bs).length < 64 then mkL ((setI bs).map D.int) else bad : PM D) s1) := P2
          rw [if_neg hb] at P2
          exact P2.elim
    cases r with
    | @lst a vs es h n r => exact main a vs es ⟨n, r⟩ (.inl (SqL.of (x1.sub _ _ h))) rfl P1
    | @tup a vs es h n r => exact main a vs es ⟨n, r⟩ (.inr (sameT x1.sub h)) rfl P1
    | non => exact P1.elim
    | bl _ => exact P1.elim
    | int _ => exact P1.elim
    | str _ => exact P1.elim
    | dct _ _ _ _ => exact P1.elim
    | obj _ _ _ _ => exact P1.elim
    | cls _ => exact P1.elim⟩
end
theorem cstI {K : PySem.W.Frag} {x : Str} {h : Heap} {mg : Str → Option Value} {i : Int} {t : Tok} (X : K.In h) (G : h.Ns mainGlobals mg) (a : PySem.W.nsIn K mainGlobals x = some (some (.int i t))) : ∃ t, mg x = some (.int i t) := ⟨t, PySem.W.mg_of X G a⟩
theorem cstS {K : PySem.W.Frag} {x : Str} {h : Heap} {mg : Str → Option Value} {i : Str} {t : Tok} (X : K.In h) (G : h.Ns mainGlobals mg) (a : PySem.W.nsIn K mainGlobals x = some (some (.str i t))) : ∃ t, mg x = some (.str i t) := ⟨t, PySem.W.mg_of X G a⟩
end EV
namespace EV
open PySem PySem.Spec PyProof.Rows L2
section
variable {X : Cx} {W : WX} {pa : Option Addr} {Γ : List Sl} {k : Nat} {pos : Pos}
theorem rgV_rp {K : PySem.W.Frag} {G : Hp} (a b : Int) : RpL K G (rgV a b) (rangeL a (b - a).toNat) := by
  refine ⟨by rw [rgV_length]; simp [rangeL], fun i v d h1 h2 => ?_⟩
  unfold rgV at h1
  unfold rangeL at h2
  rw [List.getElem?_map] at h1 h2
  cases e : (List.range (b - a).toNat)[i]? with
  | none => rw [e] at h1; cases h1
  | some j =>
    rw [e] at h1 h2
    cases h1
    cases h2
    exact .int _
def rgD (a b : Int) : PM (List D) := if -(2 ^ 62) ≤ a ∧ a < 2 ^ 62 ∧ -(2 ^ 62) ≤ b ∧ b < 2 ^ 62 ∧ (b - a).toNat ≤ lim then pure (rangeL a (b - a).toNat) else bad
def rg1 : D → PM (List D)
  | .int n => rgD 0 n
  | _ => bad
theorem rg_use {K : PySem.W.Frag} {mg : Str → Option Value} {σ : L2.St} {F : Hp → Hp → D → List Int → Prop} {G H : Hp} {a b : Int} {f : List D → PM D} {s : List Int} (P : Pst K W mg pa σ F G H ((rgD a b >>= f) s)) : RgOk a b ∧ Pst K W mg pa σ F G H (f (rangeL a (b - a).toNat) s) := by
  unfold rgD at P
  by_cases h : -(2 ^ 62) ≤ a ∧ a < 2 ^ 62 ∧ -(2 ^ 62) ≤ b ∧ b < 2 ^ 62 ∧ (b - a).toNat ≤ lim
  · rw [if_pos h] at P
    obtain ⟨h1, h2, h3, h4, h5⟩ := h
    exact ⟨⟨h1, h2, h3, h4, Nat.le_trans h5 (by decide)⟩, P⟩
  · rw [if_neg h] at P
    exact P.elim
theorem ev_tupRg1 {a : Expr} {m : PM D} {p p2 pos2 : Pos} (C : Cok X W k) (hg : Gl X "tuple") (hm : X.mg "tuple" = none) (hg2 : Gl X "range") (hm2 : X.mg "range" = none) (h : EV X W pa Γ a m)
    (na : starEach [a] X.env = (false, eval a X.env) :: starEach [] X.env := by rfl) (na2 : starEach [.Call (.Name "range" p2) [a] [] pos2] X.env = (false, eval (.Call (.Name "range" p2) [a] [] pos2) X.env) :: starEach [] X.env := by rfl) :
    EV X W pa Γ (.Call (.Name "tuple" p) [.Call (.Name "range" p2) [a] [] pos2] [] pos) (m >>= fun d => rg1 d >>= mkT) :=
  pe_imp (pe_tupRg C.calm hg hm (prg_1 hg2 hm2 h na) na2) fun σ H Q ⟨G0, H0, G, s, E, P⟩ => ⟨G0, H0, G, s, E, P.bind.imp fun G1 H1 d s1 x1 p1 P1 v r => by
    cases r with
    | int n =>
      obtain ⟨h1, P2⟩ := rg_use (P1 : Pst X.K W X.mg pa σ (FD X.K Q) G1 H1 ((rgD 0 n >>= mkT) s1))
      exact ⟨n, rfl, h1, fun q nq => mkT_use P2 (rgV_rp 0 n) x1.sub p1 nq⟩
    | _ => exact P1.elim⟩
end
inductive Mv where
  | v (d : D) | o (xs : List D)
def mvS : Mv → Sl
  | .v d => .val d
  | .o xs => .own xs
/-- no list of one's own among these is p -/
def NoOwn (p : Addr) : List V → List Mv → Prop
  | v :: vs, .o _ :: ms => v ≠ .ref p ∧ NoOwn p vs ms
  | _ :: vs, .v _ :: ms => NoOwn p vs ms
  | _, _ => True
def MR (K : PySem.W.Frag) (pa : Option Addr) (G H Hb : Hp) : List V → List Mv → Prop
  | [], [] => True
  | v :: vs, .v d :: ms => Rp K G v d ∧ MR K pa G H Hb vs ms
  | v :: vs, .o xs :: ms => (∃ p ws, v = .ref p ∧ Hb p = none ∧ H p = some (.lst ws) ∧ G p = none ∧ RpL K G ws xs ∧ pa ≠ some p ∧ NoOwn p vs ms) ∧ MR K pa G H Hb vs ms
  | _, _ => False
theorem MR.base {K : PySem.W.Frag} {pa : Option Addr} {G H Hb Hb' : Hp} (i : ∀ p, Hb p = none → Hb' p = none) : ∀ {vs : List V} {ms : List Mv}, MR K pa G H Hb vs ms → MR K pa G H Hb' vs ms
  | [], [], h => h
  | _ :: _, .v _ :: _, h => ⟨h.1, MR.base i h.2⟩
  | _ :: _, .o _ :: _, h => by
    obtain ⟨⟨p, ws, h1, h2, h3⟩, h4⟩ := h
    exact ⟨⟨p, ws, h1, i p h2, h3⟩, MR.base i h4⟩
  | [], .v _ :: _, h => h.elim
  | [], .o _ :: _, h => h.elim
  | _ :: _, [], h => h.elim
theorem MR.noOwn {K : PySem.W.Frag} {pa : Option Addr} {G H Hb : Hp} {p : Addr} {o : HO} (e : Hb p = some o) : ∀ {vs : List V} {ms : List Mv}, MR K pa G H Hb vs ms → NoOwn p vs ms
  | [], [], h => trivial
  | _ :: vs, .v _ :: ms, h => by
    have z : NoOwn p vs ms := MR.noOwn (K := K) (pa := pa) (G := G) (H := H) e h.2
    exact z
  | _ :: _, .o _ :: _, h => by
    obtain ⟨⟨q, ws, h1, h2, h3⟩, h4⟩ := h
    refine ⟨fun z => ?_, MR.noOwn (K := K) (pa := pa) (G := G) (H := H) e h4⟩
    rw [h1] at z
    injection z with z
    rw [z, e] at h2
    cases h2
  | [], .v _ :: _, h => h.elim
  | [], .o _ :: _, h => h.elim
  | _ :: _, [], h => h.elim
section
variable {X : Cx} {W : WX} {pa : Option Addr} {Γ : List Sl} {k : Nat} {pos : Pos}
def FM (K : PySem.W.Frag) (pa : Option Addr) (Hb : Hp) (Q : List V → Hp → Prop) : Hp → Hp → List Mv → List Int → Prop := fun G' H' ms _ => ∀ vs, MR K pa G' H' Hb vs ms → Q vs H'
def evM (X : Cx) (W : WX) (pa : Option Addr) (Γ : List Sl) (m : PM (List Mv)) : TA := fun σ H Q => ∃ G0 H0 G s, Nv X.K pa G0 H0 G H σ Γ s ∧ Pst X.K W X.mg pa σ (FM X.K pa H Q) G H (m s)
abbrev EM (X : Cx) (W : WX) (pa : Option Addr) (Γ : List Sl) (es : List Expr) (m : PM (List Mv)) : Prop := PA X es (evM X W pa Γ m)
theorem em_nil : EM X W pa Γ [] (pure []) := pa_imp pa_nil fun σ H Q ⟨G0, H0, G, s, E, P⟩ => P.now E.sub E.ps [] trivial
theorem ext_free {K : PySem.W.Frag} {G H G' H' : Hp} (x : Ext K pa G H G' H') {p : Addr} (h : H' p = none) : H p = none := by
  cases e : H p with
  | none => rfl
  | some o =>
    obtain ⟨o', e'⟩ := x.t p o e
    rw [h] at e'
    cases e'
theorem em_v {e : Expr} {es : List Expr} {m : PM D} {ml : PM (List Mv)} (h : EV X W pa Γ e m) (t : EM X W pa Γ es ml) (hs : starEach (e :: es) X.env = (false, eval e X.env) :: starEach es X.env := by rfl) :
    EM X W pa Γ (e :: es) (m >>= fun d => ml >>= fun ds => pure (.v d :: ds)) := pa_imp (pa_cons h t hs) fun σ H Q ⟨G0, H0, G, s, E, P⟩ =>
  ⟨G0, H0, G, s, E, P.bind.imp fun G1 H1 a s1 x1 p1 P1 v r => ⟨G0, H0, G1, s1, E.step x1 p1, P1.bind.imp fun G2 H2 as s2 x2 p2 P2 vs rs => P2.now x2.sub p2 (v :: vs) ⟨r.mono x2.g, rs.base fun p h => ext_free x1 h⟩⟩⟩
theorem em_o {e : Expr} {es : List Expr} {m : PM (List D)} {ml : PM (List Mv)} (h : EO' X W pa Γ e m) (t : EM X W pa Γ es ml) (hs : starEach (e :: es) X.env = (false, eval e X.env) :: starEach es X.env := by rfl) :
    EM X W pa Γ (e :: es) (m >>= fun d => ml >>= fun ds => pure (.o d :: ds)) := pa_imp (pa_cons h t hs) fun σ H Q ⟨G0, H0, G, s, E, P⟩ =>
  ⟨G0, H0, G, s, E, P.bind.imp fun G1 H1 a s1 x1 p1 P1 p ws hb hp hg r => ⟨G0, H0, G1, s1, E.step x1 p1, P1.bind.imp fun G2 H2 as s2 x2 p2 P2 vs rs => by
    have hpa : pa ≠ some p := fun e => by
      have z := (E.ps p e).2
      rw [hb] at z
      cases z
    exact P2.now x2.sub p2 (.ref p :: vs) ⟨⟨p, ws, rfl, hb, x2.h _ _ hp hpa, x2.n _ _ hp hg, r.mono x2.g, hpa, rs.noOwn hp⟩, rs.base fun p h => ext_free x1 h⟩⟩⟩
end
section
variable {K : PySem.W.Frag} {pa : Option Addr} {G0 H0 G H : Hp} {σ : L2.St} {Γ : List Sl} {s : List Int}
def FreshIn (Γ : List Sl) (σ : L2.St) (p : Addr) : Prop := ∀ (j : Nat) ys, Γ[j]? = some (.own ys) → σ[j]? ≠ some (some (.ref p))
theorem Nv.freshIn (E : Nv K pa G0 H0 G H σ Γ s) {p : Addr} (h : H p = none) : FreshIn Γ σ p := fun j ys e q => by
  obtain ⟨p', vs', q1, q2, _⟩ := E.own j ys e
  rw [q] at q1
  cases q1
  rw [h] at q2
  cases q2
theorem FreshIn.set {p : Addr} (f : FreshIn Γ σ p) (i : Nat) {v : V} {m : Mv} (h : ∀ xs, m = .o xs → v ≠ .ref p) : FreshIn (Γ.set i (mvS m)) (σ.set i (some v)) p := fun j ys e q => by
  by_cases hj : i = j
  · subst hj
    have hi : i < Γ.length := by
      have := (List.getElem?_eq_some_iff.mp e).1
      simpa using this
    rw [List.getElem?_set_self hi] at e
    have hi2 : i < σ.length := by
      have := (List.getElem?_eq_some_iff.mp q).1
      simpa using this
    rw [List.getElem?_set_self hi2] at q
    cases m with
    | v d => cases e
    | o xs =>
      have := h xs rfl
      injection q with q
      injection q with q
      exact this q
  · rw [List.getElem?_set_ne hj] at e q
    exact f j ys e q
/-- one of them is stored -/
theorem Nv.setM (E : Nv K pa G0 H0 G H σ Γ s) {Hb : Hp} {v : V} {m : Mv} {vs : List V} {ms : List Mv} (i : Nat) (r : MR K pa G H Hb (v :: vs) (m :: ms)) (h0 : ∀ p, Hb p = none → H0 p = none) (f : ∀ p, v = .ref p → Hb p = none → FreshIn Γ σ p) :
    Nv K pa G0 H0 G H (σ.set i (some v)) (Γ.set i (mvS m)) s := by
  cases m with
  | v d => exact E.set i r.1
  | o xs =>
    obtain ⟨⟨p, ws, rfl, h1, h2, h3, h4, h5, h6⟩, _⟩ := r
    exact E.setOwn i h2 h3 h4 (h0 p h1) h5 fun j ys _ e => f p rfl h1 j ys e
theorem MR.tail {Hb : Hp} {v : V} {m : Mv} {vs : List V} {ms : List Mv} (r : MR K pa G H Hb (v :: vs) (m :: ms)) : MR K pa G H Hb vs ms := by
  cases m with
  | v d => exact r.2
  | o xs => exact r.2
theorem mr_one {Hb : Hp} {vs : List V} {m : Mv} (r : MR K pa G H Hb vs [m]) : ∃ v, vs = [v] := by
  match vs, r with
  | [v], _ => exact ⟨v, rfl⟩
  | [], r => cases m <;> exact r.elim
  | _ :: _ :: _, r => cases m <;> exact r.2.elim
theorem mr_two {Hb : Hp} {vs : List V} {m n : Mv} (r : MR K pa G H Hb vs [m, n]) : ∃ v w, vs = [v, w] := by
  match vs, r with
  | v :: vs, r =>
    obtain ⟨w, rfl⟩ := mr_one r.tail
    exact ⟨v, w, rfl⟩
  | [], r => cases m <;> exact r.elim
/-- a later one is not an earlier one -/
theorem mr_apart {Hb : Hp} {v w : V} {m n : Mv} {vs : List V} {ms : List Mv} (r : MR K pa G H Hb (v :: w :: vs) (m :: n :: ms)) {p : Addr} (e : w = .ref p) (hn : ∃ xs, n = .o xs) : ∀ xs, m = .o xs → v ≠ .ref p := fun xs em z => by
  subst em
  obtain ⟨ys, rfl⟩ := hn
  obtain ⟨⟨q, ws, h1, _, _, _, _, _, h6⟩, _⟩ := r
  rw [h1] at z
  injection z with z
  rw [z] at h6
  exact h6.1 e
theorem Nv.set2 (E : Nv K pa G0 H0 G H σ Γ s) {Hb : Hp} {v w : V} {m n : Mv} (i j : Nat) (r : MR K pa G H Hb [v, w] [m, n]) (h0 : ∀ p, Hb p = none → H0 p = none) (f : ∀ p, Hb p = none → FreshIn Γ σ p) :
    Nv K pa G0 H0 G H ((σ.set i (some v)).set j (some w)) ((Γ.set i (mvS m)).set j (mvS n)) s := by
  have E1 := E.setM i r h0 fun p _ hb => f p hb
  cases n with
  | v d => exact E1.set j r.tail.1
  | o xs => exact E1.setM j r.tail h0 fun p e hb => (f p hb).set i (mr_apart r e ⟨xs, rfl⟩)
end
section
variable {X : Cx} {W : WX} {pa : Option Addr} {Γ : List Sl} {k : Nat} {pos : Pos} {α : Type} {out : α → Out} {rest : List Stmt}
def two2 {β : Type} (kk : Mv → Mv → PM β) : List Mv → PM β
  | [a, b] => kk a b
  | _ => bad
def kVO {β : Type} (kk : D → List D → PM β) : Mv → Mv → PM β
  | .v d, .o xs => kk d xs
  | _, _ => bad
theorem h_vo {i j : Nat} {kk : D → List D → PM α} (h : ∀ d xs, SV X W pa ((Γ.set i (.val d)).set j (.own xs)) out rest (kk d xs)) : ∀ a b, SV X W pa ((Γ.set i (mvS a)).set j (mvS b)) out rest (kVO kk a b)
  | .v d, .o xs => h d xs
  | .v _, .v _ => sv_bad
  | .o _, .v _ => sv_bad
  | .o _, .o _ => sv_bad
/-- a, b = e1, e2, plain locals -/
theorem sv_parM (i j : Nat) {y z : Str} {a b : Expr} {px py pt : Pos} {kt k2 pt2} {ml : PM (List Mv)} {kk : Mv → Mv → PM α} (hc : X.calm = true) (hN : X.N.Nodup) (ha : EM X W pa Γ [a, b] ml) (hij : i ≠ j)
    (hr : ∀ u v, SV X W pa ((Γ.set i (mvS u)).set j (mvS v)) out rest (kk u v)) (hi : X.N[i]? = some y := by rfl) (hj : X.N[j]? = some z := by rfl)
    (hx : X.env.scope.names.lookup y = some .local := by rfl) (hy : X.env.scope.names.lookup z = some .local := by rfl)
    (hw : swappedStores [.Tuple [.Name y px, .Name z py] kt pt] (.Tuple [a, b] k2 pt2) X.env = pure (some [y, z]) := by rfl)
    (hs : swapsWithSole [.Tuple [.Name y px, .Name z py] kt pt] (.Tuple [a, b] k2 pt2) pos.line X.env = pure false := by rfl) :
    SV X W pa Γ out (.Assign [.Tuple [.Name y px, .Name z py] kt pt] (.Tuple [a, b] k2 pt2) pos :: rest) (ml >>= two2 kk) := by
  unfold SV
  rw [bind_assoc]
  have hrest : PSs X rest (fun D σ H => ∃ q : Mv × Mv, svT X W pa ((Γ.set i (mvS q.1)).set j (mvS q.2)) (kk q.1 q.2 >>= fun a => pure (out a)) D σ H) := pss_ex (ι := Mv × Mv) fun q => hr q.1 q.2
  refine pss_imp (pss_cons (ps_par (i := i) (j := j) hc hN hi hj hij hx hy ha hw hs) hrest) fun Dn σ H ⟨G0, H0, G, s, E, P⟩ => ⟨G0, H0, G, s, E, (P.bind E).imp fun G1 H1 ds s1 x1 p1 P1 vs r => ?_⟩
  match ds, r, P1 with
  | [u, v], r, P1 =>
    obtain ⟨v1, v2, rfl⟩ := mr_two r
    exact ⟨v1, v2, rfl, (u, v), G0, H0, G1, s1, (E.step x1 p1).set2 i j r (fun p h => ext_free E.ext h) (fun p h => E.freshIn h), P1⟩
  | [], _, P1 => exact P1.elim
  | [_], _, P1 => exact P1.elim
  | _ :: _ :: _ :: _, _, P1 => exact P1.elim
end
structure CT (K : PySem.W.Frag) (mg : Str → Option Value) (x : Str) (d : D) : Prop where
  ex : ∃ a, mg x = some (.ref a) ∧ ∀ G, Rp K G (.ref a) d
def strsB : List Value → List Str → Bool
  | [], [] => true
  | .str s _ :: r, x :: xs => s == x && strsB r xs
  | _, _ => false
theorem strsB_vals {us : List Value} : ∀ {xs : List Str}, strsB us xs = true → Vals (xs.map V.str) us := by
  induction us with
  | nil =>
    intro xs h
    cases xs with
    | nil => exact .nil
    | cons _ _ => cases h
  | cons u r ih =>
    intro xs h
    cases xs with
    | nil => cases u <;> cases h
    | cons x xs =>
      cases u with
      | str s t =>
        have h : (s == x && strsB r xs) = true := h
        rw [Bool.and_eq_true, beq_iff_eq] at h
        rw [h.1]
        exact .cons ⟨t, rfl⟩ (ih h.2)
      | _ => cases h
theorem ctS {K : PySem.W.Frag} {x : Str} {h : Heap} {mg : Str → Option Value} {a : Addr} {od : Option Addr} {its : Array Value} {n : Nat} {sl : Array (Option Value)} {xs : List Str} (X : K.In h) (G : h.Ns mainGlobals mg)
    (e : PySem.W.nsIn K mainGlobals x = some (some (.ref a))) (l : K.lookup a = some ⟨.type "tuple", od, .seq its n, sl⟩) (v : strsB its.toList xs = true) (hz : xs.length ≤ sizeLine := by decide) : CT K mg x (.tup (xs.map .str)) := by
  have hv := strsB_vals v
  have hl : its.size ≤ sizeLine := by
    rw [← Array.length_toList, ← hv.length, List.length_map]
    exact hz
  exact ⟨a, PySem.W.mg_of X G e, fun G' => .tup (xs := xs.map V.str) (.inr ⟨_, its, n, l, rfl, rfl, hl, hv⟩) (by simp) fun i v d h1 h2 => by
    rw [List.getElem?_map] at h1 h2
    cases q : xs[i]? with
    | none => rw [q] at h1; cases h1
    | some y =>
      rw [q] at h1 h2
      cases h1
      cases h2
      exact .str y⟩
end EV
namespace PySem.SeqAt
open PySem PySem.Spec PyProof.Rows PySem.W
section
variable {prog : Program} {w : World} {A : Around} {E : Value → Shared → Prop} {s : Shared}
/-- the call of tuple's own __lt__ -/
theorem tup_lt_call {Q : Value → Shared → Prop} {l b : Addr} {us ts : Array Value} {e r : Nat → Bool} (hl : s.heap.IsTuple l us) (hb : s.heap.IsTuple b ts)
    (he : ∀ j (h1 : j < us.size) (h2 : j < ts.size), EqAt A.in1 s us[j] ts[j] (e j)) (hr : ∀ j (h1 : j < us.size) (h2 : j < ts.size), e j = false → RcLt A.in1 s us[j] ts[j] (r j))
    (h : Q (.bool (firstLt e r (decide (us.size < ts.size)) (List.range (min us.size ts.size)))) s) : wpAny (model prog w) A (call (.builtin "tuple.__lt__") [.ref l, .ref b]) Q E s := by
  obtain ⟨⟨c1, d1, x1, z1⟩, g1, q1, n1, r1⟩ := id hl
  obtain ⟨⟨c2, d2, x2, z2⟩, g2, q2, n2, r2⟩ := id hb
  simp only at q1 r1 q2 r2
  subst q1 r1 q2 r2
  exact call_meets F.slot_tuple_lt ⟨_, g1, rfl⟩ F.entry_tuple_lt (F.args_tuple_lt_2 _ _) (tuple_ltAt l b us ts n1 n2 d1 d2 z1 z2 e r) ⟨g1, g2, he, hr, h⟩
end
end PySem.SeqAt
namespace EV
open PySem PySem.Spec PyProof.Rows PySem.W PySem.SeqAt L2
section
variable {prog : Program} {w : World} {A : Around} {E : Value → Shared → Prop} {s : Shared}
theorem oneLt_tups {xs ys : List PyData} {a b : Value} {as bs : List Addr} {Q : Bool → Shared → Prop} (ra : Reads s.heap a (.tuple xs) as) (rb : Reads s.heap b (.tuple ys) bs) (h : alikeAll xs ys = true)
    (hu : A.units + min (PyData.tuple xs).depth (PyData.tuple ys).depth < cLine) (hq : Q (dataLt (.tuple xs) (.tuple ys)) s) : wpAny (model prog w) A (oneLt' true a b) Q E s := by
  cases ra with
  | @tuple l o vs n _ as₁ h1 h2 h3 h4 =>
    cases rb with
    | @tuple l' o' vs' n' _ bs₁ k1 k2 k3 k4 =>
      have n1 : vs.size = xs.length := by simpa using ReadsAll.length _ _ _ h4
      have n2 : vs'.size = ys.length := by simpa using ReadsAll.length _ _ _ k4
      rw [dataLt_tuple, ← firstLt_toks xs ys h, ← n1, ← n2] at hq
      rw [oneLt'_eq]
      simp only [if_true]
      refine wpAny_bind (wpAny_cRoomFor (room_here hu) ?_)
      refine wpAny_bind (wpAny_callSpecialIfBound?_slot (T := "tuple") ⟨_, h1, h2⟩ F.slot_tuple_lt (tup_lt_call (e := pairEq xs ys) (r := fun j => dataLt (xs.getD j .none) (ys.getD j .none)) ⟨_, h1, h2, _, h3⟩ ⟨_, k1, k2, _, k3⟩ (fun j j1 j2 => ?_) (fun j j1 j2 hj => ?_) ?_))
      · have z := eqAt_alikeAll xs ys A.in1 s vs.toList vs'.toList _ _ h4 k4 h (room_in hu) j (by simpa using j1) (by simpa using j2)
        simpa using z
      · have z := rcLt_alikeAll xs ys A.in1 s vs.toList vs'.toList _ _ h4 k4 h (room_in hu) j (by simpa using j1) (by simpa using j2) hj
        simpa using z
      · exact wpAny_truthy_bool hq
theorem mapM_each {M : Model} {α β : Type} {f : α → Sem β} {r : α → β} : ∀ (l : List α) {Q : List β → Shared → Prop}, (∀ v ∈ l, ∀ (Q' : β → Shared → Prop), Q' (r v) s → wpAny M A (f v) Q' E s) → Q (l.map r) s → wpAny M A (l.mapM f) Q E s
  | [], _, _, h => by
    rw [List.mapM_nil]
    exact wpAny_pure h
  | x :: l, Q, hf, h => by
    rw [List.mapM_cons]
    exact wpAny_bind (hf x (.head _) _ (wpAny_bind (mapM_each l (Q := fun bs s' => wpAny M A (pure (r x :: bs)) Q E s') (fun v hv => hf v (.tail _ hv)) (wpAny_pure h))))
def fstH (h : Heap) : Value → Option Value
  | .ref a => match h.get? a with
    | some ⟨_, _, .seq its _, _⟩ => its[0]?
    | _ => none
  | _ => none
theorem kind_tups {vs : List Value} {Q : SortKind → Shared → Prop} (h2 : 2 ≤ vs.length) (hT : ∀ v ∈ vs, ∃ a its, v = .ref a ∧ s.heap.IsTuple a its) (h0 : ∃ a, vs[0]? = some (.ref a) ∧ s.heap.IsTuple a #[]) (h : Q oneType' s) :
    wpAny (model prog w) A (keyKind' vs.toArray) Q E s := by
  obtain ⟨v₁, v₂, rest, rfl⟩ : ∃ v₁ v₂ rest, vs = v₁ :: v₂ :: rest := by
    match vs, h2 with
    | [], h2 => simp at h2
    | [_], h2 => simp at h2
    | v₁ :: v₂ :: rest, _ => exact ⟨v₁, v₂, rest, rfl⟩
  obtain ⟨a0, e0, t0⟩ := h0
  have e0 : v₁ = .ref a0 := Option.some.inj e0
  have z0 : fstH s.heap v₁ = none := by
    obtain ⟨⟨c, d, x, z⟩, g, q, n, r⟩ := t0
    simp only at q r
    subst q r
    rw [e0]
    unfold fstH
    simp only [g]
    rfl
  have lk : ∀ v ∈ v₁ :: v₂ :: rest, Looks (model prog w) s.heap (typeOf v) (Value.type "tuple") := fun v hv => by
    obtain ⟨a, its, rfl, ⟨o, g, q, n, r⟩⟩ := hT v hv
    exact q ▸ (Looks.ld g).andThen .now
  rw [keyKind'_eq, List.mapM_toArray, map_eq_pure_bind]
  refine wpAny_bind (wpAny_bind (mapM_each (r := fstH s.heap) _ (fun v hv Q' hq => ?_) (wpAny_pure ?_)))
  · rw [kas_first_eq]
    refine wpAny_bind ((lk v hv).here ?_)
    rw [if_neg (by simp)]
    obtain ⟨a, its, rfl, ⟨⟨c, d, x, z⟩, g, q, n, r⟩⟩ := hT v hv
    simp only at q r
    subst q r
    refine wpAny_bind (listItems_at g rfl (wpAny_pure ?_))
    have e : fstH s.heap (.ref a) = its[0]? := by
      unfold fstH
      simp only [g]
    rw [← e]
    exact hq
  · rw [if_neg (by simp [z0]), if_neg (by simp [z0])]
    rw [oneTypeOnly'_eq, List.mapM_toArray, map_eq_pure_bind]
    refine wpAny_bind (wpAny_bind (wpAny_bind (kas_mapM (r := Value.type "tuple") _ (fun v hv Q' hq => (lk v hv).here hq) (wpAny_pure ?_))))
    have hall : ((List.map (fun _ => Value.type "tuple") (v₁ :: v₂ :: rest)).toArray.all fun x => x == Value.type "tuple") = true := by
      simp only [List.all_toArray, List.all_map, List.all_eq_true]
      intro _ _
      exact beq_self_eq_true _
    have hh : (List.map (fun _ => Value.type "tuple") (v₁ :: v₂ :: rest)).toArray[0]? = some (Value.type "tuple") := by simp
    rw [hh]
    simp only [hall, if_true]
    exact wpAny_pure (wpAny_pure h)
/-- tuples, the first one without an item -/
def Tups0 (ds : List PyData) : Prop := (∀ d ∈ ds, ∃ xs, d = .tuple xs) ∧ ∃ r, ds = .tuple [] :: r
theorem reads_tup {h : Heap} {v : Value} {xs : List PyData} {as : List Addr} (r : Reads h v (.tuple xs) as) : ∃ a its, v = .ref a ∧ h.IsTuple a its ∧ its.size = xs.length := by
  cases r with
  | @tuple l o vs n _ as₁ h1 h2 h3 h4 => exact ⟨l, vs, rfl, ⟨o, h1, h2, n, h3⟩, by simpa using ReadsAll.length _ _ _ h4⟩
theorem sortsAt_tups {vs : List Value} {ds : List PyData} (e : EachIs (fun v d => ∃ as, Reads s.heap v d as) vs ds) (hal : AllAlike ds) (hk : Tups0 ds) (hu : ∀ d, d ∈ ds → A.units + d.depth < cLine) : SortsAt prog w A s (dataKind s.heap ds) vs := by
  refine ⟨fun v hv => ?_, oneType', ?_, fun h2 E Q hq => ?_⟩
  · obtain ⟨d, hd, as, r⟩ := e.left v hv
    exact ⟨_, dataKind_some hal hd r⟩
  · intro E x y a b Q ha hb hq
    obtain ⟨d, as, hd, ra, rfl⟩ := dataKind_inv ha
    obtain ⟨d', as', hd', rb, rfl⟩ := dataKind_inv hb
    rw [keyLt'_oneType]
    obtain ⟨xs, rfl⟩ := hk.1 d hd
    obtain ⟨ys, rfl⟩ := hk.1 d' hd'
    exact oneLt_tups ra rb (by simpa [alike] using hal _ hd _ hd') (Nat.lt_of_le_of_lt (Nat.add_le_add_left (Nat.min_le_left _ _) _) (hu _ hd)) hq
  · refine kind_tups h2 (fun v hv => ?_) ?_ hq
    · obtain ⟨d, hd, as, r⟩ := e.left v hv
      obtain ⟨xs, rfl⟩ := hk.1 d hd
      obtain ⟨a, its, e1, e2, _⟩ := reads_tup r
      exact ⟨a, its, e1, e2⟩
    · obtain ⟨r, rfl⟩ := hk.2
      cases e with
      | cons h1 t =>
        obtain ⟨as, h1⟩ := h1
        obtain ⟨a, its, rfl, e2, e3⟩ := reads_tup h1
        have : its = #[] := Array.size_eq_zero_iff.mp e3
        subst this
        exact ⟨a, rfl, e2⟩
theorem sorted_any {β : Type} {vs : List Value} {bs : List β} {enc : β → PyData} {R : Value → β → Prop} {l : Addr} {Q : Value → Shared → Prop} (hl : s.heap.IsList l vs.toArray) (e : EachIs R vs bs) (er : EachIs (fun v b => ∃ as, Reads s.heap v (enc b) as) vs bs) (hal : AllAlike (bs.map enc))
    (hk : Sortable (bs.map enc) ∨ Tups0 (bs.map enc)) (hL : bs.length ≤ sizeLine) (hu : ∀ b, b ∈ bs → A.units + 2 + (enc b).depth < cLine) (h : ∀ out, out.length = bs.length → EachIs R out (bs.mergeSort (dataLe false enc)) → Q (.ref (s.heap.objs.size + 1)) { s with heap := sortedAll s.heap vs (List.toArray out) }) :
    wpAny (model prog w) A (PySem.call (.builtin "sorted") [.ref l]) Q E s := by
  rcases hk with hk | hk
  · exact sorted_data hl e er hal hk hL hu h
  · have er' : EachIs (fun v b => ∃ as, Reads (sortingHeap (copyHeap s.heap vs) (s.heap.objs.size + 1) vs) v (enc b) as) vs bs := er.mono fun _ _ ⟨as, r⟩ => ⟨as, PyProof.Rows.Reads.keeps (fun _ _ => sorting_copy_old) r⟩
    refine sorted_vals hl (sortsAt_tups (s := { s with heap := sortingHeap (copyHeap s.heap vs) (s.heap.objs.size + 1) vs }) (each_map (R := fun v d => ∃ as, Reads (sortingHeap (copyHeap s.heap vs) (s.heap.objs.size + 1) vs) v d as) enc er') hal hk fun d hd => ?_) (by rw [e.length]; exact hL) (h _ (by rw [sortVals_length false rfl]; exact e.length) (sortVals_data false e er' hal))
    obtain ⟨b, hb, rfl⟩ := List.mem_map.mp hd
    exact hu b hb
end
def neTup : PyData → Bool
  | .tuple (_ :: _) => true
  | _ => false
def noTup : PyData → Bool
  | .tuple _ => false
  | .none => false
  | _ => true
def isTup : PyData → Bool
  | .tuple _ => true
  | _ => false
def tup0 : List PyData → Bool
  | .tuple [] :: _ => true
  | _ => false
def sortP (xs : List D) : Bool := (xs.all fun a => xs.all fun b => alike (toPy a) (toPy b)) && (xs.all fun a => decide ((toPy a).depth ≤ 60)) &&
  ((xs.all fun a => neTup (toPy a)) || (xs.all fun a => noTup (toPy a)) || ((xs.all fun a => isTup (toPy a)) && tup0 (xs.map toPy)))
def leD2 (a b : D) : Bool := !dataLt (toPy b) (toPy a)
def sortedA : List D → PM D
  | [.lst xs] => if sortP xs = true then mkL (xs.mergeSort leD2) else bad
  | _ => bad
theorem sortP_use {xs : List D} (h : sortP xs = true) : AllAlike (xs.map toPy) ∧ (∀ d ∈ xs, (toPy d).depth ≤ 60) ∧ (Sortable (xs.map toPy) ∨ Tups0 (xs.map toPy)) := by
  unfold sortP at h
  rw [Bool.and_eq_true, Bool.and_eq_true] at h
  obtain ⟨⟨h1, h2⟩, h3⟩ := h
  refine ⟨fun d hd d' hd' => ?_, fun d hd => of_decide_eq_true (List.all_eq_true.mp h2 d hd), ?_⟩
  · obtain ⟨a, ha, rfl⟩ := List.mem_map.mp hd
    obtain ⟨b, hb, rfl⟩ := List.mem_map.mp hd'
    exact List.all_eq_true.mp (List.all_eq_true.mp h1 a ha) b hb
  · rw [Bool.or_eq_true, Bool.or_eq_true, Bool.and_eq_true] at h3
    rcases h3 with (h3 | h3) | ⟨h3, h4⟩
    · refine .inl (.inl fun d hd => ?_)
      obtain ⟨a, ha, rfl⟩ := List.mem_map.mp hd
      have z := List.all_eq_true.mp h3 a ha
      cases e : toPy a with
      | tuple xs =>
        rw [e] at z
        cases xs with
        | nil => cases z
        | cons x r => exact ⟨x, r, rfl⟩
      | _ => rw [e] at z; cases z
    · refine .inl (.inr fun d hd => ?_)
      obtain ⟨a, ha, rfl⟩ := List.mem_map.mp hd
      have z := List.all_eq_true.mp h3 a ha
      refine ⟨fun e => ?_, fun xs e => ?_⟩
      · rw [e] at z
        cases z
      · rw [e] at z
        cases z
    · refine .inr ⟨fun d hd => ?_, ?_⟩
      · obtain ⟨a, ha, rfl⟩ := List.mem_map.mp hd
        have z := List.all_eq_true.mp h3 a ha
        cases e : toPy a with
        | tuple xs => exact ⟨xs, rfl⟩
        | _ => rw [e] at z; cases z
      · cases e : xs.map toPy with
        | nil => rw [e] at h4; cases h4
        | cons d r =>
          rw [e] at h4
          cases d with
          | tuple ys =>
            cases ys with
            | nil => exact ⟨r, rfl⟩
            | cons _ _ => cases h4
          | _ => cases h4
theorem each_of {K : PySem.W.Frag} {G : Hp} {xs : List V} {us : List Value} (h : Vals xs us) : ∀ {ds : List D}, RpL K G xs ds → EachIs (fun u d => ∃ v, RelV v u ∧ Rp K G v d) us ds := by
  induction h with
  | nil =>
    intro ds r
    cases ds with
    | nil => exact .nil
    | cons _ _ => exact absurd r.1 (by simp)
  | cons h t ih =>
    intro ds r
    cases ds with
    | nil => exact absurd r.1 (by simp)
    | cons d ds => exact .cons ⟨_, h, (RpL.tail r).1⟩ (ih (RpL.tail r).2)
theorem each_ofN {K : PySem.W.Frag} {G : Hp} {xs : List V} {us : List Value} (h : Vals xs us) : ∀ {ds : List D}, RpL K G xs ds → (∀ d ∈ ds, (toPy d).hasDict = false) → EachIs (fun u d => ∃ v, RelV v u ∧ Rp K G v d ∧ (toPy d).hasDict = false) us ds := by
  induction h with
  | nil =>
    intro ds r _
    cases ds with
    | nil => exact .nil
    | cons _ _ => exact absurd r.1 (by simp)
  | cons h t ih =>
    intro ds r n
    cases ds with
    | nil => exact absurd r.1 (by simp)
    | cons d ds => exact .cons ⟨_, h, (RpL.tail r).1, n d List.mem_cons_self⟩ (ih (RpL.tail r).2 fun e m => n e (List.mem_cons_of_mem _ m))
mutual
theorem alike_nd : ∀ d : PyData, alike d d = true → d.hasDict = false
  | .none, _ => rfl
  | .bool _, _ => rfl
  | .int _, _ => rfl
  | .str _, _ => rfl
  | .list xs, h => by
    simp only [alike] at h
    simp only [PyData.hasDict]
    exact alikeAll_nd xs h
  | .tuple xs, h => by
    simp only [alike] at h
    simp only [PyData.hasDict]
    exact alikeAll_nd xs h
  | .dict _, h => by simp [alike] at h
theorem alikeAll_nd : ∀ xs : List PyData, alikeAll xs xs = true → PyData.hasDictAll xs = false
  | [], _ => rfl
  | x :: xs, h => by
    simp only [alikeAll, Bool.and_eq_true] at h
    simp only [PyData.hasDictAll, alike_nd x h.1, alikeAll_nd xs h.2, Bool.or_self]
end
theorem allAlike_nd {ds : List D} (h : AllAlike (ds.map toPy)) : ∀ d ∈ ds, (toPy d).hasDict = false := fun d m => alike_nd _ (h _ (List.mem_map.mpr ⟨d, m, rfl⟩) _ (List.mem_map.mpr ⟨d, m, rfl⟩))
theorem of_each {K : PySem.W.Frag} {G : Hp} {us : List Value} {ds : List D} (h : EachIs (fun u d => ∃ v, RelV v u ∧ Rp K G v d) us ds) : ∃ xs : List V, Vals xs us ∧ RpL K G xs ds := by
  induction h with
  | nil => exact ⟨[], .nil, .nil⟩
  | cons h t ih =>
    obtain ⟨v, h1, h2⟩ := h
    obtain ⟨xs, q1, q2⟩ := ih
    exact ⟨v :: xs, .cons h1 q1, .cons h2 q2⟩
section
variable {X : Cx} {k : Nat}
def rSortA (K : PySem.W.Frag) : List V → Hp → VK → Prop := fun vs H Q => ∃ (G : Hp) (a : Addr) (xs : List V) (ds : List D), Same G H ∧ vs = [V.ref a] ∧ SqL K H a xs ∧ RpL K G xs ds ∧ sortP ds = true ∧
  ∀ (ys : List V) (p : Addr), RpL K G ys (ds.mergeSort leD2) → H p = none → Q (.ref p) (upd H p (.lst ys))
theorem cr_sortA (hr : Room k X.A) : CallR X (.builtin "sorted") (rSortA X.K) := by
  intro pins s σ H vs us Q I r h
  obtain ⟨G, a, xs, ds, hs, rfl, hq, rr, hp, q⟩ := h
  obtain ⟨h1, h2, h3⟩ := sortP_use hp
  obtain ⟨its, rv, hl, hz⟩ := I.list hq
  rw [Vals.ref1 r]
  have e := each_of rv rr
  have u := hr.units
  refine sorted_any (bs := ds) (enc := toPy) hl.isList e ((each_ofN rv rr (allAlike_nd h1)).mono fun v d ⟨x, z1, z2, z3⟩ => Dp.reads I _ x v ((z2.mono hs).dp z3) z1) h1 h3 (by rw [← rr.1]; exact hz) (fun b hb => by have := h2 b hb; omega) fun out ho ho2 => ?_
  obtain ⟨ys, y1, y2⟩ := of_each ho2
  obtain ⟨ep, he'⟩ := PyProof.Rows.sortedAll_at s.heap its out.toArray
  have hlen : ys.length ≤ sizeLine := by
    rw [y1.length, ho, ← rr.1]
    exact hz
  exact ⟨.ref _, upd H (s.heap.objs.size + 1) (.lst ys), I.laid (t' := s.toks) (fun _ _ => PyProof.Rows.sortedAll_old) (Nat.le_succ _) ⟨hlen, out, ep, y1, he'⟩, rfl, q _ _ y2 (I.hok.fresh (Nat.le_succ _))⟩
theorem cd_sortedA (hr : Room k X.A) : CallD X (.builtin "sorted") sortedA := by
  refine ⟨_, cr_sortA hr, fun W pa σ G H s xs ds Q hs hp rs P => ?_⟩
  match ds, rs, P with
  | [d], rs, P =>
    obtain ⟨v, rfl, r⟩ := rp1 rs
    cases r with
    | @lst a vs es h n r =>
      have P : Pst X.K W X.mg pa σ (FD X.K Q) G H ((if sortP es = true then mkL (es.mergeSort leD2) else bad : PM D) s) := P
      by_cases hc : sortP es = true
      · rw [if_pos hc] at P
        exact ⟨G, a, vs, es, hs, rfl, SqL.of (hs _ _ h), ⟨n, r⟩, hc, fun ys p ry np => mkL_use P ry hs hp np⟩
      · rw [if_neg hc] at P
        exact P.elim
    | _ => exact P.elim
  | [], _, P => exact P.elim
  | a :: _ :: _, _, P => cases a <;> exact P.elim
/-- ints by their own way -/
def intsQ : List D → Bool
  | [.lst xs] => (intsOf xs).isSome
  | _ => false
def sortedG (a : List D) : PM D := if intsQ a = true then sortedF a else sortedA a
theorem cd_sortedG (hr : Room k X.A) : CallD X (.builtin "sorted") sortedG := cd_sortedI.or (cd_sortedA hr)
end
structure DefC (K : PySem.W.Frag) (x : Str) (xs : List Str) : Prop where
  ex : ∃ a od its n sl, PySem.W.nsIn K mainGlobals x = some (some (.ref a)) ∧ K.lookup a = some ⟨.type "tuple", od, .seq its n, sl⟩ ∧ strsB its.toList xs = true
theorem defC {K : PySem.W.Frag} {x : Str} {xs : List Str} {a : Addr} {od : Option Addr} {its : Array Value} {n : Nat} {sl : Array (Option Value)} (e : PySem.W.nsIn K mainGlobals x = some (some (.ref a)))
    (l : K.lookup a = some ⟨.type "tuple", od, .seq its n, sl⟩) (v : strsB its.toList xs = true) : DefC K x xs := ⟨a, od, its, n, sl, e, l, v⟩
theorem DefC.at {K : PySem.W.Frag} {x : Str} {xs : List Str} {h : Heap} {mg : Str → Option Value} (X : K.In h) (G : h.Ns mainGlobals mg) (d : DefC K x xs) (hz : xs.length ≤ sizeLine := by decide) : CT K mg x (.tup (xs.map .str)) := by
  obtain ⟨a, od, its, n, sl, e, l, v⟩ := d.ex
  exact ctS X G e l v hz
end EV
namespace EV
open PySem PySem.Spec PyProof.Rows L2
end EV
namespace EV
open PySem PySem.Spec PyProof.Rows L2
section
variable {X : Cx} {W : WX} {pa : Option Addr} {Γ : List Sl} {k : Nat} {pos : Pos}
/-- (*e, ..) -/
theorem el_star {e : Expr} {p : Pos} {es : List Expr} {m : PM D} {ml : PM (List D)} (h : EV X W pa Γ e m) (t : EL X W pa Γ es ml) (hs : starEach (.Starred e p :: es) X.env = (true, eval e X.env) :: starEach es X.env := by rfl) :
    EL X W pa Γ (.Starred e p :: es) (m >>= itemsD >>= fun xs => ml >>= fun ds => pure (xs ++ ds)) := pa_imp (StX.pa_star h t hs) fun σ H Q ⟨G0, H0, G, s, E, P⟩ => by
  rw [bind_assoc] at P
  refine ⟨G0, H0, G, s, E, P.bind.imp fun G1 H1 d s1 x1 p1 P1 v r => ?_⟩
  have go : ∀ (xs : List V) (ds : List D), RpL X.K G1 xs ds → Pst X.K W X.mg pa σ (FL X.K Q) G1 H1 ((pure ds >>= fun xs => ml >>= fun ds => pure (xs ++ ds) : PM (List D)) s1) → evL X W pa Γ ml σ H1 fun vs H2 => Q (xs ++ vs) H2 := fun xs ds rr P2 => by
    rw [pure_bind] at P2
    exact ⟨G0, H0, G1, s1, E.step x1 p1, P2.bind.imp fun G2 H2 as s2 x2 p2 P3 vs rs => P3.now x2.sub p2 (xs ++ vs) ((rr.mono x2.g).app rs)⟩
  cases r with
  | @lst a xs ds h n rr => exact ⟨a, xs, rfl, .inr (SqL.of (x1.sub _ _ h)), go xs ds ⟨n, rr⟩ P1⟩
  | @tup a xs ds h n rr => exact ⟨a, xs, rfl, .inl (sameT x1.sub h), go xs ds ⟨n, rr⟩ P1⟩
  | _ => exact P1.elim
end
end EV
namespace EV
open PySem PySem.Spec PyProof.Rows L2
section
variable {X : Cx} {k : Nat}
def rCntD (K : PySem.W.Frag) : V → List V → Hp → VK → Prop := fun x xs H Q => ∃ (a : Addr) (y : V) (d : PyData) (ds : List PyData), x = V.ref a ∧ xs = [y] ∧ Dp K H (V.ref a) (.list ds) ∧ Dp K H y d ∧
  SeqAt.shaped (.list ds) = true ∧ SeqAt.shaped d = true ∧ Q (.int ((ds.countP fun z => PyData.eqv z d : Nat) : Int)) H
theorem vals_one {y : V} {us : List Value} (h : Vals [y] us) : ∃ u, us = [u] ∧ RelV y u := by
  cases h with
  | cons r z => cases z; exact ⟨_, rfl, r⟩
theorem mt_countD (hu : X.A.units + 65 < cLine) : MtR X "list.count" (rCntD X.K) := fun pins s σ H x xs v us Q I rx rxs h => by
  obtain ⟨a, y, d, ds, rfl, rfl, hl, hy, sl, sd, q⟩ := h
  cases rx
  obtain ⟨uy, rfl, ry⟩ := vals_one rxs
  obtain ⟨bs, r1⟩ := Dp.reads I d y uy hy ry
  cases hl with
  | lst hs ha =>
    obtain ⟨its, rv, ⟨⟨cls, dd, data, sls⟩, n, ho, hc, hdn, hdt⟩, hlen⟩ := I.list hs
    cases hc
    cases hdt
    obtain ⟨as, h4⟩ := Dp.readsAll I ds _ its ha rv
    have hxs := SeqAt.canLay_of_shaped sl
    have hmap : its.map (SeqAt.readOf s.heap) = ds := SeqAt.readsAll_map ds its as hxs h4
    have ec : its.toArray.toList.countP (fun u => PyData.eqv (SeqAt.readOf s.heap u) d) = ds.countP fun z => PyData.eqv z d := by
      rw [← hmap, List.countP_map]
      rfl
    refine call_meets PySem.F.slot_list_count ⟨_, ho, rfl⟩ PySem.F.entry_list_count (PySem.F.args_list_count_2 _ _) (SeqAt.list_countAt a its.toArray n dd sls uy fun u => PyData.eqv (SeqAt.readOf s.heap u) d)
      ⟨ho, SeqAt.items_eqAt (vs := its.toArray) (show ReadsAll s.heap its.toArray.toList ds as from h4) r1 hxs (SeqAt.canLay_of_shaped sd) (room_in_shaped sd hu), ⟨.int ((ds.countP fun z => PyData.eqv z d : Nat) : Int), H, I.tok _, ⟨s.toks, ?_⟩, q⟩⟩
    show Value.int ((its.toArray.toList.countP _ : Nat) : Int) s.toks = _
    rw [ec]
end
end EV
namespace EV
open PySem PySem.Spec PyProof.Rows L2 PySem.W
end EV
namespace EV
open PySem PySem.Spec PyProof.Rows L2
def intF : List D → PM D
  | [.int i] => pure (.int i)
  | [.bl b] => pure (.int (if b then 1 else 0))
  | _ => bad
theorem cd_int {X : Cx} : CallD X (.type "int") intF := by
  refine ⟨_, call_int1, fun W pa σ G H s xs ds Q hs hp rs P => ?_⟩
  match ds, rs, P with
  | [d], rs, P =>
    obtain ⟨v, rfl, r⟩ := rp1 rs
    cases r with
    | int i => exact .inl ⟨i, rfl, P G H (Ext.refl hs) hp _ (.int _)⟩
    | bl b => exact .inr ⟨b, rfl, P G H (Ext.refl hs) hp _ (.int _)⟩
    | _ => exact P.elim
  | [], _, P => exact P.elim
  | a :: _ :: _, _, P => cases a <;> exact P.elim
end EV
set_option maxHeartbeats 1000000
namespace EV
open PySem PySem.Spec PyProof.Rows L2 GenW
section
variable {prog : Program} {w : World} {A : Around} {R : GenEnd} {Y : Protocol} {n : Nat} {s₀ : Shared} {c : Code} {fs : List Frame} {s : Shared} {env : PySem.Env}
/-- an exception on its way out of a loop's code -/
def outX (x : Value) (env : PySem.Env) : Sem PySem.Fin := (do noteFrame x env; theTreesLotGoes x : Sem Unit).wrap (fun _ => .raise x) .raise id id
theorem seg_loopFor {target : Expr} {it : Value} {body : List Stmt}
    (h : wpAny (model prog w) (A.over (.forLoop target it body [] env) fs) (pyNext it) (fun r s1 => match r with
      | none => ∀ c', Seg (model prog w) A R Y n s₀ c' (leafOf (.ok .next)) fs s1
      | some v => wpAny (model prog w) (A.over (.forLoop target it body [] env) fs) (letOwnedTupleGo target it v) (fun _ s2 => wpAny (model prog w) (A.over (.forLoop target it body [] env) fs) (assign target env v) (fun _ s3 =>
          Seg (model prog w) A R Y n s₀ (.forLoop target it body [] env) ((execs body env).wrap (fun f => match f with
            | .next | .cont => .pure (.again (.forLoop target it body [] env))
            | .brk => .pure (.done .next)
            | .ret v => .pure (.done (.ret v))) (fun e => outX e env) id id) fs s3)
        (fun x s' => Seg (model prog w) A R Y n s₀ (.forLoop target it body [] env) (outX x env) fs s') s2) (fun x s' => Seg (model prog w) A R Y n s₀ (.forLoop target it body [] env) (outX x env) fs s') s1)
      (fun x s' => Seg (model prog w) A R Y n s₀ (.forLoop target it body [] env) (outX x env) fs s') s) :
    Seg (model prog w) A R Y n s₀ (.forLoop target it body [] env) ((model prog w).den (.forLoop target it body [] env)) fs s := by
  show Seg _ A R Y n s₀ _ ((forTurn target it body [] env).onRaise (fun x => do noteFrame x env; theTreesLotGoes x)) fs s
  unfold forTurn
  have ex : ∀ x s', Seg (model prog w) A R Y n s₀ (.forLoop target it body [] env) (outX x env) fs s' → Seg (model prog w) A R Y n s₀ (.forLoop target it body [] env) ((do noteFrame x env; theTreesLotGoes x : Sem Unit).bind fun _ => .raise x) fs s' := fun x s' hx => by
    rw [Sem.bind_eq_wrap]
    exact hx
  rw [Sem.onRaise_eq_wrap]
  refine seg_bind_wrap (wpAny_standAt ?_)
  refine seg_bind_wrap (wpAny_onRaise (wpAny_mono h (fun r s1 h1 => ?_) fun x s' hx => wpAny_standAt (ex x s' hx)))
  cases r with
  | none =>
    refine seg_again rfl ?_
    exact h1 _
  | some v =>
    refine seg_bind_wrap (wpAny_mono h1 (fun _ s2 h2 => ?_) fun x s' hx => ex x s' hx)
    refine seg_bind_wrap (wpAny_mono h2 (fun _ s3 h3 => ?_) fun x s' hx => ex x s' hx)
    rw [Sem.bind_eq_wrap', Sem.wrap_wrap]
    rw [Sem.wrap_congr (execs body env) _ _ (K' := fun f => match f with
            | .next | .cont => .pure (.again (.forLoop target it body [] env))
            | .brk => .pure (.done .next)
            | .ret v => .pure (.done (.ret v))) (H' := fun e => outX e env)
        (fun f => by cases f <;> rfl) (fun e => by
          show (do noteFrame e env; theTreesLotGoes e : Sem Unit).bind (fun _ => .raise e) = _
          rw [Sem.bind_eq_wrap]
          rfl)]
    exact h3
end
section
variable {X : Cx}
def tGFor (wi : TI) (g : TG) (tb : TGn) : TGn := fun D ys σ H => wi σ H fun J H1 => ∃ W : Nat → Nat → List V → L2.St → Hp → Prop, (∃ m, W 0 m ys σ H1) ∧ ∀ i m ys σ H, W i m ys σ H →
  (J.stop i H ∧ D.nx ys σ H) ∨ (J.go i H ∧ ∃ N : List V → L2.St → Hp → Prop, (∀ ys' σ' H', N ys' σ' H' → ∃ m', m' < m ∧ W (i + 1) m' ys' σ' H') ∧ ∀ x H', J.yld i H x H' → g x σ H' fun σ2 H2 => tb { D with nx := N, ct := N, bk := D.nx } ys σ2 H2)
theorem gs_for {iter tg : Expr} {body : List Stmt} {wi : TI} {g : TG} {tb : TGn} {pos : Pos} (hp : PassesOwn (model X.prog X.w) X.A X.env X.xe) (hc : X.calm = true) (hi : PI X tg iter wi) (hg : PG X tg g) (hb : GSs X body tb)
    (hs : ∀ x, foldedSetIterable iter X.env x = pure x := by intro _; rfl) : GS X (.For tg iter body [] pos) (tGFor wi g tb) := by
  refine ⟨fun A S ip R n ys s₀ c fs K J gd lv s σ H D gc hn k hI ht => ?_⟩
  obtain ⟨acc, cc, rv, I⟩ := hI
  rw [exec_For]
  refine seg_bind_wrap (wpAny_standAt ?_)
  refine seg_bind_wrap ?_
  rw [gc.over]
  refine wpAny_mono (hi.run _ s σ H _ I ht) (fun v s1 h1 => ?_) fun x s' hx => k.exc n s₀ x s' hx
  refine seg_bind_wrap (wpAny_of_eq (hs v) ?_)
  refine seg_bind_wrap (wpAny_standAt ?_)
  refine seg_bind_wrap ?_
  rw [gc.over]
  refine wpAny_holding (wpAny_mono h1 (fun itv s2 h2 => ?_) fun x s' hx => k.exc n s₀ x s' hx)
  obtain ⟨it, fp, tn, Jt, H2, e, I2, T, st2, f2, W, ⟨m0, w0⟩, turn⟩ := h2
  subst e
  show Seg _ _ _ _ _ _ _ ((runOwn (.forLoop tg (.ref it) body [] X.env) X.env).wrap K J gd lv) _ _
  refine seg_call fun p => ?_
  have hS : ∀ b ∈ fp, S ≠ b := fun b hb => (f2 b hb).2.2.2.2.2 (S, lstObj acc cc) (List.mem_append_right _ List.mem_cons_self)
  have stat : ∀ {H' : Hp} {acc' : Array Value} {c' : Nat}, (∀ b ∈ fp, H' b = none) → ∀ b ∈ fp, FpOk X ((S, lstObj acc' c') :: ip) H' b := fun {H' acc' c'} hn b hb => by
    obtain ⟨_, q1, q2, q3, q4, q5⟩ := f2 b hb
    refine ⟨hn b hb, q1, q2, q3, q4, fun p hp => ?_⟩
    rcases List.mem_append.mp hp with hp | hp
    · exact q5 p (List.mem_append_left _ hp)
    · rcases List.mem_cons.mp hp with rfl | hp
      · exact hS b hb
      · exact q5 p (List.mem_append_right _ (List.mem_cons_of_mem _ hp))
  have gl := fun (ip' : List (Addr × Obj)) (g' : GC X S ip' A c fs gd) (kk : Result → Sem PySem.Fin) => gc_loop (k := kk) (c' := .forLoop tg (.ref it) body [] X.env) (l := lv []) (kp := []) (p := p) g' rfl rfl
  have gpin : ∀ h : Heap, GC X S (ip ++ pinsAt fp h) A c fs gd := fun h => ⟨gc.pn, fun p hp => by
    rcases List.mem_append.mp hp with hp | hp
    · exact gc.ip p hp
    · exact fun e => hS p.1 (of_pinsAt hp).1 e.symm, gc.apart, gc.over, gc.split, gc.guard, gc.gd⟩
  have loop : ∀ (m i n : Nat) (ys : List V) (s₀ s : Shared) (σ : L2.St) (H : Hp), n + ys.length = sizeLine → W i m ys σ H → GI X S ip ys σ H s → tn i s.heap → (∀ b ∈ fp, H b = none) →
      Seg (model X.prog X.w) A R (GY X S) n s₀ (.forLoop tg (.ref it) body [] X.env) ((model X.prog X.w).den (.forLoop tg (.ref it) body [] X.env))
        (.ret (fun r => ((match r with | .ok f => (.pure f : Sem Flow) | .error e => .raise e).onRaise (cameBack X.env)).wrap K J gd lv) none (gd false) (lv []) c p [] :: fs) s := by
    intro m
    induction m using Nat.strongRecOn with
    | ind m ih =>
      intro i n ys s₀ s σ H hn w hI st fr
      have ee : ∀ (n : Nat) (s₀ : Shared) (x : Value) (s' : Shared), X.xe x s' → Seg (model X.prog X.w) A R (GY X S) n s₀ (.forLoop tg (.ref it) body [] X.env) (outX x X.env)
          (.ret (fun r => ((match r with | .ok f => (.pure f : Sem Flow) | .error e => .raise e).onRaise (cameBack X.env)).wrap K J gd lv) none (gd false) (lv []) c p [] :: fs) s' := fun n s₀ x s' hx => by
        unfold outX
        refine seg_wrap ?_
        rw [(gl ip gc _).over]
        refine wpAny_bind (wpAny_mono (hp x s' hx) (fun _ s'' hcb => wpAny_theTreesLotGoes ?_) fun y s'' hcb => ?_)
        · exact seg_leaf (.error x) (seg_cameBack gc k hcb)
        · exact seg_leaf (.error y) (seg_cameBack gc k hcb)
      refine seg_loopFor ?_
      rw [(gl ip gc _).over]
      obtain ⟨acc, cc, r, I⟩ := hI
      rcases turn i m ys σ H w with ⟨stop, qn⟩ | ⟨go, N, hN, step⟩
      · refine wpAny_mono (T.done X rfl rfl rfl hc i _ s σ H X.xe I (stat fr) st stop) (fun r s4 ⟨hr, I4⟩ => ?_) fun x s' hx => ee n s₀ x s' hx
        subst hr
        intro c'
        exact seg_leaf (.ok .next) (k.ok n ys s₀ s4 .next hn ⟨σ, H, ⟨acc, cc, r, I4⟩, qn⟩)
      · refine wpAny_mono (T.item X rfl rfl rfl hc i _ s σ H X.xe I (stat fr) st go) (fun r1 s4 ⟨u, hr, h4⟩ => ?_) fun x s' hx => ee n s₀ x s' hx
        subst hr
        refine wpAny_mono h4 (fun _ s5 ⟨x, H5, I5, r5, y5, st5, fr5⟩ => ?_) fun x s' hx => ee n s₀ x s' hx
        have I5' := I5.pinned (stat fr5) (T.obj _ _ st5)
        refine wpAny_mono (hg.run _ s5 σ H5 x u _ I5' r5 (step x H5 y5)) (fun _ s6 ⟨σ6, H6, I6, q6⟩ => ?_) fun x s' hx => ee n s₀ x s' hx
        have back : ∀ {ys' : List V} {σ' : L2.St} {H' : Hp} {s' : Shared}, GI X S (ip ++ pinsAt fp s5.heap) ys' σ' H' s' → GI X S ip ys' σ' H' s' ∧ tn (i + 1) s'.heap ∧ ∀ b ∈ fp, H' b = none := fun {ys' σ' H' s'} ⟨acc', c', r', I'⟩ => by
          refine ⟨⟨acc', c', r', Inv.unpinned (pins := (S, lstObj acc' c') :: ip) I'⟩, T.keep _ _ _ st5 fun b hb o e => (I'.pin (b, o) (List.mem_append_right _ (List.mem_cons_of_mem _ (List.mem_append_right _ (mem_pinsAt hb e))))).1, fun b hb => ?_⟩
          obtain ⟨o, e, _⟩ := T.obj _ _ st5 b hb
          exact (I'.pin (b, o) (List.mem_append_right _ (List.mem_cons_of_mem _ (List.mem_append_right _ (mem_pinsAt hb e))))).2.1
        refine hb.run A S (ip ++ pinsAt fp s5.heap) R n ys s₀ _ _ _ _ id id s6 σ6 H6 { D with nx := N, ct := N, bk := D.nx } (gl _ (gpin s5.heap) _) hn ⟨fun n' ys' s₀' s7 f hn' hs => ?_, fun n' s₀' x s7 hx => ee n' s₀' x s7 hx⟩ ⟨acc, cc, r, I6⟩ q6
        cases f with
        | next =>
          obtain ⟨σ7, H7, I7, n7⟩ := hs
          obtain ⟨m', hm, w7⟩ := hN ys' σ7 H7 n7
          obtain ⟨b1, b2, b3⟩ := back I7
          exact seg_again rfl (ih m' hm (i + 1) n' ys' s₀' s7 σ7 H7 hn' w7 b1 b2 b3)
        | cont =>
          obtain ⟨σ7, H7, I7, n7⟩ := hs
          obtain ⟨m', hm, w7⟩ := hN ys' σ7 H7 n7
          obtain ⟨b1, b2, b3⟩ := back I7
          exact seg_again rfl (ih m' hm (i + 1) n' ys' s₀' s7 σ7 H7 hn' w7 b1 b2 b3)
        | brk =>
          obtain ⟨σ7, H7, I7, n7⟩ := hs
          exact seg_leaf (.ok .next) (k.ok n' ys' s₀' s7 .next hn' ⟨σ7, H7, (back I7).1, n7⟩)
        | ret v =>
          obtain ⟨x7, σ7, H7, I7, r7, q7⟩ := hs
          exact seg_leaf (.ok (.ret v)) (k.ok n' ys' s₀' s7 (.ret v) hn' ⟨x7, σ7, H7, (back I7).1, r7, q7⟩)
  exact loop m0 0 n ys s₀ s2 σ H2 hn w0 ⟨acc, cc, rv, I2⟩ st2 fun b hb => (f2 b hb).1
end
end EV
set_option maxHeartbeats 1000000
namespace EV
open PySem PySem.Spec PyProof.Rows L2 GenW
/-- a generator's body: what it hands out -/
def gbT (X : Cx) (W : WX) (pa : Option Addr) (Γ : List Sl) (m : PM (List D)) : TGn := fun Dn ys σ H => ys = [] ∧ ∃ G0 H0 G s, Nv X.K pa G0 H0 G H σ Γ s ∧
  Pst X.K W X.mg pa σ (fun G' H' xs _ => ∀ vs, RpL X.K G' vs xs → ∀ σ', Dn.nx vs σ' H') G H (m s)
theorem gs_imp {X : Cx} {st : List Stmt} {t t' : TGn} (h : GSs X st t) (i : ∀ Dn ys σ H, t' Dn ys σ H → t Dn ys σ H) : GSs X st t' :=
  ⟨fun A S ip R n ys s₀ c fs K J gd lv s σ H D gc hn k hI ht => h.run A S ip R n ys s₀ c fs K J gd lv s σ H D gc hn k hI (i D ys σ H ht)⟩
theorem weak_set : ∀ (Γ : List Sl) (i : Nat) (d : Sl), Weak (Γ.set i d) (Γ.set i .junk)
  | [], _, _ => trivial
  | _ :: t, 0, _ => ⟨.inl rfl, Weak.refl t⟩
  | _ :: t, i + 1, d => ⟨.inr rfl, weak_set t i d⟩
section
variable {X : Cx} {W : WX} {pa : Option Addr} {Γ : List Sl} {k : Nat} {q1 q2 q3 yp : Pos}
theorem gb_for (i : Nat) {x : Str} {e0 iter : Expr} {m0 : PM D} {mi : PM (List D)} {p1 p2 : Pos} (C : Cok X W k) (h0 : EV X W pa Γ e0 m0) (hi : EI X W pa Γ (.Name x p1) iter mi) (hw : Weak Γ (Γ.set i .junk)) (pg : PG X (.Name x p1) (gName i)) (hil : i < Γ.length)
    (hN : X.N[i]? = some x := by rfl) (hv : Vis X.env.scope x := by first | exact Or.inl rfl | exact Or.inr (Or.inl rfl) | exact Or.inr (Or.inr rfl))
    (hd : (x == ("__debug__" : Str)) = false := by decide) (hcd : (x == ("__classdict__" : Str)) = false := by decide)
    (hsw : swapsWith e0 none q1.line X.env = pure false := by rfl) (hs : ∀ x, foldedSetIterable iter X.env x = pure x := by intro _; rfl)
    (hco : X.env.scope.isCoroutine = false := by rfl) (hin : interactive X.env = false := by rfl) :
    GSs X [.Expr e0 q1, .For (.Name x p1) iter [.Expr (.Yield (some (.Name x p2)) yp) q2] [] q3] (gbT X W pa Γ (m0 >>= fun _ => mi >>= okL)) := by
  have hy : PE X (.Name x p2) (tVar i) := pe_var hN hv hd hcd
  refine gs_imp (gss_cons (gs_ps (ps_expr h0 hsw)) (gss_cons (gs_for C.passes C.calm hi pg (gss_cons (gs_yield hy hco hin) gss_nil) hs) gss_nil)) fun Dn ys σ H ⟨hys, G0, H0, G, s, E, P⟩ => ?_
  subst hys
  refine ⟨G0, H0, G, s, E, P.bind.imp fun G1 H1 d s1 x1 p1 P1 v rv => ?_⟩
  have E1 := E.step x1 p1
  refine ⟨G0, H0, G1, s1, E1, P1.bind.imp fun G2 H2 xs s2 x2 p2 P2 J hJ => ?_⟩
  have E2 := (E1.step x2 p2).weak hw
  unfold okL at P2
  split at P2
  · rename_i hl
    have hl' : xs.length ≤ sizeLine := lim_le hl
    refine ⟨fun i' m ys σ' H' => m = xs.length - i' ∧ i' ≤ xs.length ∧ ∃ G', RpL X.K G' ys (xs.take i') ∧ Nv X.K pa G0 H0 G' H' σ' (Γ.set i .junk) s2 ∧ Ext X.K pa G2 H2 G' H', ⟨xs.length, by simp, Nat.zero_le _, G2, by simpa using RpL.nil, E2, Ext.refl E2.sub⟩, ?_⟩
    rintro i' m ys σ' H' ⟨rfl, hi', G', r, E', y⟩
    have jk := hJ G' H' y.g E'.sub
    by_cases hlt : i' < xs.length
    · obtain ⟨x0, hx⟩ : ∃ x0, xs[i']? = some x0 := ⟨_, List.getElem?_eq_getElem hlt⟩
      obtain ⟨hgo, hyld⟩ := jk.1 i' x0 hx
      refine .inr ⟨hgo, fun ys σ H => i' + 1 ≤ xs.length ∧ ∃ G', RpL X.K G' ys (xs.take (i' + 1)) ∧ Nv X.K pa G0 H0 G' H σ (Γ.set i .junk) s2 ∧ Ext X.K pa G2 H2 G' H, fun ys' σ'' H'' q => ⟨_, by omega, rfl, q.1, q.2⟩, fun v3 H3 hy3 => ?_⟩
      obtain ⟨G3, x3, rv3⟩ := hyld v3 H3 hy3
      have p3 := E'.ps.ext x3
      have E3 := E'.step x3.any p3
      have ry : ys.length = i' := by
        have := r.1
        rw [this, List.length_take]
        omega
      refine ⟨by rw [ry]; omega, v3, ?_, hlt, G3, ?_, ?_, y.trans x3.any⟩
      · have hiσ : i < σ'.length := by
          rw [← E'.len, List.length_set]
          exact hil
        rw [List.getElem?_set_self hiσ]
      · have et : xs.take (i' + 1) = xs.take i' ++ [x0] := by
          rw [List.take_add_one, hx]
          rfl
        rw [et]
        exact (r.mono x3.g).app (.cons rv3 .nil)
      · have := E3.set i rv3
        refine this.weak ?_
        rw [List.set_set]
        exact weak_set _ _ _
    · have e : i' = xs.length := by omega
      subst e
      refine .inl ⟨jk.2 _ (Nat.le_refl _), ?_⟩
      rw [List.take_length] at r
      exact P2 G' H' y E'.ps ys r σ'
  · exact P2.elim
end
section
variable {P : Program} {w : World} {K : PySem.W.Frag} {mg : Str → Option Value} {base : Heap} {x qual : Str} {st : Stmt} {f : Addr} {fd : FuncData} {N ps : List Str} {k n : Nat}
theorem gscope_le {sc : Scope} (S : GScope N ps sc) : ps.length ≤ N.length := by
  have := congrArg List.length S.pre
  rw [List.length_take] at this
  omega
end
/-- a generator def of the text that keeps its promise -/
structure CalG (P : Program) (w : World) (K : PySem.W.Frag) (mg : Str → Option Value) (base : Heap) (k : Nat) (x : Str) (ps : List Str) (sp : SpG) : Prop where
  ex : ∃ f fd, GFn P w K mg base k f fd ps sp ∧ mg x = some (.ref f) ∧ PySem.W.keepIn K (.ref f) = true ∧ Binds K fd ps []
def fnL2 (g : D → D → PM (List D)) : List D → PM (List D)
  | [a, b] => g a b
  | _ => bad
def fnL1 (g : D → PM (List D)) : List D → PM (List D)
  | [a] => g a
  | _ => bad
theorem GFn.mono {P : Program} {w : World} {K : PySem.W.Frag} {mg : Str → Option Value} {base : Heap} {j k : Nat} {f : Addr} {fd : FuncData} {ps : List Str} {sp : SpG} (F : GFn P w K mg base j f fd ps sp) (h : j ≤ k) : GFn P w K mg base k f fd ps sp := by
  refine ⟨F.len, fun A outer s H args us vs Q E hr e0 hb r hsp => codeAny_mono (F.run A outer s H args us vs Q E (hr.mono h) e0 hb r hsp) fun r s' hq => ?_⟩
  cases r with
  | error e => exact hq
  | ok fl =>
    cases fl with
    | ret u =>
      obtain ⟨a, g, c, h1, h2, h3, h4, h5, h6, h7, h8, h9, h10⟩ := hq
      exact ⟨a, g, c, h1, h2, h3, h4, h5, h6, h7, h8, h9, fun A S s2 hr => h10 A S s2 (hr.mono h)⟩
    | next => exact hq.elim
    | brk => exact hq.elim
    | cont => exact hq.elim
theorem arL2 {g} : ∀ ds, ds.length ≠ 2 → fnL2 g ds [] = .bad := fun ds h => by
  match ds, h with
  | [_, _], h => exact absurd rfl h
  | [], _ => rfl
  | [_], _ => rfl
  | _ :: _ :: _ :: _, _ => rfl
end EV
namespace EV
open PySem PySem.Spec PyProof.Rows L2 PySem.W
end EV
namespace EV
open PySem PySem.Spec PyProof.Rows L2
section
variable {X : Cx} {k : Nat}
inductive MCs (X : Cx) : List MatchCase → (Str → Int → TS) → Prop
  | nil : MCs X [] (fun _ _ D σ H => D.nx σ H)
  | cons {s : Str} {n : Int} {j1 j2 : Nat} {p1 p2 p3 p4 p5 : Pos} {body : List Stmt} {t : TS} {cs : List MatchCase} {f : Str → Int → TS} : PSs X body t → MCs X cs f →
      MCs X (⟨.MatchSequence [.MatchValue (.Constant (.str s) j1 p1) p2, .MatchValue (.Constant (.int n) j2 p3) p4] p5, none, body⟩ :: cs) (fun a b D σ H => if (a == s && b == n) = true then t D σ H else f a b D σ H)
theorem eqS_run {pins : List (Addr × Obj)} {s : Shared} {σ : L2.St} {H : Hp} {a b : Str} {v u : Value} {Q : VK} (hr : Room k X.A) (I : Inv X pins σ H s) (rv : RelV (.str a) v) (ru : RelV (.str b) u) (q : Q (.bl (a == b)) H) : wpAny (model X.prog X.w) X.A (compareOp .Eq v u) (EP X pins σ Q) X.xe s :=
  (op_eq.or (op_eqD hr.units)) pins s σ H _ _ _ _ Q I rv ru (.inl ⟨rfl, by rw [dec_str]; exact q⟩)
theorem eqI_run {pins : List (Addr × Obj)} {s : Shared} {σ : L2.St} {H : Hp} {a b : Int} {v u : Value} {Q : VK} (hr : Room k X.A) (I : Inv X pins σ H s) (rv : RelV (.int a) v) (ru : RelV (.int b) u) (q : Q (.bl (a == b)) H) : wpAny (model X.prog X.w) X.A (compareOp .Eq v u) (EP X pins σ Q) X.xe s :=
  (op_eq.or (op_eqD hr.units)) pins s σ H _ _ _ _ Q I rv ru (.inr ⟨.int a, .int b, .int a, .int b, rfl, rfl, q⟩)
theorem match_cases (hr : Room k X.A) (hc : X.calm = true) {cs : List MatchCase} {f : Str → Int → TS} (h : MCs X cs f) : ∀ (pins : List (Addr × Obj)) (s : Shared) (σ : L2.St) (H : Hp) (D : Ends) (p : Addr) (a : Str) (b : Int) (first : Bool),
    Inv X pins σ H s → SqT X.K H p [.str a, .int b] → f a b D σ H → wpAny (model X.prog X.w) X.A (matchCases cs X.env (.ref p) first) (SP X pins D) X.xe s := by
  induction h with
  | nil => exact fun pins s σ H D p a b first I _ q => wpAny_matchCases_nil ⟨σ, H, I, q⟩
  | @cons c n j1 j2 p1 p2 p3 p4 p5 body t cs f hb _ ih =>
    intro pins s σ H D p a b first I hq q
    obtain ⟨its, rv, ht, hz⟩ := I.tuple hq
    obtain ⟨u1, u2, rfl, r1, r2⟩ : ∃ u1 u2, its = [u1, u2] ∧ RelV (.str a) u1 ∧ RelV (.int b) u2 := by
      cases rv with
      | cons r1 t =>
        cases t with
        | cons r2 t2 =>
          cases t2
          exact ⟨_, _, rfl, r1, r2⟩
    refine wpAny_matchCases_cons ?_
    have hsz : ([u1, u2] : List Value).toArray.size = 2 := rfl
    have hfit : (([u1, u2] : List Value).toArray.size : Int) < 2 ^ 63 := by rw [hsz]; omega
    have hst : ([Pattern.MatchValue (.Constant (.str c) j1 p1) p2, Pattern.MatchValue (.Constant (.int n) j2 p3) p4] : List Pattern).findIdx? (·.isStar) = none := rfl
    have hwi : (([Pattern.MatchValue (.Constant (.str c) j1 p1) p2, Pattern.MatchValue (.Constant (.int n) j2 p3) p4] : List Pattern).all fun p => p.isWildcard || (p.isStar && p.names.isEmpty)) = false := rfl
    refine matchSeq_tuple_hit (hstar := hst) (hwild := hwi) ht hfit hsz ?_
    have I0 : Inv X pins σ H { s with toks := s.toks + 1 + 1 } := I.kept (t' := s.toks + 1 + 1) fun b o e => e
    have ht0 : IsTup ({ s with toks := s.toks + 1 + 1 } : Shared).heap p ([u1, u2] : List Value).toArray := ht
    show wpAny (model X.prog X.w) X.A (unpackItems (.ref p) ([u1, u2] : List Value).toArray.size none) _ _ _
    refine unpackItems_tuple (items := ([u1, u2] : List Value).toArray) (I0.ok.hd hc) ht0 fun h' hx => ?_
    have I1 : Inv X pins σ H { ({ s with toks := s.toks + 1 + 1 } : Shared) with heap := h' } := I0.kept (t' := s.toks + 1 + 1) fun b o e => hx b o (Nat.ne_of_lt (Heap.lt_size e)) e
    have miss : (a == c && b == n) = false → ∀ s', Inv X pins σ H s' → wpAny (model X.prog X.w) X.A (matchCases cs X.env (.ref p) false) (SP X pins D) X.xe s' := fun e s' I' => by
      rw [e, if_neg (by decide)] at q
      exact ih pins s' σ H D p a b false I' hq q
    refine wpAny_matchEach_cons (wpAny_matchPattern_Value ?_)
    refine wpAny_mono (pe_str.run pins _ σ H (fun v H' => v = .str c ∧ H' = H) I1 ⟨rfl, rfl⟩) (fun w s2 hw => ?_) fun _ _ he => he
    obtain ⟨x, H', I2, rx, rfl, rfl⟩ := hw
    refine wpAny_mono (eqS_run (Q := fun v H'' => v = .bl (a == c) ∧ H'' = H') hr I2 r1 rx ⟨rfl, rfl⟩) (fun w s3 hw => ?_) fun _ _ he => he
    obtain ⟨y, H'', I3, ry, rfl, rfl⟩ := hw
    obtain rfl : w = .bool (a == c) := ry
    refine wpAny_truthy_bool ?_
    cases e1 : (a == c) with
    | false =>
      simp only [Bool.false_eq_true, if_false]
      exact miss (by rw [e1]; rfl) s3 I3
    | true =>
      simp only [if_true]
      refine wpAny_matchEach_cons (wpAny_matchPattern_Value ?_)
      refine wpAny_mono (pe_int.run pins _ σ H'' (fun v H' => v = .int n ∧ H' = H'') I3 ⟨rfl, rfl⟩) (fun w s4 hw => ?_) fun _ _ he => he
      obtain ⟨x, H', I4, rx, rfl, rfl⟩ := hw
      refine wpAny_mono (eqI_run (Q := fun v H'' => v = .bl (b == n) ∧ H'' = H') hr I4 r2 rx ⟨rfl, rfl⟩) (fun w s5 hw => ?_) fun _ _ he => he
      obtain ⟨y, H3, I5, ry, rfl, rfl⟩ := hw
      obtain rfl : w = .bool (b == n) := ry
      refine wpAny_truthy_bool ?_
      cases e2 : (b == n) with
      | false =>
        simp only [Bool.false_eq_true, if_false]
        exact miss (by rw [e1, e2]; rfl) s5 I5
      | true =>
        simp only [if_true]
        refine wpAny_matchEach_nil ?_
        refine wpAny_assignInOrder_none ?_
        rw [e1, e2, Bool.and_self, if_pos rfl] at q
        exact hb.run pins s5 σ H3 D I5 q
def tMatch2 (te : TE) (f : Str → Int → TS) : TS := fun D σ H => te σ H fun v H1 => ∃ (p : Addr) (a : Str) (b : Int), v = .ref p ∧ SqT X.K H1 p [.str a, .int b] ∧ f a b D σ H1
theorem ps_match2 {subj : Expr} {pos : Pos} {te : TE} {cs : List MatchCase} {f : Str → Int → TS} (hr : Room k X.A) (hc : X.calm = true) (he : PE X subj te) (h : MCs X cs f) : PS X (.Match subj cs pos) (tMatch2 (X := X) te f) := by
  refine ⟨fun pins s σ H D I ht => wpAny_Match (wpAny_mono (he.run pins s σ H _ I ht) (fun v s1 hv => ?_) fun _ _ he => he)⟩
  obtain ⟨x, H1, I1, rx, p, a, b, rfl, hq, q⟩ := hv
  obtain rfl : v = Value.ref p := rx
  exact match_cases hr hc h pins s1 σ H1 D p a b true I1 hq q
end
def matK {α : Type} (f : Str → Int → PM α) : List D → PM α
  | [.str a, .int b] => f a b
  | _ => bad
/-- the cases, each of which leaves the block; then the rest -/
inductive SMs (X : Cx) (W : WX) (pa : Option Addr) (Γ : List Sl) {α : Type} (out : α → Out) (kk : PM α) : List MatchCase → (Str → Int → PM α) → Prop
  | nil : SMs X W pa Γ out kk [] (fun _ _ => kk)
  | cons {s : Str} {n : Int} {j1 j2 : Nat} {p1 p2 p3 p4 p5 : Pos} {body : List Stmt} {m : PM α} {cs : List MatchCase} {f : Str → Int → PM α} : SV X W pa Γ out body m → (∀ a s s' Γ', m s = .ok a s' → out a ≠ .fall Γ') → SMs X W pa Γ out kk cs f →
      SMs X W pa Γ out kk (⟨.MatchSequence [.MatchValue (.Constant (.str s) j1 p1) p2, .MatchValue (.Constant (.int n) j2 p3) p4] p5, none, body⟩ :: cs) (fun a b => if (a == s && b == n) = true then m else f a b)
section
variable {X : Cx} {W : WX} {pa : Option Addr} {Γ : List Sl} {k : Nat} {α : Type} {out : α → Out} {rest : List Stmt}
theorem sms_mcs {kk : PM α} {cs : List MatchCase} {f : Str → Int → PM α} (h : SMs X W pa Γ out kk cs f) : ∃ F : Str → Int → TS, MCs X cs F ∧
    ∀ (a : Str) (b : Int) (Dn : Ends) (σ : L2.St) (H : Hp), svT X W pa Γ (f a b >>= fun a => pure (out a)) Dn σ H → F a b { Dn with nx := fun σ H => svT X W pa Γ (kk >>= fun a => pure (out a)) Dn σ H } σ H := by
  induction h with
  | nil => exact ⟨_, .nil, fun a b Dn σ H q => q⟩
  | @cons s n j1 j2 p1 p2 p3 p4 p5 body m cs f hb hn _ ih =>
    obtain ⟨F, hF, i⟩ := ih
    refine ⟨_, .cons hb hF, fun a b Dn σ H q => ?_⟩
    by_cases e : (a == s && b == n) = true
    · dsimp only at q ⊢
      rw [if_pos e] at q ⊢
      obtain ⟨G0, H0, G, s0, E, P⟩ := q
      refine ⟨G0, H0, G, s0, E, ?_⟩
      rw [PM.bind_def] at P ⊢
      cases e2 : m s0 with
      | ok a s2 =>
        rw [e2] at P
        have h := hn a s0 s2
        show SPost X.K W X.mg pa G0 H0 _ (.ok (out a) s2)
        have P : SPost X.K W X.mg pa G0 H0 Dn (.ok (out a) s2) := P
        cases q : out a with
        | fall Γ' => exact absurd q (h Γ' e2)
        | ret d => rw [q] at P; exact P
        | brk Γ' => rw [q] at P; exact P
        | cnt Γ' => rw [q] at P; exact P
        | retG d Γ' => rw [q] at P; exact P
        | retP _ => rw [q] at P; exact P
        | retO _ => rw [q] at P; exact P
      | exc z => rw [e2] at P; exact P
      | bad => rw [e2] at P; exact P.elim
    · dsimp only at q ⊢
      rw [if_neg e] at q ⊢
      exact i a b Dn σ H q
theorem sv_match {e1 e2 : Expr} {x1} {p pos : Pos} {ml : PM (List D)} {cs : List MatchCase} {f : Str → Int → PM α} {kk : PM α} (C : Cok X W k) (he : EL X W pa Γ [e1, e2] ml) (h : SMs X W pa Γ out kk cs f) (hr : SV X W pa Γ out rest kk) :
    SV X W pa Γ out (.Match (.Tuple [e1, e2] x1 p) cs pos :: rest) (ml >>= matK f) := by
  obtain ⟨F, hF, i⟩ := sms_mcs h
  unfold SV
  rw [bind_assoc]
  refine pss_imp (pss_cons (ps_match2 C.room C.calm (L2.pe_tup he) hF) hr) fun Dn σ H ⟨G0, H0, G, s, E, P⟩ => ⟨G0, H0, G, s, E, (P.bind E).imp fun G1 H1 ds s1 x1 p1 P1 vs r => ?_⟩
  have two : ∃ a b, ds = [.str a, .int b] ∧ SPost X.K W X.mg pa G0 H0 Dn ((f a b >>= fun a => pure (out a)) s1) := by
    unfold matK at P1
    split at P1
    · exact ⟨_, _, rfl, P1⟩
    · exact P1.elim
  obtain ⟨a, b, rfl, P2⟩ := two
  obtain ⟨v, w, rfl, r1, r2⟩ := rp2 r
  cases r1
  cases r2
  refine ⟨small64 (by show 2 < 64; omega), fun q np => ⟨q, a, b, rfl, .inl (.inl upd_same), i a b Dn σ _ ?_⟩⟩
  have E1 := E.step x1 p1
  have xn := Ext.new (K := X.K) (pa := pa) x1.sub np (.tup [.str a, .int b])
  exact ⟨G0, H0, _, s1, E1.step xn (p1.upd np _), P2⟩
end
end EV
section
set_option maxHeartbeats 4000000
namespace EV
open PySem PySem.Spec PyProof.Rows L2
theorem tuple_mul1 (l : Addr) (items : Array Value) (n : Nat) (dd : Option Addr) (sl : Array (Option Value)) (x : Int) (u : Tok) (c0 : (decide (x < -(2 ^ 63)) || decide (x ≥ 2 ^ 63)) = false) (c1 : (items.isEmpty || x == 1) = true) :
    Meets (Builtin.«tuple.__mul__» ⟨[.ref l, .int x u], []⟩) (fun _ R s => s.heap.get? l = some { cls := .type "tuple", dict := dd, data := .seq items n, slots := sl } ∧ R (.ok (.ret (Value.ref l))) s) :=
  .of_wp fun prog w A R s h => by
    obtain ⟨hp, g, d, tk, os⟩ := s
    obtain ⟨hl, h⟩ := h
    have f1 := AutoSeq1.idx_int
    wp_walk using wpAny_loadPart' hl
    repeat (first
      | (refine wpAny_ite_false (decide_eq_false (by rw [c0]; exact Bool.false_ne_true)) ?_; wp_walk using wpAny_loadPart' hl)
      | (refine wpAny_ite_true (decide_eq_true c1) ?_; wp_walk using wpAny_loadPart' hl))
    exact ⟨_, rfl, h⟩
def rRep1 (K : PySem.W.Frag) : R2 := fun x y H Q => ∃ l xs, x = .ref l ∧ y = .int 1 ∧ SqT K H l xs ∧ Q (.ref l) H
section
variable {X : Cx}
theorem op_rep1 : OpR X (binaryOp .Mult) (rRep1 X.K) := by
  intro pins s σ H x y v u Q I rx ry h
  obtain ⟨l, xs, rfl, rfl, hT, q⟩ := h
  cases rx
  obtain ⟨t, rfl⟩ := ry
  obtain ⟨its, r, ⟨⟨cls, dd, data, sl⟩, ho, hc, n, hd⟩, hs⟩ := I.tuple hT
  simp only at hc hd
  subst hc hd
  have c0 : (decide ((1 : Int) < -(2 ^ 63)) || decide ((1 : Int) ≥ 2 ^ 63)) = false := by
    rw [decide_eq_false (by omega), decide_eq_false (by omega)] <;> rfl
  have c1 : (its.toArray.isEmpty || (1 : Int) == 1) = true := by
    rw [beq_self_eq_true, Bool.or_true]
  refine wpAny_binaryOp_repeat_ref (T := "tuple") (U := "int") (by decide) ⟨_, ho, rfl⟩ (fun s' => typeIs_int s' 1 t) noFill_tuple_mul F.fills_int_mul F.slot_int_rmul repeat_tuple F.slot_int_index.lookup
    (call_meets F.slot_int_rmul (typeIs_int s 1 t) F.entry_int_rmul (F.args_int_rmul_2 _ _) (int_rmul_tuple 1 t l its.toArray n dd sl)
      ⟨ho, rfl, ⟨_, ho, rfl⟩, call_meets F.slot_tuple_mul ⟨_, ho, rfl⟩ F.entry_tuple_mul (F.args_tuple_mul_2 _ _) (tuple_mul1 l its.toArray n dd sl 1 t c0 c1) ⟨ho, ?_⟩⟩)
  exact ⟨.ref l, H, I, rfl, q⟩
end
def repD (k : Int) (xs : List D) : List D := (List.replicate k.toNat xs).flatten
def mulG : D → D → PM D
  | .tup xs, .int k => if k = 1 then pure (.tup xs) else if xs ≠ [] ∧ 2 ≤ k ∧ k ≤ 1000 ∧ xs.length ≤ 1000 then mkT (repD k xs) else bad
  | a, b => mulD a b
theorem rep_rp {K : PySem.W.Frag} {G : Hp} {vs : List V} {ds : List D} (r : RpL K G vs ds) : ∀ n : Nat, RpL K G (List.replicate n vs).flatten (List.replicate n ds).flatten
  | 0 => .nil
  | n + 1 => by
    rw [List.replicate_succ, List.replicate_succ, List.flatten_cons, List.flatten_cons]
    exact r.app (rep_rp r n)
section
variable {X : Cx}
theorem od_mulG : OpD X (binaryOp .Mult) mulG := by
  obtain ⟨r, h1, h2⟩ := od_mul (X := X)
  refine ⟨_, (h1.or op_repT).or op_rep1, fun W pa σ G H s x y a b Q hs hp ra rb P => ?_⟩
  by_cases ht : ∃ xs k, a = .tup xs ∧ b = .int k
  · obtain ⟨xs, k, rfl, rfl⟩ := ht
    cases rb
    have P : Pst X.K W X.mg pa σ (FD X.K Q) G H ((if k = 1 then pure (.tup xs) else if xs ≠ [] ∧ 2 ≤ k ∧ k ≤ 1000 ∧ xs.length ≤ 1000 then mkT (repD k xs) else bad : PM D) s) := P
    cases ra with
    | @tup l vs ds h n rr =>
      by_cases k1 : k = 1
      · subst k1
        rw [if_pos rfl] at P
        exact .inr ⟨l, vs, rfl, rfl, sameT hs h, P.now hs hp _ (.tup h n rr)⟩
      · rw [if_neg k1] at P
        by_cases g : xs ≠ [] ∧ 2 ≤ k ∧ k ≤ 1000 ∧ xs.length ≤ 1000
        · rw [if_pos g] at P
          have rl : RpL X.K G vs xs := ⟨n, rr⟩
          have rp := rep_rp rl k.toNat
          exact .inl (.inr ⟨l, k, vs, rfl, rfl, sameT hs h, fun e => g.1 (by rw [e] at n; exact List.eq_nil_of_length_eq_zero n.symm), g.2.1, g.2.2.1, by rw [n]; exact g.2.2.2, fun p np => mkT_use P rp hs hp np⟩)
        · rw [if_neg g] at P
          exact P.elim
  · have e : mulG a b = mulD a b := by
      cases a <;> cases b <;> first | rfl | exact absurd ⟨_, _, rfl, rfl⟩ ht
    rw [e] at P
    exact .inl (.inl (h2 W pa σ G H s x y a b Q hs hp ra rb P))
end
end EV
end
namespace EV
open PySem PySem.Spec PyProof.Rows L2
end EV
namespace EV
open PySem PySem.Spec PyProof.Rows L2
end EV
namespace L2
open PySem PySem.Spec PyProof.Rows PpSet
end L2
namespace EV
open PySem PySem.Spec PyProof.Rows L2
end EV
namespace EV
open PySem PySem.Spec PyProof.Rows L2 PySem.W
open AutoSeq1 (wpAny_loadPart')
end EV
namespace EV
open PySem PySem.Spec PyProof.Rows L2
section
variable {K : PySem.W.Frag} {pa : Option Addr} {G0 H0 G H : Hp} {σ : L2.St} {Γ : List Sl} {s : List Int}
/-- a dict of one's own is changed -/
theorem Nv.mutDic (E : Nv K pa G0 H0 G H σ Γ s) {i : Nat} {sh sh' : DSh} {xs ys : List D} {p : Addr} {vs : List V} (h : Γ[i]? = some (.dic sh xs)) (hp : σ[i]? = some (some (.ref p))) (r : RpL K G vs ys) (hl : sh'.len = ys.length) (hat : sh.at p → sh'.at p := by exact fun _ => True.intro) :
    Nv K pa G0 H0 G (upd H p (sh'.ho vs)) σ (Γ.set i (.dic sh' ys)) s := by
  obtain ⟨p', vs', h1, h2, h3, h4, h5, h6⟩ := E.x.dic i sh xs h
  rw [hp] at h1
  cases h1
  have hlt : i < Γ.length := (List.getElem?_eq_some_iff.mp h).1
  have lst : ∀ {q : Addr} {ws : List V}, H q = some (.lst ws) → q ≠ p := fun {q ws} e z => by
    rw [z, h2] at e
    exact DSh.notLst (Option.some.inj e)
  have back : ∀ {j : Nat} {z : Sl}, plainS z = true → (Γ.set i (.dic sh' ys))[j]? = some z → Γ[j]? = some z := fun {j z} hz e => by
    by_cases hj : i = j
    · subst hj
      rw [List.getElem?_set_self hlt] at e
      rw [← Option.some.inj e] at hz
      cases hz
    · rw [List.getElem?_set_ne hj] at e
      exact e
  have old : ∀ {j : Nat} {s2 : DSh} {zs : List D}, (Γ.set i (.dic sh' ys))[j]? = some (.dic s2 zs) → ∃ s3 ws, Γ[j]? = some (.dic s3 ws) := fun {j s2 zs} e => by
    by_cases hj : i = j
    · subst hj
      exact ⟨sh, xs, h⟩
    · rw [List.getElem?_set_ne hj] at e
      exact ⟨s2, zs, e⟩
  refine ⟨by simp [E.len], fun j d e => E.val j d (back rfl e), fun j zs e => ?_, fun j l q ys' zs e1 e2 => E.inj j l q ys' zs (back rfl e1) (back rfl e2), fun j e => E.pen j (back rfl e), fun j ns e => E.scr j ns (back rfl e), fun q e => ?_, ?_, ⟨fun j s2 zs e => ?_, fun j l q s1 y1 s2 z2 e1 e2 => ?_, fun j s2 zs e => ?_, E.x.t0, E.x.nt⟩⟩
  · obtain ⟨q, ws, q1, q2, q3⟩ := E.own j zs (back rfl e)
    exact ⟨q, ws, q1, by rw [upd_ne (lst q2)]; exact q2, q3⟩
  · obtain ⟨q1, q2⟩ := E.ps q e
    rw [upd_ne (lst q2)]
    exact ⟨q1, q2⟩
  · refine ⟨E.ext.g, fun a o e n nt => ?_, fun a o e => ?_, E.ext.n, fun a o e => ?_, fun hK => (E.ext.tk hK).upd (fun _ z => DSh.notTbl z) (fun φ z => by rw [h2] at z; exact DSh.notExt (Option.some.inj z)) (fun φ z => by rw [h2] at z; exact DSh.notTbl (Option.some.inj z)), E.ext.gt⟩
    · rw [upd_ne (ne_of_none e h6.1)]
      exact E.ext.h a o e n nt
    · rw [upd_ne (ne_of_none e h6.1)]
      exact E.ext.t a o e
    · rw [upd_ne (ne_of_none e h3)]
      exact E.sub a o e
  · by_cases hj : i = j
    · subst hj
      rw [List.getElem?_set_self hlt] at e
      cases e
      exact ⟨p, vs, hp, upd_same, h3, r, hl, h6.1, hat h6.2⟩
    · rw [List.getElem?_set_ne hj] at e
      obtain ⟨q, ws, q1, q2, q3⟩ := E.x.dic j s2 zs e
      have ne : q ≠ p := fun z => by
        rw [z] at q1
        exact hj (E.x.inj i j p _ _ _ _ h e hp q1)
      exact ⟨q, ws, q1, by rw [upd_ne ne]; exact q2, q3⟩
  · obtain ⟨_, _, f1⟩ := old e1
    obtain ⟨_, _, f2⟩ := old e2
    exact E.x.inj j l q _ _ _ _ f1 f2
  · by_cases hj : i = j
    · subst hj
      rw [List.getElem?_set_self hlt] at e
      cases e
    · rw [List.getElem?_set_ne hj] at e
      exact E.x.ro j s2 zs e
end
end EV
namespace EV
open PySem PySem.Spec PyProof.Rows L2
end EV
namespace EV
open PySem PySem.Spec PyProof.Rows L2 PySem.W
end EV
namespace EV
open PySem PyProof.Rows L2
end EV
namespace EV
open PySem PySem.Spec PyProof.Rows L2 PySem.W
end EV
namespace EV
open PySem PySem.Spec PyProof.Rows L2
end EV
namespace EV
open PySem PySem.Spec PyProof.Rows L2 PySem.W
end EV
namespace EV
open PySem PySem.Spec PyProof.Rows L2
def mulL : D → D → PM D
  | .lst xs, .int k => if -(2 ^ 63) ≤ k ∧ k < 2 ^ 63 ∧ xs.length * k.toNat ≤ lim then mkL (repD k xs) else bad
  | _, _ => bad
theorem od_mulL {X : Cx} : OpD X (binaryOp .Mult) mulL := by
  refine ⟨_, op_rep, fun W pa σ G H s x y a b Q hs hp ra rb P => ?_⟩
  cases ra with
  | @lst l vs ds h n rr =>
    cases rb with
    | int k =>
      have P : Pst X.K W X.mg pa σ (FD X.K Q) G H ((if -(2 ^ 63) ≤ k ∧ k < 2 ^ 63 ∧ ds.length * k.toNat ≤ lim then mkL (repD k ds) else bad : PM D) s) := P
      by_cases hc : -(2 ^ 63) ≤ k ∧ k < 2 ^ 63 ∧ ds.length * k.toNat ≤ lim
      · rw [if_pos hc] at P
        exact ⟨l, k, vs, rfl, rfl, hs _ _ h, hc.1, hc.2.1, by rw [n]; exact lim_le hc.2.2, fun p np => mkL_use P (rep_rp ⟨n, rr⟩ _) hs hp np⟩
      · rw [if_neg hc] at P
        exact P.elim
    | _ => exact P.elim
  | _ => exact P.elim
end EV
namespace EV
open PySem PySem.Spec PyProof.Rows L2
/-- the module's x is an own exception class below ValueError, without an own __init__ -/
structure ErrC (K : PySem.W.Frag) (mg : Str → Option Value) (x : Str) : Prop where
  ex : ∃ C : Addr, mg x = some (.ref C) ∧ PySem.W.excIn K C [.type "ValueError", .type "Exception", .type "BaseException", .type "object"] "ValueError.__new__" = true ∧ PySem.W.keepIn K (.ref C) = true ∧
    PySem.W.subIn K (.ref C) (.type "BaseException") = some true ∧ PySem.W.typeIn K (.ref C) = some (.type "type")
theorem nf_raise {α : Type} {out : α → Out} {e : Ex} : NF out (raiseP e : PM α) := fun a s s' Γ' q => by cases q
section
variable {X : Cx} {W : WX} {pa : Option Addr} {Γ : List Sl} {k : Nat} {pos : Pos} {α : Type} {out : α → Out} {rest : List Stmt}
/-- raise X("..") -/
theorem sv_raise {x m : Str} {j : Nat} {p p2 p3 : Pos} (C : Cok X W k) (E : ErrC X.K X.mg x) (hg : Gl X x := by rfl) (hdb : (x == ("__debug__" : Str)) = false := by decide) :
    SV X W pa Γ out (.Raise (some (.Call (.Name x p) [.Constant (.str m) j p2] [] p3)) none pos :: rest) (raiseP ⟨x, []⟩) := by
  obtain ⟨c, h1, h2, h3, h4, h5⟩ := E.ex
  refine pss_imp (pss_cons (ps_raise C.calm C.takes (pmk_own PySem.F.excBase_ValueError h2 h1 h3 (raises_own h4 h5) hg hdb)) pss_never) fun Dn σ H ⟨G0, H0, G, s, N, P⟩ => ?_
  have P : ∀ cls dx σ' G' H', Ext X.K pa G0 H0 G' H' → ExcIs X.K X.mg G' H' ⟨x, []⟩ cls dx → W cls dx σ' H' := P
  exact P (.ref c) none σ G H N.ext ⟨h1, fun _ => rfl, fun z => absurd rfl z⟩
end
end EV
set_option maxHeartbeats 2000000
namespace EV
open PySem PySem.Spec PyProof.Rows L2
/-- what such a def promises; p is the handled exception -/
structure FnQ (P : Program) (w : World) (K : PySem.W.Frag) (mg : Str → Option Value) (base : Heap) (k : Nat) (f : Addr) (fd : FuncData) (ps : List Str) (sp : Addr × Obj → List V → Hp → VK → Prop) : Prop where
  len : ∀ p vs H Q, sp p vs H Q → vs.length = ps.length
  run : ∀ (A : Around) (outer : List Env) (s : Shared) (H : Hp) (args : Args) (us : List Value) (vs : List V) (Q : VK) (p : Addr × Obj), L2H.RoomH k A → L2H.PinOk outer H s p → Env0 P w K mg base A outer s H → BindsTo s fd args (ps.zip us) → Vals vs us → sp p vs H Q →
    codeAny (model P w) A (.call (.ref f) args) (CR (L2.CX P w) outer P w H s Q fun _ _ _ => False) s
section
variable {P : Program} {w : World} {K : PySem.W.Frag} {mg : Str → Option Value} {base : Heap} {k : Nat} {f : Addr} {x qual : Str} {st : Stmt} {fd : FuncData} {N ps : List Str} {sp : Addr × Obj → List V → Hp → VK → Prop}
abbrev cxQ (P : Program) (w : World) (K : PySem.W.Frag) (mg : Str → Option Value) (base : Heap) (N : List Str) (qual : Str) (scope : Scope) (f : Addr) (cd : Value) (A : Around) (outer : List Env) (s : Shared) (H : Hp) (p : Addr × Obj) : Cx :=
  L2H.cxH (L2.CX P w) P w K mg base N qual scope f cd A outer s H (fun _ _ _ => False) p
theorem fn_q (FU : Fun K x qual st f fd) (S : FnScope N ps (defScope st)) (len : ∀ p vs H Q, sp p vs H Q → vs.length = ps.length)
    (hbody : ∀ (cdv : Value) (A : Around) (outer : List Env) (s : Shared) (H : Hp) (vs : List V) (Q : VK) (p : Addr × Obj), L2H.RoomH k (A.deeper (envOfC qual (defScope st) s.heap.objs.size f cdv)) → sp p vs H Q →
      ∃ t, PSs (cxQ P w K mg base N qual (defScope st) f cdv A outer s H p) (defBody st) t ∧ t { nx := fun _ H' => Q .non H', rt := Q } (L2.start N vs) H) :
    FnQ P w K mg base (k + 1) f fd ps sp := by
  obtain ⟨oc, od, kV, doc, pm, an, cdv, ct, osl, rfl, lk, hcd⟩ := FU.ex
  refine ⟨len, fun A outer s H args us vs Q p hr hpin e0 hb r hsp => ?_⟩
  have hl := len _ _ _ _ hsp
  have KX : K.In s.heap := e0.mod.kin.keeps fun b o e => (e0.bs b o e).1
  have lim : s.heap.NoLimit := e0.mod.nolimit.keeps fun b o e => (e0.bs b o e).1
  have hkind : ∀ y ∈ ps.zip us, (defScope st).names.lookup y.1 = some .local ∨ ((defScope st).names.lookup y.1 = some .cell ∧ ((cellsFrom (s.heap.objs.size + 1) (defScope st).names []).lookup y.1).isSome = true) := fun ⟨n, v⟩ hy =>
    (S.par n (List.of_mem_zip hy).1).imp id fun q => ⟨q, PySem.W.cellsFrom_some _ _ _ (.inl q)⟩
  refine codeAny_call_function hr.depth (KX _ _ lk) rfl S.co S.gen rfl (PySem.W.codeRec_of KX hcd) (hb _ _ _ _ (wpAny_newFunctionEnv_cells S.kind hkind fun env he s1 z => ?_))
  subst he
  refine ⟨lim.keeps z.toInCall.keep, codeAny_func ?_⟩
  obtain ⟨t, ht, hq⟩ := hbody cdv A outer s H vs Q p (hr.deeper _) hsp
  refine wpAny_mono (ht.run [] s1 (L2.start N vs) H _ (L2H.inv_startH S hpin e0 hl r z) hq) (fun fl s' hs => ?_) fun _ _ hs => hs
  cases fl with
  | ret u =>
    obtain ⟨v, σ', H', J, rv, q⟩ := hs
    exact ⟨v, H', J.os, J.bare, J.base, J.hok, rv, q⟩
  | next =>
    obtain ⟨σ', H', J, q⟩ := hs
    exact ⟨.non, H', J.os, J.bare, J.base, J.hok, rfl, q⟩
  | brk => exact hs.choose_spec.choose_spec.2.elim
  | cont => exact hs.choose_spec.choose_spec.2.elim
end
section
variable {X : Cx} {k : Nat} {f : Addr} {fd : FuncData} {ps : List Str} {sp : Addr × Obj → List V → Hp → VK → Prop} {x : Str} {q pos : Pos} {e : Expr} {es : List Expr} {t : TA}
/-- f(e, ..) in the suite -/
theorem pe_callQ {p : Addr × Obj} (F : FnQ X.prog X.w X.K X.mg X.base k f fd ps sp) (hr : L2H.RoomH k X.A) (hp : p ∈ X.pn) (hg : Gl X x) (hm : X.mg x = some (.ref f)) (hk : PySem.W.keepIn X.K (.ref f) = true) (hb : Binds X.K fd ps [])
    (ha : PA X (e :: es) t) (hdb : (x == ("__debug__" : Str)) = false := by decide) (he : starEach (e :: es) X.env = (false, eval e X.env) :: starEach es X.env := by rfl) (hpl : (backTo pos (starEach es X.env)).any (·.1) = false := by rfl) :
    PE X (.Call (.Name x q) (e :: es) [] pos) (fun σ H Q => t σ H fun vs H1 => sp p vs H1 Q) := by
  refine ⟨fun pins s σ H Q I h => ?_⟩
  refine wpAny_Call_Name_kw (ld_glob I hg hm ?_ hdb)
  refine PySem.W.callWith_K (h₀ := X.base) I.ok.mod.kin hk (thn (ha.run pos pins s σ H _ I h) fun us s1 ⟨vs, H1, I1, r, z⟩ => ⟨I1.kIn, ?_⟩) he hpl
  have hl : us.length = ps.length := by rw [← r.length]; exact F.len _ _ _ _ z
  have b := hb s1 us I1.kIn (by rw [List.append_nil]; exact hl)
  rw [List.append_nil] at b
  have P1 := I1.pin p (List.mem_append_left _ hp)
  have hpin : L2H.PinOk X.stack H1 s1 p := ⟨P1.1, P1.2.1, fun hm => (List.mem_cons.mp (I1.stkSub p.1 hm)).elim P1.2.2.1 P1.2.2.2.1, P1.2.2.2.2⟩
  refine wpAny_call (codeAny_mono (F.run X.A X.stack s1 H1 ⟨us, []⟩ us vs Q p hr hpin I1.env0 b r z) fun r s' hq => ?_)
  cases r with
  | error e =>
    obtain ⟨_, _, _, _, _, _, _, _, _, _, _, _, y⟩ := hq
    exact y.elim
  | ok fl =>
    cases fl with
    | ret u => exact I1.after hq
    | next => exact False.elim hq
    | brk => exact False.elim hq
    | cont => exact False.elim hq
/-- isinstance(e, c), e the handled exception -/
theorem call_isP {a D : Addr} {oe : Obj} (hp : (a, oe) ∈ X.pn) (C : ExcC X.K D) (hz : Zc (.ref D) none oe) (hf : ∃ vs, oe.data = .fields vs) : CallR X (.builtin "isinstance") (rIsE X.K D a) := by
  intro pins s σ H xs us Q I r ⟨c, cv, b, e1, hcv, e, y⟩
  subst e1
  obtain ⟨u1, u2, rfl, rx, rt⟩ := vals2 r
  cases rx
  cases hcv _ rt
  obtain ⟨hget, _⟩ := I.pin (a, oe) (List.mem_append_left _ hp)
  obtain ⟨vs, hv⟩ := hf
  have J : PySem.W.InstAt s.heap a oe D none := by
    obtain ⟨oc, od, oda, osl⟩ := oe
    obtain ⟨h1, h2⟩ := hz
    dsimp only at h1 h2 hv
    subst h1 h2 hv
    exact ⟨hget, rfl, rfl, trivial⟩
  exact PySem.W.kia_one (PySem.W.handS_kitx_exc C.hg C.hk C.hs C.hd C.ha C.hn C.ht C.hm) I.kIn J e (fun z => nomatch z) fun tk => ⟨.bl b, H, I.kept (t' := tk) fun _ _ z => z, rfl, y⟩
end
end EV
set_option maxHeartbeats 2000000
namespace EV
open PySem PySem.Spec PyProof.Rows L2
/-- new things alone, no tables -/
def News (H H' : Hp) : Prop := (∀ b o, H b = some o → H' b = some o) ∧ ∀ P ps, H' P = some (.tbl ps) → H P = some (.tbl ps)
theorem News.refl (H : Hp) : News H H := ⟨fun _ _ h => h, fun _ _ h => h⟩
theorem News.upd {H H' : Hp} (n : News H H') {p : Addr} {o : HO} (np : H' p = none) (ho : ∀ ps, o ≠ .tbl ps) : News H (L2.upd H' p o) := ⟨fun b u e => by
  have e' := n.1 b u e
  rw [upd_ne (ne_of_none e' np)]
  exact e', fun P ps e => by
  by_cases z : P = p
  · subst z
    rw [upd_same] at e
    exact absurd (Option.some.inj e) (ho ps)
  · rw [upd_ne z] at e
    exact n.2 P ps e⟩
theorem News.mut {H H' : Hp} (n : News H H') {p : Addr} {o : HO} (np : H p = none) (ho : ∀ ps, o ≠ .tbl ps) : News H (L2.upd H' p o) := ⟨fun b u e => by
  rw [upd_ne (ne_of_none e np)]
  exact n.1 b u e, fun P ps e => by
  by_cases z : P = p
  · subst z
    rw [upd_same] at e
    exact absurd (Option.some.inj e) (ho ps)
  · rw [upd_ne z] at e
    exact n.2 P ps e⟩
theorem News.free {H H' : Hp} (n : News H H') {p : Addr} (h : H' p = none) : H p = none := by
  cases q : H p with
  | none => rfl
  | some o =>
    rw [n.1 p o q] at h
    cases h
section
variable {X : Cx} {a D : Addr} {oe : Obj}
/-- isinstance of it, as told by the class -/
def tIs (a : Addr) (b : Bool) : TE := fun σ H Q => σ[0]? = some (some (.ref a)) ∧ Q (.bl b) H
structure HotE (X : Cx) (a D : Addr) (oe : Obj) : Prop where
  pin : (a, oe) ∈ X.pn
  cls : ExcC X.K D
  zc : Zc (.ref D) none oe
  fld : ∃ vs, oe.data = .fields vs
  var : ∃ e, X.N[0]? = some e ∧ Vis X.env.scope e
theorem pe_isi {e c : Str} {C : Addr} {b : Bool} {p p1 p2 p3 : Pos} (h : HotE X a D oe) (hN : X.N[0]? = some e) (hv : Vis X.env.scope e) (hgi : Gl X "isinstance") (hmi : X.mg "isinstance" = none) (hg : Gl X c) (hm : X.mg c = some (.ref C)) (hk : PySem.W.kitOne X.K (.ref D) (.ref C) = some b)
    (hd : (e == ("__debug__" : Str)) = false := by decide) (hcd : (e == ("__classdict__" : Str)) = false := by decide) (hdc : (c == ("__debug__" : Str)) = false := by decide)
    (h1 : starEach [.Name e p1, .Name c p2] X.env = (false, eval (.Name e p1) X.env) :: starEach [.Name c p2] X.env := by rfl) (h2 : starEach [.Name c p2] X.env = (false, eval (.Name c p2) X.env) :: starEach [] X.env := by rfl)
    (hpl : (backTo p3 (starEach [.Name c p2] X.env)).any (·.1) = false := by rfl) : PE X (.Call (.Name "isinstance" p) [.Name e p1, .Name c p2] [] p3) (tIs a b) :=
  pe_imp (pe_callB (call_isP h.pin h.cls h.zc h.fld) hgi hmi (by decide +kernel) (pa_cons (pe_var hN hv hd hcd) (pa_cons (pe_glob (v := .ref C) hg hm rfl hdc) pa_nil h2) h1) (by decide) (by decide) h1 hpl) fun σ H Q ⟨s, q⟩ =>
    ⟨.ref a, s, ⟨.ref C, .ref C, b, rfl, fun u r => r, hk, q⟩⟩
theorem pe_isiT {e c : Str} {T : String} {b : Bool} {p p1 p2 p3 : Pos} (h : HotE X a D oe) (hN : X.N[0]? = some e) (hv : Vis X.env.scope e) (hgi : Gl X "isinstance") (hmi : X.mg "isinstance" = none) (hg : Gl X c) (hm : X.mg c = none) (hb : bootBuiltins c = some (.type T)) (hk : PySem.W.kitOne X.K (.ref D) (.type T) = some b)
    (hn : c ≠ "__name__" := by decide) (hd : (e == ("__debug__" : Str)) = false := by decide) (hcd : (e == ("__classdict__" : Str)) = false := by decide) (hdc : (c == ("__debug__" : Str)) = false := by decide)
    (h1 : starEach [.Name e p1, .Name c p2] X.env = (false, eval (.Name e p1) X.env) :: starEach [.Name c p2] X.env := by rfl) (h2 : starEach [.Name c p2] X.env = (false, eval (.Name c p2) X.env) :: starEach [] X.env := by rfl)
    (hpl : (backTo p3 (starEach [.Name c p2] X.env)).any (·.1) = false := by rfl) : PE X (.Call (.Name "isinstance" p) [.Name e p1, .Name c p2] [] p3) (tIs a b) :=
  pe_imp (pe_callB (call_isP h.pin h.cls h.zc h.fld) hgi hmi (by decide +kernel) (pa_cons (pe_var hN hv hd hcd) (pa_cons (pe_bltn (v := .ty T) hg hm hb rfl hn hdc) pa_nil h2) h1) (by decide) (by decide) h1 hpl) fun σ H Q ⟨s, q⟩ =>
    ⟨.ref a, s, ⟨.ty T, .type T, b, rfl, fun u r => r, hk, q⟩⟩
/-- a display of three of them -/
theorem pe_isi3 {i1 i2 i3 : Expr} {b1 b2 b3 : Bool} {p : Pos} (h1 : PE X i1 (tIs a b1)) (h2 : PE X i2 (tIs a b2)) (h3 : PE X i3 (tIs a b3))
    (e1 : starEach [i1, i2, i3] X.env = (false, eval i1 X.env) :: starEach [i2, i3] X.env := by rfl) (e2 : starEach [i2, i3] X.env = (false, eval i2 X.env) :: starEach [i3] X.env := by rfl) (e3 : starEach [i3] X.env = (false, eval i3 X.env) :: starEach [] X.env := by rfl) :
    PE X (.List [i1, i2, i3] p) (fun σ H Q => σ[0]? = some (some (.ref a)) ∧ ∀ l, H l = none → Q (.ref l) (upd H l (.lst [.bl b1, .bl b2, .bl b3]))) :=
  pe_imp (L2.pe_lst (pa_cons h1 (pa_cons h2 (pa_cons h3 pa_nil e3) e2) e1)) fun σ H Q ⟨s, q⟩ => ⟨s, s, s, by show 3 ≤ sizeLine; rw [sizeLine_eq]; omega, fun p np => q p np⟩
end
theorem dp_bls {K : PySem.W.Frag} {H : Hp} {l : Addr} (bs : List Bool) (h : H l = some (.lst (bs.map V.bl))) : Dp K H (.ref l) (.list (bs.map PyData.bool)) := by
  refine .lst (SqL.of h) ?_
  induction bs with
  | nil => exact .nil
  | cons b bs ih => exact .cons (.bl b) (by
      clear h
      clear ih
      induction bs with
      | nil => exact .nil
      | cons c bs ih => exact .cons (.bl c) ih)
def wordsL (w8 : Str) : List Str := ["net", "component", "set", "report", "word", "number", "text", w8, "unexplained", "limit"]
section
variable {X : Cx} {a D : Addr} {oe : Obj}
/-- _law_kind -/
theorem pss_kind {w8 e m w : Str} {j : Nat} (hj : j < 10) {i0 i1 i2 i3 i4 i5 i6 i7 i8 i9 iv : Expr} {q1 q2 q3 q4 q5 q6 q7 q8 q9 q10 q11 q12 q13 q14 q15 q16 q17 q18 q19 q20 q21 q22 q23 q24 q25 q26 q27 q28 q29 q30 q31 q32 q33 q34 q35 q36 q37 q38 q39 q40 : Pos}
    {k1 k2 k3 k4 k5 k6 k7 k8 k9 k10 k11 k12 k13 k14 : Nat} (hu : X.A.units + 65 < cLine) (nd : X.N.Nodup)
    (hm : X.N[1]? = some m) (hw : X.N[2]? = some w) (lm : Loc X.env.scope m) (lw : Loc X.env.scope w) (vm : Vis X.env.scope m) (vw : Vis X.env.scope w)
    (h0 : PE X i0 (tIs a (0 == j))) (h1 : PE X i1 (tIs a (1 == j))) (h2 : PE X i2 (tIs a (2 == j))) (h3 : PE X i3 (tIs a (3 == j))) (h4 : PE X i4 (tIs a (4 == j))) (h5 : PE X i5 (tIs a (5 == j))) (h6 : PE X i6 (tIs a (6 == j))) (h7 : PE X i7 (tIs a (7 == j))) (h8 : PE X i8 (tIs a (8 == j))) (h9 : PE X i9 (tIs a (9 == j))) (hv : PT X iv (tB (tIs a true)))
    (s0 : starEach [i0, i1, i2] X.env = (false, eval i0 X.env) :: starEach [i1, i2] X.env := by rfl) (s1 : starEach [i1, i2] X.env = (false, eval i1 X.env) :: starEach [i2] X.env := by rfl) (s2 : starEach [i2] X.env = (false, eval i2 X.env) :: starEach [] X.env := by rfl)
    (s3 : starEach [i3, i4, i5] X.env = (false, eval i3 X.env) :: starEach [i4, i5] X.env := by rfl) (s4 : starEach [i4, i5] X.env = (false, eval i4 X.env) :: starEach [i5] X.env := by rfl) (s5 : starEach [i5] X.env = (false, eval i5 X.env) :: starEach [] X.env := by rfl)
    (s6 : starEach [i6, i7, i8] X.env = (false, eval i6 X.env) :: starEach [i7, i8] X.env := by rfl) (s7 : starEach [i7, i8] X.env = (false, eval i7 X.env) :: starEach [i8] X.env := by rfl) (s8 : starEach [i8] X.env = (false, eval i8 X.env) :: starEach [] X.env := by rfl)
    (s9 : starEach [i9] X.env = (false, eval i9 X.env) :: starEach [] X.env := by rfl)
    (w1 : swapsWith (.List [i0, i1, i2] q1) (some (.Name m q2)) q3.line X.env = pure false := by rfl)
    (w2 : swapsWith (.BinOp (.Name m q4) .Add (.List [i3, i4, i5] q5) q6) (some (.Name m q7)) q8.line X.env = pure false := by rfl)
    (w3 : swapsWith (.BinOp (.Name m q9) .Add (.List [i6, i7, i8] q10) q11) (some (.Name m q12)) q13.line X.env = pure false := by rfl)
    (w4 : swapsWith (.Call (.Attribute (.Name m q14) "append" q15) [i9] [] q16) none q17.line X.env = pure false := by rfl)
    (w5 : swapsWith (.List [.Constant (.str "net") k1 q18, .Constant (.str "component") k2 q19, .Constant (.str "set") k3 q20, .Constant (.str "report") k4 q21, .Constant (.str "word") k5 q22, .Constant (.str "number") k6 q23, .Constant (.str "text") k7 q24, .Constant (.str w8) k8 q25, .Constant (.str "unexplained") k9 q26, .Constant (.str "limit") k10 q27] q28) (some (.Name w q29)) q30.line X.env = pure false := by rfl)
    (b1 : attributeBase (.Name m q14) "append" X.env (eval (.Name m q14) X.env) = eval (.Name m q14) X.env := by rfl) (b2 : attributeBase (.Name m q31) "count" X.env (eval (.Name m q31) X.env) = eval (.Name m q31) X.env := by rfl) (b3 : attributeBase (.Name m q38) "index" X.env (eval (.Name m q38) X.env) = eval (.Name m q38) X.env := by rfl)
    (f1 : ((backTo q16 (starEach [i9] X.env)).all (fun x => !x.1) && (backToKw q16 (keywordEach [] X.env)).all (fun x => x.1.isSome) && decide ([i9].length + ([] : List Keyword).length + (if ([] : List Keyword).isEmpty then 0 else 1) < 30)) = true := by rfl)
    (l1 : (q15.endLine == q16.line) = true := by rfl) (p1 : (backTo q16 (starEach [] X.env)).any (·.1) = false := by rfl)
    (l2 : (q32.endLine == q34.line) = true := by rfl) (l3 : (q39.endLine == q40.line) = true := by rfl)
    (dm : (m == ("__debug__" : Str)) = false := by decide) (cm : (m == ("__classdict__" : Str)) = false := by decide) (dw : (w == ("__debug__" : Str)) = false := by decide) (cw : (w == ("__classdict__" : Str)) = false := by decide)
    (lo1 : X.fn m = true ∨ X.env.scope.names.lookup m = some .local := by first | exact .inl rfl | exact .inr rfl) (lo2 : X.fn w = true ∨ X.env.scope.names.lookup w = some .local := by first | exact .inl rfl | exact .inr rfl)
    {c1 c2 c3 : Nat} {z1 z2 z3 z4 z5 z6 z7 z8 z9 : Pos} :
    PSs X [.Assign [.Name m q2] (.List [i0, i1, i2] q1) q3,
      .Assign [.Name m q7] (.BinOp (.Name m q4) .Add (.List [i3, i4, i5] q5) q6) q8,
      .Assign [.Name m q12] (.BinOp (.Name m q9) .Add (.List [i6, i7, i8] q10) q11) q13,
      .Expr (.Call (.Attribute (.Name m q14) "append" q15) [i9] [] q16) q17,
      .Assign [.Name w q29] (.List [.Constant (.str "net") k1 q18, .Constant (.str "component") k2 q19, .Constant (.str "set") k3 q20, .Constant (.str "report") k4 q21, .Constant (.str "word") k5 q22, .Constant (.str "number") k6 q23, .Constant (.str "text") k7 q24, .Constant (.str w8) k8 q25, .Constant (.str "unexplained") k9 q26, .Constant (.str "limit") k10 q27] q28) q30,
      .If (.BoolOp .Or [.Compare (.Call (.Attribute (.Name m q31) "count" q32) [.Constant (.bool true) c1 q33] [] q34) [.NotEq] [.Constant (.int 1) c2 z1] z2, .UnaryOp .Not iv z3] z4) [.Return (some (.Constant (.str "other") k11 z5)) z6] [] z7,
      .Return (some (.Subscript (.Name w q37) (.Call (.Attribute (.Name m q38) "index" q39) [.Constant (.bool true) c3 z8] [] q40) z9)) q36]
      (fun Dn σ H => σ = [some (.ref a), none, none] ∧ ∀ H', News H H' → Dn.rt (.str ((wordsL w8).getD j "")) H') := by
  have hl : ∀ n, n ≤ 100 → n ≤ sizeLine := fun n h => by rw [sizeLine_eq]; omega
  have st : ∀ (c : Nat) (z : Pos), starEach [.Constant (.bool true) c z] X.env = (false, eval (.Constant (.bool true) c z) X.env) :: starEach [] X.env := fun _ _ => rfl
  have wl := L2.pe_lst (X := X) (pos := q28) (pa_cons (pe_str (x := "net") (j := k1) (pos := q18)) (pa_cons (pe_str (x := "component") (j := k2) (pos := q19)) (pa_cons (pe_str (x := "set") (j := k3) (pos := q20)) (pa_cons (pe_str (x := "report") (j := k4) (pos := q21)) (pa_cons (pe_str (x := "word") (j := k5) (pos := q22)) (pa_cons (pe_str (x := "number") (j := k6) (pos := q23)) (pa_cons (pe_str (x := "text") (j := k7) (pos := q24)) (pa_cons (pe_str (x := w8) (j := k8) (pos := q25)) (pa_cons (pe_str (x := "unexplained") (j := k9) (pos := q26)) (pa_cons (pe_str (x := "limit") (j := k10) (pos := q27)) pa_nil rfl) rfl) rfl) rfl) rfl) rfl) rfl) rfl) rfl) rfl)
  refine pss_imp (pss_cons (ps_set (i := 1) nd hm lm (pe_isi3 h0 h1 h2 s0 s1 s2) w1 lo1) (pss_cons (ps_set (i := 1) nd hm lm (pe_op op_cat (pe_var hm vm dm cm) (pe_isi3 h3 h4 h5 s3 s4 s5)) w2 lo1) (pss_cons (ps_set (i := 1) nd hm lm (pe_op op_cat (pe_var hm vm dm cm) (pe_isi3 h6 h7 h8 s6 s7 s8)) w3 lo1)
    (pss_cons (ps_expr (pe_bm PySem.F.plainAttrs_list PySem.F.slot_list_append PySem.F.type_list_append mt_append (pe_var hm vm dm cm) (pa_cons h9 pa_nil s9) b1 f1 l1 s9 p1) w4) (pss_cons (ps_set (i := 2) nd hw lw wl w5 lo2)
    (pss_cons (ps_if (pw_or (pt_cmp (pc_neI (pe_bm PySem.F.plainAttrs_list PySem.F.slot_list_count PySem.F.type_list_count (mt_countD hu) (pe_var hm vm dm cm) (pa_cons pe_bl pa_nil rfl) b2 rfl l2 rfl rfl) pe_int)) (pw_or1 (pt_not hv))).pt (pss_one (ps_ret pe_str)) pss_nil)
    (pss_one (ps_ret (pe_ix ix_list (pe_var hw vw dw cw) (pe_bm PySem.F.plainAttrs_list PySem.F.slot_list_index PySem.F.type_list_index (mt_indexD hu) (pe_var hm vm dm cm) (pa_cons pe_bl pa_nil rfl) b3 rfl l3 rfl rfl) (fun _ _ => rfl)))))))))) fun Dn σ H ⟨es, q⟩ => ?_
  subst es
  have ty : ∀ {H : Hp} {l : Addr} {xs : List V}, H l = some (.lst xs) → tyV X.K "list" (.ref l) H := fun h => .inl ⟨rfl, _, SqL.of h⟩
  have nt : ∀ xs : List V, ∀ ps, HO.lst xs ≠ .tbl ps := fun _ _ z => by cases z
  refine ⟨rfl, fun l1 n1 => ?_⟩
  have N1 := (News.refl H).upd n1 (nt ([V.bl (0 == j), V.bl (1 == j), V.bl (2 == j)] : List V))
  refine ⟨.ref l1, rfl, rfl, fun l2 n2 => ?_⟩
  have N2 := N1.upd n2 (nt ([V.bl (3 == j), V.bl (4 == j), V.bl (5 == j)] : List V))
  refine ⟨l1, l2, ([V.bl (0 == j), V.bl (1 == j), V.bl (2 == j)] : List V), ([V.bl (3 == j), V.bl (4 == j), V.bl (5 == j)] : List V), rfl, rfl, by rw [upd_ne (ne_of_none upd_same n2), upd_same], upd_same, hl 6 (by decide), fun l3 n3 => ?_⟩
  have N3 := N2.upd n3 (nt ([V.bl (0 == j), V.bl (1 == j), V.bl (2 == j), V.bl (3 == j), V.bl (4 == j), V.bl (5 == j)] : List V))
  refine ⟨.ref l3, rfl, rfl, fun l4 n4 => ?_⟩
  have N4 := N3.upd n4 (nt ([V.bl (6 == j), V.bl (7 == j), V.bl (8 == j)] : List V))
  refine ⟨l3, l4, ([V.bl (0 == j), V.bl (1 == j), V.bl (2 == j), V.bl (3 == j), V.bl (4 == j), V.bl (5 == j)] : List V), ([V.bl (6 == j), V.bl (7 == j), V.bl (8 == j)] : List V), rfl, rfl, by rw [upd_ne (ne_of_none upd_same n4)]; exact upd_same, upd_same, hl 9 (by decide), fun l5 n5 => ?_⟩
  have N5 := N4.upd n5 (nt ([V.bl (0 == j), V.bl (1 == j), V.bl (2 == j), V.bl (3 == j), V.bl (4 == j), V.bl (5 == j), V.bl (6 == j), V.bl (7 == j), V.bl (8 == j)] : List V))
  refine ⟨.ref l5, rfl, ty upd_same, rfl, l5, ([V.bl (0 == j), V.bl (1 == j), V.bl (2 == j), V.bl (3 == j), V.bl (4 == j), V.bl (5 == j), V.bl (6 == j), V.bl (7 == j), V.bl (8 == j)] : List V), .bl (9 == j), rfl, rfl, upd_same, by show 9 < sizeLine; rw [sizeLine_eq]; omega, ?_⟩
  have N6 := N5.mut (N4.free n5) (nt ([V.bl (0 == j), V.bl (1 == j), V.bl (2 == j), V.bl (3 == j), V.bl (4 == j), V.bl (5 == j), V.bl (6 == j), V.bl (7 == j), V.bl (8 == j), V.bl (9 == j)] : List V))
  refine ⟨hl 10 (by decide), fun l6 n6 => ?_⟩
  have N7 := N6.upd n6 (nt ((wordsL w8).map V.str))
  have g5 : upd (upd (upd (upd (upd (upd (upd H l1 (.lst ([V.bl (0 == j), V.bl (1 == j), V.bl (2 == j)] : List V))) l2 (.lst ([V.bl (3 == j), V.bl (4 == j), V.bl (5 == j)] : List V))) l3 (.lst ([V.bl (0 == j), V.bl (1 == j), V.bl (2 == j), V.bl (3 == j), V.bl (4 == j), V.bl (5 == j)] : List V))) l4 (.lst ([V.bl (6 == j), V.bl (7 == j), V.bl (8 == j)] : List V))) l5 (.lst ([V.bl (0 == j), V.bl (1 == j), V.bl (2 == j), V.bl (3 == j), V.bl (4 == j), V.bl (5 == j), V.bl (6 == j), V.bl (7 == j), V.bl (8 == j)] : List V))) l5 (.lst ([V.bl (0 == j), V.bl (1 == j), V.bl (2 == j), V.bl (3 == j), V.bl (4 == j), V.bl (5 == j), V.bl (6 == j), V.bl (7 == j), V.bl (8 == j), V.bl (9 == j)] : List V))) l6 (.lst ((wordsL w8).map V.str)) l5 = some (.lst ([V.bl (0 == j), V.bl (1 == j), V.bl (2 == j), V.bl (3 == j), V.bl (4 == j), V.bl (5 == j), V.bl (6 == j), V.bl (7 == j), V.bl (8 == j), V.bl (9 == j)] : List V)) := by
    rw [upd_ne (ne_of_none upd_same n6)]
    exact upd_same
  have dp := dp_bls (K := X.K) [0 == j, 1 == j, 2 == j, 3 == j, 4 == j, 5 == j, 6 == j, 7 == j, 8 == j, 9 == j] g5
  have hj' : j = 0 ∨ j = 1 ∨ j = 2 ∨ j = 3 ∨ j = 4 ∨ j = 5 ∨ j = 6 ∨ j = 7 ∨ j = 8 ∨ j = 9 := by omega
  have hc : ([0 == j, 1 == j, 2 == j, 3 == j, 4 == j, 5 == j, 6 == j, 7 == j, 8 == j, 9 == j].map PyData.bool).countP (fun z => PyData.eqv z (.bool true)) = 1 := by
    rcases hj' with rfl | rfl | rfl | rfl | rfl | rfl | rfl | rfl | rfl | rfl <;> rfl
  refine ⟨.ref l5, rfl, ty g5, l5, .bl true, .bool true, _, rfl, rfl, dp, .bl true, by rfl, by rfl, ?_⟩
  refine ⟨1, 1, by rw [hc]; rfl, rfl, ?_⟩
  refine ⟨false, rfl, ?_⟩
  refine ⟨rfl, true, rfl, ?_⟩
  refine ⟨.ref l6, rfl, .ref l5, rfl, ty g5, l5, .bl true, .bool true, _, j, .bool true, rfl, rfl, dp, .bl true, by rfl, by rfl, ?_, rfl, ?_, ?_⟩
  · rcases hj' with rfl | rfl | rfl | rfl | rfl | rfl | rfl | rfl | rfl | rfl <;> rfl
  · intro m z' hm hz
    rcases hj' with rfl | rfl | rfl | rfl | rfl | rfl | rfl | rfl | rfl | rfl <;> (have : m = 0 ∨ m = 1 ∨ m = 2 ∨ m = 3 ∨ m = 4 ∨ m = 5 ∨ m = 6 ∨ m = 7 ∨ m = 8 ∨ m = 9 := by omega) <;> rcases this with rfl | rfl | rfl | rfl | rfl | rfl | rfl | rfl | rfl | rfl <;> first | omega | (cases hz; rfl)
  · refine ⟨l6, (wordsL w8).map V.str, j, .str ((wordsL w8).getD j ""), rfl, rfl, SqL.of upd_same, ?_, q _ N7⟩
    rcases hj' with rfl | rfl | rfl | rfl | rfl | rfl | rfl | rfl | rfl | rfl <;> rfl
end
end EV
set_option maxHeartbeats 2000000
namespace EV
open PySem PySem.Spec PyProof.Rows L2
/-- the names of the exceptions, in the order of the words -/
def errsL : List Str := ["NetError", "ComponentError", "SetError", "ReportError", "WordError", "NumberError", "TextError", "NothingDone", "Unexplained", "LimitError"]
/-- the class at D is number j; CA is the class of them all -/
structure ErrJ (K : PySem.W.Frag) (mg : Str → Option Value) (CA : Addr) (D : Addr) (j : Nat) : Prop where
  cls : ExcC K D
  all : PySem.W.exmOne K (.ref D) (.ref CA) = some true
  val : PySem.W.kitOne K (.ref D) (.type "ValueError") = some true
  is : ∀ (i : Nat) (x : Str), errsL[i]? = some x → ∃ C, mg x = some (.ref C) ∧ PySem.W.kitOne K (.ref D) (.ref C) = some (i == j)
/-- what kind(e) promises -/
def spK (w8 : Str) (K : PySem.W.Frag) (mg : Str → Option Value) (CA : Addr) : Addr × Obj → List V → Hp → VK → Prop := fun p vs H Q => ∃ (D : Addr) (j : Nat), j < 10 ∧ vs = [.ref p.1] ∧ Zc (.ref D) none p.2 ∧ (∃ us, p.2.data = .fields us) ∧ ErrJ K mg CA D j ∧
  ∀ H', News H H' → Q (.str ((wordsL w8).getD j "")) H'
theorem pss_and {X : Cx} {sts : List Stmt} {t : TS} {p : Prop} (h : p → PSs X sts t) : PSs X sts (fun D σ H => p ∧ t D σ H) := ⟨fun pins s σ H D I ⟨z, q⟩ => (h z).run pins s σ H D I q⟩
theorem pss_len {X : Cx} {sts : List Stmt} {t : TS} (h : PSs X sts t) : PSs X sts (fun D σ H => σ.length = X.N.length → t D σ H) := ⟨fun pins s σ H D I q => h.run pins s σ H D I (q I.len)⟩
theorem words_len {w8 : Str} (h8 : w8.length ≤ 20) (j : Nat) (h : j < 10) : ((wordsL w8).getD j "").length ≤ 20 := by
  have hj : j = 0 ∨ j = 1 ∨ j = 2 ∨ j = 3 ∨ j = 4 ∨ j = 5 ∨ j = 6 ∨ j = 7 ∨ j = 8 ∨ j = 9 := by omega
  rcases hj with rfl | rfl | rfl | rfl | rfl | rfl | rfl | rfl | rfl | rfl
  · exact (by decide +kernel : ("net" : Str).length ≤ 20)
  · exact (by decide +kernel : ("component" : Str).length ≤ 20)
  · exact (by decide +kernel : ("set" : Str).length ≤ 20)
  · exact (by decide +kernel : ("report" : Str).length ≤ 20)
  · exact (by decide +kernel : ("word" : Str).length ≤ 20)
  · exact (by decide +kernel : ("number" : Str).length ≤ 20)
  · exact (by decide +kernel : ("text" : Str).length ≤ 20)
  · exact h8
  · exact (by decide +kernel : ("unexplained" : Str).length ≤ 20)
  · exact (by decide +kernel : ("limit" : Str).length ≤ 20)
/-- what said makes of what the lambda does -/
def TSaid (w8 : Str) (K : PySem.W.Frag) (mg : Str → Option Value) (CA : Addr) : (XK → Hp → VK → Prop) → Hp → VK → Prop := fun tl H Q =>
  tl (fun cls d H' => ∃ (D : Addr) (j : Nat), j < 10 ∧ cls = .ref D ∧ d = none ∧ ErrJ K mg CA D j ∧ ∀ H'', News H' H'' → Q (.str ("! " ++ (wordsL w8).getD j "")) H'') H fun v H' => rRepr K [v] H' Q
theorem said_gives {w8 : Str} (h8 : w8.length ≤ 20) {X : Cx} {k : Nat} {x a e kn q er : Str} {sg : Scope} {g CA fk : Addr} {fkd : FuncData} {cdg : Value} {j1 : Nat} {p1 p2 p3 p4 p5 p6 p7 p8 p9 p10 p11 p12 p13 p14 : Pos} {pe : Str}
    (FQ : FnQ X.prog X.w X.K X.mg X.base k fk fkd [pe] (spK w8 X.K X.mg CA)) (hmk : X.mg kn = some (.ref fk)) (hkk : PySem.W.keepIn X.K (.ref fk) = true) (hbk : Binds X.K fkd [pe] [])
    (hr : Room (k + 1) X.A) (hg : X.A.guards = some []) (gr : sg.names.lookup ("repr" : Str) = some .globalImplicit) (mr : X.mg "repr" = none) (gk : sg.names.lookup kn = some .globalImplicit) (ge : sg.names.lookup er = some .globalImplicit) (me : X.mg er = some (.ref CA))
    (le : sg.names.lookup e = some .local) (nd : [a, e].Nodup) (hde : (er == ("__debug__" : Str)) = false) (hdk : (kn == ("__debug__" : Str)) = false) (hd : (e == ("__debug__" : Str)) = false) (hcd : (e == ("__classdict__" : Str)) = false) :
    LamX.GivesTo X [a, e] x sg g cdg [.Try [.Return (some (.Call (.Name "repr" p1) [.Call (.Name a p2) [] [] p3] [] p4)) p5]
      [.ExceptHandler (some (.Name er p6)) (some e) [.Return (some (.BinOp (.Constant (.str "! ") j1 p7) .Add (.Call (.Name kn p8) [.Name e p9] [] p10) p11)) p12] p13] [] [] p14] a q (TSaid w8 X.K X.mg CA) := by
  intro f c' s H Q tl act hc h
  have hr' : Room k (X.A.deeper (envOfC x sg s.heap.objs.size g cdg)) := hr.deeper _
  refine ⟨_, pss_one (ps_try_as (X := (cxOf C8.CX0 X.prog X.w X.K X.mg X.base [a, e] x sg g cdg X.A X.stack s H C8.E0).nox) (c := .ref CA) (i := 1)
      (tb := fun W D σ H => ∃ Ech : XK, (∀ cls d σ' H', Ech cls d H' → W cls d σ' H') ∧ σ[0]? = some (some (.ref f)) ∧ H c' = some (LamX.CodeO c' q) ∧ tl Ech H fun v H' => rRepr X.K [v] H' D.rt)
      (ts := fun a' cls d Dn σ H => ∃ z : Addr × Nat, (z.2 < 10 ∧ cls = .ref z.1 ∧ d = none ∧ ErrJ X.K X.mg CA z.1 z.2) ∧ (σ.length = 2 → σ[1]? = some (some (.ref a')) ∧ ∀ H'', News H H'' → Dn.rt (.str ("! " ++ (wordsL w8).getD z.2 "")) H''))
      rfl rfl nd rfl le ⟨ge, hde, .inl me⟩ takes0 (fun W pn xe tk _ => ?_) (fun a' oe cls d pn hz hf => ?_)), ?_⟩
  · refine ⟨fun pins s' σ H' D I h' => ?_⟩
    obtain ⟨Ech, hW, h1, h2, h3⟩ := h'
    have hp := act W pn xe Ech p2 p3 tk hW
    have hq := pss_one (ps_ret (pos := p5) (pe_callB (p := p1) (pos := p4) (call_reprD (X := (cxOf C8.CX0 X.prog X.w X.K X.mg X.base [a, e] x sg g cdg X.A X.stack s H C8.E0).tr pn xe) (k := k) hr' hg) gr mr (by decide +kernel) (pa_cons hp pa_nil rfl) (by decide) (by decide) rfl rfl))
    exact hq.run pins s' σ H' D I ⟨h1, h2, h3⟩
  · refine pss_ex fun z => pss_and fun ⟨hj, e1, e2, ej⟩ => ?_
    subst e1 e2
    have hv : Vis sg e := .inl le
    refine pss_len (pss_imp (pss_one (ps_ret (pos := p12) (pe_op (op_add_str (X := Cx.suite _ a' _)) pe_str (pe_callQ (p := (a', oe)) (q := p8) (pos := p10) FQ ⟨hr'.dp, hr'.un⟩ List.mem_cons_self gk hmk hkk hbk (pa_cons (pe_var (i := 1) rfl hv hd hcd) pa_nil rfl) hdk rfl rfl)))) fun Dn σ H ⟨hs, y⟩ => ?_)
    refine ⟨.ref a', hs, z.1, z.2, hj, rfl, hz, hf, ej, fun H' n => ?_⟩
    have wl := words_len h8 z.2 hj
    exact ⟨"! ", (wordsL w8).getD z.2 "", rfl, rfl, by
      rw [sizeLine_eq]
      show 2 + _ ≤ _
      omega, y H' n⟩
  · exact ⟨_, fun cls d σ' H' ⟨D, j, hj, e1, e2, ej, y⟩ => by
      subst e1 e2
      exact ⟨true, ej.all, fun _ a' _ => ⟨(D, j), ⟨hj, rfl, rfl, ej⟩, fun hl => ⟨List.getElem?_set_self (by rw [List.length_set] at hl; omega), y⟩⟩, fun z => by cases z⟩, rfl, hc, h⟩
end EV
set_option maxHeartbeats 2000000
namespace EV
open PySem PySem.Spec PyProof.Rows L2 LamX
/-- the heap behind the making of a lambda: as it was, or the table at P has grown by the code object c' -/
def LamH (P : Addr) (q : Str) (c' : Addr) (H H1 : Hp) : Prop := H1 = H ∨ ∃ ps more, H P = some (.tbl ps) ∧ H c' = none ∧ H1 = upd (upd H P (.tbl (ps ++ more))) c' (CodeO c' q)
section
variable {X : Cx} {pins : List (Addr × Obj)} {σ : L2.St} {H : Hp} {s : Shared}
theorem lam_make3 {c P : Addr} {params : Arguments} {body : Expr} {scope : Scope} {pos : Pos} {E : Value → Shared → Prop} {Q : Value → Shared → Prop} (I : Inv X pins σ H s) (TB : TabB X.base X.mg c P) (hcode : X.env.code = .ref c)
    (hT : TabS H P (X.env.qual ++ "<lambda>")) (hdef : defaultsOf params X.env = ([], [])) (hfree : ∀ y ∈ scope.names, y.2 = .free → ∃ c, X.env.cells.lookup y.1 = some c)
    (h : ∀ (f c' : Addr) (pm ctv : Value) (H1 : Hp) (s' : Shared), Inv X pins σ H1 s' → LamH P (X.env.qual ++ "<lambda>") c' H H1 → TabS H1 P (X.env.qual ++ "<lambda>") →
      s'.heap.get? f = some (PySem.W.kla_obj "<lambda>" (X.env.qual ++ "<lambda>") params body scope (cloFrom X.env.cells scope.names []) pm c' ctv) → H1 f = none → f ∉ frs X.stack → H1 c' = some (CodeO c' (X.env.qual ++ "<lambda>")) → Q (.ref f) s') :
    wpAny (model X.prog X.w) X.A (eval (.Lambda params body scope pos) X.env) Q E s := by
  obtain ⟨ps, hP, ht, ha⟩ := hT
  have bP : s.heap.BuiltinsAt X.mg P := TB.bm.keeps I.bk
  have hP' : s.heap.get? P = some { cls := .none, data := .fields ps } := I.hok P _ hP
  have nofr : ∀ f, s.heap.objs.size ≤ f → f ∉ frs X.stack := fun f hf z => (List.mem_cons.mp (I.stkSub _ z)).elim
    (fun e => Nat.lt_irrefl _ (Nat.lt_of_lt_of_le (e ▸ I.lt) hf)) fun e => I.nofs hf e
  refine PySem.W.kla_eval hdef ?_
  cases hc : codeAmong pos ps.toList with
  | some cv =>
    obtain ⟨c', rfl, hco⟩ := ha pos cv hc
    refine PySem.W.kla_makeFunctionHit (mg := X.mg) (c := c) (P := P) (ps := ps) (closure_ok hfree) I.ok.glob (I.mod.glob.keeps I.bk) hcode (TB.code.keeps I.bk) hP' ht hc bP fun ctv h' tk hx hsz => ?_
    exact h h'.objs.size c' _ ctv H _ (I.kept (t' := tk) fun b o e => Heap.get?_push_of_some _ (hx b o e)) (.inl rfl) ⟨ps, hP, ht, ha⟩ (Heap.get?_push_size _ rfl) (I.hok.fresh hsz) (nofr _ hsz) hco
  | none =>
    refine PySem.W.kla_makeFunction (mg := X.mg) (c := c) (P := P) (ps := ps) (closure_ok hfree) I.ok.glob (I.mod.glob.keeps I.bk) hcode (TB.code.keeps I.bk) hP' ht hc TB.gP bP fun c' ctv h' tk hx hge hlt hrec htb => ?_
    obtain ⟨c2, oc, vs, t, e2, hoc, hd, hv⟩ := hrec
    cases e2
    have nC : H c' = none := I.hok.fresh hge
    have hsz : s.heap.objs.size ≤ h'.objs.size := Nat.le_trans hge (Nat.le_of_lt hlt)
    have n1 : h'.objs.size ≠ c' := Nat.ne_of_gt hlt
    have n2 : h'.objs.size ≠ P := Nat.ne_of_gt (Nat.lt_of_lt_of_le (Heap.lt_size hP') hsz)
    refine h h'.objs.size c' _ ctv _ _ (inv_table (t' := tk) (more := #[rawInt pos.line, rawInt pos.col, .ref c']) I hP (fun b o hb e => Heap.get?_push_of_some _ (hx b o hb e)) (Heap.get?_push_of_some _ htb) hge ⟨oc, vs, t, Heap.get?_push_of_some _ hoc, hd, hv⟩)
      (.inr ⟨ps, _, hP, nC, rfl⟩) ?_ (Heap.get?_push_size _ rfl) (by rw [upd_ne n1, upd_ne n2]; exact I.hok.fresh hsz) (nofr _ hsz) upd_same
    have eL : (ps ++ #[rawInt pos.line, rawInt pos.col, .ref c']).toList = ps.toList ++ [rawInt pos.line, rawInt pos.col, .ref c'] := by simp
    refine ⟨_, by rw [upd_ne (ne_of_none hP nC), upd_same], by rw [eL]; exact PySem.TriplesOk_snoc _ _ _ _ ht, fun p' cv hcv => ?_⟩
    rw [eL] at hcv
    rcases among_app _ ht hcv with z | z
    · obtain ⟨c0, e1, e2⟩ := ha p' cv z
      refine ⟨c0, e1, ?_⟩
      rw [upd_ne (ne_of_none e2 nC), upd_ne (fun y => by
        rw [y, hP] at e2
        exact codeO_ne ps (Option.some.inj e2).symm)]
      exact e2
    · exact ⟨c', z, upd_same⟩
end
def tLam3 (P : Addr) (q : Str) (TT : (XK → Hp → VK → Prop) → Hp → VK → Prop) (t : XK → TE) : TE := fun σ H Q => TabS H P q ∧ ∀ c' H1, LamH P q c' H H1 → TabS H1 P q → TT (fun E H' Q' => t E σ H' Q') H1 Q
section
variable {X : Cx}
/-- x(lambda: body) -/
theorem pe_lam3 {TT : (XK → Hp → VK → Prop) → Hp → VK → Prop} {x a : Str} {g c P : Addr} {k : Nat} {pg : Arguments} {bg : List Stmt} {sg : Scope} {dV kV doc pm cdv ct oc : Value} {an od : Option Addr} {osl : Array (Option Value)} {Ng : List Str}
    {params : Arguments} {body : Expr} {scope : Scope} {t : XK → TE} {p lpos pos : Pos} (hg : Gl X x) (hm : X.mg x = some (.ref g)) (hk : PySem.W.keepIn X.K (.ref g) = true)
    (lk : X.K.lookup g = some ⟨oc, od, .func (PySem.W.fnOf x x pg bg sg dV kV doc pm an cdv ct), osl⟩) (hcg : PySem.W.codeIn X.K cdv x = true) (hb : L2.Binds X.K (PySem.W.fnOf x x pg bg sg dV kV doc pm an cdv ct) [a] []) (Sg : FnScope Ng [a] sg) (hNg : Ng[0]? = some a) (hva : Vis sg a)
    (hG : GivesTo X Ng x sg g cdv bg a (X.env.qual ++ "<lambda>") TT)
    (TB : TabB X.base X.mg c P) (hcode : X.env.code = .ref c) (hr : Room (k + 2) X.A) (L : LamS X.env.scope scope) (hdef : defaultsOf params X.env = ([], []))
    (hbind : ∀ (q : Str) (cl : List (Str × Addr)) (pm cv ctv : Value), bindArgs (PySem.W.kla_fn "<lambda>" q params body scope cl pm cv ctv) ⟨[], []⟩ = pure [])
    (hbody : ∀ (A : Around) (outer : List Env) (s : Shared) (H : Hp) (E : XK) (f c' : Addr), Room k (A.deeper (lamEnv X scope s.heap.objs.size f c')) → PE (lamCx X A outer s H E scope f c') body (t E))
    (hdb : (x == ("__debug__" : Str)) = false := by decide) (hd : (a == ("__debug__" : Str)) = false := by decide) (hcd : (a == ("__classdict__" : Str)) = false := by decide) :
    PE X (.Call (.Name x p) [.Lambda params body scope lpos] [] pos) (tLam3 P (X.env.qual ++ "<lambda>") TT t) := by
  refine ⟨fun pins s σ H Q I ⟨hT, h⟩ => ?_⟩
  refine wpAny_Call_Name_kw (ld_glob I hg hm ?_ hdb)
  refine PySem.W.callWith_K (h₀ := X.base) I.ok.mod.kin hk ?_ (by rfl) (by rfl)
  show wpAny _ _ (spliced ((false, eval (.Lambda params body scope lpos) X.env) :: backTo pos (starEach [] X.env))) _ _ s
  refine Calls.spliced_cons (lam_make3 I TB hcode hT hdef (L.has I.ok) fun f c' pm' ctv H1 s' I1 eN T1 hf hfn hfr hco => Calls.spliced_nil ⟨I1.kIn, ?_⟩)
  have rc : codeAny (model X.prog X.w) X.A (.call (.ref g) ⟨[.ref f], []⟩) (CR C8.CX0 X.stack X.prog X.w H1 s' Q C8.E0) s' := by
    refine run_ofS (N := Ng) (ps := [a]) (us := [.ref f]) (vs := [.ref f]) lk hcg Sg hr I1.env0 (hb s' [.ref f] I1.kIn rfl) (.cons rfl .nil) rfl fun hr' => ?_
    obtain ⟨t', ht', hq'⟩ := hG f c' s' H1 Q (fun E H' Q' => t E σ H' Q') (fun W pn xe E p1 p2 tk hW => pe_act (i := 0) I1 L hf hfn hfr (hbind _ _ _ _ _) tk hW hr' (fun A outer s H hr2 => hbody A outer s H E f c' hr2) hNg hva hd hcd) hco (h c' H1 eN T1)
    exact ⟨t', ht'.nox, hq'⟩
  refine wpAny_call (codeAny_mono rc fun r s2 hq => ?_)
  cases r with
  | error e => exact (show False from hq).elim
  | ok fl =>
    cases fl with
    | ret u => exact I1.after hq
    | next => exact False.elim hq
    | brk => exact False.elim hq
    | cont => exact False.elim hq
end
end EV
set_option maxHeartbeats 2000000
namespace EV
open PySem PySem.Spec PyProof.Rows L2 LamX
/-- the number of an exception's name -/
def errIx (x : Str) : Option Nat := (List.range 10).find? fun j => errsL[j]? == some x
theorem errIx_at {x : Str} {j : Nat} (h : errIx x = some j) : j < 10 ∧ errsL[j]? = some x := by
  unfold errIx at h
  have h1 := List.mem_of_find?_eq_some h
  have h2 := List.find?_some h
  exact ⟨List.mem_range.mp h1, by simpa using h2⟩
/-- what is said of what a lambda does -/
def saidM (w8 : Str) (m : PM D) : PM D := fun s => match m [] with
  | .ok d _ => reprF [d] s
  | .exc e => if e.fs = [] then (match errIx e.name with
      | some j => .ok (.str ("! " ++ (wordsL w8).getD j "")) s
      | none => .bad) else .bad
  | .bad => .bad
/-- the def makes lambdas: its code object, the table -/
def LamAt (X : Cx) : Prop := ∃ c P, X.env.code = .ref c ∧ TabB X.base X.mg c P ∧ NeedT X.K P ∧ tauK X.K P = X.env.qual ++ "<lambda>"
/-- the slots of values -/
def valS : Sl → Sl
  | .val d => .val d
  | _ => .junk
theorem valS_val {Γ : List Sl} {i : Nat} {d : D} (h : (Γ.map valS)[i]? = some (.val d)) : Γ[i]? = some (.val d) := by
  rw [List.getElem?_map] at h
  cases e : Γ[i]? with
  | none => rw [e] at h; cases h
  | some z =>
    rw [e] at h
    cases z <;> cases h
    rfl
theorem valS_not {Γ : List Sl} {i : Nat} {z : Sl} (h : (Γ.map valS)[i]? = some z) (n : ∀ d, z ≠ .val d) : z = .junk := by
  rw [List.getElem?_map] at h
  cases e : Γ[i]? with
  | none => rw [e] at h; cases h
  | some y =>
    rw [e] at h
    cases y <;> cases h <;> first | rfl | exact absurd rfl (n _)
section
variable {K : PySem.W.Frag} {pa : Option Addr} {G0 H0 G H H1 : Hp} {σ : L2.St} {Γ : List Sl} {s : List Int} {P c' : Addr} {q : Str}
/-- the heap behind the making -/
theorem lamH_ext (hs : Same G H) (tk : TabK K H) (nt : NoT G) (hL : LamH P q c' H H1) (hT : TabS H1 P q) (ht : tauK K P = q) : Ext K pa G H G H1 ∧ TabK K H1 := by
  rcases hL with rfl | ⟨ps, more, hP, hc, rfl⟩
  · exact ⟨.refl hs, tk⟩
  · have nPc : P ≠ c' := ne_of_none hP hc
    have at_ : ∀ b, b ≠ P → b ≠ c' → upd (upd H P (.tbl (ps ++ more))) c' (CodeO c' q) b = H b := fun b h1 h2 => by rw [upd_ne h2, upd_ne h1]
    have notP : ∀ b o, H b = some o → (∀ ps, o ≠ .tbl ps) → b ≠ P := fun b o e n z => by
      rw [z, hP] at e
      exact n ps (Option.some.inj e).symm
    have tk' : TabK K (upd (upd H P (.tbl (ps ++ more))) c' (CodeO c' q)) := ⟨fun P' ps' e => by
      by_cases z : P' = P
      · rw [z, ht]
        exact hT
      · by_cases z2 : P' = c'
        · rw [z2, upd_same] at e
          exact absurd (Option.some.inj e) (codeO_ne ps')
        · rw [at_ P' z z2] at e
          obtain ⟨ps2, h1, h2, h3⟩ := tk.ok P' ps' e
          refine ⟨ps2, by rw [at_ P' z z2]; exact h1, h2, fun pos cv hcv => ?_⟩
          obtain ⟨c0, e1, e2⟩ := h3 pos cv hcv
          refine ⟨c0, e1, ?_⟩
          rw [at_ c0 (notP c0 _ e2 fun ps => codeO_ne ps) (ne_of_none e2 hc)]
          exact e2, fun P' n => by
      by_cases z : P' = P
      · rw [z, upd_ne nPc, upd_same]
        exact ⟨_, rfl⟩
      · obtain ⟨ps2, e⟩ := tk.on P' n
        rw [at_ P' z (ne_of_none e hc)]
        exact ⟨ps2, e⟩⟩
    refine ⟨⟨Same.refl G, fun a o e _ n => ?_, fun a o e => ?_, fun _ _ _ n => n, fun b o e => ?_, fun _ => tk', fun h => h⟩, tk'⟩
    · rw [at_ a (notP a o e n) (ne_of_none e hc)]
      exact e
    · by_cases z : a = P
      · rw [z, upd_ne nPc, upd_same]
        exact ⟨_, rfl⟩
      · rw [at_ a z (ne_of_none e hc)]
        exact ⟨o, e⟩
    · have e' := hs b o e
      rw [at_ b (fun z => by
        rw [z] at e e'
        rw [hP] at e'
        cases e'
        exact nt P ps e) (ne_of_none e' hc)]
      exact e'
theorem News.ext {G : Hp} {H H' : Hp} (n : News H H') (hs : Same G H) : Ext K pa G H G H' := ⟨Same.refl G, fun a o e _ _ => n.1 a o e, fun a o e => ⟨o, n.1 a o e⟩, fun _ _ _ h => h, fun b o e => n.1 b o (hs b o e),
  fun h => h.keep n.2 (fun c φ e => n.1 c _ e) fun P ps e => n.1 P _ e, fun h => h⟩
/-- what the lambda sees -/
theorem Nv.lam (E : Nv K pa G0 H0 G H σ Γ s) (hs : Same G H1) (tk : TabK K H1) : Nv K Option.none G H1 G H1 σ (Γ.map valS) [] where
  len := by rw [List.length_map]; exact E.len
  val := fun i d e => E.val i d (valS_val e)
  own := fun i xs e => by cases valS_not e (fun d z => by cases z)
  inj := fun i j p xs ys e => by cases valS_not e (fun d z => by cases z)
  pen := fun i e => by cases valS_not e (fun d z => by cases z)
  scr := fun i ns e => by cases valS_not e (fun d z => by cases z)
  ps := PenOk.none
  ext := .refl hs
  x := NvX.none (fun z m => by
    obtain ⟨i, hi, e⟩ := List.getElem_of_mem m
    have e2 : (Γ.map valS)[i]? = some z := by rw [List.getElem?_eq_getElem hi, e]
    cases z with
    | dic sh xs => cases valS_not e2 (fun d z => by cases z)
    | ro sh xs => cases valS_not e2 (fun d z => by cases z)
    | _ => rfl) tk E.x.nt
end
/-- the def said: its promise to what is handed to it -/
structure SaidC (P : Program) (w : World) (K : PySem.W.Frag) (mg : Str → Option Value) (base : Heap) (k : Nat) (x w8 : Str) : Prop where
  ex : ∃ (g CA : Addr) (pg : Arguments) (bg : List Stmt) (sg : Scope) (kV doc pm cdv ct oc : Value) (an od : Option Addr) (osl : Array (Option Value)) (a : Str) (Ng : List Str),
    mg x = some (.ref g) ∧ PySem.W.keepIn K (.ref g) = true ∧ K.lookup g = some ⟨oc, od, .func (PySem.W.fnOf x x pg bg sg .none kV doc pm an cdv ct), osl⟩ ∧ PySem.W.codeIn K cdv x = true ∧
    L2.Binds K (PySem.W.fnOf x x pg bg sg .none kV doc pm an cdv ct) [a] [] ∧ FnScope Ng [a] sg ∧ Ng[0]? = some a ∧ Vis sg a ∧ (a == ("__debug__" : Str)) = false ∧ (a == ("__classdict__" : Str)) = false ∧
    (∀ j y, errsL[j]? = some y → ∃ D, mg y = some (.ref D) ∧ ErrJ K mg CA D j) ∧
    ∀ X : Cx, X.prog = P → X.w = w → X.K = K → X.mg = mg → X.base = base → Room (k + 1) X.A → X.A.guards = some [] → ∀ q, GivesTo X Ng x sg g cdv bg a q (TSaid w8 K mg CA)
section
variable {X : Cx} {W : WX} {pa : Option Addr} {Γ : List Sl} {k : Nat} {pos : Pos}
theorem ev_said {x w8 : Str} {m : PM D} {params : Arguments} {body : Expr} {scope : Scope} {p lpos : Pos} (C : Cok X W (k + 33)) (S : SaidC X.prog X.w X.K X.mg X.base (k + 31) x w8) (LA : LamAt X) (L : LamS X.env.scope scope) (hg : Gl X x) (hdef : defaultsOf params X.env = ([], []))
    (hbind : ∀ (q : Str) (cl : List (Str × Addr)) (pm cv ctv : Value), bindArgs (PySem.W.kla_fn "<lambda>" q params body scope cl pm cv ctv) ⟨[], []⟩ = pure [])
    (hb : ∀ (A : Around) (outer : List Env) (s : Shared) (H : Hp) (E : XK) (f c' : Addr), Cok (lamCx X A outer s H E scope f c') (fun cls d _ H' => E cls d H') 31 → EV (lamCx X A outer s H E scope f c') (fun cls d _ H' => E cls d H') none (Γ.map valS) body m)
    (hdb : (x == ("__debug__" : Str)) = false := by decide) : EV X W pa Γ (.Call (.Name x p) [.Lambda params body scope lpos] [] pos) (saidM w8 m) := by
  obtain ⟨g, CA, pg, bg, sg, kV, doc, pm, cdv, ct, oc, an, od, osl, a, Ng, s1, s2, s3, s4, s5, s6, s7, s8, s9, s10, s11, s12⟩ := S.ex
  obtain ⟨c, P, l1, l2, l3, l4⟩ := LA
  refine pe_imp (pe_lam3 (k := k + 31) (t := fun E => evT X (fun cls d _ H' => E cls d H') none (Γ.map valS) m) hg s1 s2 s3 s4 s5 s6 s7 s8 (s12 X rfl rfl rfl rfl rfl (C.room.mono (by omega)) (C.guards (by omega)) _) l2 l1 C.room L hdef hbind
    (fun A outer s H E f c' hr => hb A outer s H E f c' ⟨rfl, C.nd, takes_of rfl rfl rfl rfl, hr.mono (by omega), fun z => absurd z (by decide), passes_of rfl⟩) hdb s9 s10) fun σ H Q ⟨G0, H0, G, s, E, R⟩ => ?_
  have tk := E.tk
  obtain ⟨ps, hP⟩ := tk.on P l3
  have hTS : TabS H P (X.env.qual ++ "<lambda>") := by
    rw [← l4]
    exact tk.ok P ps hP
  refine ⟨hTS, fun c' H1 hL hT1 => ?_⟩
  obtain ⟨x1, tk1⟩ := lamH_ext (pa := pa) E.sub tk E.x.nt hL hT1 l4
  have p1 : PenOk pa G H1 s := fun q e => by
    obtain ⟨a1, a2⟩ := E.ps q e
    refine ⟨a1, ?_⟩
    rcases hL with rfl | ⟨ps2, more, hP2, hc, rfl⟩
    · exact a2
    · rw [upd_ne (ne_of_none a2 hc), upd_ne (fun z => by rw [z, hP2] at a2; cases a2)]
      exact a2
  refine ⟨G, H1, G, [], E.lam x1.sub tk1, ?_⟩
  have R : Pst X.K W X.mg pa σ (FD X.K Q) G H (saidM w8 m s) := R
  unfold saidM at R
  cases e : m [] with
  | bad => rw [e] at R; exact R.elim
  | ok d s' =>
    rw [e] at R
    intro G2 H2 y _ v rv
    have yx : Ext X.K pa G H1 G2 H2 := y.any
    have R2 := R.mono (x1.trans yx)
    have R2 : Pst X.K W X.mg pa σ (FD X.K Q) G2 H2 (reprF [d] s) := R2
    have R2 : Pst X.K W X.mg pa σ (FD X.K Q) G2 H2 ((if okD d = true ∧ (toPy d).depth ≤ 60 ∧ (shown d).length ≤ lim then pure (.str (shown d)) else bad : PM D) s) := R2
    split at R2
    · rename_i hh
      have z := okD_py d hh.1
      exact ⟨v, toPy d, rfl, (rv.mono yx.sub).dp z.2, z.1, z.2, hh.2.1, lim_le hh.2.2, R2 G2 H2 (Ext.refl yx.sub) (p1.ext y) _ (.str _)⟩
    · exact R2.elim
  | exc ex =>
    rw [e] at R
    intro cls dx G2 H2 y ei
    have R : Pst X.K W X.mg pa σ (FD X.K Q) G H (if ex.fs = [] then (match errIx ex.name with
      | some j => EV.R.ok (D.str ("! " ++ (wordsL w8).getD j "")) s
      | none => EV.R.bad) else EV.R.bad) := R
    by_cases hf : ex.fs = []
    · rw [if_pos hf] at R
      cases hj : errIx ex.name with
      | none => rw [hj] at R; exact R.elim
      | some j =>
        rw [hj] at R
        obtain ⟨hj1, hj2⟩ := errIx_at hj
        obtain ⟨Dc, d1, d2⟩ := s11 j ex.name hj2
        obtain ⟨e1, e2, _⟩ := ei
        rw [d1] at e1
        cases e1
        refine ⟨Dc, j, hj1, rfl, e2 hf, d2, fun H3 nw => ?_⟩
        have yx : Ext X.K pa G H1 G2 H2 := y.any
        have z : Ext X.K pa G H G2 H3 := (x1.trans yx).trans (nw.ext y.sub)
        exact R G2 H3 z ((p1.ext y).ext (nw.ext (K := X.K) y.sub)) _ (.str _)
    · rw [if_neg hf] at R
      exact R.elim
end
end EV
set_option maxHeartbeats 2000000
namespace EV
open PySem PySem.Spec PyProof.Rows L2
/-- a slot that holds the instance x, being made -/
def insS (x C dx : Addr) (ks : List Str) (xs : List D) : Sl := .dic (.ins x C dx ks) xs
theorem zip_putF {f : Str} {v : V} : ∀ {ks : List Str} {vs : List V}, f ∉ ks → vs.length = ks.length → putF f v (ks.zip vs) = (ks ++ [f]).zip (vs ++ [v])
  | [], [], _, _ => rfl
  | [], _ :: _, _, h => by simp at h
  | _ :: _, [], _, h => by simp at h
  | k :: ks, w :: vs, n, h => by
    have e : (k = f) = False := eq_false fun z => n (by rw [z]; exact List.mem_cons_self)
    show putF f v ((k, w) :: ks.zip vs) = _
    unfold putF
    rw [if_neg (by rw [e]; exact not_false), zip_putF (fun m => n (List.mem_cons_of_mem _ m)) (by simpa using h)]
    rfl
theorem zip_lookup {f : Str} : ∀ {ks : List Str} {vs : List V} {j : Nat} {v : V}, ks[j]? = some f → (∀ i, i < j → ks[i]? ≠ some f) → vs[j]? = some v → (ks.zip vs).lookup f = some v := by
  intro ks
  induction ks with
  | nil =>
    intro vs j v h _ _
    cases h
  | cons k ks ih =>
    intro vs j v h n e
    cases vs with
    | nil => cases e
    | cons w vs =>
      cases j with
      | zero =>
        obtain rfl : k = f := Option.some.inj h
        obtain rfl : w = v := Option.some.inj e
        show (match k == k with | true => some w | false => _) = some w
        rw [beq_self_eq_true]
      | succ j =>
        have nk : (f == k) = false := beq_eq_false_iff_ne.mpr fun z => n 0 (Nat.succ_pos _) (by rw [z]; rfl)
        show (match f == k with | true => some w | false => (ks.zip vs).lookup f) = some v
        rw [nk]
        exact ih h (fun i hi => n (i + 1) (Nat.succ_lt_succ hi)) e
theorem upd_comm {H : Hp} {a b : Addr} {u v : HO} (h : a ≠ b) : upd (upd H a u) b v = upd (upd H b v) a u := funext fun c => by
  by_cases ha : c = a
  · subst ha
    rw [upd_ne h, upd_same, upd_same]
  · by_cases hb : c = b
    · subst hb
      rw [upd_same, upd_ne ha, upd_same]
    · rw [upd_ne hb, upd_ne ha, upd_ne ha, upd_ne hb]
section
variable {X : Cx} {W : WX} {pa : Option Addr} {Γ : List Sl} {k : Nat} {pos : Pos} {α : Type} {out : α → Out} {rest : List Stmt}
/-- self.f = e, a new attribute -/
theorem sv_fldNew (i : Nat) {x f : Str} {e : Expr} {o Cl dx : Addr} {ks : List Str} {xs : List D} {me : PM D} {kk : D → PM α} {p1 p2 : Pos} (hc : Cls X.K Cl) (hn : NoAttr X.K Cl f) (hΓ : Γ[i]? = some (insS o Cl dx ks xs)) (hf : f ∉ ks) (hl : ks.length < 900) (he : EV X W pa Γ e me)
    (hr : ∀ d, SV X W pa (Γ.set i (insS o Cl dx (ks ++ [f]) (xs ++ [d]))) out rest (kk d))
    (hN : X.N[i]? = some x := by rfl) (hv : Vis X.env.scope x := by first | exact Or.inl rfl | exact Or.inr (Or.inl rfl) | exact Or.inr (Or.inr rfl)) (hd : (x == ("__debug__" : Str)) = false := by decide) (hcd : (x == ("__classdict__" : Str)) = false := by decide)
    (hs : swapsWith e (some (.Attribute (.Name x p1) f p2)) pos.line X.env = pure false := by rfl) :
    SV X W pa Γ out (.Assign [.Attribute (.Name x p1) f p2] e pos :: rest) (me >>= fun d => kk d) := by
  unfold SV
  rw [bind_assoc]
  have hrest : PSs X rest (fun Dn σ H => ∃ d : D, svT X W pa (Γ.set i (insS o Cl dx (ks ++ [f]) (xs ++ [d]))) (kk d >>= fun a => pure (out a)) Dn σ H) := pss_ex (ι := D) fun d => hr d
  refine pss_imp (pss_cons (ps_fld (pe_var hN hv hd hcd) he hs) hrest) fun Dn σ H ⟨G0, H0, G, s, E, P⟩ => ⟨G0, H0, G, s, E, (P.bind E).imp fun G1 H1 d s1 x1 p1 P1 v r => ?_⟩
  have E1 := E.step x1 p1
  obtain ⟨p, vs, q1, q2, q3, q4, q5, q6⟩ := E1.x.dic i _ _ hΓ
  have lk : vs.length = ks.length := by rw [q4.1]; exact q5.symm
  refine ⟨.ref p, q1, p, Cl, dx, ks.zip vs, rfl, q2, hc, hn, by rw [List.length_zip]; omega, d, G0, H0, G1, s1, ?_, P1⟩
  rw [zip_putF hf lk]
  exact E1.mutDic (sh' := .ins o Cl dx (ks ++ [f])) (ys := xs ++ [d]) hΓ q1 (q4.app (.cons r .nil)) (by
    show (ks ++ [f]).length = _
    have q5 : ks.length = xs.length := q5
    simp [q5]) (fun z => z)
/-- self.f, an attribute that is there -/
theorem ev_fldOwn (i j : Nat) {x f : Str} {o Cl dx : Addr} {ks : List Str} {xs : List D} {d : D} {p1 : Pos} (hc : Cls X.K Cl) (hn : NoAttr X.K Cl f) (hΓ : Γ[i]? = some (insS o Cl dx ks xs)) (hj : ks[j]? = some f) (hb : ∀ i, i < j → ks[i]? ≠ some f) (hx : xs[j]? = some d)
    (hN : X.N[i]? = some x := by rfl) (hv : Vis X.env.scope x := by first | exact Or.inl rfl | exact Or.inr (Or.inl rfl) | exact Or.inr (Or.inr rfl)) (hd : (x == ("__debug__" : Str)) = false := by decide) (hcd : (x == ("__classdict__" : Str)) = false := by decide)
    (ha : attributeBase (.Name x p1) f X.env (eval (.Name x p1) X.env) = eval (.Name x p1) X.env := by rfl) : EV X W pa Γ (.Attribute (.Name x p1) f pos) (pure d) :=
  pe_imp (pe_fld (pe_var hN hv hd hcd) ha) fun σ H Q ⟨G0, H0, G, s, E, P⟩ => by
    obtain ⟨p, vs, q1, q2, q3, q4, q5, q6⟩ := E.x.dic i _ _ hΓ
    obtain ⟨v, v1, v2⟩ := q4.get hx
    exact ⟨.ref p, q1, p, Cl, dx, ks.zip vs, v, rfl, q2, hc, hn, zip_lookup hj hb v1, P.now E.sub E.ps v v2⟩
/-- e.f of an instance that stands -/
def fldD (Cl : Addr) (f : Str) : D → PM D
  | .obj C fs => if C = Cl then (match fs.lookup f with
    | some d => pure d
    | none => bad) else bad
  | _ => bad
theorem fvs_lookup {K : PySem.W.Frag} {G : Hp} {f : Str} : ∀ {fvs : List (Str × V)} {fs : List (Str × D)} {d : D}, fvs.map (·.1) = fs.map (·.1) → (∀ (i : Nat) (v : Str × V) (d : Str × D), fvs[i]? = some v → fs[i]? = some d → Rp K G v.2 d.2) → fs.lookup f = some d → ∃ v, fvs.lookup f = some v ∧ Rp K G v d := by
  intro fvs
  induction fvs with
  | nil =>
    intro fs d h _ q
    cases fs with
    | nil => cases q
    | cons _ _ => cases h
  | cons p fvs ih =>
    intro fs d h r q
    cases fs with
    | nil => cases h
    | cons p2 fs =>
      obtain ⟨a, v⟩ := p
      obtain ⟨b, e⟩ := p2
      have h1 : a = b ∧ fvs.map (·.1) = fs.map (·.1) := List.cons.inj h
      obtain ⟨rfl, h2⟩ := h1
      have q : (match f == a with | true => some e | false => fs.lookup f) = some d := q
      show ∃ w, (match f == a with | true => some v | false => fvs.lookup f) = some w ∧ _
      cases z : (f == a) with
      | true =>
        rw [z] at q
        cases q
        exact ⟨v, rfl, r 0 _ _ rfl rfl⟩
      | false =>
        rw [z] at q
        exact ih h2 (fun i v d e1 e2 => r (i + 1) v d e1 e2) q
theorem ev_fldO {e : Expr} {f : Str} {Cl : Addr} {m : PM D} (hn : NoAttr X.K Cl f) (he : EV X W pa Γ e m) (ha : attributeBase e f X.env (eval e X.env) = eval e X.env := by rfl) : EV X W pa Γ (.Attribute e f pos) (m >>= fldD Cl f) :=
  pe_imp (pe_fld he ha) fun σ H Q ⟨G0, H0, G, s, E, P⟩ => ⟨G0, H0, G, s, E, P.bind.imp fun G1 H1 d s1 x1 p1 P1 v r => by
    cases r with
    | @obj a C dx fvs fs h hc hk rr =>
      have P1 : Pst X.K W X.mg pa σ (FD X.K Q) G1 H1 ((if C = Cl then (match fs.lookup f with | some d => pure d | none => bad) else bad : PM D) s1) := P1
      by_cases z : C = Cl
      · subst z
        rw [if_pos rfl] at P1
        cases q : fs.lookup f with
        | none => rw [q] at P1; exact P1.elim
        | some d =>
          rw [q] at P1
          obtain ⟨w, w1, w2⟩ := fvs_lookup hk rr q
          exact ⟨a, C, dx, fvs, w, rfl, x1.sub _ _ h, hc.cl, hn, w1, P1.now x1.sub p1 w w2⟩
      · rw [if_neg z] at P1
        exact P1.elim
    | _ => exact P1.elim⟩
/-- isinstance(e, C), C an own class; tab: the classes of the instances that may come, and whether they are below it -/
def isC (tab : List (Addr × Bool)) : D → PM D
  | .obj C _ => match tab.lookup C with
    | some b => pure (.bl b)
    | none => bad
  | .cls _ => bad
  | _ => pure (.bl false)
structure IsCl (K : PySem.W.Frag) (mg : Str → Option Value) (x : Str) (tab : List (Addr × Bool)) : Prop where
  ex : ∃ C : Addr, mg x = some (.ref C) ∧ (∀ D b, tab.lookup D = some b → PySem.W.kitOne K (.ref D) (.ref C) = some b) ∧ ∀ T ∈ ["NoneType", "bool", "int", "str", "tuple", "list", "dict"], PySem.W.kitOne K (.type T) (.ref C) = some false
  cv : ∀ C : Addr, mg x = some (.ref C) → ClsV (.ref C) (.ref C)
theorem ev_isC {e : Expr} {x : Str} {tab : List (Addr × Bool)} {m : PM D} {p p2 : Pos} (h : EV X W pa Γ e m) (I : IsCl X.K X.mg x tab) (hg : Gl X "isinstance") (hm : X.mg "isinstance" = none) (hg2 : Gl X x) (hdb : (x == ("__debug__" : Str)) = false := by decide)
    (hs : starEach [e, .Name x p2] X.env = (false, eval e X.env) :: starEach [.Name x p2] X.env := by rfl) (hs2 : starEach [.Name x p2] X.env = (false, eval (.Name x p2) X.env) :: starEach [] X.env := by rfl)
    (hpl : (backTo pos (starEach [.Name x p2] X.env)).any (·.1) = false := by rfl) :
    EV X W pa Γ (.Call (.Name "isinstance" p) [e, .Name x p2] [] pos) (m >>= isC tab) := by
  obtain ⟨C, c1, c2, c3⟩ := I.ex
  have hb : PE X (.Name x p2) (tC (.ref C)) := pe_glob hg2 c1 rfl hdb
  refine pe_imp (pe_callB call_isi hg hm (by decide +kernel) (pa_cons h (pa_cons hb pa_nil hs2) hs) (by decide) (by decide) hs hpl) fun σ H Q ⟨G0, H0, G, s, E, P⟩ =>
    ⟨G0, H0, G, s, E, P.bind.imp fun G1 H1 d s1 x1 p1 P1 v r => ?_⟩
  by_cases ho : ∃ c fs, d = .obj c fs
  · obtain ⟨c, fs, rfl⟩ := ho
    cases r with
    | @obj a D dx fvs fs h hc hk rr =>
      have P1 : Pst X.K W X.mg pa σ (FD X.K Q) G1 H1 ((match tab.lookup c with | some b => pure (.bl b) | none => bad : PM D) s1) := P1
      cases q : tab.lookup c with
      | none => rw [q] at P1; exact P1.elim
      | some b =>
        rw [q] at P1
        exact ⟨.ref a, .ref C, _, _, b, rfl, I.cv C c1, .base (.ins (x1.sub _ _ h) hc.cl hc.ha hc.hn hc.htk hc.hm), c2 c b q, P1.now x1.sub p1 _ (.bl _)⟩
  · by_cases hq : ∃ c, d = .cls c
    · obtain ⟨c, rfl⟩ := hq
      exact P1.elim
    have e : isC tab d = pure (.bl false) := by
      cases d <;> first | rfl | exact absurd ⟨_, _, rfl⟩ ho | exact absurd ⟨_, rfl⟩ hq
    rw [e] at P1
    exact ⟨v, .ref C, _, _, false, rfl, I.cv C c1, r.ty x1.sub (fun c fs z => ho ⟨c, fs, z⟩) (fun c z => hq ⟨c, z⟩), c3 _ (by cases d <;> first | (simp [tyName]; done) | exact absurd ⟨_, _, rfl⟩ ho | exact absurd ⟨_, rfl⟩ hq), P1.now x1.sub p1 _ (.bl _)⟩
end
/-- what an __init__ makes of its arguments: the values of the attributes ks -/
def spI (K : PySem.W.Frag) (mg : Str → Option Value) (Cl : Addr) (ks : List Str) (n : Nat) (F : List D → PM (List D)) : Sp := fun vs H Q E => ∃ (x dx : Addr) (G H1 : Hp) (vs' : List V) (ds : List D),
  vs = .ref x :: vs' ∧ H x = some (.ins Cl dx []) ∧ H1 x = none ∧ G x = none ∧ Ext K none G H1 G H ∧ TabK K H1 ∧ NoT G ∧ RpL K G vs' ds ∧ ds.length = n ∧
    Pst K (fun cls d _ H' => E cls d H') mg none [] (fun G' H' fs _ => ∀ us, H' x = some (.ins Cl dx (ks.zip us)) → G' x = none → RpL K G' us fs → us.length = ks.length → Q .non H') G H1 (F ds [])
def slotsI (N : List Str) (x Cl dx : Addr) (ds : List D) : List Sl := (insS x Cl dx [] [] :: ds.map .val) ++ List.replicate (N.length - (ds.length + 1)) .junk
section
variable {K : PySem.W.Frag} {mg : Str → Option Value} {G H H1 : Hp} {s : List Int} {N : List Str} {vs : List V} {ds : List D} {x Cl dx : Addr}
theorem nv_startI (hx : H x = some (.ins Cl dx [])) (h1 : H1 x = none) (hg : G x = none) (E : Ext K none G H1 G H) (tk : TabK K H1) (nt : NoT G) (r : RpL K G vs ds) (hn : vs.length + 1 ≤ N.length) : Nv K none G H1 G H (start N (.ref x :: vs)) (slotsI N x Cl dx ds) s where
  len := by
    rw [start_len (by simpa using hn)]
    unfold slotsI
    have := r.1
    simp
    omega
  val := fun i d e => by
    have e := get_vals e (fun z => by cases z)
    cases i with
    | zero => cases e
    | succ i =>
      rw [List.getElem?_cons_succ, List.getElem?_map] at e
      cases q : ds[i]? with
      | none => rw [q] at e; cases e
      | some d' =>
        rw [q] at e
        cases e
        obtain ⟨v, h1, h2⟩ := r.get q
        exact ⟨v, start_get (by simpa using h1), h2⟩
  own := fun i xs e => by
    have e := get_vals e (fun z => by cases z)
    cases i with
    | zero => cases e
    | succ i =>
      rw [List.getElem?_cons_succ, List.getElem?_map] at e
      cases q : ds[i]? <;> rw [q] at e <;> cases e
  inj := fun i j p xs ys e => by
    have e := get_vals e (fun z => by cases z)
    cases i with
    | zero => cases e
    | succ i =>
      rw [List.getElem?_cons_succ, List.getElem?_map] at e
      cases q : ds[i]? <;> rw [q] at e <;> cases e
  pen := fun i e => by
    have e := get_vals e (fun z => by cases z)
    cases i with
    | zero => cases e
    | succ i =>
      rw [List.getElem?_cons_succ, List.getElem?_map] at e
      cases q : ds[i]? <;> rw [q] at e <;> cases e
  scr := fun i ns e => by
    have e := get_vals e (fun z => by cases z)
    cases i with
    | zero => cases e
    | succ i =>
      rw [List.getElem?_cons_succ, List.getElem?_map] at e
      cases q : ds[i]? <;> rw [q] at e <;> cases e
  ps := PenOk.none
  ext := E
  x := by
    have only : ∀ {i : Nat} {z : Sl}, (slotsI N x Cl dx ds)[i]? = some z → plainS z = false → i = 0 := fun {i z} e hz => by
      have e := get_vals e (fun y => by rw [y] at hz; cases hz)
      cases i with
      | zero => rfl
      | succ i =>
        rw [List.getElem?_cons_succ, List.getElem?_map] at e
        cases q : ds[i]? with
        | none => rw [q] at e; cases e
        | some d =>
          rw [q] at e
          cases e
          cases hz
    have at0 : ∀ {z : Sl}, (slotsI N x Cl dx ds)[0]? = some z → z = insS x Cl dx [] [] := fun {z} e => (Option.some.inj (show some (insS x Cl dx [] []) = some z from e)).symm
    refine ⟨fun i sh xs e => ?_, fun i j p sh xs sh' ys e1 e2 => ?_, fun i sh xs e => ?_, tk, nt⟩
    · have i0 := only e rfl
      subst i0
      cases at0 e
      exact ⟨x, [], start_get rfl, hx, hg, .nil, rfl, h1, rfl⟩
    · rw [only e1 rfl, only e2 rfl]
      exact fun _ _ => rfl
    · have i0 := only e rfl
      subst i0
      cases at0 e
end
section
variable {P : Program} {w : World} {K : PySem.W.Frag} {mg : Str → Option Value} {base : Heap} {Cl : Addr} {f : Addr} {N ps : List Str} {k n : Nat} {name qual : Str} {params : Arguments} {body : List Stmt} {scope : Scope} {ks : List Str}
/-- the body of an __init__ -/
structure InitB (P : Program) (w : World) (K : PySem.W.Frag) (mg : Str → Option Value) (base : Heap) (Cl : Addr) (f : Addr) (N : List Str) (k n : Nat) (qual : Str) (body : List Stmt) (scope : Scope) (ks : List Str) (F : List D → PM (List D)) : Prop where
  bd : ∀ (cdv : Value) (A : Around) (outer : List PySem.Env) (s : Shared) (H : Hp) (E : XK), Cok (cxOf (L2.CX P w) P w K mg base N qual scope f cdv A outer s H E) (fun cls d _ H => E cls d H) k → ∀ (x dx : Addr) (ds : List D), ds.length = n →
    ∃ Γ' : List D → List Sl, (∀ fs, (Γ' fs)[0]? = some (insS x Cl dx ks fs)) ∧ SV (cxOf (L2.CX P w) P w K mg base N qual scope f cdv A outer s H E) (fun cls d _ H => E cls d H) none (slotsI N x Cl dx ds) (fun fs => Out.fall (Γ' fs)) body (F ds)
theorem InitB.run {F : List D → PM (List D)} (B : InitB P w K mg base Cl f N k n qual body scope ks F) (nd : N.Nodup) (hk : k < 32) (hN : n + 1 ≤ N.length) (cdv : Value) (A : Around) (outer : List PySem.Env) (s : Shared) (H : Hp) (vs : List V) (Q : VK) (E : XK)
    (hr : Room k (A.deeper (envOfC qual scope s.heap.objs.size f cdv))) (h : spI K mg Cl ks n F vs H Q E) :
    ∃ t, PSs (cxOf (L2.CX P w) P w K mg base N qual scope f cdv A outer s H E) body t ∧ t { nx := fun _ H' => Q .non H', rt := Q } (start N vs) H := by
  obtain ⟨x, dx, G, H1, vs', ds, rfl, hx, h1, hg, ext, tk, nt, r, hn, hP⟩ := h
  obtain ⟨Γ', g0, sv⟩ := B.bd cdv A outer s H E (cok_fn nd (fun z => absurd hk (by omega)) hr) x dx ds hn
  refine ⟨_, sv, G, H1, G, [], nv_startI hx h1 hg ext tk nt r (by rw [r.1, hn]; exact hN), ?_⟩
  rw [PM.bind_def]
  cases e : F ds [] with
  | bad => rw [e] at hP; exact hP.elim
  | exc z =>
    rw [e] at hP
    exact fun cls d _ G' H' y q => hP cls d G' H' y q
  | ok fs s' =>
    rw [e] at hP
    show ∀ σ' G' H', Nv K none G H1 G' H' σ' (Γ' fs) s' → Q .non H'
    intro σ' G' H' N'
    obtain ⟨p, us, q1, q2, q3, q4, q5, q6, q7⟩ := N'.x.dic 0 _ _ (g0 fs)
    have q7 : p = x := q7
    subst q7
    exact hP G' H' N'.ext PenOk.none us q2 q3 q4 (by rw [q4.1]; exact q5.symm)
/-- the instance is made, and public -/
theorem made_pub {W : WX} {pa : Option Addr} {σ : L2.St} {G1 H1 G2 H2 : Hp} {s : List Int} {Q : VK} {x dx : Addr} {us : List V} {fs : List D} (oc : ObjC K Cl) (nx : H1 x = none) (hp1 : PenOk pa G1 H1 s) (y : Ext K pa G1 H1 G2 H2) (p2 : PenOk pa G2 H2 s) (hx : H2 x = some (.ins Cl dx (ks.zip us))) (gx : G2 x = none)
    (r : RpL K G2 us fs) (hl : us.length = ks.length) (P : Pst K W mg pa σ (FD K Q) G1 H1 ((pure (.obj Cl (ks.zip fs)) : PM D) s)) : Q (.ref x) H2 := by
  have sg : Same G2 (upd G2 x (.ins Cl dx (ks.zip us))) := fun a o e => by
    rw [upd_ne (ne_of_none e gx)]
    exact e
  have y' : Ext K pa G1 H1 (upd G2 x (.ins Cl dx (ks.zip us))) H2 := by
    refine ⟨y.g.trans sg, y.hh, y.t, fun a o e n => ?_, fun a o e => ?_, y.tk, fun h => (y.gt h).upd (fun _ z => by cases z)⟩
    · rw [upd_ne (ne_of_none e nx)]
      exact y.n a o e n
    · by_cases h : a = x
      · subst h
        rw [upd_same] at e
        rw [← e]
        exact hx
      · rw [upd_ne h] at e
        exact y.sub a o e
  refine P _ _ y' (fun q e => ?_) _ (.obj upd_same oc ?_ fun i v d e1 e2 => ?_)
  · obtain ⟨q1, q2⟩ := p2 q e
    refine ⟨?_, q2⟩
    rw [upd_ne (ne_of_none (hp1 q e).2 nx)]
    exact q1
  · have l2 := r.1
    rw [List.map_fst_zip (by omega), List.map_fst_zip (by omega)]
  · have hz : ∀ {α : Type} {zs : List α} {i : Nat} {v : Str × α}, (ks.zip zs)[i]? = some v → zs[i]? = some v.2 := fun {α zs i v} e => by
      rw [List.getElem?_zip_eq_some] at e
      exact e.2
    exact (r.2 i v.2 d.2 (hz e1) (hz e2)).mono sg
end
section
variable {X : Cx} {W : WX} {pa : Option Addr} {Γ : List Sl} {k j : Nat} {pos : Pos}
/-- what an own class makes -/
def newO (Cl : Addr) (ks : List Str) (F : List D → PM (List D)) (ds : List D) : PM D := run0 (F ds) >>= fun fs => pure (.obj Cl (ks.zip fs))
theorem made_ext {K : PySem.W.Frag} {G H : Hp} {x dx : Addr} {u : HO} (hs : Same G H) (nx : H x = none) (nd : H dx = none) (ne : dx ≠ x) (hu : ∀ ps, u ≠ .tbl ps) : Ext K pa G H G (upd (upd H dx (.own x)) x u) :=
  (Ext.newH hs nd (.own x)).trans (Ext.newH (fun a o e => by rw [upd_ne (ne_of_none (hs a o e) nd)]; exact hs a o e) (by rw [upd_ne ne.symm]; exact nx) u hu)
/-- the promise of an __init__, at the call -/
theorem spI_at {K : PySem.W.Frag} {mg : Str → Option Value} {Cl : Addr} {ks : List Str} {n : Nat} {F : List D → PM (List D)} {σ : L2.St} {G1 H1 H2 : Hp} {s : List Int} {Q : VK} {x dx : Addr} {vs : List V} {ds : List D} (oc : ObjC K Cl) (hs : Same G1 H1) (nx : H1 x = none) (tk : TabK K H1) (nt : NoT G1) (hp : PenOk pa G1 H1 s)
    (hx : H2 x = some (.ins Cl dx [])) (e2 : Ext K none G1 H1 G1 H2) (r : RpL K G1 vs ds) (hn : ds.length = n) (P : Pst K W mg pa σ (FD K Q) G1 H1 (newO Cl ks F ds s)) :
    spI K mg Cl ks n F (.ref x :: vs) H2 (fun v H3 => v = .non ∧ Q (.ref x) H3) fun cls d H' => W cls d σ H' := by
  refine ⟨x, dx, G1, H1, vs, ds, rfl, hx, nx, hs.free nx, e2, tk, nt, r, hn, ?_⟩
  unfold newO at P
  rw [PM.bind_def] at P
  unfold run0 at P
  cases e : F ds [] with
  | bad => rw [e] at P; exact P.elim
  | exc z =>
    rw [e] at P
    exact fun cls d G' H' y q => P cls d G' H' y.any q
  | ok fs s' =>
    rw [e] at P
    exact fun G' H' y _ us hx' gx' r' hl => ⟨rfl, made_pub oc nx hp y.any (hp.ext y) hx' gx' r' hl P⟩
/-- an own class called with values -/
theorem runMk {pins : List (Addr × Obj)} {σ : L2.St} {H : Hp} {s : Shared} {Q : VK} {us : List Value} {vs : List V} {Cl f : Addr} {sp : Sp} (C : Cok X W (j + 1)) (M : Mk X.K Cl f) (F : FnR X.prog X.w X.K X.mg X.base (L2.CX X.prog X.w) j f sp) (I : Inv X pins σ H s) (r : Vals vs us)
    (h : ∀ x dx, H x = none → H dx = none → dx ≠ x → sp (V.ref x :: vs) (upd (upd H dx (.own x)) x (.ins Cl dx [])) (fun v H2 => v = .non ∧ Q (.ref x) H2) fun cls d H' => W cls d σ H') : wpAny (model X.prog X.w) X.A (PySem.call (.ref Cl) us) (EP X pins σ Q) X.xe s := by
  have J := Inv.made (C := Cl) I
  have hq := h _ _ (I.hok.fresh (Nat.le_succ s.heap.objs.size)) (I.hok.fresh (Nat.le_refl _)) (Nat.ne_of_lt (Nat.lt_succ_self _))
  have rr : Vals (V.ref (s.heap.objs.size + 1) :: vs) (Value.ref (s.heap.objs.size + 1) :: us) := .cons rfl r
  have key := F _ X.stack _ _ _ _ _ _ (C.room.make Cl us []) (J.env0.make Cl us []) rr hq
  refine wpAny_call (make_map (f := f) I.kIn M.makes M.init (beq_iff_eq.mp M.fn) (codeAny_mono key fun res s' z => ?_))
  match res, z with
  | .error e, z => exact C.takes e s' (XE.of_call J (fun _ _ _ q => q) z)
  | .ok (.ret u), z =>
    obtain ⟨v, H3, I3, rv, ev, q3⟩ := J.after z
    subst ev
    exact ⟨rv, V.ref (s.heap.objs.size + 1), H3, I3, rfl, q3⟩
theorem pe_mk {x : Str} {Cl f : Addr} {sp : Sp} {e : Expr} {es : List Expr} {t : TA} {p : Pos} (C : Cok X W (j + 1)) (M : Mk X.K Cl f) (F : FnR X.prog X.w X.K X.mg X.base (L2.CX X.prog X.w) j f sp) (hg : Gl X x) (hm : X.mg x = some (.ref Cl)) (ha : PA X (e :: es) t)
    (hdb : (x == ("__debug__" : Str)) = false := by decide) (he : starEach (e :: es) X.env = (false, eval e X.env) :: starEach es X.env := by rfl) (hpl : (backTo pos (starEach es X.env)).any (·.1) = false := by rfl) :
    PE X (.Call (.Name x p) (e :: es) [] pos) (fun σ H Q => t σ H fun vs H1 => ∀ x dx, H1 x = none → H1 dx = none → dx ≠ x → sp (V.ref x :: vs) (upd (upd H1 dx (.own x)) x (.ins Cl dx [])) (fun v H2 => v = .non ∧ Q (.ref x) H2) fun cls d H' => W cls d σ H') :=
  ⟨fun pins s σ H Q I h => wpAny_Call_Name_kw (ld_glob I hg hm (PySem.W.callWith_K (h₀ := X.base) I.ok.mod.kin M.kp (thn (ha.run pos pins s σ H _ I h) fun us s1 ⟨vs, H1, I1, r, q⟩ => ⟨I1.kIn, runMk C M F I1 r q⟩) he hpl) hdb)⟩
/-- C(e, ..), the __init__ takes *needs -/
def spStar (sp : Sp) : Sp := fun vs H Q E => ∃ ws rest, vs = ws ++ rest ∧ ws.length = 1 ∧ rest.length ≤ sizeLine ∧ ∀ p, H p = Option.none → sp (ws ++ [V.ref p]) (upd H p (.tup rest)) Q E
theorem ev_makeS {x : Str} {Cl f : Addr} {ks : List Str} {F : List D → PM (List D)} {e : Expr} {es : List Expr} {ml : PM (List D)} {p : Pos} (C : Cok X W (j + 1)) (M : Mk X.K Cl f) (oc : ObjC X.K Cl) (FR : FnR X.prog X.w X.K X.mg X.base (L2.CX X.prog X.w) j f (spStar (spI X.K X.mg Cl ks 1 F)))
    (hg : Gl X x) (hm : X.mg x = some (.ref Cl)) (ha : EL X W pa Γ (e :: es) ml) (hdb : (x == ("__debug__" : Str)) = false := by decide) (he : starEach (e :: es) X.env = (false, eval e X.env) :: starEach es X.env := by rfl) (hpl : (backTo pos (starEach es X.env)).any (·.1) = false := by rfl) :
    EV X W pa Γ (.Call (.Name x p) (e :: es) [] pos) (ml >>= fun ds => mkT ds >>= fun t => newO Cl ks F [t]) :=
  pe_imp (pe_mk C M FR hg hm ha hdb he hpl) fun σ H Q ⟨G0, H0, G, s, E, R⟩ => ⟨G0, H0, G, s, E, R.bind.imp fun G1 H1 ds s1 x1 p1 P1 vs r x dx nx nd ne => by
    by_cases hl : ds.length ≤ lim
    · rw [mkT_ok hl, pure_bind] at P1
      refine ⟨[V.ref x], vs, rfl, rfl, by rw [r.1]; exact lim_le hl, fun q nq => ?_⟩
      have qx : q ≠ x := fun z => by rw [z, upd_same] at nq; cases nq
      have qd : q ≠ dx := fun z => by rw [z, upd_ne ne, upd_same] at nq; cases nq
      have nq1 : H1 q = none := by rw [upd_ne qx, upd_ne qd] at nq; exact nq
      have y1 := Ext.new (K := X.K) (pa := pa) x1.sub nq1 (.tup vs)
      have hs2 : Same (upd G1 q (.tup vs)) (upd H1 q (.tup vs)) := y1.sub
      have y2 : Ext X.K none (upd G1 q (.tup vs)) (upd H1 q (.tup vs)) (upd G1 q (.tup vs)) (upd (upd (upd H1 q (.tup vs)) dx (.own x)) x (.ins Cl dx [])) :=
        made_ext hs2 (by rw [upd_ne (Ne.symm qx)]; exact nx) (by rw [upd_ne (Ne.symm qd)]; exact nd) ne (fun _ z => by cases z)
      have ec : upd (upd (upd H1 dx (.own x)) x (.ins Cl dx [])) q (.tup vs) = upd (upd (upd H1 q (.tup vs)) dx (.own x)) x (.ins Cl dx []) := by
        rw [upd_comm (H := upd H1 dx (.own x)) (Ne.symm qx), upd_comm (H := H1) (Ne.symm qd)]
      rw [ec]
      refine spI_at oc hs2 (by rw [upd_ne (Ne.symm qx)]; exact nx) (y1.tk (x1.tk E.tk)) (y1.gt (x1.gt E.x.nt)) (p1.upd nq1 _) upd_same y2 (.cons (.mkT (SqT.of upd_same) (r.mono y1.g)) .nil) rfl (P1.mono y1)
    · rw [show mkT ds = bad from if_neg hl] at P1
      exact P1.elim⟩
/-- C(e, ..), the __init__ has defaults -/
theorem ev_makeD {x : Str} {Cl f : Addr} {ks : List Str} {n : Nat} {F : List D → PM (List D)} {dvs : List V} {dd : List D} {e : Expr} {es : List Expr} {ml : PM (List D)} {p : Pos} (C : Cok X W (j + 1)) (M : Mk X.K Cl f) (oc : ObjC X.K Cl) (FR : FnR X.prog X.w X.K X.mg X.base (L2.CX X.prog X.w) j f (fun vs H Q E => spI X.K X.mg Cl ks n F (vs ++ dvs) H Q E))
    (rd : ∀ G, RpL X.K G dvs dd) (ar : ∀ ds, ds.length ≠ n → F ds [] = .bad) (hg : Gl X x) (hm : X.mg x = some (.ref Cl)) (ha : EL X W pa Γ (e :: es) ml) (hdb : (x == ("__debug__" : Str)) = false := by decide) (he : starEach (e :: es) X.env = (false, eval e X.env) :: starEach es X.env := by rfl) (hpl : (backTo pos (starEach es X.env)).any (·.1) = false := by rfl) :
    EV X W pa Γ (.Call (.Name x p) (e :: es) [] pos) (ml >>= fun ds => newO Cl ks F (ds ++ dd)) :=
  pe_imp (pe_mk C M FR hg hm ha hdb he hpl) fun σ H Q ⟨G0, H0, G, s, E, R⟩ => ⟨G0, H0, G, s, E, R.bind.imp fun G1 H1 ds s1 x1 p1 P1 vs r x dx nx nd ne => by
    have hl : (ds ++ dd).length = n := by
      by_cases h : (ds ++ dd).length = n
      · exact h
      · exfalso
        unfold newO at P1
        rw [PM.bind_def] at P1
        unfold run0 at P1
        rw [ar _ h] at P1
        exact P1.elim
    exact spI_at oc x1.sub nx (x1.tk E.tk) (x1.gt E.x.nt) p1 upd_same (made_ext x1.sub nx nd ne (fun _ z => by cases z)) (r.app (rd G1)) hl P1⟩
end
end EV
set_option maxHeartbeats 2000000
namespace EV
open PySem PySem.Spec PyProof.Rows L2 PySem.W
section
variable {X : Cx} {W : WX} {pa : Option Addr} {Γ : List Sl} {k j : Nat} {pos : Pos} {α : Type} {out : α → Out} {rest : List Stmt}
/-- {} -/
theorem ev_dict0 : EV X W pa Γ (.Dict [] [] pos) (pure (.dct [])) := pe_imp pe_dnewK fun σ H Q ⟨G0, H0, G, s, E, R⟩ d nd => by
  have y := Ext.new (K := X.K) (pa := pa) E.sub nd (.dK [])
  exact R _ _ y (E.ps.upd nd _) _ (.dct (sh := .k []) (vs := []) upd_same rfl rfl fun i v d e => by simp at e)
end
def btB (K : Frag) (C : Addr) : Bool := ["int", "bool", "tuple", "str", "list"].all fun T => kitOne K (.ref C) (.type T) == some false
structure ClsAt (K : Frag) (mg : Str → Option Value) (x : Str) (Cl : Addr) (q : Str) (st : Stmt) (dvs : List V) : Prop where
  mgx : mg x = some (.ref Cl)
  oc : ObjC K Cl
  ex : ∃ f fd, Mk K Cl f ∧ FunD K "__init__" q (defArgs st) (defBody st) (defScope st) dvs [] f fd
theorem objC_mk {K : Frag} {C : Addr} (h1 : plainGet K C Str.empty = true) (h2 : hasDictIn K C = true) (h3 : plainOver K C = true) (h4 : findIn K (.ref C) "__setattr__" = some (some (.builtin "object.__setattr__")))
    (h5 : findIn K (.ref C) "__class__" = some (some (.builtin "object.__class__"))) (h6 : specialIn K (.builtin "object.__class__") "__get__" = some (some (.builtin "getset_descriptor.__get__")))
    (h7 : takesIn K (.builtin "object.__class__") = some true) (h8 : mroIn K C (.type "object") = some true) (h9 : btB K C = true) : ObjC K C :=
  ⟨⟨h1, h2, h3, h4⟩, h5, h6, h7, h8, fun T m => by simpa using List.all_eq_true.mp h9 T m⟩
theorem clsAt0 {K : Frag} {h : Heap} {mg : Str → Option Value} {x q : Str} {st : Stmt} {Cl f : Addr} {oc : Value} {od an : Option Addr} {osl : Array (Option Value)} {kV doc pm cdv ct : Value} (X : K.In h) (G : h.Ns mainGlobals mg)
    (a : nsIn K mainGlobals x = some (some (.ref Cl))) (o : ObjC K Cl) (m1 : makesIn K Cl = true) (m2 : findIn K (.ref Cl) "__init__" = some (some (.ref f))) (m3 : isFn K (.ref f) = true) (m4 : keepIn K (.ref Cl) = true)
    (l : K.lookup f = some ⟨oc, od, .func (fnOf "__init__" q (defArgs st) (defBody st) (defScope st) .none kV doc pm an cdv ct), osl⟩) (c : codeIn K cdv q = true) (k : keepIn K (.ref f) = true) : ClsAt K mg x Cl q st [] :=
  ⟨mg_of X G a, o, f, _, ⟨m1, m2, m3, m4⟩, ⟨⟨oc, od, .none, kV, doc, pm, an, cdv, ct, osl, rfl, l, c, .inl ⟨rfl, rfl⟩, .inl rfl⟩, k⟩⟩
/-- one default, None -/
theorem clsAt1 {K : Frag} {h : Heap} {mg : Str → Option Value} {x q : Str} {st : Stmt} {Cl f T : Addr} {oc oc2 : Value} {od od2 an : Option Addr} {osl osl2 : Array (Option Value)} {kV doc pm cdv ct : Value} {n : Nat} (X : K.In h) (G : h.Ns mainGlobals mg)
    (a : nsIn K mainGlobals x = some (some (.ref Cl))) (o : ObjC K Cl) (m1 : makesIn K Cl = true) (m2 : findIn K (.ref Cl) "__init__" = some (some (.ref f))) (m3 : isFn K (.ref f) = true) (m4 : keepIn K (.ref Cl) = true)
    (l : K.lookup f = some ⟨oc, od, .func (fnOf "__init__" q (defArgs st) (defBody st) (defScope st) (.ref T) kV doc pm an cdv ct), osl⟩) (c : codeIn K cdv q = true) (k : keepIn K (.ref f) = true)
    (lT : K.lookup T = some ⟨oc2, od2, .seq #[Value.none] n, osl2⟩) : ClsAt K mg x Cl q st [.non] :=
  ⟨mg_of X G a, o, f, _, ⟨m1, m2, m3, m4⟩, ⟨⟨oc, od, .ref T, kV, doc, pm, an, cdv, ct, osl, rfl, l, c, .inr ⟨by simp, T, _, [Value.none], n, rfl, lT, rfl, .cons rfl .nil⟩, .inl rfl⟩, k⟩⟩
theorem tab_mem {a : Addr} {b : Bool} : ∀ {l : List (Addr × Bool)}, l.lookup a = some b → (a, b) ∈ l
  | [], h => by cases h
  | (c, d) :: r, h => by
    have h : (match a == c with | true => some d | false => r.lookup a) = some b := h
    cases q : (a == c) with
    | true =>
      rw [q] at h
      cases h
      rw [beq_iff_eq.mp q]
      exact List.mem_cons_self
    | false =>
      rw [q] at h
      exact List.mem_cons_of_mem _ (tab_mem h)
/-- isinstance of an own class -/
theorem isCl_mk {K : Frag} {h : Heap} {mg : Str → Option Value} {x : Str} {C : Addr} {tab : List (Addr × Bool)} (X : K.In h) (G : h.Ns mainGlobals mg) (a : nsIn K mainGlobals x = some (some (.ref C))) (cv : ClsV (.ref C) (.ref C)) (t : (tab.all fun p => kitOne K (.ref p.1) (.ref C) == some p.2) = true)
    (b : (["NoneType", "bool", "int", "str", "tuple", "list", "dict"].all fun T => kitOne K (.type T) (.ref C) == some false) = true) : IsCl K mg x tab :=
  ⟨⟨C, mg_of X G a, fun D v e => by
    have m : (D, v) ∈ tab := tab_mem e
    simpa using List.all_eq_true.mp t (D, v) m, fun T m => by simpa using List.all_eq_true.mp b T m⟩, fun C' e => by
    rw [mg_of X G a] at e
    cases e
    exact cv⟩
structure MkC (P : Program) (w : World) (K : Frag) (mg : Str → Option Value) (base : Heap) (j : Nat) (x : Str) (Cl : Addr) (sp : Sp) : Prop where
  ex : ∃ f, mg x = some (.ref Cl) ∧ ObjC K Cl ∧ Mk K Cl f ∧ FnR P w K mg base (L2.CX P w) j f sp
section
variable {P : Program} {w : World} {K : Frag} {mg : Str → Option Value} {base : Heap} {x q : Str} {Cl : Addr} {st : Stmt} {N : List Str} {k : Nat} {ks : List Str}
/-- class C: def __init__(self, *needs) -/
theorem mkS {s pv : Str} {F : List D → PM (List D)} (CA : ClsAt K mg x Cl q st []) (S : FnScope N [s, pv] (defScope st)) (hk : k < 32)
    (hb : ∀ (kV doc pm : Value) (an : Option Addr) (cdv ct : Value) (us rest : List Value), us.length = [s].length → bindArgs (fnOf "__init__" q (defArgs st) (defBody st) (defScope st) .none kV doc pm an cdv ct) ⟨us ++ rest, []⟩ = (newTuple rest >>= fun t => pure ([s].zip us ++ [(pv, t)])))
    (B : ∀ f, InitB P w K mg base Cl f N k 1 q (defBody st) (defScope st) ks F) : MkC P w K mg base (k + 1) x Cl (spStar (spI K mg Cl ks 1 F)) := by
  obtain ⟨f, fd, M, FD⟩ := CA.ex
  obtain ⟨oc, od, dV, kV, doc, pm, an, cdv, ct, osl, rfl, lk, hcd, hD, _⟩ := FD.ex
  have e : dV = .none := by
    rcases hD with ⟨_, e⟩ | ⟨e, _⟩
    · exact e
    · exact absurd rfl e
  subst e
  have hN : 1 + 1 ≤ N.length := scope_le S
  exact ⟨f, CA.mgx, CA.oc, M, StX.fn_star (ps := [s]) lk hcd S StX.cxUp (fun us rest hl => hb kV doc pm an cdv ct us rest hl) fun A outer s H vs Q E hr h => (B f).run S.nd hk hN cdv A outer s H vs Q E hr h⟩
end
section
variable {X : Cx} {W : WX} {pa : Option Addr} {Γ : List Sl} {k j : Nat} {pos : Pos} {α : Type} {out : α → Out} {rest : List Stmt}
theorem newS {x : Str} {Cl : Addr} {ks : List Str} {F : List D → PM (List D)} {e : Expr} {es : List Expr} {ml : PM (List D)} {p : Pos} (C : Cok X W k) (M : MkC X.prog X.w X.K X.mg X.base j x Cl (spStar (spI X.K X.mg Cl ks 1 F))) (ha : EL X W pa Γ (e :: es) ml) (hj : j + 1 ≤ k := by decide) (hg : Gl X x := by rfl)
    (hdb : (x == ("__debug__" : Str)) = false := by decide) (he : starEach (e :: es) X.env = (false, eval e X.env) :: starEach es X.env := by rfl) (hpl : (backTo pos (starEach es X.env)).any (·.1) = false := by rfl) :
    EV X W pa Γ (.Call (.Name x p) (e :: es) [] pos) (ml >>= fun ds => mkT ds >>= fun t => newO Cl ks F [t]) := by
  obtain ⟨f, m1, m2, m3, m4⟩ := M.ex
  exact ev_makeS (C.mono hj) m3 m2 m4 hg m1 ha hdb he hpl
theorem newD1 {x : Str} {Cl : Addr} {ks : List Str} {F : List D → PM (List D)} {e : Expr} {es : List Expr} {ml : PM (List D)} {p : Pos} (C : Cok X W k) (M : MkC X.prog X.w X.K X.mg X.base j x Cl (fun vs H Q E => spI X.K X.mg Cl ks 2 F (vs ++ [.non]) H Q E)) (ar : ∀ ds, ds.length ≠ 2 → F ds [] = .bad) (ha : EL X W pa Γ (e :: es) ml) (hj : j + 1 ≤ k := by decide) (hg : Gl X x := by rfl)
    (hdb : (x == ("__debug__" : Str)) = false := by decide) (he : starEach (e :: es) X.env = (false, eval e X.env) :: starEach es X.env := by rfl) (hpl : (backTo pos (starEach es X.env)).any (·.1) = false := by rfl) :
    EV X W pa Γ (.Call (.Name x p) (e :: es) [] pos) (ml >>= fun ds => newO Cl ks F (ds ++ [.non])) := by
  obtain ⟨f, m1, m2, m3, m4⟩ := M.ex
  exact ev_makeD (C.mono hj) m3 m2 m4 (fun G => .cons .non .nil) ar hg m1 ha hdb he hpl
structure FitC (P : Program) (w : World) (K : Frag) (mg : Str → Option Value) (base : Heap) (j : Nat) (Cl : Addr) (m : Str) : Prop where
  ex : ∃ f fd ps, Meth K Cl m f ∧ FnOk P w K mg base (L2.CX P w) j f fd ps (fun vs H Q _ => vs.length = 2 ∧ Q .non H) ∧ L2.Binds K fd ps []
theorem zip_lookup_none {f : Str} : ∀ {ks : List Str} {vs : List V}, f ∉ ks → (ks.zip vs).lookup f = none
  | [], _, _ => rfl
  | _ :: _, [], _ => rfl
  | k :: ks, v :: vs, n => by
    have nk : (f == k) = false := beq_eq_false_iff_ne.mpr fun z => n (by rw [z]; exact List.mem_cons_self)
    show (match f == k with | true => some v | false => (ks.zip vs).lookup f) = none
    rw [nk]
    exact zip_lookup_none fun m => n (List.mem_cons_of_mem _ m)
theorem sv_fit (i : Nat) {x m : Str} {e : Expr} {o Cl dx : Addr} {ks : List Str} {xs : List D} {me : PM D} {kk : PM α} {p1 p2 p3 : Pos} (C : Cok X W k) (hc : Cls X.K Cl) (F : FitC X.prog X.w X.K X.mg X.base j Cl m) (hΓ : Γ[i]? = some (insS o Cl dx ks xs)) (hm : m ∉ ks) (he : EV X W pa Γ e me) (hr : SV X W pa Γ out rest kk)
    (hj : j ≤ k := by decide) (hN : X.N[i]? = some x := by rfl) (hv : Vis X.env.scope x := by first | exact Or.inl rfl | exact Or.inr (Or.inl rfl) | exact Or.inr (Or.inr rfl)) (hd : (x == ("__debug__" : Str)) = false := by decide) (hcd : (x == ("__classdict__" : Str)) = false := by decide)
    (hs : swapsWith (.Call (.Attribute (.Name x p1) m p2) [e] [] p3) none pos.line X.env = pure false := by rfl) (hst : starEach [e] X.env = (false, eval e X.env) :: starEach [] X.env := by rfl) (hpl : (backTo p3 (starEach [] X.env)).any (·.1) = false := by rfl)
    {pl : Sem Bool} (ht : eval (.Call (.Attribute (.Name x p1) m p2) [e] [] p3) X.env = (do
      let ov ← eval (.Name x p1) X.env
      standAt p2.atName
      let (f, first) ← holding [ov] (getMethod ov m pl)
      callWith p3 f first (backTo p3 (starEach [e] X.env)) (backToKw p3 (keywordEach [] X.env))) := by rfl) :
    SV X W pa Γ out (.Expr (.Call (.Attribute (.Name x p1) m p2) [e] [] p3) pos :: rest) (me >>= fun _ => kk) := by
  obtain ⟨f, fd, ps, f1, f2, f3⟩ := F.ex
  unfold SV
  rw [bind_assoc]
  refine pss_imp (pss_cons (ps_expr (pe_meth (E := fun _ _ _ => False) (pl := pl) (pe_var hN hv hd hcd) hc f1 f2 (C.mono hj).room f3 .nil (passes_call C.takes fun _ _ _ _ z => z.elim) (pa_cons he pa_nil hst) hst hpl ht) hs) hr) fun Dn σ H ⟨G0, H0, G, s, E, R⟩ => ?_
  obtain ⟨p, vs, q1, q2, q3, q4, q5, q6⟩ := E.x.dic i _ _ hΓ
  exact ⟨.ref p, q1, p, dx, ks.zip vs, rfl, q2, zip_lookup_none hm, G0, H0, G, s, E, (R.bind E).imp fun G1 H1 d s1 x1 p1 P1 v r => ⟨rfl, G0, H0, G1, s1, E.step x1 p1, P1⟩⟩
end
section
variable {P : Program} {w : World} {K : Frag} {mg : Str → Option Value} {base : Heap}
/-- the method's promise: its body is «return None» -/
structure MethAt (K : Frag) (Cl : Addr) (m q : Str) (st : Stmt) : Prop where
  ex : ∃ f fd, Meth K Cl m f ∧ Fun K m q st f fd
theorem methAt {Cl f : Addr} {m q : Str} {st : Stmt} {oc : Value} {od an : Option Addr} {osl : Array (Option Value)} {kV doc pm cdv ct : Value} (m2 : findIn K (.ref Cl) m = some (some (.ref f))) (m3 : isFn K (.ref f) = true)
    (l : K.lookup f = some ⟨oc, od, .func (fnOf m q (defArgs st) (defBody st) (defScope st) .none kV doc pm an cdv ct), osl⟩) (c : codeIn K cdv q = true) (k : keepIn K (.ref f) = true) : MethAt K Cl m q st := ⟨f, _, ⟨m2, m3, k⟩, fun_mk l c k⟩
theorem fit_of {Cl : Addr} {m q s r : Str} {st : Stmt} {k : Nat} (MA : MethAt K Cl m q st) (S : FnScope [s, r] [s, r] (defScope st)) (hb : ∀ fd f, Fun K m q st f fd → L2.Binds K fd [s, r] []) {j : Nat} {p1 p2 : Pos} (hB : defBody st = [.Return (some (.Constant .none j p1)) p2]) : FitC P w K mg base (k + 1) Cl m := by
  obtain ⟨f, fd, M, F⟩ := MA.ex
  refine ⟨f, fd, [s, r], M, ?_, hb fd f F⟩
  obtain ⟨oc, od, kV, doc, pm, an, cdv, ct, osl, rfl, lk, hcd⟩ := F.ex
  refine fn_of lk hcd S (fun vs H Q E h => h.1) fun A outer s H vs Q E hr h => ?_
  rw [hB]
  exact ⟨_, pss_one (ps_ret pe_non), h.2⟩
end
end EV
set_option maxHeartbeats 2000000
namespace EV
open PySem PySem.Spec PyProof.Rows L2 PySem.W LamX
structure FunL (K : Frag) (mg : Str → Option Value) (base : Heap) (x : Str) (st : Stmt) : Prop where
  ex : ∃ f fd c P, Fun K x x st f fd ∧ mg x = some (.ref f) ∧ fd.code = .ref c ∧ TabB base mg c P ∧ NeedT K P ∧ tauK K P = (x ++ ".<locals>.") ++ "<lambda>"
section
variable {P : Program} {w : World} {K : Frag} {mg : Str → Option Value} {base : Heap} {x : Str} {st : Stmt} {N ps : List Str} {k n : Nat}
theorem lamAt_of {fd : FuncData} {c T : Addr} {cdv : Value} {f : Addr} {A : Around} {outer : List PySem.Env} {s : Shared} {H : Hp} {E : XK} (h1 : fd.code = .ref c) (h2 : TabB base mg c T) (h3 : NeedT K T) (h4 : tauK K T = (x ++ ".<locals>.") ++ "<lambda>") (e : fd.code = cdv) :
    LamAt (cxOf (L2.CX P w) P w K mg base N x (defScope st) f cdv A outer s H E) := by
  refine ⟨c, T, ?_, ?_, ?_, ?_⟩
  · exact (show cdv = Value.ref c from e.symm.trans h1)
  · exact h2
  · exact h3
  · exact h4
theorem mk_pureL {F : List D → PM D} (FA : FunL K mg base x st) (S : FnScope N ps (defScope st)) (hps : ps.length = n)
    (hbd : ∀ (kV doc pm : Value) (an : Option Addr) (cdv ct : Value) (us : List Value), us.length = ps.length → bindArgs (PySem.W.fnOf x x (defArgs st) (defBody st) (defScope st) .none kV doc pm an cdv ct) ⟨us, []⟩ = pure (ps.zip us))
    (hb : ∀ (f : Addr) (cdv : Value) (A : Around) (outer : List PySem.Env) (s : Shared) (H : Hp) (E : XK), Cok (cxOf (L2.CX P w) P w K mg base N x (defScope st) f cdv A outer s H E) (fun cls d _ H => E cls d H) k → LamAt (cxOf (L2.CX P w) P w K mg base N x (defScope st) f cdv A outer s H E) → ∀ ds : List D, ds.length = n →
      ∃ (α : Type) (out : α → Out) (m : PM α), SV (cxOf (L2.CX P w) P w K mg base N x (defScope st) f cdv A outer s H E) (fun cls d _ H => E cls d H) none (slots0 N ds) out (defBody st) m ∧ F ds = (m >>= fun a => outD (out a))) :
    Cal P w K mg base (k + 1) x ps (spF K mg false n F) := by
  obtain ⟨f, fd, c, T, FU, hm, l1, l2, l3, l4⟩ := FA.ex
  refine ⟨f, fd, fnG_of FU S (fun vs H Q E h => ?_) fun cdv ec A outer s H vs Q E hg hr h => ?_, hm, FU.kp, FU.binds hbd⟩
  · obtain ⟨pa, G, s, vs', ds, hpa, rfl, _, _, r, hn, _⟩ := h
    cases pa with
    | some _ => cases hpa
    | none =>
      show vs'.length = _
      rw [r.1, hn, hps]
  · obtain ⟨pa, G, s', vs', ds, hpa, rfl, hs, hp, r, hn, hP⟩ := h
    cases pa with
    | some _ => cases hpa
    | none =>
      obtain ⟨α, out, m, sv, e⟩ := hb f cdv A outer s H E (cok_fn S.nd hg hr) (lamAt_of l1 l2 l3 l4 ec) ds hn
      rw [e] at hP
      have hlen : vs'.length ≤ N.length := by
        rw [r.1, hn, ← hps]
        exact scope_le S
      exact ⟨_, sv, G, H, G, s', nv_start0 hs r hlen, spost_fn hP⟩
end
theorem mem_of_look {K : Frag} {c : Addr} {o : Obj} (h : K.lookup c = some o) : (c, o) ∈ K := by
  induction K with
  | nil => cases h
  | cons p r ih =>
    obtain ⟨b, u⟩ := p
    have h : (match c == b with | true => some u | false => r.lookup c) = some o := h
    cases q : (c == b) with
    | true =>
      rw [q] at h
      cases h
      rw [beq_iff_eq.mp q]
      exact List.mem_cons_self
    | false =>
      rw [q] at h
      exact List.mem_cons_of_mem _ (ih h)
def strO : Option Value → Option Str
  | some (.str n _) => some n
  | _ => none
def refO : Option Value → Option Addr
  | some (.ref P) => some P
  | _ => none
theorem strO_of {o : Option Value} {n : Str} (h : strO o = some n) : ∃ t, o = some (.str n t) := by
  cases o with
  | none => cases h
  | some v =>
    cases v with
    | str m t => exact ⟨t, by rw [show m = n from Option.some.inj h]⟩
    | _ => cases h
theorem refO_of {o : Option Value} {P : Addr} (h : refO o = some P) : o = some (.ref P) := by
  cases o with
  | none => cases h
  | some v =>
    cases v with
    | ref m => rw [show m = P from Option.some.inj h]
    | _ => cases h
def codeF (vs : Array Value) : Option (Str × Addr) := (strO (vs[1]? : Option Value)).bind fun n => (refO (vs[11]? : Option Value)).map fun P => (n, P)
def codeOf (o : Obj) : Option (Str × Addr) := match o.data with
  | .fields vs => codeF vs
  | _ => none
theorem codeOf_eq {o : Obj} {vs : Array Value} {n : Str} {t : Tok} {P : Addr} (h1 : o.data = .fields vs) (h2 : vs[1]? = some (.str n t)) (h3 : vs[11]? = some (.ref P)) : codeOf o = some (n, P) := by
  obtain ⟨a, b, d, e⟩ := o
  have h1 : d = .fields vs := h1
  subst h1
  show codeF vs = _
  unfold codeF
  rw [h2, h3]
  rfl
theorem codeOf_inv {o : Obj} {n : Str} {P : Addr} (h : codeOf o = some (n, P)) : ∃ vs t, o.data = .fields vs ∧ vs[1]? = some (.str n t) ∧ vs[11]? = some (.ref P) := by
  obtain ⟨a, b, d, e⟩ := o
  cases d with
  | fields vs =>
    have h : codeF vs = some (n, P) := h
    unfold codeF at h
    cases e1 : strO (vs[1]? : Option Value) with
    | none => rw [e1] at h; cases h
    | some m =>
      cases e2 : refO (vs[11]? : Option Value) with
      | none => rw [e1, e2] at h; cases h
      | some p =>
        rw [e1, e2] at h
        have h : (m, p) = (n, P) := Option.some.inj h
        cases h
        obtain ⟨t, e3⟩ := strO_of e1
        exact ⟨vs, t, rfl, e3, refO_of e2⟩
  | _ => cases h
/-- no other code object of another name has this table -/
def uniqB (K : Frag) (x : Str) (P : Addr) : Bool := K.all fun p => match codeOf p.2 with
  | some (n, P') => !(P' == P) || n == x
  | none => true
/-- the tables of these names are among cs -/
def needB (K : Frag) (cs : List (Addr × Addr)) : Bool := K.all fun p => match codeOf p.2 with
  | some (n, P') => !(lamNames.contains n) || cs.any fun q => q.2 == P'
  | none => true
theorem need_of {K : Frag} {cs : List (Addr × Addr)} (h : needB K cs = true) (P : Addr) (n : NeedT K P) : ∃ p ∈ cs, p.2 = P := by
  obtain ⟨c, o, vs, x, t, h1, h2, h3, h4, h5⟩ := n
  have z := List.all_eq_true.mp h _ (mem_of_look h1)
  dsimp only at z
  rw [codeOf_eq h2 h3 h4] at z
  have z : (!(lamNames.contains x) || cs.any fun q => q.2 == P) = true := z
  rw [List.contains_iff_mem.mpr h5] at z
  obtain ⟨p, hp, e⟩ := List.any_eq_true.mp (by simpa using z : (cs.any fun q => q.2 == P) = true)
  exact ⟨p, hp, beq_iff_eq.mp e⟩
def lookB (K : Frag) (c : Addr) (x : Str) (P : Addr) : Bool := match K.lookup c with
  | some o => codeOf o == some (x, P)
  | none => false
theorem tau_of {K : Frag} {c P : Addr} {x : Str} (h : lookB K c x P = true) (u : uniqB K x P = true) : tauK K P = (x ++ ".<locals>.") ++ "<lambda>" := by
  unfold lookB at h
  cases e : K.lookup c with
  | none => rw [e] at h; cases h
  | some o =>
    rw [e] at h
    obtain ⟨vs, t, h1, h2, h3⟩ := codeOf_inv (beq_iff_eq.mp (show (codeOf o == some (x, P)) = true from h))
    refine tauK_of ⟨c, o, vs, x, t, e, h1, h2, h3, rfl⟩ fun q' ⟨c', o', vs', n', t', e', d1, d2, d3, d4⟩ => ?_
    have z := List.all_eq_true.mp u _ (mem_of_look e')
    dsimp only at z
    rw [codeOf_eq d1 d2 d3] at z
    have z : (!(P == P) || n' == x) = true := z
    rw [beq_self_eq_true] at z
    rw [d4, beq_iff_eq.mp (show (n' == x) = true from z)]
theorem needT_of {K : Frag} {c P : Addr} {x : Str} (h : lookB K c x P = true) (m : lamNames.contains x = true) : NeedT K P := by
  unfold lookB at h
  cases e : K.lookup c with
  | none => rw [e] at h; cases h
  | some o =>
    rw [e] at h
    obtain ⟨vs, t, h1, h2, h3⟩ := codeOf_inv (beq_iff_eq.mp (show (codeOf o == some (x, P)) = true from h))
    exact ⟨c, o, vs, x, t, e, h1, h2, h3, List.contains_iff_mem.mp m⟩
theorem funL {K : Frag} {h base : Heap} {mg : Str → Option Value} {x : Str} {st : Stmt} {f c T : Addr} {oc : Value} {od an : Option Addr} {osl : Array (Option Value)} {kV doc pm ct : Value} (X : K.In h) (G : h.Ns mainGlobals mg) (TB : TabB base mg c T) (a : nsIn K mainGlobals x = some (some (.ref f)))
    (l : K.lookup f = some ⟨oc, od, .func (fnOf x x (defArgs st) (defBody st) (defScope st) .none kV doc pm an (.ref c) ct), osl⟩) (cd : codeIn K (.ref c) x = true) (k : keepIn K (.ref f) = true) (lb : lookB K c x T = true) (u : uniqB K x T = true) (m : lamNames.contains x = true) : FunL K mg base x st :=
  ⟨f, _, c, T, fun_mk l cd k, mg_of X G a, rfl, TB, needT_of lb m, tau_of lb u⟩
/-- the class at D among the classes Ds, asked by isinstance -/
def errB (K : Frag) (Ds : List Addr) (CA D : Addr) (j : Nat) : Bool :=
  exmOne K (.ref D) (.ref CA) == some true && kitOne K (.ref D) (.type "ValueError") == some true && (List.range 10).all fun i => match Ds[i]? with
    | some C => kitOne K (.ref D) (.ref C) == some (i == j)
    | none => false
def excB (K : Frag) (D : Addr) : Bool := findIn K (.ref D) "__getattribute__" == some (some (.builtin "BaseException.__getattribute__")) && findIn K (.ref D) "__getattr__" == some none && subIn K (.ref D) (.type "BaseException") == some true && hasDictIn K D &&
  findIn K (.ref D) "__class__" == some (some (.builtin "object.__class__")) && specialIn K (.builtin "object.__class__") "__get__" == some (some (.builtin "getset_descriptor.__get__")) && takesIn K (.builtin "object.__class__") == some true && mroIn K D (.type "object") == some true
theorem excC_of {K : Frag} {D : Addr} (h : excB K D = true) : ExcC K D := by
  unfold excB at h
  simp only [Bool.and_eq_true, beq_iff_eq] at h
  obtain ⟨⟨⟨⟨⟨⟨⟨h1, h2⟩, h3⟩, h4⟩, h5⟩, h6⟩, h7⟩, h8⟩ := h
  exact ⟨h1, h2, h3, h4, h5, h6, h7, h8⟩
/-- all ten at once -/
theorem errs_of {K : Frag} {h : Heap} {mg : Str → Option Value} {CA : Addr} {Ds : List Addr} (X : K.In h) (G : h.Ns mainGlobals mg) (hl : Ds.length = 10) (hn : ((List.range 10).all fun i => match errsL[i]?, Ds[i]? with
    | some y, some C => nsIn K mainGlobals y == some (some (.ref C))
    | _, _ => false) = true) (hx : (Ds.all fun D => excB K D) = true) (hB : ((List.range 10).all fun j => match Ds[j]? with
    | some D => errB K Ds CA D j
    | none => false) = true) : ∀ j y, errsL[j]? = some y → ∃ D, mg y = some (.ref D) ∧ ErrJ K mg CA D j := by
  have nm : ∀ i y, errsL[i]? = some y → ∃ C, Ds[i]? = some C ∧ mg y = some (.ref C) := fun i y e => by
    have hi : i < 10 := (List.getElem?_eq_some_iff.mp e).1
    have z := List.all_eq_true.mp hn i (List.mem_range.mpr hi)
    rw [e] at z
    cases q : Ds[i]? with
    | none => rw [q] at z; cases z
    | some C =>
      rw [q] at z
      exact ⟨C, q, mg_of X G (beq_iff_eq.mp (show (nsIn K mainGlobals y == some (some (.ref C))) = true from z))⟩
  intro j y e
  have hj : j < 10 := (List.getElem?_eq_some_iff.mp e).1
  obtain ⟨D, d1, d2⟩ := nm j y e
  have z := List.all_eq_true.mp hB j (List.mem_range.mpr hj)
  rw [d1] at z
  have z : errB K Ds CA D j = true := z
  unfold errB at z
  simp only [Bool.and_eq_true, beq_iff_eq] at z
  obtain ⟨⟨z1, z2⟩, z3⟩ := z
  refine ⟨D, d2, excC_of (List.all_eq_true.mp hx D (List.mem_of_getElem? d1)), z1, z2, fun i x' ei => ?_⟩
  have hi : i < 10 := (List.getElem?_eq_some_iff.mp ei).1
  obtain ⟨C, c1, c2⟩ := nm i x' ei
  have y := List.all_eq_true.mp z3 i (List.mem_range.mpr hi)
  rw [c1] at y
  exact ⟨C, c2, beq_iff_eq.mp (show (kitOne K (.ref D) (.ref C) == some (i == j)) = true from y)⟩
/-- raise X(..): X's facts -/
theorem errC_of {K : Frag} {h : Heap} {mg : Str → Option Value} {x : Str} {C : Addr} (X : K.In h) (G : h.Ns mainGlobals mg) (a : nsIn K mainGlobals x = some (some (.ref C)))
    (b : (excIn K C [.type "ValueError", .type "Exception", .type "BaseException", .type "object"] "ValueError.__new__" && keepIn K (.ref C) && subIn K (.ref C) (.type "BaseException") == some true && typeIn K (.ref C) == some (.type "type")) = true) : ErrC K mg x := by
  simp only [Bool.and_eq_true, beq_iff_eq] at b
  obtain ⟨⟨⟨b1, b2⟩, b3⟩, b4⟩ := b
  exact ⟨C, mg_of X G a, b1, b2, b3, b4⟩
def clsBody : Stmt → List Stmt
  | .ClassDef _ _ _ b _ _ _ _ _ _ _ => b
  | _ => []
theorem ev_saidC {X : Cx} {W : WX} {pa : Option Addr} {Γ : List Sl} {k : Nat} {pos : Pos} {x w8 : Str} {m : PM D} {params : Arguments} {body : Expr} {scope : Scope} {p lpos : Pos} (C : Cok X W k) (S : SaidC X.prog X.w X.K X.mg X.base 31 x w8) (LA : LamAt X)
    (hb : ∀ (A : Around) (outer : List Env) (s : Shared) (H : Hp) (E : XK) (f c' : Addr), Cok (lamCx X A outer s H E scope f c') (fun cls d _ H' => E cls d H') 31 → EV (lamCx X A outer s H E scope f c') (fun cls d _ H' => E cls d H') none (Γ.map valS) body m)
    (hk : 33 ≤ k := by decide) (L : LamS X.env.scope scope := by first | exact LamX.lamS_by (by decide +kernel) | exact LamX.lamS_by (by rfl)) (hg : Gl X x := by rfl) (hdef : defaultsOf params X.env = ([], []) := by rfl)
    (hbind : ∀ (q : Str) (cl : List (Str × Addr)) (pm cv ctv : Value), bindArgs (PySem.W.kla_fn "<lambda>" q params body scope cl pm cv ctv) ⟨[], []⟩ = pure [] := by intro _ _ _ _ _; rfl) (hdb : (x == ("__debug__" : Str)) = false := by decide) :
    EV X W pa Γ (.Call (.Name x p) [.Lambda params body scope lpos] [] pos) (saidM w8 m) := ev_said (k := 0) (C.mono hk) S LA L hg hdef hbind hb hdb
end EV
set_option maxHeartbeats 2000000
namespace EV
open PySem PySem.Spec PyProof.Rows L2 PySem.W
/-- a method's promise -/
structure CalM (P : Program) (w : World) (K : Frag) (mg : Str → Option Value) (base : Heap) (k : Nat) (Cl : Addr) (m : Str) (ps : List Str) (sp : Sp) : Prop where
  ex : ∃ f fd, FnG P w K mg base k f fd ps sp ∧ Meth K Cl m f ∧ fnIn K f = true ∧ L2.Binds K fd ps []
end EV
set_option maxHeartbeats 2000000
namespace EV
open PySem PySem.Spec PyProof.Rows L2
end EV
set_option maxHeartbeats 2000000
namespace EV
open PySem PySem.Spec PyProof.Rows L2
end EV
set_option maxHeartbeats 2000000
namespace EV
open PySem PySem.Spec PyProof.Rows L2 LamX
end EV
set_option maxHeartbeats 2000000
namespace EV
open PySem PySem.Spec PyProof.Rows L2 PySem.W
end EV
set_option maxHeartbeats 2000000
namespace EV
open PySem PySem.Spec PyProof.Rows L2 PySem.W
end EV
set_option maxHeartbeats 2000000
namespace EV
open PySem PySem.Spec PyProof.Rows L2
end EV
set_option maxHeartbeats 2000000
namespace EV
open PySem PySem.Spec PyProof.Rows L2 PySem.W
end EV
set_option maxHeartbeats 2000000
namespace EV
open PySem PySem.Spec PyProof.Rows L2 PySem.W
end EV
set_option maxHeartbeats 2000000
namespace EV
open PySem PySem.Spec PyProof.Rows L2 PySem.W
section
variable {X : Cx} {W : WX} {pa : Option Addr} {Γ : List Sl} {k j n : Nat} {pos : Pos} {pins : List (Addr × Obj)} {σ : L2.St} {H : Hp} {s : Shared}
/-- what == and != of the class lean on -/
structure EqC (K : Frag) (Cl : Addr) : Prop where
  ne : findIn K (.ref Cl) "__ne__" = some (some (.builtin "object.__ne__"))
  ob : subIn K (.ref Cl) (.type "object") = some true
  nf : ∀ T ∈ ["NoneType", "bool", "int", "str", "list", "tuple", "dict"], notFirst K Cl (.type T) = true
end
end EV
set_option maxHeartbeats 2000000
namespace EV
open PySem PySem.Spec PyProof.Rows L2 PySem.W
end EV
set_option maxHeartbeats 2000000
namespace EV
open PySem PySem.Spec PyProof.Rows L2 PySem.W
structure EqR (K : Frag) (Cl : Addr) : Prop where
  sub : ∀ T ∈ ["NoneType", "bool", "int", "str", "list", "tuple", "dict"], subIn K (.ref Cl) (.type T) = some false
def rRepM (K : Frag) : R2 := fun x y H Q => ∃ l k xs, x = .ref l ∧ y = .int k ∧ SqT K H l xs ∧ xs ≠ [] ∧ 2 ≤ k ∧ k ≤ 100000 ∧ k.toNat * xs.length ≤ 100000 ∧ ∀ p, H p = none → Q (.ref p) (upd H p (.tup (List.replicate k.toNat xs).flatten))
section
variable {X : Cx}
theorem op_repM : OpR X (binaryOp .Mult) (rRepM X.K) := by
  intro pins s σ H x y v u Q I rx ry h
  obtain ⟨l, k, xs, rfl, rfl, hT, hne, k2, kM, kz, q⟩ := h
  cases rx
  obtain ⟨tk, rfl⟩ := ry
  obtain ⟨its, r, ⟨⟨ocl, odc, oda, osl⟩, ho, hc, m, hd⟩, hs⟩ := I.tuple hT
  simp only at hc hd
  subst hc hd
  have hle : its.length = xs.length := r.length.symm
  have hne2 : its.toArray.isEmpty = false := by
    cases its with
    | nil => exact absurd (List.eq_nil_of_length_eq_zero hle.symm) hne
    | cons a b => rfl
  have e0 : its.toArray.size = xs.length := by rw [List.size_toArray, hle]
  have e1 : ((its.toArray.size : Nat) : Int) * k ≤ 100000 := by
    rw [e0]
    have z : ((k.toNat * xs.length : Nat) : Int) ≤ 100000 := Int.ofNat_le.mpr kz
    rw [Int.natCast_mul, Int.toNat_of_nonneg (by omega), Int.mul_comm] at z
    exact z
  have e2 : (List.replicate k.toNat xs).flatten.length ≤ sizeLine := by
    rw [PyProof.Rows.lm_len_rep_flat, sizeLine_eq]
    omega
  have e3 : (List.replicate k.toNat its).flatten.length ≤ sizeLine := by
    rw [PyProof.Rows.lm_len_rep_flat, sizeLine_eq, hle]
    omega
  have g0 : (decide (k < -(2 ^ 63)) || decide (k ≥ 2 ^ 63)) = false := by
    rw [decide_eq_false (by omega), decide_eq_false (by omega)]
    rfl
  have g1 : (its.toArray.isEmpty || k == 1) = false := by
    rw [hne2]
    simp
    omega
  have g2 : (decide (k ≤ 0) || its.toArray.isEmpty) = false := by
    rw [hne2]
    simp
    omega
  have g4 : Builtin.Tuple.tupleTooMany (((its.toArray.size : Nat) : Int) * k) = false := by
    unfold Builtin.Tuple.tupleTooMany
    rw [sizeLine_eq]
    refine decide_eq_false fun z => ?_
    omega
  have M1 := tuple_mulW l its.toArray m odc osl k tk g0 g1 g2 (by omega) g4 (by rw [size_rep, List.size_toArray]; exact e3)
  have M2 := int_rmul_tuple k tk l its.toArray m odc osl
  have T1 : Shared.TypeIs s (.ref l) "tuple" := ⟨_, ho, rfl⟩
  refine wpAny_binaryOp_repeat_ref (T := "tuple") (U := "int") (by decide) T1 (fun s' => typeIs_int s' k tk) noFill_tuple_mul PySem.F.fills_int_mul PySem.F.slot_int_rmul repeat_tuple PySem.F.slot_int_index.lookup ?_
  refine call_meets PySem.F.slot_int_rmul (typeIs_int s k tk) PySem.F.entry_int_rmul (PySem.F.args_int_rmul_2 _ _) M2 ⟨ho, rfl, T1, ?_⟩
  refine call_meets PySem.F.slot_tuple_mul T1 PySem.F.entry_tuple_mul (PySem.F.args_tuple_mul_2 _ _) M1 ⟨ho, ?_⟩
  rw [size_rep]
  have fr := I.hok.fresh (Nat.le_refl _)
  exact ⟨.ref s.heap.objs.size, _, I.laid (t' := s.toks) (o := .tup (List.replicate k.toNat xs).flatten) (fun b ob z => Heap.get?_push_of_some _ z) (Nat.le_refl _) ⟨e2, _, r.rep k.toNat, IsTup.new _ _⟩, rfl, q _ fr⟩
def mulM : D → D → PM D
  | .tup xs, .int k => if xs ≠ [] ∧ 2 ≤ k ∧ k ≤ 100000 ∧ k.toNat * xs.length ≤ 100000 then mkT (repD k xs) else bad
  | _, _ => bad
theorem od_mulM : OpD X (binaryOp .Mult) mulM := by
  refine ⟨_, op_repM, fun W pa σ G H s x y a b Q hs hp ra rb P => ?_⟩
  cases ra with
  | @tup l vs xs h n rr =>
    cases rb with
    | int k =>
      have P : Pst X.K W X.mg pa σ (FD X.K Q) G H ((if xs ≠ [] ∧ 2 ≤ k ∧ k ≤ 100000 ∧ k.toNat * xs.length ≤ 100000 then mkT (repD k xs) else bad : PM D) s) := P
      by_cases g : xs ≠ [] ∧ 2 ≤ k ∧ k ≤ 100000 ∧ k.toNat * xs.length ≤ 100000
      · rw [if_pos g] at P
        exact ⟨l, k, vs, rfl, rfl, sameT hs h, fun e => g.1 (by rw [e] at n; exact List.eq_nil_of_length_eq_zero n.symm), g.2.1, g.2.2.1, by rw [n]; exact g.2.2.2, fun p np => mkT_use P (rep_rp ⟨n, rr⟩ k.toNat) hs hp np⟩
      · rw [if_neg g] at P
        exact P.elim
    | _ => exact P.elim
  | _ => cases rb <;> exact P.elim
end
end EV
set_option maxHeartbeats 2000000
namespace EV
open PySem PySem.Spec PyProof.Rows L2 PySem.W
end EV
set_option maxHeartbeats 2000000
namespace EV
open PySem PySem.Spec PyProof.Rows L2 LamX
end EV
set_option maxHeartbeats 2000000
namespace EV
open PySem PySem.Spec PyProof.Rows L2 PySem.W
end EV
set_option maxHeartbeats 2000000
namespace EV
open PySem PySem.Spec PyProof.Rows L2
end EV
set_option maxHeartbeats 2000000
namespace EV
open PySem PySem.Spec PyProof.Rows L2
/-- raise x(a, b) -/
def raiseF {α : Type} (x f1 f2 : Str) (okD : D → D → Bool) : List D → PM α
  | [a, b] => if okD a b = true then raiseP ⟨x, [(f2, b), (f1, a)]⟩ else bad
  | _ => bad
section
variable {X : Cx} {W : WX} {pa : Option Addr} {Γ : List Sl} {k : Nat} {pos : Pos} {α : Type} {out : α → Out} {rest : List Stmt}
theorem nf_raiseF {x f1 f2 : Str} {okD : D → D → Bool} {ds : List D} : NF out (raiseF x f1 f2 okD ds : PM α) := by
  unfold raiseF
  split
  · split
    · exact nf_raise
    · exact nf_bad
  · exact nf_bad
end
end EV
set_option maxHeartbeats 2000000
namespace EV
open PySem PySem.W PySem.Spec PyProof.Rows L2
end EV
set_option maxHeartbeats 2000000
namespace EV
open PySem PySem.Spec PyProof.Rows L2 PySem.W
end EV
set_option maxHeartbeats 2000000
namespace EV
open PySem PySem.Spec PyProof.Rows L2 PySem.W
section
variable {X : Cx} {W : WX} {pa : Option Addr} {Γ : List Sl} {k j n : Nat} {pos : Pos}
/-- the promise of a call with keywords -/
def FnRK (P : Program) (w : World) (K : Frag) (mg : Str → Option Value) (base : Heap) (CX : CXT) (j : Nat) (f : Addr) (n : Nat) (ks : List Str) (sp : Sp) : Prop :=
  ∀ (A : Around) (outer : List PySem.Env) (s : Shared) (H : Hp) (us ws : List Value) (vs zs : List V) (Q : VK) (E : XK), Room j A → Env0 P w K mg base A outer s H → Vals vs us → Vals zs ws → vs.length = n → zs.length = ks.length → sp (vs ++ zs) H Q E →
    codeAny (model P w) A (.call (.ref f) ⟨us, ks.zip ws⟩) (CR CX outer P w H s Q E) s
theorem fnOk_rawK {P : Program} {w : World} {K : Frag} {mg : Str → Option Value} {base : Heap} {CX : CXT} {f : Addr} {fd : FuncData} {ps ks : List Str} {sp : Sp} (F : FnOk P w K mg base CX j f fd ps sp) (hb : KBn K fd ps n ks (fun us ws => us ++ ws) (fun vs zs => vs ++ zs)) : FnRK P w K mg base CX j f n ks sp := by
  intro A outer s H us ws vs zs Q E hr e0 r rz l1 l2 hs
  exact F.run A outer s H ⟨us, ks.zip ws⟩ (us ++ ws) (vs ++ zs) Q E hr e0 (hb.to s us ws (e0.mod.kin.keeps fun b o e => (e0.bs b o e).1) (r.length.symm.trans l1) (rz.length.symm.trans l2)) (hb.rel r rz) hs
/-- such a class -/
structure MkD2 (P : Program) (w : World) (K : Frag) (mg : Str → Option Value) (base : Heap) (j : Nat) (x : Str) (Cl : Addr) (ks : List Str) (F : List D → PM (List D)) (b : Str) : Prop where
  ex : ∃ f, mg x = some (.ref Cl) ∧ ObjC K Cl ∧ Mk K Cl f ∧ FnR P w K mg base (L2.CX P w) j f (fun vs H Q E => spI K mg Cl ks 2 F (vs ++ [.non]) H Q E) ∧ FnR P w K mg base (L2.CX P w) j f (fun vs H Q E => spI K mg Cl ks 2 F (vs ++ []) H Q E) ∧
    FnRK P w K mg base (L2.CX P w) j f 2 [b] (spI K mg Cl ks 2 F)
theorem MkD2.one {P : Program} {w : World} {K : Frag} {mg : Str → Option Value} {base : Heap} {x b : Str} {Cl : Addr} {ks : List Str} {F : List D → PM (List D)} (M : MkD2 P w K mg base j x Cl ks F b) : MkC P w K mg base j x Cl (fun vs H Q E => spI K mg Cl ks 2 F (vs ++ [.non]) H Q E) := by
  obtain ⟨f, m1, m2, m3, m4, _⟩ := M.ex
  exact ⟨f, m1, m2, m3, m4⟩
theorem mkD2 {P : Program} {w : World} {K : Frag} {mg : Str → Option Value} {base : Heap} {x q s a b : Str} {Cl : Addr} {st : Stmt} {N ks : List Str} {F : List D → PM (List D)} (CA : ClsAt K mg x Cl q st [.non]) (S : FnScope N [s, a, b] (defScope st)) (hk : k < 32)
    (hb : ∀ (T : Addr) (kV doc pm : Value) (an : Option Addr) (cdv ct : Value) (us its : List Value), us.length = 2 → its.length = [V.non].length →
      ∃ k, bindArgs (fnOf "__init__" q (defArgs st) (defBody st) (defScope st) (.ref T) kV doc pm an cdv ct) ⟨us, []⟩ = seqItems? (.ref T) >>= k ∧ k (some its.toArray) = pure ([s, a, b].zip (us ++ its.drop 0)))
    (hb3 : ∀ (T : Addr) (kV doc pm : Value) (an : Option Addr) (cdv ct : Value) (us its : List Value), us.length = 3 → its.length = [V.non].length →
      ∃ k, bindArgs (fnOf "__init__" q (defArgs st) (defBody st) (defScope st) (.ref T) kV doc pm an cdv ct) ⟨us, []⟩ = seqItems? (.ref T) >>= k ∧ k (some its.toArray) = pure ([s, a, b].zip (us ++ its.drop 1)))
    (hbk : ∀ (T : Addr) (kV doc pm : Value) (an : Option Addr) (cdv ct : Value) (us its ws : List Value), us.length = 2 → its.length = [V.non].length → ws.length = [b].length →
      ∃ k, bindArgs (fnOf "__init__" q (defArgs st) (defBody st) (defScope st) (.ref T) kV doc pm an cdv ct) ⟨us, [b].zip ws⟩ = seqItems? (.ref T) >>= k ∧ k (some its.toArray) = pure ([s, a, b].zip (us ++ ws)))
    (B : ∀ f, InitB P w K mg base Cl f N k 2 q (defBody st) (defScope st) ks F) : MkD2 P w K mg base (k + 1) x Cl ks F b := by
  obtain ⟨f, fd, M, FD⟩ := CA.ex
  obtain ⟨ds, r, bd⟩ := FD.binds1 (ps := [s, a, b]) 2 0 (by simp) rfl hb
  obtain ⟨ds3, r3, bd3⟩ := FD.binds1 (ps := [s, a, b]) 3 1 (by simp) rfl hb3
  obtain ⟨its, kb⟩ := FD.kbindsD (ps := [s, a, b]) 2 [b] (fun us _ ws => us ++ ws) (by simp) (fun r1 _ r2 => r1.append r2) hbk
  have hN : 2 + 1 ≤ N.length := scope_le S
  have ok : FnOk P w K mg base (L2.CX P w) (k + 1) f fd [s, a, b] (spI K mg Cl ks 2 F) := FD.ok S (fun vs H Q E h => by
    obtain ⟨y, dx, G, H1, vs', ds', rfl, _, _, _, _, _, _, r', hn, _⟩ := h
    show vs'.length + 1 = 3
    rw [r'.1, hn]) fun cdv A outer s H vs Q E hr h => (B f).run S.nd hk hN cdv A outer s H vs Q E hr h
  exact ⟨f, CA.mgx, CA.oc, M, ok.raw bd r, ok.raw bd3 r3, fnOk_rawK ok kb⟩
end
end EV
set_option maxHeartbeats 2000000
namespace EV
open PySem PySem.Spec PyProof.Rows L2 PySem.W
mutual
def noC (Cl : Addr) : D → Bool
  | .tup xs => noCL Cl xs
  | .lst xs => noCL Cl xs
  | .dct kvs => kvs.isEmpty
  | .obj C fs => C != Cl && noCF Cl fs
  | .non => true
  | .bl _ => true
  | .int _ => true
  | .str _ => true
  | .cls _ => true
def noCL (Cl : Addr) : List D → Bool
  | [] => true
  | d :: ds => noC Cl d && noCL Cl ds
def noCF (Cl : Addr) : List (Str × D) → Bool
  | [] => true
  | (_, d) :: ds => noC Cl d && noCF Cl ds
end
theorem noCL_at {Cl : Addr} : ∀ {ds : List D} {i : Nat} {d : D}, noCL Cl ds = true → ds[i]? = some d → noC Cl d = true
  | [], i, d, _, e => by simp at e
  | x :: ds, 0, d, h, e => by
    rw [noCL, Bool.and_eq_true] at h
    have e : x = d := by simpa using e
    rw [← e]
    exact h.1
  | x :: ds, i + 1, d, h, e => by
    rw [noCL, Bool.and_eq_true] at h
    exact noCL_at h.2 (by simpa using e)
theorem noCF_at {Cl : Addr} : ∀ {ds : List (Str × D)} {i : Nat} {d : Str × D}, noCF Cl ds = true → ds[i]? = some d → noC Cl d.2 = true
  | [], i, d, _, e => by simp at e
  | (a, x) :: ds, 0, d, h, e => by
    rw [noCF, Bool.and_eq_true] at h
    have e : (a, x) = d := by simpa using e
    rw [← e]
    exact h.1
  | (a, x) :: ds, i + 1, d, h, e => by
    rw [noCF, Bool.and_eq_true] at h
    exact noCF_at h.2 (by simpa using e)
def ers (p : Addr) (G : Hp) : Hp := fun a => if a = p then none else G a
theorem ers_ne {p a : Addr} {G : Hp} (h : a ≠ p) : ers p G a = G a := if_neg h
theorem ers_ho {p a Cl dx : Addr} {fvs : List (Str × V)} {G : Hp} {o : HO} (hp : G p = some (.ins Cl dx fvs)) (e : G a = some o) (n : ∀ fvs, o ≠ .ins Cl dx fvs) : ers p G a = some o := by
  have z : a ≠ p := fun z => by
    rw [z, hp] at e
    exact n fvs (Option.some.inj e).symm
  rw [ers_ne z]
  exact e
theorem Rp.ers {K : PySem.W.Frag} {G : Hp} {p Cl dx : Addr} {fvs : List (Str × V)} (hp : G p = some (.ins Cl dx fvs)) {v : V} {d : D} (h : Rp K G v d) : noC Cl d = true → Rp K (ers p G) v d := by
  induction h with
  | non => exact fun _ => .non
  | bl b => exact fun _ => .bl b
  | int i => exact fun _ => .int i
  | str x => exact fun _ => .str x
  | lst h n _ ih =>
    intro q
    rw [noC] at q
    exact .lst (ers_ho hp h fun _ z => by cases z) n fun i v d e1 e2 => ih i v d e1 e2 (noCL_at q e2)
  | tup h n _ ih =>
    intro q
    rw [noC] at q
    refine .tup ?_ n fun i v d e1 e2 => ih i v d e1 e2 (noCL_at q e2)
    rcases h with (h | ⟨o, h⟩) | h
    · exact .inl (.inl (ers_ho hp h fun _ z => by cases z))
    · exact .inl (.inr ⟨o, ers_ho hp h fun _ z => by cases z⟩)
    · exact .inr h
  | @dct a sh vs kvs h hk n r ih =>
    intro q
    rw [noC] at q
    have q : kvs = [] := List.isEmpty_iff.mp q
    subst q
    refine .dct (sh := sh) (ers_ho hp h fun fv z => ?_) hk n fun i v d e1 e2 => by simp at e2
    cases sh with
    | ins x C dx ks => cases hk
    | _ => cases z
  | @obj a C dx2 fvs2 fs h hc hk r ih =>
    intro q
    rw [noC, Bool.and_eq_true] at q
    exact .obj (ers_ho hp h fun _ z => by
      cases z
      exact absurd q.1 (by simp)) hc hk fun i v d e1 e2 => ih i v d e1 e2 (noCF_at q.2 e2)
  | cls C => exact fun _ => .cls C
end EV
set_option maxHeartbeats 2000000
namespace EV
open PySem PySem.Spec PyProof.Rows L2 PySem.W
section
variable {K : PySem.W.Frag} {pa : Option Addr} {G0 H0 G H G' H' : Hp} {σ : L2.St} {Γ : List Sl} {s s' : List Int} {x Cl dx : Addr} {fvs : List (Str × V)}
theorem ers_self : ers x H x = none := if_pos rfl
theorem ers_some {a : Addr} {o : HO} (e : ers x H a = some o) : a ≠ x ∧ H a = some o := by
  by_cases z : a = x
  · rw [z, ers_self] at e
    cases e
  · rw [ers_ne z] at e
    exact ⟨z, e⟩
theorem tabK_ers (hx : H x = some (.ins Cl dx fvs)) (h : TabK K H) : TabK K (ers x H) := h.keep (fun P ps e => (ers_some e).2) (fun c φ e => ers_ho hx e fun _ z => by cases z) fun P ps e => ers_ho hx e fun _ z => by cases z
/-- the frame without its own instance x -/
theorem Nv.ers {i : Nat} {ks : List Str} {xs : List D} (E : Nv K pa G0 H0 G H σ Γ s) (h : Γ[i]? = some (insS x Cl dx ks xs)) :
    ∃ vs, σ[i]? = some (some (.ref x)) ∧ H x = some (.ins Cl dx (ks.zip vs)) ∧ G x = none ∧ RpL K G vs xs ∧ vs.length = ks.length ∧ ks.length = xs.length ∧ H0 x = none ∧ pa ≠ some x ∧ Nv K pa G0 H0 G (EV.ers x H) σ (Γ.set i .junk) s := by
  obtain ⟨p, vs, h1, h2, h3, h4, h5, h6, h7⟩ := E.x.dic i _ _ h
  have h7 : p = x := h7
  subst h7
  have h2 : H p = some (.ins Cl dx (ks.zip vs)) := h2
  have h5 : ks.length = xs.length := h5
  have hlt := E.lt h
  have hpa : pa ≠ some p := fun z => by
    have q := (E.ps p z).2
    rw [h2] at q
    cases q
  refine ⟨vs, h1, h2, h3, h4, h4.1.trans h5.symm, h5, h6, hpa, ?_⟩
  have back : ∀ {j : Nat} {z : Sl}, z ≠ .junk → (Γ.set i .junk)[j]? = some z → i ≠ j ∧ Γ[j]? = some z := fun {j z} hz e => by
    by_cases hj : i = j
    · subst hj
      rw [List.getElem?_set_self hlt] at e
      exact absurd (Option.some.inj e).symm hz
    · rw [List.getElem?_set_ne hj] at e
      exact ⟨hj, e⟩
  refine ⟨by simp [E.len], fun j d e => E.val j d (back (fun z => by cases z) e).2, fun j ys e => ?_, fun j l q ys zs e1 e2 => E.inj j l q ys zs (back (fun z => by cases z) e1).2 (back (fun z => by cases z) e2).2, fun j e => E.pen j (back (fun z => by cases z) e).2,
    fun j ns e => E.scr j ns (back (fun z => by cases z) e).2, fun q e => ?_, ?_, ⟨fun j s2 zs e => ?_, fun j l q s1 y1 s2 z2 e1 e2 => E.x.inj j l q s1 y1 s2 z2 (back (fun z => by cases z) e1).2 (back (fun z => by cases z) e2).2, fun j s2 zs e => E.x.ro j s2 zs (back (fun z => by cases z) e).2, E.x.t0, E.x.nt⟩⟩
  · obtain ⟨q, ws, q1, q2, q3⟩ := E.own j ys (back (fun z => by cases z) e).2
    exact ⟨q, ws, q1, ers_ho h2 q2 (fun _ z => by cases z), q3⟩
  · obtain ⟨q1, q2⟩ := E.ps q e
    exact ⟨q1, ers_ho h2 q2 fun _ z => by cases z⟩
  · refine ⟨E.ext.g, fun a o e n t => ?_, fun a o e => ?_, E.ext.n, fun a o e => ?_, fun t => tabK_ers h2 (E.ext.tk t), E.ext.gt⟩
    · rw [ers_ne (ne_of_none e h6)]
      exact E.ext.hh a o e n t
    · rw [ers_ne (ne_of_none e h6)]
      exact E.ext.t a o e
    · rw [ers_ne (ne_of_none e h3)]
      exact E.sub a o e
  · obtain ⟨ne, e⟩ := back (fun z => by cases z) e
    obtain ⟨q, ws, q1, q2, q3, q4⟩ := E.x.dic j s2 zs e
    have nq : q ≠ p := fun z => by
      rw [z] at q1
      exact ne (E.x.inj i j p _ _ _ _ h e h1 q1)
    exact ⟨q, ws, q1, by rw [ers_ne nq]; exact q2, q3, q4⟩
end
/-- the end of such a method: the new fields, all else as it was; or an exception, and nothing has changed -/
def OEnd (K : PySem.W.Frag) (W : WX) (mg : Str → Option Value) (x Cl dx : Addr) (ks : List Str) (us0 : List V) (G0 H0 : Hp) (Qn : L2.St → Hp → Prop) : R (List D) → Prop
  | .ok fs _ => ∀ σ' G' H' us, Ext K none G0 (ers x H0) G' H' → H' x = some (.ins Cl dx (ks.zip us)) → G' x = none → RpL K G' us fs → us.length = ks.length → Qn σ' H'
  | .exc e => ∀ cls d σ' G' H', Ext K none (upd G0 x (.ins Cl dx (ks.zip us0))) H0 G' H' → ExcIs K mg G' H' e cls d → W cls d σ' H'
  | .bad => False
theorem OEnd.bind {K : PySem.W.Frag} {W : WX} {mg : Str → Option Value} {x Cl dx : Addr} {ks : List Str} {us0 : List V} {G0 H0 G H : Hp} {Qn : L2.St → Hp → Prop} {σ : L2.St} {α : Type} {m : PM α} {f : α → PM (List D)} {s : List Int}
    (E : Ext K none (upd G0 x (.ins Cl dx (ks.zip us0))) H0 G H) (h : OEnd K W mg x Cl dx ks us0 G0 H0 Qn ((m >>= f) s)) : Pst K W mg none σ (fun _ _ a s' => OEnd K W mg x Cl dx ks us0 G0 H0 Qn (f a s')) G H (m s) := by
  rw [PM.bind_def] at h
  cases e : m s with
  | ok a s1 =>
    rw [e] at h
    exact fun _ _ _ _ => h
  | exc z =>
    rw [e] at h
    exact fun cls dx G' H' y q => h cls dx σ G' H' (E.trans y) q
  | bad => rw [e] at h; exact h
/-- while nothing has changed: x is a value that stands; the base of the frame holds it -/
structure MvS (X : Cx) (x Cl dx : Addr) (ks : List Str) (xs : List D) (Γ : List Sl) (us0 : List V) (G0 H0 G H : Hp) (σ : L2.St) (s : List Int) : Prop where
  g0 : G0 x = none
  h0 : H0 x = some (.ins Cl dx (ks.zip us0))
  l0 : us0.length = ks.length
  r0 : RpL X.K G0 us0 xs
  nv : Nv X.K none (upd G0 x (.ins Cl dx (ks.zip us0))) H0 G H σ Γ s
  me : σ[0]? = some (some (.ref x))
  ar : ∀ (i : Nat) d, i ≠ 0 → Γ[i]? = some (.val d) → ∃ v, σ[i]? = some (some v) ∧ Rp X.K G0 v d
  no : ∀ (i : Nat) z, i ≠ 0 → Γ[i]? = some z → (∃ d, z = .val d) ∨ z = .junk
  t0 : TabK X.K H0
  n0 : NoT G0
  sm : Same G0 H0
section
variable {X : Cx} {W : WX} {Γ : List Sl} {x Cl dx : Addr} {ks : List Str} {xs : List D} {pos : Pos} {rest : List Stmt}
theorem MvS.step {us0 : List V} {G0 H0 G H G' H' : Hp} {σ : L2.St} {s s' : List Int} (M : MvS X x Cl dx ks xs Γ us0 G0 H0 G H σ s) (e : Ext X.K none G H G' H') : MvS X x Cl dx ks xs Γ us0 G0 H0 G' H' σ s' :=
  ⟨M.g0, M.h0, M.l0, M.r0, M.nv.step e (fun _ z => by cases z), M.me, M.ar, M.no, M.t0, M.n0, M.sm⟩
end
end EV
set_option maxHeartbeats 2000000
namespace EV
open PySem PySem.Spec PyProof.Rows L2 PySem.W
section
variable {X : Cx} {W : WX} {Γ : List Sl} {x Cl dx : Addr} {ks : List Str} {xs : List D} {pos : Pos} {rest : List Stmt} {us0 : List V} {G0 H0 G H : Hp} {σ : L2.St} {s : List Int}
theorem MvS.gx (M : MvS X x Cl dx ks xs Γ us0 G0 H0 G H σ s) : G x = some (.ins Cl dx (ks.zip us0)) := M.nv.ext.g _ _ upd_same
theorem MvS.ne (M : MvS X x Cl dx ks xs Γ us0 G0 H0 G H σ s) : NoT (ers x G) := fun P ps e => M.nv.x.nt P ps (ers_some e).2
end
/-- F: from the fields of the instance and the arguments to its new fields -/
def spO (K : PySem.W.Frag) (mg : Str → Option Value) (Cl : Addr) (ks : List Str) (n : Nat) (F : List D → List D → PM (List D)) : Sp := fun vs H Q E => ∃ (x dx : Addr) (G : Hp) (us0 : List V) (xs : List D) (vs' : List V) (ds : List D),
  vs = .ref x :: vs' ∧ H x = some (.ins Cl dx (ks.zip us0)) ∧ us0.length = ks.length ∧ RpL K G us0 xs ∧ G x = none ∧ Same G H ∧ TabK K H ∧ NoT G ∧ RpL K G vs' ds ∧ ds.length = n ∧
    OEnd K (fun cls d _ H' => E cls d H') mg x Cl dx ks us0 G H (fun _ H' => Q .non H') (F xs ds [])
structure CalO (P : Program) (w : World) (K : Frag) (mg : Str → Option Value) (base : Heap) (j : Nat) (Cl : Addr) (m : Str) (ks : List Str) (n : Nat) (F : List D → List D → PM (List D)) : Prop where
  ex : ∃ f fd ps, Meth K Cl m f ∧ FnOk P w K mg base (L2.CX P w) j f fd ps (spO K mg Cl ks n F) ∧ L2.Binds K fd ps []
end EV
set_option maxHeartbeats 2000000
namespace EV
open PySem PySem.Spec PyProof.Rows L2 PySem.W
end EV
set_option maxHeartbeats 2000000
namespace EV
open PySem PySem.Spec PyProof.Rows L2 LamX PySem.W
end EV
set_option maxHeartbeats 2000000
namespace EV
open PySem PySem.Spec PyProof.Rows L2 LamX PySem.W
end EV
set_option maxHeartbeats 2000000
namespace EV
open PySem PySem.Spec PyProof.Rows L2 LamX PySem.W
section
variable {P : Program} {w : World} {K : Frag} {mg : Str → Option Value} {base : Heap} {Cl : Addr} {m q : Str} {st : Stmt} {N ps : List Str} {k n : Nat} {ks : List Str} {F : List D → List D → PM (List D)}
structure CalOC (P : Program) (w : World) (K : Frag) (mg : Str → Option Value) (base : Heap) (j : Nat) (Cl : Addr) (m : Str) (ks : List Str) (n : Nat) (F : List D → List D → PM (List D)) : Prop where
  ex : ∃ f fd ps, Meth K Cl m f ∧ fnIn K f = true ∧ FnOk P w K mg base (L2.CX P w) j f fd ps (spO K mg Cl ks n F) ∧ L2.Binds K fd ps []
theorem CalOC.co {j : Nat} (C : CalOC P w K mg base j Cl m ks n F) : CalO P w K mg base j Cl m ks n F := by
  obtain ⟨f, fd, ps, a, _, b, c⟩ := C.ex
  exact ⟨f, fd, ps, a, b, c⟩
end
end EV
set_option maxHeartbeats 1000000
namespace EV
open PySem PySem.Spec PyProof.Rows L2
end EV
set_option maxHeartbeats 2000000
namespace EV
open PySem PySem.Spec PyProof.Rows L2 LamX PySem.W
end EV
set_option maxHeartbeats 2000000
namespace EV
open PySem PySem.Spec PyProof.Rows L2 PySem.W
end EV
set_option maxHeartbeats 2000000
namespace EV
open PySem PySem.Spec PyProof.Rows L2 PySem.W
/-- a method with the cell __class__, as it stands: its class is D -/
structure FunN (P : Program) (K : Frag) (mg : Str → Option Value) (D : Addr) (m q : Str) (st : Stmt) (dvs : List V) (f : Addr) (fd : FuncData) : Prop where
  ex : ∃ (cc cda : Addr) (oc : Value) (od : Option Addr) (dV kV doc pm : Value) (an : Option Addr) (ct : Value) (osl : Array (Option Value)) (ccl : Value) (cdd : Option Addr) (vs : Array Value) (ccs : Array (Option Value)) (file : Str) (tf : Tok) (cl : Value) (cld : Option Addr) (csl : Array (Option Value)) (cdD : ClassData) (ar : Arg),
    fd = fnX m q (defArgs st) (defBody st) (defScope st) [("__class__", cc)] dV kV doc pm an (.ref cda) ct ∧ K.lookup f = some ⟨oc, od, .func fd, osl⟩ ∧ codeIn K (.ref cda) q = true ∧ L2.DflV K dV dvs ∧
    K.lookup cda = some ⟨ccl, cdd, .fields vs, ccs⟩ ∧ vs[2]? = some (.str file tf) ∧ ((P.main.file : Str) == file) = true ∧ K.lookup cc = some ⟨cl, cld, .cell (some (.ref D)), csl⟩ ∧ clsIn K D = some cdD ∧
    ((defArgs st).posonlyargs ++ (defArgs st).args).head? = some ar ∧ (defScope st).names.lookup ar.arg = some .local
  sup : mg "super" = none
  top : (P.main.scope.names.lookup ("super" : Str)).isSome = false
  any : nsIn K cStatics "thirdparty.any" = some none
  gs : (defScope st).names.lookup ("super" : Str) = some .globalImplicit
  gc : (defScope st).names.lookup ("__class__" : Str) = some .free
  kp : keepIn K (.ref f) = true
theorem FnG.ok {P : Program} {w : World} {K : Frag} {mg : Str → Option Value} {base : Heap} {j : Nat} {f : Addr} {fd : FuncData} {ps : List Str} {sp : Sp} (F : FnG P w K mg base j f fd ps sp) (h : j < 32) : FnOk P w K mg base (L2.CX P w) j f fd ps sp :=
  ⟨F.len, fun A outer s H args us vs Q E hr => F.run A outer s H args us vs Q E (fun z => absurd z (by omega)) hr⟩
end EV
set_option maxHeartbeats 2000000
namespace EV
open PySem PySem.Spec PyProof.Rows L2 PySem.W
section
variable {P : Program} {w : World} {K : Frag} {mg : Str → Option Value} {base : Heap} {Cl D : Addr} {x q : Str} {st : Stmt} {N ps : List Str} {n k : Nat} {ks0 ks : List Str}
theorem FunN.binds1 {m : Str} {dvs : List V} {f : Addr} {fd : FuncData} (F : FunN P K mg D m q st dvs f fd) (n j : Nat) (hd : dvs ≠ []) (hn : n + (dvs.length - j) = ps.length)
    (h : ∀ (cc cda T : Addr) (kV doc pm : Value) (an : Option Addr) (ct : Value) (us its : List Value), us.length = n → its.length = dvs.length →
      ∃ k, bindArgs (fnX m q (defArgs st) (defBody st) (defScope st) [("__class__", cc)] (.ref T) kV doc pm an (.ref cda) ct) ⟨us, []⟩ = seqItems? (.ref T) >>= k ∧ k (some its.toArray) = pure (ps.zip (us ++ its.drop j))) : ∃ ds, Vals (dvs.drop j) ds ∧ L2.Binds K fd ps ds := by
  obtain ⟨cc, cda, oc, od, dV, kV, doc, pm, an, ct, osl, ccl, cdd, vs0, ccs, file, tf, cl, cld, csl, cdD, ar, rfl, lk, hcd, hD, _⟩ := F.ex
  rcases hD with ⟨e, _⟩ | ⟨_, T, o, its, m, rfl, lT, oT, rT⟩
  · exact absurd e hd
  · refine ⟨its.drop j, rT.drop j, fun s us X hlen => ?_⟩
    have l1 : its.length = dvs.length := rT.length.symm
    have l2 : us.length = n := by
      rw [List.length_append, List.length_drop, l1] at hlen
      omega
    obtain ⟨k, e1, e2⟩ := h cc cda T kV doc pm an ct us its l2 l1
    refine BindsTo.of_looks fun M => ?_
    rw [e1]
    exact looks_items X lT oT (.of_pure e2)
end
end EV
set_option maxHeartbeats 2000000
namespace EV
open PySem PySem.Spec PyProof.Rows L2 PySem.W
end EV
set_option maxHeartbeats 2000000
namespace EV
open PySem PySem.Spec PyProof.Rows L2 LamX PySem.W
end EV
set_option maxHeartbeats 2000000
namespace EV
open PySem PySem.Spec PyProof.Rows L2 PySem.W
end EV
set_option maxHeartbeats 2000000
namespace EV
open PySem PySem.Spec PyProof.Rows L2 LamX PySem.W
end EV
set_option maxHeartbeats 2000000
namespace EV
open PySem PySem.Spec PyProof.Rows L2 LamX PySem.W
theorem nf_unp2 {α : Type} {out : α → Out} {kk : D → D → PM α} {d : D} (h : ∀ a b, NF out (kk a b)) : NF out (unp2 kk d) := by
  unfold unp2
  cases dec2 d with
  | none => exact nf_bad
  | some z => exact h _ _
end EV
set_option maxHeartbeats 2000000
namespace EV
open PySem PySem.Spec PyProof.Rows L2 PySem.W
/-- x has the text t, whatever is done between -/
def RK (J : List (Addr × Obj) → Shared → Prop) (C : Nat → Around → Prop) (prog : Program) (w : World) (as : Addr → Prop) (d : Nat) (x : Value) (t : Str) : Prop :=
  ∀ (pins : List (Addr × Obj)) (base : Nat) (A : Around) (g : List Code) (E : Value → Shared → Prop) (s : Shared) (Q : Str → Shared → Prop), base + t.length ≤ sizeLine → A.guards = some g → C d A → (∀ b, as b → Clear g b) → A.units + d < cLine → J pins s →
    (∀ s', J pins s' → Q t s') → wpAny (model prog w) A (pyReprUnder base x) Q E s
section
variable {prog : Program} {w : World} {A : Around} {J : List (Addr × Obj) → Shared → Prop} {C : Nat → Around → Prop}
inductive RKs (J : List (Addr × Obj) → Shared → Prop) (C : Nat → Around → Prop) (prog : Program) (w : World) (as : Addr → Prop) (d : Nat) : List Value → List Str → Prop
  | nil : RKs J C prog w as d [] []
  | cons {x : Value} {t : Str} {l : List Value} {ts : List Str} (h : RK J C prog w as d x t) (r : RKs J C prog w as d l ts) : RKs J C prog w as d (x :: l) (t :: ts)
theorem RKs.len {as : Addr → Prop} {d : Nat} {l : List Value} {ts : List Str} (h : RKs J C prog w as d l ts) : ts.length = l.length := by
  induction h with
  | nil => rfl
  | cons _ _ ih => exact congrArg (· + 1) ih
end
end EV
set_option maxHeartbeats 2000000
namespace EV
open PySem PySem.Spec PyProof.Rows L2 PySem.W
end EV
set_option maxHeartbeats 2000000
namespace EV
open PySem PySem.Spec PyProof.Rows L2 PySem.W
section
variable {X : Cx} {pins pins0 : List (Addr × Obj)} {σ : L2.St} {H : Hp} {N : Hp → Prop} {s : Shared} {j : Nat}
/-- what must lie around, for a def of level j under so many displays -/
def CA (X : Cx) (j d : Nat) (A : Around) : Prop := A.frames = X.A.frames ∧ A.handled = none ∧ A.depth + (d - (16 * j + 200)) + 3 * j + 5 < recursionLimit
end
end EV
set_option maxHeartbeats 1000000
namespace EV
open PySem PySem.Spec PyProof.Rows L2
end EV
set_option maxHeartbeats 2000000
namespace EV
open PySem PySem.Spec PyProof.Rows L2 PySem.W
abbrev ReprT := Addr → Option (List D → PM D)
mutual
def ht : D → Nat
  | .tup xs => htL xs + 1
  | .lst xs => htL xs + 1
  | .dct _ => 2
  | .obj _ _ => 0
  | .cls _ => 0
  | .non => 0
  | .bl _ => 0
  | .int _ => 0
  | .str _ => 0
def htL : List D → Nat
  | [] => 0
  | x :: xs => max (ht x) (htL xs)
end
section
variable {X : Cx} {pins pins0 : List (Addr × Obj)} {σ : L2.St} {H H0 G0 : Hp} {s s0 : Shared} {T : ReprT} {j : Nat} {pa : Option Addr}
/-- what repr of an instance of these classes promises -/
def TOk (X : Cx) (j : Nat) (T : ReprT) : Prop := ∀ C F, T C = some F → ∃ ps, CalM X.prog X.w X.K X.mg X.base j C "__repr__" ps (spF X.K X.mg false 1 F)
end
end EV
set_option maxHeartbeats 2000000
namespace EV
open PySem PySem.Spec PyProof.Rows L2 PySem.W
section
variable {X : Cx} {W : WX} {pa : Option Addr} {Γ : List Sl} {j k : Nat} {pos : Pos}
theorem TOk.none {X : Cx} {j : Nat} : TOk X j (fun _ => Option.none) := fun _ _ h => by cases h
theorem TOk.put {X : Cx} {j : Nat} {T : ReprT} {Cl : Addr} {F : List D → PM D} {ps : List Str} (M : CalM X.prog X.w X.K X.mg X.base j Cl "__repr__" ps (spF X.K X.mg false 1 F)) (h : TOk X j T) : TOk X j (fun C => if C = Cl then some F else T C) := fun C G e => by
  by_cases hc : C = Cl
  · subst hc
    have e : (if C = C then some F else T C) = some G := e
    rw [if_pos rfl] at e
    cases e
    exact ⟨ps, M⟩
  · have e : (if C = Cl then some F else T C) = some G := e
    rw [if_neg hc] at e
    exact h C G e
end
end EV
set_option maxHeartbeats 2000000
namespace EV
open PySem PySem.Spec PyProof.Rows L2
def repS (k : Nat) (x : Str) : Str := ⟨((List.replicate k x.cps.toList).flatten).toArray⟩
theorem foldl_cps (c : Array Nat) : ∀ (n : Nat) (acc : Array Nat), (List.replicate n c).foldl (· ++ ·) acc = (acc.toList ++ (List.replicate n c.toList).flatten).toArray
  | 0, acc => by simp
  | n + 1, acc => by
    rw [List.replicate_succ, List.foldl_cons, foldl_cps c n, List.replicate_succ, List.flatten_cons]
    simp
def mulS : D → D → PM D
  | .str x, .int k => if 2 ≤ k ∧ k ≤ 1000 ∧ 1 ≤ x.length ∧ x.length ≤ 100 then pure (.str (repS k.toNat x)) else bad
  | _, _ => bad
theorem od_mulS {X : Cx} : OpD X (binaryOp .Mult) mulS := by
  refine ⟨fun x y H Q => ∃ z k, x = .str z ∧ y = .int k ∧ (2 ≤ k ∧ k ≤ 1000 ∧ 1 ≤ z.length ∧ z.length ≤ 100) ∧ Q (.str (repS k.toNat z)) H, ?_, fun W pa σ G H s x y a b Q hs hp ra rb P => ?_⟩
  · intro pins s σ H x y v u Q I rx ry h
    obtain ⟨z, k, rfl, rfl, ⟨c1, c2, c3, c4⟩, q⟩ := h
    obtain ⟨t, rfl⟩ := rx
    obtain ⟨t', rfl⟩ := ry
    have hk : k.toNat ≤ 1000 := by omega
    have hz : z.length * k.toNat ≤ 100 * 1000 := Nat.mul_le_mul c4 hk
    refine PySem.P.mul_str (by rw [decide_eq_false (by omega), decide_eq_false (by omega)]; rfl) (fun _ _ h => ?_) (fun _ _ => ?_) ?_
    · have e : (z.length : Int) * k = ((z.length * k.toNat : Nat) : Int) := by
        rw [Int.natCast_mul, Int.toNat_of_nonneg (by omega)]
      have : (z.length : Int) ≤ (2 ^ 63 - 1) / k := Int.le_ediv_of_mul_le (by omega) (by rw [e]; omega)
      omega
    · unfold Builtin.Str.tooLong
      refine decide_eq_false ?_
      rw [sizeLine_eq]
      omega
    · rw [if_neg (by omega), if_neg (by simp; omega), foldl_cps]
      refine ⟨?_, .str (repS k.toNat z), H, I.tok _, ⟨_, rfl⟩, q⟩
      show (((#[] : Array Nat).toList ++ (List.replicate k.toNat z.cps.toList).flatten).toArray).size ≤ sizeLine
      rw [List.size_toArray, List.length_append, List.length_flatten, List.map_replicate, List.sum_replicate_nat, sizeLine_eq]
      have : z.cps.toList.length = z.length := by simp [Str.length]
      rw [this, Nat.mul_comm]
      simp
      omega
  · cases ra with
    | str z =>
      cases rb with
      | int k =>
        have P : Pst X.K W X.mg pa σ (FD X.K Q) G H ((if 2 ≤ k ∧ k ≤ 1000 ∧ 1 ≤ z.length ∧ z.length ≤ 100 then pure (.str (repS k.toNat z)) else bad : PM D) s) := P
        by_cases g : 2 ≤ k ∧ k ≤ 1000 ∧ 1 ≤ z.length ∧ z.length ≤ 100
        · rw [if_pos g] at P
          exact ⟨z, k, rfl, rfl, g, P G H (Ext.refl hs) hp _ (.str _)⟩
        · rw [if_neg g] at P
          exact P.elim
      | _ => exact P.elim
    | _ => exact P.elim
end EV
set_option maxHeartbeats 2000000
namespace EV
open PySem PySem.Spec PyProof.Rows L2 PySem.W
section
variable {X : Cx} {W : WX} {pa : Option Addr} {Γ : List Sl} {pos p1 : Pos}
theorem ev_dict1 {i : Int} {j : Tok} {e : Expr} {m : PM D} (he : EV X W pa Γ e m) : EV X W pa Γ (.Dict [some (.Constant (.int i) j p1)] [e] pos) (m >>= fun d => pure (.dct [(.int i, d)])) :=
  pe_imp (pe_disp (pps_cons (pe_int (i := i)) he pps_nil) rfl rfl (by simp) (by show 1 ≤ 15; decide)) fun σ H Q ⟨G0, H0, G, s, E, P⟩ p np => by
  have gp : G p = none := E.sub.free np
  have x0 : Ext X.K pa G H G (upd H p (.dK [])) := Ext.newH E.sub np (.dK [])
  have p0 : PenOk pa G (upd H p (.dK [])) s := E.ps.updH np _
  have pq : pa ≠ some p := fun z => by
    have := (E.ps p z).2
    rw [np] at this
    cases this
  refine ⟨G0, H0, G, s, E.step x0 p0, ?_⟩
  rw [PM.bind_def] at P
  cases q : m s with
  | bad =>
    rw [q] at P
    exact P.elim
  | exc z =>
    rw [q] at P
    exact fun cls dx G' H' y w => P cls dx G' H' (x0.trans y) w
  | ok d s1 =>
    rw [q] at P
    intro G1 H1 x1 p1 v rv
    have hp : H1 p = some (.dK []) := x1.h p _ upd_same pq
    have gp1 : G1 p = none := x1.n p _ upd_same gp
    refine ⟨hp, [(.inl i, v)], rfl, (by show 1 ≤ 15; decide), ?_⟩
    have x := x0.trans x1
    have sg : Same G1 (upd G1 p (.dK [(.inl i, v)])) := fun a o e => by
      rw [upd_ne (ne_of_none e gp1)]
      exact e
    have y : Ext X.K pa G H (upd G1 p (.dK [(.inl i, v)])) (upd H1 p (.dK [(.inl i, v)])) := by
      refine ⟨x.g.trans sg, fun a o e n t => ?_, fun a o e => ?_, fun a o e n => ?_, fun a o e => ?_, fun h => (x.tk h).upd (fun _ z => by cases z) (fun φ z => ?_) (fun φ z => ?_), fun h => (x.gt h).upd (fun _ z => by cases z)⟩
      · rw [upd_ne (ne_of_none e np)]
        exact x.hh a o e n t
      · rw [upd_ne (ne_of_none e np)]
        exact x.t a o e
      · rw [upd_ne (ne_of_none e np)]
        exact x.n a o e n
      · by_cases h : a = p
        · subst h
          rw [upd_same] at e ⊢
          exact e
        · rw [upd_ne h] at e ⊢
          exact x.sub a o e
      · rw [hp] at z
        cases z
      · rw [hp] at z
        cases z
    refine P _ _ y (fun b e => ?_) _ (.dct (sh := .k [i]) (vs := [v]) upd_same rfl rfl fun n v' d' e1 e2 => ?_)
    · obtain ⟨q1, q2⟩ := p1 b e
      have ne : b ≠ p := fun z => pq (z ▸ e)
      rw [upd_ne ne, upd_ne ne]
      exact ⟨q1, q2⟩
    · cases n with
      | zero =>
        cases e1
        cases e2
        exact rv.mono sg
      | succ n => simp at e1
end
end EV
set_option maxHeartbeats 2000000
namespace EV
open PySem PySem.Spec PyProof.Rows L2 PySem.W
end EV
set_option maxHeartbeats 1000000
namespace EV
open PySem PySem.Spec PyProof.Rows L2
/-- the same to look at, but nobody may wake it -/
def pzG : GenState → GenState
  | .suspended _ l c p fs cl => .suspended (fun _ => .unsupported "") l c p fs cl
  | x => x
def isSus : GenState → Bool
  | .suspended .. => true
  | _ => false
structure GoodB (B : Nat → Option GenState) (s : Shared) : Prop where
  sl : ∀ i r, B i = some r → isSus r = true ∧ s.gens[i]? = some (pzG r)
  ot : ∀ i k l c p fs cl, B i = none → s.gens[i]? = some (.suspended k l c p fs cl) → splitAtGen fs = none
section
variable {B : Nat → Option GenState} {s : Shared}
theorem GoodB.set (h : GoodB B s) {g : Nat} {x : GenState} (hg : B g = none) (hx : ∀ k l c p fs cl, x = .suspended k l c p fs cl → splitAtGen fs = none) : GoodB B (s.setGen g x) := by
  refine ⟨fun i r e => ?_, fun i k l c p fs cl e q => ?_⟩
  · have ne : i ≠ g := fun z => by rw [z, hg] at e; cases e
    obtain ⟨h1, h2⟩ := h.sl i r e
    refine ⟨h1, ?_⟩
    show (s.gens.setIfInBounds g x)[i]? = _
    rw [Array.getElem?_setIfInBounds_ne (Ne.symm ne)]
    exact h2
  · have q : (s.gens.setIfInBounds g x)[i]? = some (.suspended k l c p fs cl) := q
    by_cases hi : i = g
    · subst hi
      by_cases hl : i < s.gens.size
      · rw [Array.getElem?_setIfInBounds_self_of_lt hl] at q
        exact hx _ _ _ _ _ _ (Option.some.inj q)
      · rw [Array.getElem?_eq_none (by rw [Array.size_setIfInBounds]; omega)] at q
        cases q
    · rw [Array.getElem?_setIfInBounds_ne (Ne.symm hi)] at q
      exact h.ot i _ _ _ _ _ _ e q
theorem GoodB.size_none (h : GoodB B s) : B s.gens.size = none := by
  cases q : B s.gens.size with
  | none => rfl
  | some r =>
    obtain ⟨_, h2⟩ := h.sl _ r q
    rw [Array.getElem?_eq_none (Nat.le_refl _)] at h2
    cases h2
theorem GoodB.push (h : GoodB B s) {x : GenState} (hx : isSus x = false) : GoodB B { s with gens := s.gens.push x } := by
  refine ⟨fun i r e => ?_, fun i k l c p fs cl e q => ?_⟩
  · obtain ⟨h1, h2⟩ := h.sl i r e
    refine ⟨h1, ?_⟩
    have ne : i ≠ s.gens.size := fun z => by rw [z, h.size_none] at e; cases e
    show (s.gens.push x)[i]? = _
    rw [Array.getElem?_push, if_neg ne]
    exact h2
  · have q : (s.gens.push x)[i]? = some (.suspended k l c p fs cl) := q
    rw [Array.getElem?_push] at q
    by_cases hi : i = s.gens.size
    · rw [if_pos hi] at q
      cases Option.some.inj q
      cases hx
    · rw [if_neg hi] at q
      exact h.ot i _ _ _ _ _ _ e q
end
end EV
set_option maxHeartbeats 1000000
namespace EV
open PySem PySem.Spec PyProof.Rows L2 GenW
/-- what a generator def hands out of its arguments, its exceptions too -/
def spGx (K : PySem.W.Frag) (mg : Str → Option Value) (n : Nat) (f : List D → PM (List D)) : SpG := fun vs H Q E => ∃ (G : Hp) (ds : List D), (Same G H ∧ TabK K H ∧ NoT G) ∧ RpL K G vs ds ∧ ds.length = n ∧
  Pst K (fun cls d _ H => E cls d H) mg none [] (FL K Q) G H (f ds [])
section
variable {P : Program} {w : World} {K : PySem.W.Frag} {mg : Str → Option Value} {base : Heap} {x qual : Str} {st : Stmt} {f : Addr} {fd : FuncData} {N ps : List Str} {k n : Nat}
theorem fn_genX {F : List D → PM (List D)} (hk : k < 32) (FU : Fun K x qual st f fd) (S : GScope N ps (defScope st)) (hps : ps.length = n)
    (hb : ∀ (cdv : Value) (A : Around) (outer : List PySem.Env) (s : Shared) (H : Hp) (E : XK) (pn : List (Addr × Obj)), Cok (gcxOf P w K mg base N qual (defScope st) f cdv A outer s H E pn) (fun cls d _ H => E cls d H) k → ∀ ds : List D, ds.length = n →
      GSs (gcxOf P w K mg base N qual (defScope st) f cdv A outer s H E pn) (defBody st) (gbT (gcxOf P w K mg base N qual (defScope st) f cdv A outer s H E pn) (fun cls d _ H => E cls d H) none (slots0 N ds) (F ds))) :
    GFn P w K mg base (k + 1) f fd ps (spGx K mg n F) := by
  obtain ⟨oc, od, kV, doc, pm, an, cdv, ct, osl, rfl, lk, hcd⟩ := FU.ex
  refine gfn_of lk hcd S (fun vs H Q E h => ?_) fun A outer s H vs Q E pn hr h => ?_
  · obtain ⟨G, ds, _, r, hn, _⟩ := h
    rw [r.1, hn, hps]
  · obtain ⟨G, ds, hs, r, hn, hP⟩ := h
    have C : Cok (gcxOf P w K mg base N qual (defScope st) f cdv A outer s H E pn) (fun cls d _ H => E cls d H) k := ⟨rfl, S.nd, takes_gcx, hr, fun q => absurd q (by omega), owns_gcx⟩
    refine ⟨_, hb cdv A outer s H E pn C ds hn, rfl, G, H, G, [], nv_start0 hs r (by rw [r.1, hn, ← hps]; exact gscope_le S), ?_⟩
    cases q : F ds [] with
    | ok a s => rw [q] at hP; exact fun G' H' y p vs r σ' => hP G' H' y p vs r
    | exc z => rw [q] at hP; exact fun cls dx G' H' y z => hP cls dx G' H' y z
    | bad => rw [q] at hP; exact hP.elim
theorem mk_genX {F : List D → PM (List D)} (hk : k < 32) (FA : FunAt K mg x st) (S : GScope N ps (defScope st)) (hps : ps.length = n)
    (hbd : ∀ (kV doc pm : Value) (an : Option Addr) (cdv ct : Value) (us : List Value), us.length = ps.length → bindArgs (PySem.W.fnOf x x (defArgs st) (defBody st) (defScope st) .none kV doc pm an cdv ct) ⟨us, []⟩ = pure (ps.zip us))
    (hb : ∀ (f : Addr) (cdv : Value) (A : Around) (outer : List PySem.Env) (s : Shared) (H : Hp) (E : XK) (pn : List (Addr × Obj)), Cok (gcxOf P w K mg base N x (defScope st) f cdv A outer s H E pn) (fun cls d _ H => E cls d H) k → ∀ ds : List D, ds.length = n →
      GSs (gcxOf P w K mg base N x (defScope st) f cdv A outer s H E pn) (defBody st) (gbT (gcxOf P w K mg base N x (defScope st) f cdv A outer s H E pn) (fun cls d _ H => E cls d H) none (slots0 N ds) (F ds))) :
    CalG P w K mg base (k + 1) x ps (spGx K mg n F) := by
  obtain ⟨f, fd, FU, hm⟩ := FA.ex
  exact ⟨f, fd, fn_genX hk FU S hps (hb f), hm, FU.kp, FU.binds hbd⟩
end
/-- an exception of another name: the walk promises nothing -/
def onlyE {α : Type} (ns : List Str) (m : PM α) : PM α := fun s => match m s with
  | .exc e => if ns.contains e.name = true then .exc e else .bad
  | r => r
def NoStopN (K : PySem.W.Frag) (mg : Str → Option Value) (ns : List Str) : Prop := ∀ n ∈ ns, ∀ cls, mg n = some cls → PySem.W.subIn K cls (.type "StopIteration") = some false
theorem NoStopN.nil {K : PySem.W.Frag} {mg : Str → Option Value} : NoStopN K mg [] := fun n m => nomatch m
theorem NoStopN.cons {K : PySem.W.Frag} {h : Heap} {mg : Str → Option Value} {n : Str} {ns : List Str} {C : Addr} (X : K.In h) (G : h.Ns mainGlobals mg) (a : PySem.W.nsIn K mainGlobals n = some (some (.ref C)))
    (b : (PySem.W.subIn K (.ref C) (.type "StopIteration") == some false) = true) (t : NoStopN K mg ns) : NoStopN K mg (n :: ns) := fun m hm cls e => by
  rcases List.mem_cons.mp hm with rfl | hm
  · have e' := PySem.W.mg_of X G a
    rw [e] at e'
    cases e'
    exact eq_of_beq b
  · exact t m hm cls e
theorem onlyE_ok {α : Type} {ns : List Str} {a : α} : onlyE ns (pure a) = pure a := rfl
theorem onlyE_raise {α : Type} {ns : List Str} {e : Ex} (h : ns.contains e.name = true) : onlyE ns (raiseP e : PM α) = raiseP e := funext fun s => if_pos h
section
variable {X : Cx} {W : WX} {pa : Option Addr} {Γ : List Sl} {k : Nat} {pos pos' p p2 : Pos}
theorem ev_listGX {x nm : Str} {n : Nat} {F : List D → PM (List D)} {ps : List Str} {j : Nat} {e : Expr} {es : List Expr} {ml : PM (List D)} {ns : List Str} (C : Cok X W k) (FC : CalG X.prog X.w X.K X.mg X.base j x ps (spGx X.K X.mg n F)) (hn : ∀ ds, ds.length ≠ n → F ds [] = .bad)
    (hW : ∀ cls d σ σ' H, W cls d σ H → W cls d σ' H) (NS : NoStopN X.K X.mg ns)
    (hgl : Gl X nm) (hml : X.mg nm = none) (hvl : bootBuiltins nm = some (.type "list"))
    (ha : EL X W pa Γ (e :: es) ml) (hj : j + 3 ≤ k := by decide) (hg : Gl X x := by rfl) (hdb : (x == ("__debug__" : Str)) = false := by decide) (hnm : nm ≠ "__name__" := by decide) (hdbl : (nm == ("__debug__" : Str)) = false := by decide)
    (he : starEach (e :: es) X.env = (false, eval e X.env) :: starEach es X.env := by rfl) (hpl : (backTo pos' (starEach es X.env)).any (·.1) = false := by rfl)
    (hel : starEach [Expr.Call (.Name x p2) (e :: es) [] pos'] X.env = (false, eval (Expr.Call (.Name x p2) (e :: es) [] pos') X.env) :: starEach [] X.env := by rfl) :
    EV X W pa Γ (.Call (.Name nm p) [.Call (.Name x p2) (e :: es) [] pos'] [] pos) (ml >>= fun ds => onlyE ns (run0 (F ds)) >>= mkL) := by
  obtain ⟨f, fd, FG, hm, hk, hb⟩ := FC.ex
  have g := pgen_call (E := fun cls d H => (∃ σ, W cls d σ H) ∧ ∃ m ∈ ns, X.mg m = some cls) (p := p2) (pos' := pos') FG (C.room.mono (by omega)) hg hm hk hb (ds := []) (dvs := []) .nil ha hdb he hpl
  refine pe_imp (pe_listG (p := p) (pos := pos) g (passes_call C.takes fun cls d σ H ⟨⟨σ', h⟩, _⟩ => hW _ _ _ _ _ h) (fun cls d H ⟨_, m, hm, e⟩ => NS m hm cls e) (C.room.mono hj) hgl hml hvl hnm hdbl hel) fun σ H Q ⟨G0, H0, G, s, E, P⟩ =>
    ⟨G0, H0, G, s, E, P.bind.imp fun G1 H1 ds s1 x1 p1 P1 vs r => ⟨G1, ds, ⟨x1.sub, x1.tk E.tk, x1.gt E.x.nt⟩, by rw [List.append_nil]; exact r, ?_, ?_⟩⟩
  · by_cases hl : ds.length = n
    · exact hl
    · rw [PM.bind_def] at P1
      unfold onlyE run0 at P1
      rw [hn ds hl] at P1
      exact P1.elim
  · rw [PM.bind_def] at P1
    unfold onlyE run0 at P1
    cases q : F ds [] with
    | ok xs s2 =>
      rw [q] at P1
      exact fun G' H' y _ vs r p np => mkL_use ((P1 : Pst X.K W X.mg pa σ (FD X.K Q) G1 H1 (mkL xs s1)).mono y.any) r y.sub (p1.ext y) np
    | exc z =>
      rw [q] at P1
      dsimp only at P1
      by_cases hz : ns.contains z.name = true
      · rw [if_pos hz] at P1
        have P1 : ∀ cls dx G' H', Ext X.K pa G1 H1 G' H' → ExcIs X.K X.mg G' H' z cls dx → W cls dx σ H' := P1
        intro cls dx G' H' y ei
        exact ⟨⟨σ, P1 cls dx G' H' y.any ei⟩, z.name, by simpa using hz, ei.1⟩
      · rw [if_neg hz] at P1
        exact P1.elim
    | bad => rw [q] at P1; exact P1.elim
end
end EV
set_option maxHeartbeats 1000000
namespace EV
open PySem PySem.Spec PyProof.Rows L2 GenW
/-- a segment ends by a result, or v is handed out and it sleeps -/
def EndIs (Ret : Result → Shared → Prop) (Sus : Value → GenState → Shared → Prop) : End → Shared → Prop
  | .ret r, s => Ret r s
  | .susp v g l k c p fs, s => g = false ∧ fs.any Frame.guarded = false ∧ Sus v (.suspended k l c p fs false) s
def Sg (M : Model) (A : Around) (Ret : Result → Shared → Prop) (Sus : Value → GenState → Shared → Prop) (c : Code) (t : Sem PySem.Fin) (fs : List Frame) (s : Shared) : Prop :=
  ∀ (Γ : PySem.Ctx) (p : Pos), Γ.code = c → Γ.Woken A → ∃ e s', Runs M Γ p t fs s e s' ∧ EndIs Ret Sus e s'
end EV
set_option maxHeartbeats 1000000
namespace EV
open PySem PySem.Spec PyProof.Rows L2 GenW
end EV
set_option maxHeartbeats 2000000
namespace EV
open PySem PySem.Spec PyProof.Rows L2 GenW
end EV
set_option maxHeartbeats 1000000
namespace EV
open PySem PySem.Spec PyProof.Rows L2 GenW
/-- the sleepers sleep on -/
def Sleep (s s' : Shared) : Prop := ∀ (g : Nat) (gs : GenState), isSus gs = true → s.gens[g]? = some gs → s'.gens[g]? = some gs
theorem Sleep.trans {a b c : Shared} (h : Sleep a b) (k : Sleep b c) : Sleep a c := fun g gs e q => k g gs e (h g gs e q)
theorem Sleep.of_eq {a b : Shared} (h : b.gens = a.gens) : Sleep a b := fun g gs _ q => by rw [h]; exact q
/-- the same place, where nothing is raised -/
abbrev nxC (X : Cx) : Cx := { X with xe := fun _ _ => False }
end EV
set_option maxHeartbeats 2000000
namespace EV
open PySem PySem.Spec PyProof.Rows L2 GenW
end EV
set_option maxHeartbeats 2000000
namespace EV
open PySem PySem.Spec PyProof.Rows L2 GenW
/-- what may have come since -/
structure Since (H0 : Hp) (n0 : Nat) (H : Hp) : Prop where
  le : ∀ b u, H0 b = some u → H b = some u
  new : ∀ b, b < n0 → H0 b = none → H b = none
  tb : ∀ b ps, H b = some (.tbl ps) → H0 b = some (.tbl ps)
theorem Since.refl (H : Hp) (n : Nat) : Since H n H := ⟨fun _ _ e => e, fun _ _ e => e, fun _ _ e => e⟩
theorem Since.lst {H : Hp} {n : Nat} {a : Addr} {xs : List V} (h : H a = none) (hn : n ≤ a) : Since H n (upd H a (.lst xs)) :=
  ⟨fun b u e => by rw [upd_ne (ne_of_none e h)]; exact e, fun b hb e => by rw [upd_ne (Nat.ne_of_lt (Nat.lt_of_lt_of_le hb hn))]; exact e, fun b ps e => by
    by_cases q : b = a
    · subst q
      rw [upd_same] at e
      cases e
    · rw [upd_ne q] at e
      exact e⟩
end EV
set_option maxHeartbeats 2000000
namespace EV
open PySem PySem.Spec PyProof.Rows L2 GenW
end EV
set_option maxHeartbeats 2000000
namespace EV
open PySem PySem.Spec PyProof.Rows L2 GenW
theorem Cok.nx {X : Cx} {W : WX} {k : Nat} (C : Cok X W k) : Cok (nxC X) W0 k where
  calm := C.calm
  nd := C.nd
  takes := takes0
  room := C.room
  guards := C.guards
  passes := PassesOwn.never
end EV
set_option maxHeartbeats 1000000
namespace EV
open PySem PySem.Spec PyProof.Rows L2
end EV
namespace EV
open PySem PySem.Spec PyProof.Rows L2
end EV
namespace EV
open PySem PySem.Spec PyProof.Rows L2
end EV
namespace EV
open PySem PySem.Spec PyProof.Rows L2 PySem.W
end EV
set_option maxHeartbeats 2000000
namespace EV
open PySem PySem.Spec PyProof.Rows L2 PySem.W
end EV
set_option maxHeartbeats 2000000
namespace EV
open PySem PySem.Spec PyProof.Rows L2 PySem.W
end EV
set_option maxHeartbeats 2000000
namespace EV
open PySem PySem.Spec PyProof.Rows L2 PySem.W
section
variable {X : Cx} {W : WX} {pa : Option Addr} {Γ : List Sl} {k j n : Nat} {pos : Pos}
structure EqS (X : Cx) (j : Nat) (F : Addr → List D → PM D) (low : Addr → Addr → Bool) (S : List Addr) : Prop where
  ne : ∃ C, C ∈ S
  cal : ∀ C ∈ S, ∃ ps, CalM X.prog X.w X.K X.mg X.base j C "__eq__" ps (spF X.K X.mg false 2 (F C))
  ar : ∀ C ∈ S, Arity 2 (F C)
  c : ∀ C ∈ S, EqC X.K C
  r : ∀ C ∈ S, EqR X.K C
  hi : ∀ C ∈ S, ∀ C' ∈ S, low C' C = false → notFirst X.K C (.ref C') = true
  lo : ∀ C ∈ S, ∀ C' ∈ S, low C' C = true → C ≠ C' ∧ subIn X.K (.ref C') (.ref C) = some true
end
end EV
set_option maxHeartbeats 2000000
namespace EV
open PySem PySem.Spec PyProof.Rows L2 PySem.W
end EV
set_option maxHeartbeats 2000000
namespace EV
open PySem PySem.Spec PyProof.Rows L2 PySem.W
/-- the class, the attributes' names and values of the new instance -/
abbrev NI : Type := Addr × List Str × List D
end EV
set_option maxHeartbeats 2000000
namespace EV
open PySem PySem.Spec PyProof.Rows L2 PySem.W
end EV
set_option maxHeartbeats 2000000
namespace EV
open PySem PySem.Spec PyProof.Rows L2 PySem.W
end EV
set_option maxHeartbeats 2000000
namespace EV
open PySem PySem.Spec PyProof.Rows L2 PySem.W
/-- as EqS, no context in sight -/
structure EqS0 (P : Program) (w : World) (K : Frag) (mg : Str → Option Value) (base : Heap) (j : Nat) (F : Addr → List D → PM D) (low : Addr → Addr → Bool) (S : List Addr) : Prop where
  ne : ∃ C, C ∈ S
  cal : ∀ C ∈ S, ∃ ps, CalM P w K mg base j C "__eq__" ps (spF K mg false 2 (F C))
  ar : ∀ C ∈ S, Arity 2 (F C)
  c : ∀ C ∈ S, EqC K C
  r : ∀ C ∈ S, EqR K C
  hi : ∀ C ∈ S, ∀ C' ∈ S, low C' C = false → notFirst K C (.ref C') = true
  lo : ∀ C ∈ S, ∀ C' ∈ S, low C' C = true → C ≠ C' ∧ subIn K (.ref C') (.ref C) = some true
theorem EqS0.to {X : Cx} {j : Nat} {F low S} (E : EqS0 X.prog X.w X.K X.mg X.base j F low S) : EqS X j F low S := ⟨E.ne, E.cal, E.ar, E.c, E.r, E.hi, E.lo⟩
end EV
set_option maxHeartbeats 2000000
namespace EV
open PySem PySem.Spec PyProof.Rows L2 PySem.W
end EV
set_option maxHeartbeats 2000000
namespace EV
open PySem PySem.Spec PyProof.Rows L2 PySem.W
/-- new instances, none public, none in Hb, all different -/
inductive NewAt (K : Frag) (Hb G H : Hp) : List Addr → List NI → Prop
  | nil : NewAt K Hb G H [] []
  | cons {a dx : Addr} {us : List V} {r : NI} {as : List Addr} {rs : List NI} (h : H a = some (.ins r.1 dx (r.2.1.zip us))) (g : G a = none) (b : Hb a = none) (p : RpL K G us r.2.2) (l : us.length = r.2.1.length) (n : a ∉ as) (t : NewAt K Hb G H as rs) : NewAt K Hb G H (a :: as) (r :: rs)
section
variable {K : Frag} {Hb Hb' G H G' H' : Hp} {as : List Addr} {rs : List NI} {x : Addr}
theorem NewAt.len (h : NewAt K Hb G H as rs) : as.length = rs.length := by
  induction h with
  | nil => rfl
  | cons _ _ _ _ _ _ _ ih => rw [List.length_cons, List.length_cons, ih]
theorem NewAt.base (h : NewAt K Hb G H as rs) (s : ∀ x, Hb x = none → Hb' x = none) : NewAt K Hb' G H as rs := by
  induction h with
  | nil => exact .nil
  | cons h g b p l n _ ih => exact .cons h g (s _ b) p l n ih
theorem NewAt.free (h : NewAt K Hb G H as rs) {a : Addr} (m : a ∈ as) : Hb a = none ∧ ∃ C dx fvs, H a = some (.ins C dx fvs) := by
  induction h with
  | nil => cases m
  | cons h g b p l n _ ih =>
    cases m with
    | head => exact ⟨b, _, _, _, h⟩
    | tail _ m => exact ih m
/-- they stay -/
theorem NewAt.step (h : NewAt K Hb G H as rs) (hx : ∀ a ∈ as, ∀ o, H a = some o → (∀ ps, o ≠ .tbl ps) → G a = none → H' a = some o ∧ G' a = none) (g : Same G G') : NewAt K Hb G' H' as rs := by
  induction h with
  | nil => exact .nil
  | cons h g0 b p l n _ ih =>
    obtain ⟨q1, q2⟩ := hx _ List.mem_cons_self _ h (fun _ z => by cases z) g0
    exact .cons q1 q2 b (p.mono g) l n (ih fun a m => hx a (List.mem_cons_of_mem _ m))
end
end EV
set_option maxHeartbeats 2000000
namespace EV
open PySem PySem.Spec PyProof.Rows L2 PySem.W
end EV
set_option maxHeartbeats 2000000
namespace EV
open PySem PySem.Spec PyProof.Rows L2 PySem.W
end EV
set_option maxHeartbeats 2000000
namespace EV
open PySem PySem.Spec PyProof.Rows L2 PySem.W
end EV
set_option maxHeartbeats 2000000
namespace EV
open PySem PySem.Spec PyProof.Rows L2 PySem.W
end EV
namespace EV
open PySem PySem.Spec PyProof.Rows PySem.W PySem.SeqAt L2
end EV
namespace EV
open PySem PySem.Spec PyProof.Rows L2 PySem.W
def Mk4 (m : Nat) : Prop := MaskOk m ∨ m = 511
theorem Mk4.odd {m : Nat} (h : Mk4 m) : m % 2 = 1 := by
  rcases h with h | rfl
  · exact mask_odd h
  · rfl
def orb : Nat → Nat → List Nat
  | 0, _ => []
  | f + 1, x => x :: orb f ((x * 5 + 1) % 512)
theorem lcgI_out (x : Nat) : ∀ k, lcgI 511 ((x * 5 + 1) % 512) k = lcgI 511 x (k + 1)
  | 0 => rfl
  | k + 1 => by
    show (lcgI 511 ((x * 5 + 1) % 512) k * 5 + 1) % 512 = (lcgI 511 x (k + 1) * 5 + 1) % 512
    rw [lcgI_out x k]
theorem orb_mem : ∀ {f x j : Nat}, j ∈ orb f x → ∃ k, k < f ∧ lcgI 511 x k = j
  | 0, _, _, h => by cases h
  | f + 1, x, j, h => by
    rcases List.mem_cons.mp h with rfl | h
    · exact ⟨0, Nat.succ_pos _, rfl⟩
    · obtain ⟨k, hk, e⟩ := orb_mem h
      exact ⟨k + 1, Nat.succ_lt_succ hk, by rw [← lcgI_out, e]⟩
theorem orb_full : ((List.range 512).all fun j => (orb 512 0).contains j) = true := by decide +kernel
theorem orb_back : lcgI 511 0 512 = 0 := by decide +kernel
theorem lcgI_plus (x a : Nat) : ∀ k, lcgI 511 (lcgI 511 x a) k = lcgI 511 x (a + k)
  | 0 => rfl
  | k + 1 => by
    show (lcgI 511 (lcgI 511 x a) k * 5 + 1) % 512 = (lcgI 511 x (a + k) * 5 + 1) % 512
    rw [lcgI_plus x a k]
theorem round_511 {i j : Nat} (hi : i ≤ 511) (hj : j ≤ 511) : ∃ k, k ≤ 511 ∧ lcgI 511 i k = j := by
  have at0 : ∀ z, z ≤ 511 → ∃ k, k < 512 ∧ lcgI 511 0 k = z := fun z hz => orb_mem (List.contains_iff_mem.mp (List.all_eq_true.mp orb_full z (List.mem_range.mpr (Nat.lt_succ_of_le hz))))
  obtain ⟨a, ha, ea⟩ := at0 i hi
  obtain ⟨b, hb, eb⟩ := at0 j hj
  subst ea eb
  by_cases c : a ≤ b
  · exact ⟨b - a, by omega, by rw [lcgI_plus, Nat.add_sub_of_le c]⟩
  · refine ⟨b + 512 - a, by omega, ?_⟩
    rw [lcgI_plus, show a + (b + 512 - a) = 512 + b by omega, ← lcgI_plus 0 512 b, orb_back]
theorem Mk4.meets {m : Nat} (hm : Mk4 m) (h : Int) {j : Nat} (hj : j ≤ m) : ∃ n, n ≤ m + 12 ∧ runI m (SetTable.bits h) n = j := by
  rcases hm with hm | rfl
  · exact run_meets hm h hj
  · obtain ⟨k, hk, e⟩ := round_511 (runI_le 511 (SetTable.bits h) 12) hj
    refine ⟨12 + k, Nat.add_comm 511 12 ▸ Nat.add_le_add_left hk 12, ?_⟩
    rw [runI_tail (bits_lt h), e]
theorem Mk4.way {m : Nat} (hm : Mk4 m) (h : Int) {j : Nat} (hj : j ≤ m) : ∃ k, k < 10 * SetTable.turns m ∧ L2.way m h k = j := by
  obtain ⟨n, hn, e⟩ := hm.meets h hj
  obtain ⟨k, hk, e2⟩ := run_nth m (SetTable.bits h) n
  refine ⟨k, ?_, (congrArg SetTable.Probe.j e2).trans e⟩
  unfold SetTable.turns
  omega
theorem way_in (m : Nat) (h : Int) (k : Nat) : L2.way m h k ≤ m := by
  have b0 : SetTable.bits h % (m + 1) ≤ m := Nat.le_of_lt_succ (Nat.mod_lt _ (Nat.succ_pos _))
  have b1 := runEnd_bd b0
  have z := nth_in k (runAt m (SetTable.bits h % (m + 1)) (SetTable.bits h)) (show SetTable.bits h % (m + 1) + (SetTable.runEnd m (SetTable.bits h % (m + 1)) - SetTable.bits h % (m + 1)) ≤ m by omega)
  exact Nat.le_trans (Nat.le_add_right _ _) z
theorem Mk4.free {m : Nat} (hm : Mk4 m) (owner : Array (Option Nat)) (h : Int) {j : Nat} (hj : j ≤ m) (hf : oAt owner j = none) :
    ∃ i, i ≤ m ∧ SetTable.layClean.free m owner (SetTable.turns m) (SetTable.bits h % (m + 1)) (SetTable.bits h) = some i ∧ oAt owner i = none := by
  obtain ⟨n, hn, e⟩ := hm.meets h hj
  have hit : L2.way m h (off m (SetTable.bits h % (m + 1)) (SetTable.bits h) n) = j := by
    unfold L2.way
    rw [nth_off, itL_run]
    exact e
  obtain ⟨K, k1, k2, k3⟩ := st_least (p := fun k => oAt owner (L2.way m h k) = none) (off m (SetTable.bits h % (m + 1)) (SetTable.bits h) n) (by rw [hit]; exact hf)
  refine ⟨_, way_in m h K, free_spec m owner (SetTable.turns m) n _ _ K (by unfold SetTable.turns; omega) k1 (fun k hk => ?_) (by rw [show oAt owner (nth m _ K).j = none from k2]; rfl), k2⟩
  exact Bool.eq_false_iff.mpr fun z => k3 k hk (Option.isNone_iff_eq_none.mp z)
theorem live_nodup (m : Nat) (owner : Array (Option Nat)) : ((liveOf m owner).map (·.1)).Nodup :=
  List.Pairwise.imp (fun h => Nat.ne_of_lt h) (ris_live (fun j => owner.getD j none) (List.range (m + 1)) List.pairwise_lt_range).1
structure Lay (m n : Nat) (owner : Array (Option Nat)) : Prop where
  sz : owner.size = m + 1
  pm : ((liveOf m owner).map (·.2)).Perm (List.range n)
theorem Lay.init (m : Nat) : Lay m 0 (Array.replicate (m + 1) none) := by
  have hz : (Array.replicate (m + 1) (none : Option Nat)).size = m + 1 := Array.size_replicate
  have e : liveOf m (Array.replicate (m + 1) (none : Option Nat)) = [] := List.eq_nil_iff_forall_not_mem.mpr fun p hp => by
    obtain ⟨j, k⟩ := p
    obtain ⟨h1, h2⟩ := (mem_live hz).mp hp
    rw [oAt_init h1] at h2
    cases h2
  exact ⟨hz, by rw [e]; exact .nil⟩
theorem Lay.len {m n : Nat} {owner : Array (Option Nat)} (W : Lay m n owner) : (liveOf m owner).length = n := by
  have z := W.pm.length_eq
  rw [List.length_map, List.length_range] at z
  exact z
theorem Lay.step {m n : Nat} (hm : Mk4 m) {owner : Array (Option Nat)} (W : Lay m n owner) (hn : n ≤ m) (h : Int) :
    ∃ i, SetTable.layClean.free m owner (SetTable.turns m) (SetTable.bits h % (m + 1)) (SetTable.bits h) = some i ∧ Lay m (n + 1) (owner.setIfInBounds i (some n)) := by
  obtain ⟨j0, h0, n0⟩ := st_missing ((liveOf m owner).map (·.1)) (m + 1) (by rw [List.length_map, W.len]; omega)
  have e0 : oAt owner j0 = none := by
    cases z : oAt owner j0 with
    | none => rfl
    | some k => exact absurd (List.mem_map.mpr ⟨(j0, k), (mem_live W.sz).mpr ⟨Nat.le_of_lt_succ h0, z⟩, rfl⟩) n0
  obtain ⟨i, hi, ef, ei⟩ := hm.free owner h (Nat.le_of_lt_succ h0) e0
  have his : i < owner.size := by
    rw [W.sz]
    exact Nat.lt_succ_of_le hi
  have sz2 : (owner.setIfInBounds i (some n)).size = m + 1 := by
    rw [Array.size_setIfInBounds, W.sz]
  refine ⟨i, ef, sz2, ?_⟩
  have pm : (liveOf m (owner.setIfInBounds i (some n))).Perm ((i, n) :: liveOf m owner) := by
    refine (List.perm_ext_iff_of_nodup (nodup_of_map (live_nodup m _)) (List.nodup_cons.mpr ⟨fun z => ?_, nodup_of_map (live_nodup m _)⟩)).mpr fun p => ?_
    · have z := ((mem_live W.sz).mp z).2
      rw [ei] at z
      cases z
    · obtain ⟨j, k⟩ := p
      rw [mem_live sz2, List.mem_cons, mem_live W.sz]
      by_cases c : j = i
      · subst c
        rw [oAt_set_self _ his]
        constructor
        · rintro ⟨_, z⟩
          exact .inl (by rw [Option.some.inj z])
        · rintro (z | ⟨_, z⟩)
          · injection z with _ z
            exact ⟨hi, by rw [z]⟩
          · rw [ei] at z
            cases z
      · rw [oAt_set_ne _ c]
        constructor
        · exact .inr
        · rintro (z | z)
          · injection z with z _
            exact absurd z c
          · exact z
  have z := pm.map (·.2)
  rw [List.map_cons] at z
  refine z.trans ((W.pm.cons n).trans ?_)
  rw [List.range_succ]
  exact (List.perm_append_singleton n _).symm
structure TabD (t : SetTable) (n : Nat) : Prop where
  ris : Ris t.place.toList
  dm : t.dummies = #[]
  sz : t.place.size = n
  msk : Mk4 t.mask
  bd : ∀ x ∈ t.place.toList, x ≤ t.mask
theorem TabD.put {t : SetTable} {n : Nat} (T : TabD t n) {j : Nat} (hj : j ≤ t.mask) (hn : j ∉ t.place.toList) :
    (t.put j).2 = SetTable.below t.place j ∧ SetTable.below t.place j ≤ n ∧ TabD (t.put j).1 (n + 1) ∧ (t.put j).1.mask = t.mask ∧ (t.put j).1.led = t.led ∧ (t.put j).1.plain = t.plain ∧ (t.put j).1.fill = n + 1 := by
  have c1 := (below_cut T.ris j).1
  have cl : SetTable.below t.place j ≤ t.place.toList.length := c1
  have e := put_place t j
  have sz : (t.put j).1.place.size = n + 1 := by
    rw [← Array.length_toList, e, len_ins _ cl, Array.length_toList, T.sz]
  refine ⟨rfl, T.sz ▸ c1, ⟨ris_insert T.ris fun z => hn (List.mem_of_getElem? (by rw [Array.getElem?_toList]; exact z)), put_dm T.dm j, sz, T.msk, fun x hx => ?_⟩, rfl, rfl, rfl, ?_⟩
  · rw [e] at hx
    rcases mem_ins.mp hx with rfl | hx
    · exact hj
    · exact T.bd x hx
  · unfold SetTable.fill
    rw [sz, put_dm T.dm j]
    rfl
end EV
namespace EV
open PySem PySem.Spec PyProof.Rows L2 PySem.W
structure SetDR (P : Program) (w : World) (h : Heap) (a : Addr) (L : List (Addr × List Int)) (es : Array (Int × Value)) (ep : Nat) (t : SetTable) : Prop where
  obj : ∃ ob, h.get? a = some ob ∧ ob.ExactSet ∧ ob.data = .set es ep t
  rws : es.toList = rowsOf P w L
  tab : TabD t L.length
  dif : (L.map (·.2)).Nodup
  tup : ∀ q ∈ L, IsT P w h q.2 q.1
  pln : t.plain = true
  ldd : (w.params.followText "set-order" = true) ∨ (t.led = true)
  room : L.length * 5 < t.mask * 3
  few : L.length < 300
section
variable {P : Program} {w : World} {A : Around} {E : Value → Shared → Prop} {s : Shared} {a : Addr} {L : List (Addr × List Int)} {es : Array (Int × Value)} {ep : Nat} {t : SetTable}
theorem SetDR.way (R : SetDR P w s.heap a L es ep t) : ¬ t.gaveWay = true := by
  unfold SetTable.gaveWay
  rw [R.tab.msk.odd]
  decide
end
end EV
namespace EV
open PySem PySem.Spec PyProof.Rows L2 PySem.W
section
variable {P : Program} {w : World} {A : Around} {E : Value → Shared → Prop} {s : Shared}
theorem SetDR.keep {h h2 : Heap} {a : Addr} {L : List (Addr × List Int)} {es : Array (Int × Value)} {ep : Nat} {t : SetTable} (R : SetDR P w h a L es ep t) (ha : ∀ o, h.get? a = some o → h2.get? a = some o) (ht : ∀ q ∈ L, IsT P w h2 q.2 q.1) : SetDR P w h2 a L es ep t :=
  ⟨R.obj.imp fun _ z => ⟨ha _ z.1, z.2⟩, R.rws, R.tab, R.dif, ht, R.pln, R.ldd, R.room, R.few⟩
end
end EV
set_option maxHeartbeats 2000000
namespace EV
open PySem PySem.Spec PyProof.Rows L2 LamX PySem.W
end EV
set_option maxHeartbeats 2000000
namespace EV
open PySem PySem.Spec PyProof.Rows L2 LamX PySem.W
end EV
set_option maxHeartbeats 2000000
namespace EV
open PySem PySem.Spec PyProof.Rows L2 LamX PySem.W
end EV
set_option maxHeartbeats 2000000
namespace EV
open PySem PySem.Spec PyProof.Rows L2 LamX PySem.W
end EV
set_option maxHeartbeats 2000000
namespace EV
open PySem PySem.Spec PyProof.Rows L2 PySem.W
end EV
set_option maxHeartbeats 2000000
namespace EV
open PySem PySem.Spec PyProof.Rows L2 PySem.W
end EV
set_option maxHeartbeats 2000000
namespace EV
open PySem PySem.Spec PyProof.Rows L2 PySem.W
end EV
set_option maxHeartbeats 2000000
namespace EV
open PySem PySem.Spec PyProof.Rows L2 PySem.W
end EV
set_option maxHeartbeats 2000000
namespace EV
open PySem PySem.Spec PyProof.Rows L2 PySem.W
end EV
set_option maxHeartbeats 2000000
namespace EV
open PySem PySem.Spec PyProof.Rows L2 PySem.W
end EV
set_option maxHeartbeats 2000000
namespace EV
open PySem PySem.Spec PyProof.Rows L2 PySem.W
end EV
set_option maxHeartbeats 2000000
namespace EV
open PySem PySem.Spec PyProof.Rows L2 LamX PySem.W
structure MvQ (X : Cx) (x Cl dx : Addr) (ks : List Str) (xs : List D) (Γ : List Sl) (us0 : List V) (G0 H0 G H : Hp) (σ : L2.St) (s : List Int) : Prop where
  g0 : G0 x = none
  h0 : H0 x = some (.ins Cl dx (ks.zip us0))
  l0 : us0.length = ks.length
  r0 : RpL X.K G0 us0 xs
  nv : Nv X.K none (upd G0 x (.ins Cl dx (ks.zip us0))) H0 G H σ Γ s
  me : σ[0]? = some (some (.ref x))
  ar : ∀ (i : Nat) d, i ≠ 0 → Γ[i]? = some (.val d) → ∃ v, σ[i]? = some (some v) ∧ Rp X.K (ers x G) v d
  no : ∀ (i : Nat) z, i ≠ 0 → Γ[i]? = some z → (∃ d, z = .val d) ∨ z = .junk
  t0 : TabK X.K H0
  n0 : NoT G0
  sm : Same G0 H0
section
variable {X : Cx} {W : WX} {Γ : List Sl} {x Cl dx : Addr} {ks : List Str} {xs : List D} {pos : Pos} {rest : List Stmt} {us0 : List V} {G0 H0 G H : Hp} {σ : L2.St} {s : List Int} {k : Nat}
theorem MvQ.gx (M : MvQ X x Cl dx ks xs Γ us0 G0 H0 G H σ s) : G x = some (.ins Cl dx (ks.zip us0)) := M.nv.ext.g _ _ upd_same
theorem MvQ.ne (M : MvQ X x Cl dx ks xs Γ us0 G0 H0 G H σ s) : NoT (ers x G) := fun P ps e => M.nv.x.nt P ps (ers_some e).2
theorem ers_same {G G' : Hp} (h : Same G G') : Same (ers x G) (ers x G') := fun a o e => by
  obtain ⟨z, q⟩ := ers_some e
  rw [ers_ne z]
  exact h a o q
theorem MvQ.step {G' H' : Hp} {s' : List Int} (M : MvQ X x Cl dx ks xs Γ us0 G0 H0 G H σ s) (e : Ext X.K none G H G' H') : MvQ X x Cl dx ks xs Γ us0 G0 H0 G' H' σ s' :=
  ⟨M.g0, M.h0, M.l0, M.r0, M.nv.step e (fun _ z => by cases z), M.me, fun i d n q => by
    obtain ⟨v, q1, q2⟩ := M.ar i d n q
    exact ⟨v, q1, q2.mono (ers_same e.g)⟩, M.no, M.t0, M.n0, M.sm⟩
theorem MvQ.set (M : MvQ X x Cl dx ks xs Γ us0 G0 H0 G H σ s) {v : V} {d : D} (i : Nat) (hi : i ≠ 0) (r : Rp X.K G v d) (hd : noC Cl d = true) : MvQ X x Cl dx ks xs (Γ.set i (.val d)) us0 G0 H0 G H (σ.set i (some v)) s := by
  refine ⟨M.g0, M.h0, M.l0, M.r0, M.nv.set i r, by rw [List.getElem?_set_ne hi]; exact M.me, fun j d' n q => ?_, fun j z n q => ?_, M.t0, M.n0, M.sm⟩
  · by_cases hj : i = j
    · subst hj
      have hl : i < Γ.length := by
        have := (List.getElem?_eq_some_iff.mp q).1
        simpa using this
      rw [List.getElem?_set_self hl] at q
      cases q
      exact ⟨v, List.getElem?_set_self (by rw [← M.nv.len]; exact hl), r.ers M.gx hd⟩
    · rw [List.getElem?_set_ne hj] at q ⊢
      exact M.ar j d' n q
  · by_cases hj : i = j
    · subst hj
      have hl : i < Γ.length := by
        have := (List.getElem?_eq_some_iff.mp q).1
        simpa using this
      rw [List.getElem?_set_self hl] at q
      exact .inl ⟨d, (Option.some.inj q).symm⟩
    · rw [List.getElem?_set_ne hj] at q
      exact M.no j z n q
end
end EV
set_option maxHeartbeats 2000000
namespace EV
open PySem PySem.Spec PyProof.Rows L2 PySem.W
end EV
set_option maxHeartbeats 2000000
namespace EV
open PySem PySem.Spec PyProof.Rows L2 PySem.W
end EV
set_option maxHeartbeats 2000000
namespace EV
open PySem PySem.Spec PyProof.Rows L2 PySem.W
end EV
namespace EV
open PySem PyProof.Rows L2
inductive Sm : Nat → Nat → D → Prop
  | non {h b : Nat} : Sm h b .non
  | bl {h b : Nat} (x : Bool) : Sm h b (.bl x)
  | int {h b : Nat} {i : Int} (h1 : -2 ≤ i) (h2 : i < 300) : Sm h b (.int i)
  | str {h b : Nat} {x : Str} (h1 : PyData.strOk x = true) (h2 : x.cps.size ≤ b) : Sm h b (.str x)
  | tup {h b c : Nat} {xs : List D} (h1 : ∀ x, x ∈ xs → Sm h c x) (h2 : xs.length * (c + 1) ≤ b) : Sm (h + 1) b (.tup xs)
  | lst {h b c : Nat} {xs : List D} (h1 : ∀ x, x ∈ xs → Sm h c x) (h2 : xs.length * (c + 1) ≤ b) : Sm (h + 1) b (.lst xs)
theorem all_lay : ∀ {xs : List D}, (∀ x ∈ xs, (toPy x).canLay0 = true) → PyData.canLayAll0 (toPyL xs) = true
  | [], _ => by simp only [toPyL, PyData.canLayAll0]
  | x :: xs, h => by
    simp only [toPyL, PyData.canLayAll0, h x List.mem_cons_self, all_lay (fun y m => h y (List.mem_cons_of_mem _ m)), Bool.and_self]
theorem all_short : ∀ {xs : List D}, (∀ x ∈ xs, (toPy x).leavesShort 13 = true) → PyData.leavesShortAll 13 (toPyL xs) = true
  | [], _ => by simp only [toPyL, PyData.leavesShortAll]
  | x :: xs, h => by
    simp only [toPyL, PyData.leavesShortAll, h x List.mem_cons_self, all_short (fun y m => h y (List.mem_cons_of_mem _ m)), Bool.and_self]
theorem all_ok : ∀ {xs : List D}, (∀ x ∈ xs, okD x = true) → okDL xs = true
  | [], _ => by simp only [okDL]
  | x :: xs, h => by
    simp only [okDL, h x List.mem_cons_self, all_ok (fun y m => h y (List.mem_cons_of_mem _ m)), Bool.and_self]
theorem all_deep {k : Nat} : ∀ {xs : List D}, (∀ x ∈ xs, (toPy x).depth ≤ k) → PyData.depthAll (toPyL xs) ≤ k
  | [], _ => by simp only [toPyL, PyData.depthAll]; omega
  | x :: xs, h => by
    have h1 := h x List.mem_cons_self
    have h2 := all_deep (xs := xs) (fun y m => h y (List.mem_cons_of_mem _ m))
    simp only [toPyL, PyData.depthAll]
    omega
theorem all_bulk {k : Nat} : ∀ {xs : List D}, (∀ x ∈ xs, (toPy x).bulk ≤ k) → PyData.bulkAll (toPyL xs) ≤ xs.length * (k + 1)
  | [], _ => by simp only [toPyL, PyData.bulkAll]; omega
  | x :: xs, h => by
    have h1 := h x List.mem_cons_self
    have h2 := all_bulk (xs := xs) (fun y m => h y (List.mem_cons_of_mem _ m))
    simp only [toPyL, PyData.bulkAll, List.length_cons, Nat.succ_mul]
    omega
theorem shortI : ∀ n : Fin 302, (PyData.shown (.int ((n.val : Int) - 2))).length ≤ 13 := by decide +kernel
theorem logI : ∀ n : Fin 302, decide ((((n.val : Int) - 2).natAbs).log2 < 1920) = true := by decide +kernel
theorem Sm.facts {h b : Nat} {d : D} (s : Sm h b d) : (toPy d).canLay0 = true ∧ (toPy d).leavesShort 13 = true ∧ okD d = true ∧ (toPy d).depth ≤ h ∧ (toPy d).bulk ≤ b := by
  induction s with
  | non => simp [toPy, PyData.canLay0, PyData.leavesShort, okD, PyData.depth, PyData.bulk]
  | bl => simp [toPy, PyData.canLay0, PyData.leavesShort, okD, PyData.depth, PyData.bulk]
  | @int h b i h1 h2 =>
    have e : i = (((⟨(i + 2).toNat, by omega⟩ : Fin 302).val : Nat) : Int) - 2 := by
      show i = (((i + 2).toNat : Nat) : Int) - 2
      omega
    refine ⟨by simp [toPy, PyData.canLay0], ?_, ?_, by simp [toPy, PyData.depth], by simp [toPy, PyData.bulk]⟩
    · simp only [toPy, PyData.leavesShort, decide_eq_true_eq]
      rw [e]
      exact shortI _
    · simp only [okD]
      rw [e]
      exact logI _
  | @str h b x h1 h2 =>
    refine ⟨by simpa [toPy, PyData.canLay0] using h1, ?_, by simp [okD], by simp [toPy, PyData.depth], by simpa [toPy, PyData.bulk] using h2⟩
    simp only [toPy, PyData.leavesShort, List.all_eq_true, decide_eq_true_eq]
    intro c hc
    unfold PyData.strOk at h1
    have z := Array.all_eq_true'.mp h1 c (by simpa using hc)
    have z : c < 0x110000 := by simpa using z
    omega
  | @tup h b c xs h1 h2 ih =>
    simp only [toPy, PyData.canLay0, PyData.leavesShort, okD, PyData.depth, PyData.bulk]
    have z := all_deep fun x m => (ih x m).2.2.2.1
    have y := all_bulk fun x m => (ih x m).2.2.2.2
    exact ⟨all_lay fun x m => (ih x m).1, all_short fun x m => (ih x m).2.1, all_ok fun x m => (ih x m).2.2.1, by omega, by omega⟩
  | @lst h b c xs h1 h2 ih =>
    simp only [toPy, PyData.canLay0, PyData.leavesShort, okD, PyData.depth, PyData.bulk]
    have z := all_deep fun x m => (ih x m).2.2.2.1
    have y := all_bulk fun x m => (ih x m).2.2.2.2
    exact ⟨all_lay fun x m => (ih x m).1, all_short fun x m => (ih x m).2.1, all_ok fun x m => (ih x m).2.2.1, by omega, by omega⟩
theorem Sm.mono {h b h' b' : Nat} {d : D} (s : Sm h b d) (e1 : h ≤ h') (e2 : b ≤ b') : Sm h' b' d := by
  induction s generalizing h' b' with
  | non => exact .non
  | bl x => exact .bl x
  | int h1 h2 => exact .int h1 h2
  | str h1 h2 => exact .str h1 (by omega)
  | @tup h b c xs h1 h2 ih =>
    obtain ⟨k, rfl⟩ : ∃ k, h' = k + 1 := ⟨h' - 1, by omega⟩
    exact .tup (c := c) (fun x m => ih x m (by omega) (Nat.le_refl _)) (by omega)
  | @lst h b c xs h1 h2 ih =>
    obtain ⟨k, rfl⟩ : ∃ k, h' = k + 1 := ⟨h' - 1, by omega⟩
    exact .lst (c := c) (fun x m => ih x m (by omega) (Nat.le_refl _)) (by omega)
theorem Sm.repr {h b : Nat} {d : D} (s : Sm h b d) (e1 : h ≤ 60 := by omega) (e2 : b ≤ 60000 := by omega) : reprF [d] = pure (.str (shown d)) := by
  have f := s.facts
  have l := PyData.shown_le_bulk 13 (by decide) (toPy d) f.2.1
  show (if okD d = true ∧ (toPy d).depth ≤ 60 ∧ (shown d).length ≤ lim then pure (.str (shown d)) else bad : PM D) = _
  exact if_pos ⟨f.2.2.1, by omega, by show (toPy d).shown.length ≤ 1000000; omega⟩
def iota (n : Nat) : List Int := (List.range n).map fun (i : Nat) => (i : Int)
theorem mem_iota {n : Nat} {x : Int} : x ∈ iota n ↔ 0 ≤ x ∧ x < n := by
  unfold iota
  rw [List.mem_map]
  constructor
  · rintro ⟨i, h, rfl⟩
    rw [List.mem_range] at h
    omega
  · rintro ⟨h1, h2⟩
    exact ⟨x.toNat, List.mem_range.mpr (by omega), by omega⟩
theorem len_iota (n : Nat) : (iota n).length = n := by simp [iota]
theorem iota_asc (n : Nat) : (iota n).Pairwise (· < ·) := by
  unfold iota
  rw [List.pairwise_map]
  exact List.pairwise_lt_range.imp fun h => by omega
theorem iota_get {n i : Nat} (h : i < n) : (iota n)[i]? = some (i : Int) := by
  simp [iota, h]
theorem rangeL_iota (n : Nat) : rangeL 0 n = (iota n).map D.int := by
  unfold rangeL iota
  rw [List.map_map]
  exact List.map_congr_left fun i _ => by simp
abbrev tI (ns : List Int) : D := .tup (ns.map .int)
abbrev lI (ns : List Int) : D := .lst (ns.map .int)
theorem range1 {n : Nat} (h : n ≤ lim := by omega) : rangeF1 [.int n] = pure ((iota n).map D.int) := by
  have h : n ≤ 1000000 := h
  unfold rangeF1 rangeF
  dsimp only
  rw [if_pos ⟨by omega, by omega⟩, Int.toNat_natCast, rangeL_iota]
theorem okL_ok {xs : List D} (h : xs.length ≤ lim) : okL xs = pure xs := if_pos h
theorem sortedI {ns : List Int} (h : ns.length ≤ lim) : sortedG [lI ns] = pure (lI (sortI ns)) := by
  have e : intsQ [lI ns] = true := by
    show (intsOf (ns.map D.int)).isSome = true
    rw [intsOf_map]
    rfl
  unfold sortedG
  rw [if_pos e]
  show (match intsOf (ns.map D.int) with | some ns => mkL ((sortI ns).map D.int) | none => bad : PM D) = _
  rw [intsOf_map]
  exact mkL_ok (by rw [List.length_map, (sortI_perm ns).length_eq]; exact h)
theorem tupleL {xs : List D} (h : xs.length ≤ lim) : tupleF [.lst xs] = pure (.tup xs) := mkT_ok h
theorem asc_of_sorted {l : List Int} (h1 : l.Pairwise (· ≤ ·)) (h2 : l.Nodup) : l.Pairwise (· < ·) := by
  have h2 : l.Pairwise (· ≠ ·) := h2
  exact (h1.and h2).imp fun h => by omega
theorem asc_nodup {l : List Int} (h : l.Pairwise (· < ·)) : l.Nodup := h.imp fun h => by omega
theorem sortI_nodup {l : List Int} (h : l.Nodup) : (sortI l).Pairwise (· < ·) := asc_of_sorted (sortI_sorted l) ((sortI_perm l).nodup_iff.mpr h)
def ix {α : Type} [Inhabited α] (l : List α) (i : Int) : α := l.getD i.toNat default
theorem ix_get {α : Type} [Inhabited α] {l : List α} {i : Int} (h0 : 0 ≤ i) (h1 : i < l.length) : l[i.toNat]? = some (ix l i) := by
  unfold ix
  rw [List.getD_eq_getElem?_getD, List.getElem?_eq_getElem (by omega)]
  rfl
theorem ix_mem {α : Type} [Inhabited α] {l : List α} {i : Int} (h0 : 0 ≤ i) (h1 : i < l.length) : ix l i ∈ l := List.mem_of_getElem? (ix_get h0 h1)
theorem atI_ix {α : Type} [Inhabited α] {l : List α} {i : Int} (h0 : 0 ≤ i) (h1 : i < l.length) : atI l i = some (ix l i) := by
  unfold atI ixN
  rw [if_pos h0, if_pos h1]
  exact ix_get h0 h1
theorem getT {α : Type} [Inhabited α] {l : List α} {f : α → D} {i : Int} (h0 : 0 ≤ i) (h1 : i < l.length) : getD (.tup (l.map f)) (.int i) = pure (f (ix l i)) := by
  show (match atI (l.map f) i with | some d => pure d | none => bad : PM D) = _
  rw [atI_map, atI_ix h0 h1]
  rfl
theorem getL {α : Type} [Inhabited α] {l : List α} {f : α → D} {i : Int} (h0 : 0 ≤ i) (h1 : i < l.length) : getD (.lst (l.map f)) (.int i) = pure (f (ix l i)) := by
  show (match atI (l.map f) i with | some d => pure d | none => bad : PM D) = _
  rw [atI_map, atI_ix h0 h1]
  rfl
theorem ix_iota {n : Nat} {i : Int} (h0 : 0 ≤ i) (h1 : i < n) : ix (iota n) i = i := by
  have z := ix_get (l := iota n) h0 (by rw [len_iota]; exact h1)
  rw [iota_get (by omega)] at z
  have z := Option.some.inj z
  omega
theorem eqv_int {a b : Int} : eqvD (.int a) (.int b) = (a == b) := rfl
theorem any_int {x : Int} {ns : List Int} : ((ns.map D.int).any fun z => eqvD z (.int x)) = decide (x ∈ ns) := by
  rw [Bool.eq_iff_iff, List.any_eq_true, decide_eq_true_eq]
  constructor
  · rintro ⟨z, hz, e⟩
    obtain ⟨n, hn, rfl⟩ := List.mem_map.mp hz
    rw [eqv_int, beq_iff_eq] at e
    exact e ▸ hn
  · intro h
    exact ⟨.int x, List.mem_map.mpr ⟨x, h, rfl⟩, by rw [eqv_int, beq_iff_eq]⟩
/-- all of them small -/
def SmI (ns : List Int) : Prop := ∀ n ∈ ns, -2 ≤ n ∧ n < 300
theorem SmI.smT {ns : List Int} (h : SmI ns) : Sm 1 ns.length (tI ns) := .tup (c := 0) (fun x m => by
  obtain ⟨n, hn, rfl⟩ := List.mem_map.mp m
  exact .int (h n hn).1 (h n hn).2) (by rw [List.length_map]; omega)
theorem shpI {x : Int} : shp (.int x) = true := by
  unfold EV.shp SeqAt.shaped
  simp [toPy, PyData.canLay0, PyData.depth]
theorem allI_lay : ∀ ns : List Int, PyData.canLayAll0 (toPyL (ns.map D.int)) = true := fun ns => all_lay fun x m => by
  obtain ⟨n, hn, rfl⟩ := List.mem_map.mp m
  simp [toPy, PyData.canLay0]
theorem allI_deep (ns : List Int) : PyData.depthAll (toPyL (ns.map D.int)) ≤ 0 := all_deep fun x m => by
  obtain ⟨n, hn, rfl⟩ := List.mem_map.mp m
  simp [toPy, PyData.depth]
theorem shpTI (ns : List Int) : shp (tI ns) = true := by
  unfold EV.shp SeqAt.shaped
  have z := allI_deep ns
  simp only [toPy, PyData.canLay0, PyData.depth, allI_lay, Bool.true_and, decide_eq_true_eq]
  omega
theorem shpLI (ns : List Int) : shp (lI ns) = true := by
  unfold EV.shp SeqAt.shaped
  have z := allI_deep ns
  simp only [toPy, PyData.canLay0, PyData.depth, allI_lay, Bool.true_and, decide_eq_true_eq]
  omega
theorem inT (x : Int) (ns : List Int) : inD (.int x) (tI ns) = pure (.bl (decide (x ∈ ns))) := by
  show (if shp (.int x) = true ∧ shp (tI ns) = true then pure (.bl ((ns.map D.int).any fun z => eqvD z (.int x))) else bad : PM D) = _
  rw [if_pos ⟨shpI, shpTI ns⟩, any_int]
theorem ninL (x : Int) (ns : List Int) : notInD (.int x) (lI ns) = pure (.bl (!decide (x ∈ ns))) := by
  show (if shp (.int x) = true ∧ shp (lI ns) = true then pure (.bl (!(ns.map D.int).any fun z => eqvD z (.int x))) else bad : PM D) = _
  rw [if_pos ⟨shpI, shpLI ns⟩, any_int]
theorem neInt (a b : Int) : neD (.int a) (.int b) = pure (.bl (decide (a ≠ b))) := by
  show (if shp (.int a) = true ∧ shp (.int b) = true then pure (.bl (!eqvD (.int a) (.int b))) else bad : PM D) = _
  rw [if_pos ⟨shpI, shpI⟩, eqv_int, show (a == b) = decide (a = b) from by rw [Bool.eq_iff_iff, beq_iff_eq, decide_eq_true_eq]]
  by_cases h : a = b <;> simp [h]
theorem eqInt (a b : Int) : eqD (.int a) (.int b) = pure (.bl (decide (a = b))) := by
  show (if shp (.int a) = true ∧ shp (.int b) = true then pure (.bl (eqvD (.int a) (.int b))) else bad : PM D) = _
  rw [if_pos ⟨shpI, shpI⟩, eqv_int, show (a == b) = decide (a = b) from by rw [Bool.eq_iff_iff, beq_iff_eq, decide_eq_true_eq]]
/-- over ints -/
theorem compI {c : D → PM Bool} {e : D → PM D} (b : Int → Bool) (f : Int → D) {ns : List Int} (hl : ns.length ≤ lim) (hc : ∀ n ∈ ns, c (.int n) = pure (b n)) (he : ∀ n ∈ ns, b n = true → e (.int n) = pure (f n)) :
    compL dec1 c e (ns.map D.int) = pure ((ns.filter b).map f) := by
  unfold compL
  rw [if_pos (by rw [List.length_map]; exact hl)]
  clear hl
  induction ns with
  | nil => rfl
  | cons n ns ih =>
    have ih := ih (fun y m => hc y (List.mem_cons_of_mem _ m)) (fun y m => he y (List.mem_cons_of_mem _ m))
    rw [List.map_cons]
    unfold compG
    show (noExc (c (.int n)) >>= _) = _
    rw [hc n List.mem_cons_self, noExc_pure, pure_bind]
    by_cases q : b n = true
    · rw [if_pos q, he n List.mem_cons_self q, noExc_pure, pure_bind, ih, pure_bind, List.filter_cons_of_pos q, List.map_cons]
    · rw [if_neg q, ih, List.filter_cons_of_neg q]
/-- no test -/
theorem compIm {c : D → PM Bool} {e : D → PM D} (f : Int → D) {ns : List Int} (hl : ns.length ≤ lim) (hc : ∀ z, c z = pure true) (he : ∀ n ∈ ns, e (.int n) = pure (f n)) :
    compL dec1 c e (ns.map D.int) = pure (ns.map f) := by
  rw [compI (fun _ => true) f hl (fun n _ => hc _) (fun n m _ => he n m), List.filter_eq_self.mpr fun _ _ => rfl]
theorem compPm {ι κ : Type} {dec : D → Option ι} {c : ι → PM Bool} {e : ι → PM D} (g : κ → ι) (f : κ → D) {ds : List D} {zs : List κ} (h : ds.map dec = zs.map fun z => some (g z)) (hl : ds.length ≤ lim) (hc : ∀ z, c z = pure true) (he : ∀ z ∈ zs, e (g z) = pure (f z)) :
    compL dec c e ds = pure (zs.map f) := by
  unfold compL
  rw [if_pos hl]
  clear hl
  induction zs generalizing ds with
  | nil =>
    cases ds with
    | nil => rfl
    | cons _ _ => simp at h
  | cons z zs ih =>
    cases ds with
    | nil => simp at h
    | cons d ds =>
      rw [List.map_cons, List.map_cons] at h
      injection h with h1 h2
      have ih := ih h2 (fun y m => he y (List.mem_cons_of_mem _ m))
      unfold compG
      rw [h1]
      show (noExc (c (g z)) >>= _) = _
      rw [hc, noExc_pure, pure_bind, if_pos rfl, he z List.mem_cons_self, noExc_pure, pure_bind, ih, pure_bind, List.map_cons]
/-- pairs, with a test -/
theorem compPf {ι κ : Type} {dec : D → Option ι} {c : ι → PM Bool} {e : ι → PM D} (g : κ → ι) (b : κ → Bool) (f : κ → D) {ds : List D} {zs : List κ} (h : ds.map dec = zs.map fun z => some (g z)) (hl : ds.length ≤ lim) (hc : ∀ z ∈ zs, c (g z) = pure (b z)) (he : ∀ z ∈ zs, b z = true → e (g z) = pure (f z)) :
    compL dec c e ds = pure ((zs.filter b).map f) := by
  unfold compL
  rw [if_pos hl]
  clear hl
  induction zs generalizing ds with
  | nil =>
    cases ds with
    | nil => rfl
    | cons _ _ => simp at h
  | cons z zs ih =>
    cases ds with
    | nil => simp at h
    | cons d ds =>
      rw [List.map_cons, List.map_cons] at h
      injection h with h1 h2
      have ih := ih h2 (fun y m => hc y (List.mem_cons_of_mem _ m)) (fun y m => he y (List.mem_cons_of_mem _ m))
      unfold compG
      rw [h1]
      show (noExc (c (g z)) >>= _) = _
      rw [hc z List.mem_cons_self, noExc_pure, pure_bind]
      by_cases q : b z = true
      · rw [if_pos q, he z List.mem_cons_self q, noExc_pure, pure_bind, ih, pure_bind, List.filter_cons_of_pos q, List.map_cons]
      · rw [if_neg q, ih, List.filter_cons_of_neg q]
theorem forL_goP {ι κ : Type} {dec : D → Option ι} {body : Unit → ι → PM (Lp Unit)} (g : κ → ι) {ds : List D} {zs : List κ} (h : ds.map dec = zs.map fun z => some (g z)) (hb : ∀ z ∈ zs, body () (g z) = pure (.go ())) : forL dec body ds () = pure (.go ()) := by
  induction zs generalizing ds with
  | nil =>
    cases ds with
    | nil => rfl
    | cons _ _ => simp at h
  | cons z zs ih =>
    cases ds with
    | nil => simp at h
    | cons d ds =>
      rw [List.map_cons, List.map_cons] at h
      injection h with h1 h2
      unfold forL
      rw [h1]
      show (body () (g z) >>= _) = _
      rw [hb z List.mem_cons_self, pure_bind]
      exact ih h2 fun y m => hb y (List.mem_cons_of_mem _ m)
theorem while_ok {C : Type} {mc : C → PM Bool} {mb : C → PM C} (I : C → Prop) (μ : C → Nat) (Q : C → Prop)
    (h : ∀ c, I c → (mc c = pure false ∧ Q c) ∨ (mc c = pure true ∧ ∃ c', mb c = pure c' ∧ I c' ∧ μ c' < μ c)) : ∀ n c, I c → μ c < n → ∃ c', whileS mc mb n c = pure c' ∧ Q c'
  | 0, c, _, hn => absurd hn (by omega)
  | n + 1, c, hi, hn => by
    rcases h c hi with ⟨e, q⟩ | ⟨e, c', e2, i2, lt⟩
    · exact ⟨c, by unfold whileS; rw [e, pure_bind]; rfl, q⟩
    · obtain ⟨c2, e3, q⟩ := while_ok I μ Q h n c' i2 (by omega)
      exact ⟨c2, by unfold whileS; rw [e, pure_bind, if_pos rfl, e2, pure_bind, e3], q⟩
theorem while_then {C β : Type} {mc : C → PM Bool} {mb : C → PM C} {kk : C → PM β} {v : PM β} {n : Nat} {c : C} (I : C → Prop) (μ : C → Nat) (Q : C → Prop)
    (h : ∀ c, I c → (mc c = pure false ∧ Q c) ∨ (mc c = pure true ∧ ∃ c', mb c = pure c' ∧ I c' ∧ μ c' < μ c)) (hi : I c) (hn : μ c < n) (hk : ∀ c, Q c → kk c = v) : (whileS mc mb n c >>= kk) = v := by
  obtain ⟨c', e, q⟩ := while_ok I μ Q h n c hi hn
  rw [e, pure_bind, hk c' q]
/-- pairs of an enumerate -/
theorem pairs_dec : ∀ (k : Nat) (xs : List D), (pairsFrom k xs).map dec2 = (xs.zipIdx k).map fun z => some (D.int z.2, z.1)
  | _, [] => rfl
  | k, x :: xs => by
    unfold pairsFrom
    rw [List.map_cons, pairs_dec (k + 1) xs, List.zipIdx_cons, List.map_cons]
    rfl
theorem pairs_len : ∀ (k : Nat) (xs : List D), (pairsFrom k xs).length = xs.length
  | _, [] => rfl
  | k, x :: xs => by
    unfold pairsFrom
    rw [List.length_cons, pairs_len (k + 1) xs, List.length_cons]
theorem asc_len : ∀ {l : List Int} {a b : Int}, l.Pairwise (· < ·) → (∀ x ∈ l, a ≤ x ∧ x < b) → l.length ≤ (b - a).toNat
  | [], _, _, _, _ => Nat.zero_le _
  | x :: r, a, b, h, hb => by
    have q := List.pairwise_cons.mp h
    have z := hb x List.mem_cons_self
    have ih := asc_len (l := r) (a := x + 1) (b := b) q.2 fun y m => ⟨by have := q.1 y m; omega, (hb y (List.mem_cons_of_mem _ m)).2⟩
    rw [List.length_cons]
    omega
theorem nodup_len {l : List Int} {n : Nat} (h : l.Nodup) (hb : ∀ x ∈ l, 0 ≤ x ∧ x < n) : l.length ≤ n := by
  have z := asc_len (a := 0) (b := n) (sortI_nodup h) fun x m => hb x ((sortI_perm l).mem_iff.mp m)
  rw [(sortI_perm l).length_eq] at z
  omega
theorem scal_ints (ns : List Int) : scalL (lI ns) = pure (ns.map D.int) := by
  show (if (ns.map D.int).all scalD = true then pure (ns.map D.int) else bad : PM (List D)) = _
  exact if_pos (List.all_eq_true.mpr fun x m => by
    obtain ⟨n, _, rfl⟩ := List.mem_map.mp m
    rfl)
theorem forS_inv {C : Type} {body : C → D → PM C} (P : Nat → C → Prop) : ∀ {ns : List Int} {k : Nat} {c : C}, P k c → (∀ i n c, ns[i]? = some n → P (k + i) c → ∃ c', body c (.int n) = pure c' ∧ P (k + i + 1) c') → ∃ c', forS dec1 body (ns.map D.int) c = pure c' ∧ P (k + ns.length) c' := by
  intro ns
  induction ns with
  | nil => intro k c h _; exact ⟨c, rfl, h⟩
  | cons n ns ih =>
    intro k c h hb
    obtain ⟨c1, e1, h1⟩ := hb 0 n c rfl h
    obtain ⟨c2, e2, h2⟩ := ih (k := k + 1) (c := c1) h1 fun i m c hi hp => by
      have z := hb (i + 1) m c hi (by rw [show k + (i + 1) = k + 1 + i from Nat.add_right_comm k i 1]; exact hp)
      rw [show k + (i + 1) = k + 1 + i from Nat.add_right_comm k i 1] at z
      exact z
    refine ⟨c2, ?_, by rw [List.length_cons, show k + (ns.length + 1) = k + 1 + ns.length from Nat.add_right_comm k ns.length 1]; exact h2⟩
    rw [List.map_cons]
    show (body c (.int n) >>= forS dec1 body (ns.map D.int)) = _
    rw [e1, pure_bind, e2]
theorem forS_then {C β : Type} {body : C → D → PM C} {kk : C → PM β} {v : PM β} {ns : List Int} {c : C} (P : Nat → C → Prop) (h0 : P 0 c) (hb : ∀ i n c, ns[i]? = some n → P i c → ∃ c', body c (.int n) = pure c' ∧ P (i + 1) c') (hk : ∀ c, P ns.length c → kk c = v) :
    (forS dec1 body (ns.map D.int) c >>= kk) = v := by
  obtain ⟨c', e, q⟩ := forS_inv P (k := 0) h0 fun i n c e h => by
    rw [Nat.zero_add] at h ⊢
    exact hb i n c e h
  rw [Nat.zero_add] at q
  rw [e, pure_bind, hk c' q]
theorem forS_ex {C β : Type} {body : C → D → PM C} {kk : C → PM β} {ns : List Int} {c : C} (R : PM β → Prop) (P : Nat → C → Prop) (h0 : P 0 c) (hb : ∀ i n c, ns[i]? = some n → P i c → ∃ c', body c (.int n) = pure c' ∧ P (i + 1) c') (hk : ∀ c, P ns.length c → R (kk c)) :
    R (forS dec1 body (ns.map D.int) c >>= kk) := by
  obtain ⟨c', e, q⟩ := forS_inv P (k := 0) h0 fun i n c e h => by
    rw [Nat.zero_add] at h ⊢
    exact hb i n c e h
  rw [Nat.zero_add] at q
  rw [e, pure_bind]
  exact hk c' q
theorem enum_lst (xs : List D) : enumF [.lst xs] = pure (pairsFrom 0 xs) := rfl
theorem enum_tup (xs : List D) : enumF [.tup xs] = pure (pairsFrom 0 xs) := rfl
def Ok {α : Type} (m : PM α) (s : List Int) (Q : α → List Int → Prop) : Prop := ∃ a s', m s = .ok a s' ∧ Q a s'
section
variable {α β : Type} {m : PM α} {s : List Int} {Q : α → List Int → Prop}
theorem Ok.pure {a : α} (h : Q a s) : Ok (Pure.pure a) s Q := ⟨a, s, rfl, h⟩
theorem Ok.bind {f : α → PM β} {Q : β → List Int → Prop} (h : Ok m s fun a s' => Ok (f a) s' Q) : Ok (m >>= f) s Q := by
  obtain ⟨a, s1, e, b, s2, e2, q⟩ := h
  exact ⟨b, s2, by rw [PM.bind_def, e]; exact e2, q⟩
theorem Ok.imp {Q' : α → List Int → Prop} (h : Ok m s Q) (i : ∀ a s', Q a s' → Q' a s') : Ok m s Q' := by
  obtain ⟨a, s1, e, q⟩ := h
  exact ⟨a, s1, e, i _ _ q⟩
theorem Ok.noExc (h : Ok m s Q) : Ok (noExc m) s Q := by
  obtain ⟨a, s1, e, q⟩ := h
  exact ⟨a, s1, by unfold EV.noExc; rw [e], q⟩
theorem Ok.withPen {ns : List Int} (h : Ok m ns fun a _ => Q a s) : Ok (withPen ns m) s Q := by
  obtain ⟨a, s1, e, q⟩ := h
  exact ⟨a, s, by unfold EV.withPen; rw [e], q⟩
theorem Ok.forS {C : Type} {body : C → D → PM C} (P : Nat → C → List Int → Prop) : ∀ {ns : List Int} {k : Nat} {c : C} {s : List Int}, P k c s → (∀ i n c s, ns[i]? = some n → P (k + i) c s → Ok (body c (.int n)) s fun c' s' => P (k + i + 1) c' s') →
    Ok (EV.forS dec1 body (ns.map D.int) c) s fun c' s' => P (k + ns.length) c' s'
  | [], k, c, s, h, _ => Ok.pure h
  | n :: ns, k, c, s, h, hb => by
    rw [List.map_cons]
    show Ok (body c (.int n) >>= EV.forS dec1 body (ns.map D.int)) s _
    refine Ok.bind ((hb 0 n c s rfl h).imp fun c1 s1 h1 => ?_)
    refine (Ok.forS P (ns := ns) (k := k + 1) h1 fun i m c s hi hp => ?_).imp fun c2 s2 h2 => by
      rw [List.length_cons, show k + (ns.length + 1) = k + 1 + ns.length by omega]
      exact h2
    have z := hb (i + 1) m c s hi (by rw [show k + (i + 1) = k + 1 + i by omega]; exact hp)
    rw [show k + (i + 1) + 1 = k + 1 + i + 1 by omega] at z
    exact z
theorem Ok.forL {body : Unit → D → PM (Lp Unit)} (I : Nat → List Int → Prop) {t : Nat} : ∀ {ns : List Int} {k : Nat} {s : List Int}, I k s → (∀ n ∈ ns, ∀ j s, k ≤ j → j ≤ k + ns.length * t → I j s → Ok (body () (.int n)) s fun r s' => r = .go () ∧ I (j + t) s') →
    Ok (EV.forL dec1 body (ns.map D.int) ()) s fun r s' => r = .go () ∧ I (k + ns.length * t) s'
  | [], k, s, h, _ => Ok.pure ⟨rfl, by simpa using h⟩
  | n :: ns, k, s, h, hb => by
    have hk : k + t + ns.length * t = k + (n :: ns).length * t := by
      rw [List.length_cons, Nat.succ_mul]
      omega
    rw [List.map_cons]
    show Ok (body () (.int n) >>= _) s _
    refine Ok.bind ((hb n List.mem_cons_self k s (Nat.le_refl _) (by omega) h).imp fun r s1 ⟨er, h1⟩ => ?_)
    subst er
    refine (Ok.forL I (ns := ns) (k := k + t) h1 fun m hm j s h1 h2 hi => hb m (List.mem_cons_of_mem _ hm) j s (by omega) (by omega) hi).imp fun r s2 ⟨e2, h2⟩ => ?_
    exact ⟨e2, by rw [← hk]; exact h2⟩
end
end EV
namespace EV
open PySem
def cNet : Addr := 484
def cWatch : Addr := 680
def tab_Net : List (Addr × Bool) := [(cNet, true), (cWatch, false)]
end EV
namespace Lw
open PySem EV
def d_WORDS : D := .tup ((["alarm", "quiet", "unseen"] : List Str).map .str)
def f_law_cell_at (ns : List Int) (a0 : D) : PM D := ((((pure a0) >>= fun x1 => (pure (D.int ns.length)) >>= fun x2 => ltD x1 x2 >>= asB)) >>= fun b3 => if b3 = true then ((((pure a0) >>= scrGet ns)) >>= fun d4 => pure (id d4)) else ((pure (D.int 0)) >>= fun d5 => pure (id d5)))
def f_law_draw (a0 : D) : PM D := ((((((pure (D.int 0)) >>= penGet)) >>= fun x1 => (pure (D.int 0)) >>= fun x2 => gtD x1 x2 >>= asB)) >>= fun b3 => if b3 = true then ((((((pure (D.int 0)) >>= penGet)) >>= fun x5 => (pure a0) >>= fun x6 => modD x5 x6)) >>= fun v4 => ((((((pure (D.int 0)) >>= penGet)) >>= fun x7 => (pure a0) >>= fun x8 => fdivD x7 x8)) >>= fun d9 => (pure (D.int 0)) >>= fun i10 => penSet i10 d9 >>= fun _ => ((pure v4) >>= fun d11 => pure (id d11)))) else ((((((pure (D.int 2)) >>= penGet)) >>= fun x12 => (pure (D.int 1)) >>= fun x13 => addD x12 x13)) >>= fun d14 => (pure (D.int 2)) >>= fun i15 => penSet i15 d14 >>= fun _ => ((((((((((pure (D.int 1)) >>= penGet)) >>= fun x19 => (((pure (D.int 17)) >>= fun x17 => (((pure (D.int 2)) >>= penGet)) >>= fun x18 => mulD x17 x18)) >>= fun x20 => addD x19 x20)) >>= fun x25 => (((pure (D.int 69621)) >>= fun x23 => (((pure (D.int 2)) >>= fun x21 => (((pure (D.int 2)) >>= penGet)) >>= fun x22 => mulD x21 x22)) >>= fun x24 => addD x23 x24)) >>= fun x26 => mulD x25 x26)) >>= fun x27 => (pure (D.int 2147483647)) >>= fun x28 => modD x27 x28)) >>= fun v16 => ((((((((((pure v16) >>= fun x30 => (pure v16) >>= fun x31 => mulD x30 x31)) >>= fun x34 => (((pure (D.int 40503)) >>= fun x32 => (((pure (D.int 2)) >>= penGet)) >>= fun x33 => mulD x32 x33)) >>= fun x35 => addD x34 x35)) >>= fun x36 => (pure (D.int 5)) >>= fun x37 => addD x36 x37)) >>= fun x38 => (pure (D.int 2147483629)) >>= fun x39 => modD x38 x39)) >>= fun v29 => ((((((((((pure v29) >>= fun x40 => (pure (D.int 48271)) >>= fun x41 => mulD x40 x41)) >>= fun x42 => (pure (D.int 2147483647)) >>= fun x43 => modD x42 x43)) >>= fun x44 => (pure (D.int 32)) >>= fun x45 => fdivD x44 x45)) >>= fun x46 => (pure a0) >>= fun x47 => modD x46 x47)) >>= fun d48 => pure (id d48))))))
def f_law_long : PM D := ((((pure []) >>= mkT)) >>= fun v1 => ((((pure (D.int 19)) >>= fun d2 => (pure []) >>= fun s3 => pure (d2 :: s3)) >>= rangeF1) >>= fun l6 => forS dec1 (fun (c4 : D) z5 => ((((((pure c4) >>= fun d8 => (pure []) >>= fun s9 => pure (d8 :: s9)) >>= mkT)) >>= fun v7 => pure v7) : PM (D))) l6 v1 >>= fun c4 => (((((((((((((pure (D.int 0)) >>= fun d33 => ((pure (D.int 1)) >>= fun d31 => (pure []) >>= fun s32 => pure (d31 :: s32)) >>= fun s34 => pure (d33 :: s34)) >>= mkT)) >>= fun d35 => (pure []) >>= fun s36 => pure (d35 :: s36)) >>= mkT)) >>= fun x37 => (pure (D.int 2000)) >>= fun x38 => mulM x37 x38)) >>= fun d39 => ((((pure (D.int 2000)) >>= fun d28 => rg1 d28 >>= mkT)) >>= fun d29 => (((((((pure (D.str "quiet")) >>= fun d22 => (pure []) >>= fun s23 => pure (d22 :: s23)) >>= mkT)) >>= fun x24 => (pure (D.int 2000)) >>= fun x25 => mulM x24 x25)) >>= fun d26 => (((((((((pure []) >>= mkT)) >>= fun d16 => (pure []) >>= fun s17 => pure (d16 :: s17)) >>= mkT)) >>= fun x18 => (pure (D.int 2000)) >>= fun x19 => mulM x18 x19)) >>= fun d20 => ((pure c4) >>= fun d14 => ((((pure (D.str "a")) >>= fun x10 => (pure (D.int 1000)) >>= fun x11 => mulS x10 x11)) >>= fun d12 => (pure []) >>= fun s13 => pure (d12 :: s13)) >>= fun s15 => pure (d14 :: s15)) >>= fun s21 => pure (d20 :: s21)) >>= fun s27 => pure (d26 :: s27)) >>= fun s30 => pure (d29 :: s30)) >>= fun s40 => pure (d39 :: s40)) >>= mkL)) >>= fun d41 => pure (id d41))))
def f_law_pick (a0 : D) : PM D := ((((pure a0) >>= fun x5 => (((((((pure a0) >>= fun d1 => (pure []) >>= fun s2 => pure (d1 :: s2)) >>= lenF)) >>= fun d3 => (pure []) >>= fun s4 => pure (d3 :: s4)) >>= fn1 f_law_draw)) >>= fun x6 => getD x5 x6)) >>= fun d7 => pure (id d7))
def f_law_net : PM D := (((((((((pure (D.int 1)) >>= fun d25 => ((pure (D.int 2)) >>= fun d23 => ((pure (D.int 3)) >>= fun d21 => ((pure (D.int 3)) >>= fun d19 => ((pure (D.int 4)) >>= fun d17 => ((pure (D.int 4)) >>= fun d15 => ((pure (D.int 5)) >>= fun d13 => ((pure (D.int 6)) >>= fun d11 => ((pure (D.int 7)) >>= fun d9 => ((pure (D.int 8)) >>= fun d7 => (pure []) >>= fun s8 => pure (d7 :: s8)) >>= fun s10 => pure (d9 :: s10)) >>= fun s12 => pure (d11 :: s12)) >>= fun s14 => pure (d13 :: s14)) >>= fun s16 => pure (d15 :: s16)) >>= fun s18 => pure (d17 :: s18)) >>= fun s20 => pure (d19 :: s20)) >>= fun s22 => pure (d21 :: s22)) >>= fun s24 => pure (d23 :: s24)) >>= fun s26 => pure (d25 :: s26)) >>= mkL)) >>= fun d27 => (pure []) >>= fun s28 => pure (d27 :: s28)) >>= fn1 f_law_pick)) >>= fun d29 => (((((pure (D.int 6)) >>= fun d3 => (pure []) >>= fun s4 => pure (d3 :: s4)) >>= fn1 f_law_draw)) >>= fun d5 => (pure []) >>= fun s6 => pure (d5 :: s6)) >>= fun s30 => pure (d29 :: s30)) >>= two fun v1 v2 => (((((((pure (D.int 1)) >>= fun d36 => ((pure (D.int 2)) >>= fun d34 => ((pure (D.int 4)) >>= fun d32 => (pure []) >>= fun s33 => pure (d32 :: s33)) >>= fun s35 => pure (d34 :: s35)) >>= fun s37 => pure (d36 :: s37)) >>= mkL)) >>= fun x40 => ((((pure (D.int 3)) >>= fun d38 => (pure []) >>= fun s39 => pure (d38 :: s39)) >>= fn1 f_law_draw)) >>= fun x41 => getD x40 x41)) >>= fun v31 => (((pure []) >>= okL) >>= fun xs42 => ((((pure v1) >>= fun d43 => (pure []) >>= fun s44 => pure (d43 :: s44)) >>= rangeF1) >>= fun l47 => forS dec1 (fun (c45 : List D) z46 => ((((((pure v1) >>= fun d49 => (pure []) >>= fun s50 => pure (d49 :: s50)) >>= rangeF1) >>= fun l54 => compL dec1 (fun z51 => ((pure z51) >>= fun x52 => (pure z46) >>= fun x53 => neD x52 x53 >>= asB)) (fun z51 => pure z51) l54 >>= fun r55 => pure (D.lst r55)) >>= fun v48 => ((((pure v2) >>= fun x56 => (pure (D.int 0)) >>= fun x57 => eqD x56 x57 >>= asB)) >>= fun b59 => (if b59 = true then (((((pure v48) >>= itemsD) >>= fun l65 => compL dec1 (fun z62 => ((pure z62) >>= fun x63 => (pure z46) >>= fun x64 => gtD x63 x64 >>= asB)) (fun z62 => pure z62) l65 >>= fun r66 => pure (D.lst r66)) >>= fun v61 => pure v61) : PM (D)) else pure v48) >>= fun j60 => ((((pure j60) >>= itemsD) >>= fun l73 => compL dec1 (fun z68 => (((((pure (D.int 6)) >>= fun d69 => (pure []) >>= fun s70 => pure (d69 :: s70)) >>= fn1 f_law_draw)) >>= fun x71 => (pure v31) >>= fun x72 => ltD x71 x72 >>= asB)) (fun z68 => pure z68) l73 >>= fun r74 => pure (D.lst r74)) >>= fun v67 => ((((pure v2) >>= fun x75 => (pure (D.int 1)) >>= fun x76 => eqD x75 x76 >>= asB)) >>= fun b78 => (if b78 = true then (((((pure j60) >>= itemsD) >>= fun l86 => compL dec1 (fun z81 => ((pure z81) >>= fun x84 => (((pure z46) >>= fun x82 => (pure (D.int 1)) >>= fun x83 => addD x82 x83)) >>= fun x85 => eqD x84 x85 >>= asB)) (fun z81 => pure z81) l86 >>= fun r87 => pure (D.lst r87)) >>= fun v80 => pure v80) : PM (D)) else pure v67) >>= fun j79 => ((((pure v2) >>= fun x88 => (pure (D.int 2)) >>= fun x89 => eqD x88 x89 >>= asB)) >>= fun b91 => (if b91 = true then ((((((((((((((pure z46) >>= fun x94 => (pure (D.int 1)) >>= fun x95 => addD x94 x95)) >>= fun x96 => (pure v1) >>= fun x97 => modD x96 x97)) >>= fun d98 => (pure []) >>= fun s99 => pure (d98 :: s99)) >>= mkL)) >>= fun x107 => ((((pure j79) >>= itemsD) >>= fun l105 => compL dec1 (fun z100 => (((((pure (D.int 3)) >>= fun d101 => (pure []) >>= fun s102 => pure (d101 :: s102)) >>= fn1 f_law_draw)) >>= fun x103 => (pure (D.int 0)) >>= fun x104 => eqD x103 x104 >>= asB)) (fun z100 => pure z100) l105 >>= fun r106 => pure (D.lst r106))) >>= fun x108 => addD x107 x108)) >>= sortSetD)) >>= fun v93 => ((((pure v93) >>= itemsD) >>= fun l113 => compL dec1 (fun z110 => ((pure z110) >>= fun x111 => (pure z46) >>= fun x112 => neD x111 x112 >>= asB)) (fun z110 => pure z110) l113 >>= fun r114 => pure (D.lst r114)) >>= fun v109 => pure v109)) : PM (D)) else pure j79) >>= fun j92 => (((((pure j92) >>= fun d115 => (pure []) >>= fun s116 => pure (d115 :: s116)) >>= tupleF)) >>= fun d117 => okLen (c45 ++ [d117]) >>= fun _ => pure (c45 ++ [d117]))))))) : PM (List D))) l47 xs42 >>= fun c45 => (((((pure (D.lst c45)) >>= fun d118 => (pure []) >>= fun s119 => pure (d118 :: s119)) >>= tupleF)) >>= fun d120 => pure (id d120))))))
def f_is_between (a0 a1 a2 : D) : PM D := ((((((pure a0) >>= isF "int")) >>= fun d10 => asB d10 >>= fun b11 => if b11 = true then ((((((pure a0) >>= isF "bool")) >>= fun d1 => asB d1 >>= fun b2 => pure (D.bl (!b2)))) >>= fun d8 => asB d8 >>= fun b9 => if b9 = true then ((pure a1) >>= fun x3 => (pure a0) >>= fun x4 => leD x3 x4 >>= fun x5 => asB x5 >>= fun x6 => if x6 = true then (pure a2) >>= fun x7 => leD x4 x7 else pure (D.bl false)) else pure (D.bl false)) else pure (D.bl false))) >>= fun d12 => pure (id d12))
def f_is_rising (a0 a1 : D) : PM D := ((((((((((pure a1) >>= isF "tuple")) >>= asB)) >>= fun b1 => pure (!b1))) >>= fun b17 => if b17 = true then pure true else ((((((((((pure a1) >>= itemsD) >>= fun l12 => compL dec1 (fun z2 => pure true) (fun z2 => (((pure z2) >>= fun d9 => ((pure (D.int 0)) >>= fun d7 => ((((pure a0) >>= fun x3 => (pure (D.int 1)) >>= fun x4 => subD x3 x4)) >>= fun d5 => (pure []) >>= fun s6 => pure (d5 :: s6)) >>= fun s8 => pure (d7 :: s8)) >>= fun s10 => pure (d9 :: s10)) >>= fun s11 => run0 (fn3 f_is_between s11))) l12 >>= fun r13 => pure (D.lst r13))) >>= fun d14 => (pure []) >>= fun s15 => pure (d14 :: s15)) >>= allF)) >>= asB)) >>= fun b16 => pure (!b16)))) >>= fun b18 => if b18 = true then ((pure (D.bl false)) >>= fun d19 => pure (id d19)) else (((((((((pure a1) >>= fun d25 => ((((pure a1) >>= fun x20 => (((pure (D.int 1)) >>= asI)) >>= fun x21 => (pure none) >>= fun x22 => sliceD x20 x21 x22)) >>= fun d23 => (pure []) >>= fun s24 => pure (d23 :: s24)) >>= fun s26 => pure (d25 :: s26)) >>= zipF) >>= fun l30 => compL dec2 (fun z27 => pure true) (fun z27 => ((pure z27.1) >>= fun x28 => (pure z27.2) >>= fun x29 => ltD x28 x29)) l30 >>= fun r31 => pure (D.lst r31))) >>= fun d32 => (pure []) >>= fun s33 => pure (d32 :: s33)) >>= allF)) >>= fun d34 => pure (id d34)))
def f_is_net (a0 : D) : PM D := ((((((((((pure a0) >>= isF "tuple")) >>= asB)) >>= fun b1 => pure (!b1))) >>= fun b10 => if b10 = true then pure true else ((((pure (D.int 1)) >>= fun x4 => ((((pure a0) >>= fun d2 => (pure []) >>= fun s3 => pure (d2 :: s3)) >>= lenF)) >>= fun x5 => leD x4 x5 >>= fun x6 => asB x6 >>= fun x7 => if x7 = true then (pure (D.int 8)) >>= fun x8 => leD x5 x8 >>= asB else pure false)) >>= fun b9 => pure (!b9)))) >>= fun b11 => if b11 = true then ((pure (D.bl false)) >>= fun d12 => pure (id d12)) else ((((pure a0) >>= fun d13 => (pure []) >>= fun s14 => pure (d13 :: s14)) >>= enumF) >>= fun l17 => forL dec2 (fun (c15 : Unit) z16 => (((((((((((((((pure a0) >>= fun d20 => (pure []) >>= fun s21 => pure (d20 :: s21)) >>= lenF)) >>= fun d22 => ((pure z16.2) >>= fun d18 => (pure []) >>= fun s19 => pure (d18 :: s19)) >>= fun s23 => pure (d22 :: s23)) >>= fun s24 => run0 (fn2 f_is_rising s24))) >>= asB)) >>= fun b25 => pure (!b25))) >>= fun b28 => if b28 = true then pure true else ((pure z16.1) >>= fun x26 => (pure z16.2) >>= fun x27 => inD x26 x27 >>= asB))) >>= fun b29 => if b29 = true then ((pure (D.bl false)) >>= fun d30 => pure (Lp.ret d30)) else pure (.go ())) : PM (Lp (Unit)))) l17 () >>= lpK id fun c15 => ((pure (D.bl true)) >>= fun d31 => pure (id d31))))
def f_Net_init (a0 : D) : PM (List D) := (((((((((pure a0) >>= fun d1 => (pure []) >>= fun s2 => pure (d1 :: s2)) >>= fun s3 => run0 (fn1 f_is_net s3))) >>= asB)) >>= fun b4 => pure (!b4))) >>= fun b5 => if b5 = true then raiseP ⟨"NetError", []⟩ else ((pure a0) >>= fun d6 => pure (([] : List D) ++ [d6])))
def f_is_word (a0 : D) : PM D := ((((((pure a0) >>= isF "str")) >>= fun d3 => asB d3 >>= fun b4 => if b4 = true then ((pure a0) >>= fun x1 => (pure d_WORDS) >>= fun x2 => inD x1 x2) else pure (D.bl false))) >>= fun d5 => pure (id d5))
def f_is_report (a0 a1 : D) : PM D := ((((((pure a1) >>= isF "tuple")) >>= fun d17 => asB d17 >>= fun b18 => if b18 = true then (((((((pure a1) >>= fun d1 => (pure []) >>= fun s2 => pure (d1 :: s2)) >>= lenF)) >>= fun x5 => ((((pure a0) >>= fun d3 => (pure []) >>= fun s4 => pure (d3 :: s4)) >>= lenF)) >>= fun x6 => eqD x5 x6)) >>= fun d15 => asB d15 >>= fun b16 => if b16 = true then ((((((pure a1) >>= itemsD) >>= fun l11 => compL dec1 (fun z7 => pure true) (fun z7 => (((pure z7) >>= fun d8 => (pure []) >>= fun s9 => pure (d8 :: s9)) >>= fun s10 => run0 (fn1 f_is_word s10))) l11 >>= fun r12 => pure (D.lst r12))) >>= fun d13 => (pure []) >>= fun s14 => pure (d13 :: s14)) >>= allF) else pure (D.bl false)) else pure (D.bl false))) >>= fun d19 => pure (id d19))
def g_need_start (a0 a1 : D) : PM Unit := ((((((((pure a0) >>= isC tab_Net)) >>= asB)) >>= fun b1 => pure (!b1))) >>= fun b2 => if b2 = true then raiseP ⟨"NetError", []⟩ else ((((((pure a1) >>= fun x3 => (pure D.non) >>= fun x4 => notND x3 x4 >>= asB)) >>= fun b11 => if b11 = true then (((((((((pure a0) >>= fldD cNet "own_needs")) >>= fun d7 => ((pure a1) >>= fun d5 => (pure []) >>= fun s6 => pure (d5 :: s6)) >>= fun s8 => pure (d7 :: s8)) >>= fun s9 => run0 (fn2 f_is_report s9))) >>= asB)) >>= fun b10 => pure (!b10)) else pure false)) >>= fun b12 => if b12 = true then raiseP ⟨"ReportError", []⟩ else pure ()))
def f_need_start (a0 a1 : D) : PM D := g_need_start a0 a1 >>= fun _ => pure D.non
def f_Watch_init (a0 a1 : D) : PM (List D) := (((((pure a0) >>= fun d3 => ((pure a1) >>= fun d1 => (pure []) >>= fun s2 => pure (d1 :: s2)) >>= fun s4 => pure (d3 :: s4)) >>= fun s5 => run0 (fn2 f_need_start s5))) >>= fun _ => ((pure a0) >>= fun d6 => ((((((pure a1) >>= fun x7 => (pure D.non) >>= fun x8 => isND x7 x8 >>= asB)) >>= fun b15 => if b15 = true then (((((pure (D.str "unseen")) >>= fun d9 => (pure []) >>= fun s10 => pure (d9 :: s10)) >>= mkT)) >>= fun x13 => ((((((pure a0) >>= fldD cNet "own_needs")) >>= fun d11 => (pure []) >>= fun s12 => pure (d11 :: s12)) >>= lenF)) >>= fun x14 => mulG x13 x14) else pure a1)) >>= fun d16 => ((((pure []) >>= mkT)) >>= fun d17 => ((pure d16) >>= fun _ => pure (((([] : List D) ++ [d6]) ++ [d16]) ++ [d17]))))))
def f_law_no_nets : PM D := ((((((((pure (D.int 1)) >>= fun d4 => (pure []) >>= fun s5 => pure (d4 :: s5)) >>= mkT)) >>= fun d6 => ((((pure []) >>= mkT)) >>= fun d2 => (pure []) >>= fun s3 => pure (d2 :: s3)) >>= fun s7 => pure (d6 :: s7)) >>= fun s8 => mkT s8 >>= fun t9 => newO cNet ["own_needs"] (fnL1 f_Net_init) [t9])) >>= fun v1 => (((((pure D.non) >>= fun d65 => ((pure (D.bl true)) >>= fun d63 => ((pure (D.int 0)) >>= fun d61 => ((pure (D.str "")) >>= fun d59 => ((((pure []) >>= mkT)) >>= fun d57 => ((((pure []) >>= mkL)) >>= fun d55 => ((pure (D.dct [])) >>= fun d53 => (((((((pure []) >>= mkT)) >>= fun d49 => (pure []) >>= fun s50 => pure (d49 :: s50)) >>= mkL)) >>= fun d51 => (((((((((pure []) >>= mkT)) >>= fun d43 => (pure []) >>= fun s44 => pure (d43 :: s44)) >>= mkT)) >>= fun x45 => (pure (D.int 9)) >>= fun x46 => mulG x45 x46)) >>= fun d47 => (((((pure D.non) >>= fun d39 => (pure []) >>= fun s40 => pure (d39 :: s40)) >>= mkT)) >>= fun d41 => (((((pure (D.int 0)) >>= fun d35 => (pure []) >>= fun s36 => pure (d35 :: s36)) >>= mkT)) >>= fun d37 => (((((((pure []) >>= mkL)) >>= fun d31 => (pure []) >>= fun s32 => pure (d31 :: s32)) >>= mkT)) >>= fun d33 => ((((((((pure (D.int 0)) >>= fun d25 => (pure []) >>= fun s26 => pure (d25 :: s26)) >>= mkT)) >>= fun d27 => (pure []) >>= fun s28 => pure (d27 :: s28)) >>= mkT)) >>= fun d29 => ((((((((pure (D.int 1)) >>= fun d19 => (pure []) >>= fun s20 => pure (d19 :: s20)) >>= mkT)) >>= fun d21 => (pure []) >>= fun s22 => pure (d21 :: s22)) >>= mkT)) >>= fun d23 => ((((((((((pure (D.int 1)) >>= negD)) >>= fun d13 => (pure []) >>= fun s14 => pure (d13 :: s14)) >>= mkT)) >>= fun d15 => ((((pure []) >>= mkT)) >>= fun d11 => (pure []) >>= fun s12 => pure (d11 :: s12)) >>= fun s16 => pure (d15 :: s16)) >>= mkT)) >>= fun d17 => (pure []) >>= fun s18 => pure (d17 :: s18)) >>= fun s24 => pure (d23 :: s24)) >>= fun s30 => pure (d29 :: s30)) >>= fun s34 => pure (d33 :: s34)) >>= fun s38 => pure (d37 :: s38)) >>= fun s42 => pure (d41 :: s42)) >>= fun s48 => pure (d47 :: s48)) >>= fun s52 => pure (d51 :: s52)) >>= fun s54 => pure (d53 :: s54)) >>= fun s56 => pure (d55 :: s56)) >>= fun s58 => pure (d57 :: s58)) >>= fun s60 => pure (d59 :: s60)) >>= fun s62 => pure (d61 :: s62)) >>= fun s64 => pure (d63 :: s64)) >>= fun s66 => pure (d65 :: s66)) >>= mkL)) >>= fun v10 => ((((pure v10) >>= fun x124 => ((((((((((pure (D.int 1)) >>= fun d118 => ((pure (D.int 1)) >>= fun d116 => (pure []) >>= fun s117 => pure (d116 :: s117)) >>= fun s119 => pure (d118 :: s119)) >>= mkT)) >>= fun d120 => ((((pure []) >>= mkT)) >>= fun d114 => (pure []) >>= fun s115 => pure (d114 :: s115)) >>= fun s121 => pure (d120 :: s121)) >>= mkT)) >>= fun d122 => ((((((((pure (D.int 2)) >>= fun d108 => ((pure (D.int 1)) >>= fun d106 => (pure []) >>= fun s107 => pure (d106 :: s107)) >>= fun s109 => pure (d108 :: s109)) >>= mkT)) >>= fun d110 => ((((pure []) >>= mkT)) >>= fun d104 => ((((pure []) >>= mkT)) >>= fun d102 => (pure []) >>= fun s103 => pure (d102 :: s103)) >>= fun s105 => pure (d104 :: s105)) >>= fun s111 => pure (d110 :: s111)) >>= mkT)) >>= fun d112 => ((((((((pure (D.bl true)) >>= fun d96 => (pure []) >>= fun s97 => pure (d96 :: s97)) >>= mkT)) >>= fun d98 => ((((pure []) >>= mkT)) >>= fun d94 => (pure []) >>= fun s95 => pure (d94 :: s95)) >>= fun s99 => pure (d98 :: s99)) >>= mkT)) >>= fun d100 => ((((((((pure D.non) >>= fun d88 => (pure []) >>= fun s89 => pure (d88 :: s89)) >>= mkT)) >>= fun d90 => ((((pure []) >>= mkT)) >>= fun d86 => (pure []) >>= fun s87 => pure (d86 :: s87)) >>= fun s91 => pure (d90 :: s91)) >>= mkT)) >>= fun d92 => ((((((((pure (D.str "1")) >>= fun d80 => (pure []) >>= fun s81 => pure (d80 :: s81)) >>= mkT)) >>= fun d82 => ((((pure []) >>= mkT)) >>= fun d78 => (pure []) >>= fun s79 => pure (d78 :: s79)) >>= fun s83 => pure (d82 :: s83)) >>= mkT)) >>= fun d84 => (((((((((((pure (D.int 1)) >>= fun d70 => (pure []) >>= fun s71 => pure (d70 :: s71)) >>= mkT)) >>= fun d72 => (pure []) >>= fun s73 => pure (d72 :: s73)) >>= mkT)) >>= fun d74 => ((((pure []) >>= mkT)) >>= fun d68 => (pure []) >>= fun s69 => pure (d68 :: s69)) >>= fun s75 => pure (d74 :: s75)) >>= mkT)) >>= fun d76 => (pure []) >>= fun s77 => pure (d76 :: s77)) >>= fun s85 => pure (d84 :: s85)) >>= fun s93 => pure (d92 :: s93)) >>= fun s101 => pure (d100 :: s101)) >>= fun s113 => pure (d112 :: s113)) >>= fun s123 => pure (d122 :: s123)) >>= mkL)) >>= fun x125 => addD x124 x125)) >>= fun v67 => ((((pure v67) >>= fun x175 => (((((((((pure []) >>= mkT)) >>= fun d171 => (((((pure (D.int 1)) >>= fun d167 => (pure []) >>= fun s168 => pure (d167 :: s168)) >>= mkT)) >>= fun d169 => (pure []) >>= fun s170 => pure (d169 :: s170)) >>= fun s172 => pure (d171 :: s172)) >>= mkT)) >>= fun d173 => (((((((pure []) >>= mkT)) >>= fun d163 => (((((pure (D.int 0)) >>= fun d159 => ((pure (D.int 1)) >>= fun d157 => (pure []) >>= fun s158 => pure (d157 :: s158)) >>= fun s160 => pure (d159 :: s160)) >>= mkT)) >>= fun d161 => (pure []) >>= fun s162 => pure (d161 :: s162)) >>= fun s164 => pure (d163 :: s164)) >>= mkT)) >>= fun d165 => (((((((pure []) >>= mkT)) >>= fun d153 => ((pure D.non) >>= fun d151 => (pure []) >>= fun s152 => pure (d151 :: s152)) >>= fun s154 => pure (d153 :: s154)) >>= mkT)) >>= fun d155 => (((((pure (D.str "")) >>= fun d147 => ((pure (D.str "")) >>= fun d145 => (pure []) >>= fun s146 => pure (d145 :: s146)) >>= fun s148 => pure (d147 :: s148)) >>= mkT)) >>= fun d149 => ((((((((pure (D.int 1)) >>= fun d139 => (pure []) >>= fun s140 => pure (d139 :: s140)) >>= mkT)) >>= fun d141 => (((((pure (D.int 0)) >>= fun d135 => (pure []) >>= fun s136 => pure (d135 :: s136)) >>= mkL)) >>= fun d137 => (pure []) >>= fun s138 => pure (d137 :: s138)) >>= fun s142 => pure (d141 :: s142)) >>= mkT)) >>= fun d143 => ((((((((pure (D.int 2)) >>= fun d129 => (pure []) >>= fun s130 => pure (d129 :: s130)) >>= mkT)) >>= fun d131 => ((((pure []) >>= mkT)) >>= fun d127 => (pure []) >>= fun s128 => pure (d127 :: s128)) >>= fun s132 => pure (d131 :: s132)) >>= mkT)) >>= fun d133 => (pure []) >>= fun s134 => pure (d133 :: s134)) >>= fun s144 => pure (d143 :: s144)) >>= fun s150 => pure (d149 :: s150)) >>= fun s156 => pure (d155 :: s156)) >>= fun s166 => pure (d165 :: s166)) >>= fun s174 => pure (d173 :: s174)) >>= mkL)) >>= fun x176 => addD x175 x176)) >>= fun v126 => ((((pure v126) >>= fun x195 => ((((pure v1) >>= fun d193 => (((((pure v1) >>= fun d189 => (pure []) >>= fun s190 => pure (d189 :: s190)) >>= mkT)) >>= fun d191 => (((((pure v1) >>= fun d183 => (pure []) >>= fun s184 => pure (d183 :: s184)) >>= fun s185 => newO cWatch ["own_net", "kept", "past"] (fnL2 f_Watch_init) (s185 ++ [D.non]))) >>= fun d187 => (((((((pure []) >>= mkT)) >>= fun d179 => ((pure v1) >>= fun d177 => (pure []) >>= fun s178 => pure (d177 :: s178)) >>= fun s180 => pure (d179 :: s180)) >>= mkT)) >>= fun d181 => (pure []) >>= fun s182 => pure (d181 :: s182)) >>= fun s188 => pure (d187 :: s188)) >>= fun s192 => pure (d191 :: s192)) >>= fun s194 => pure (d193 :: s194)) >>= mkL)) >>= fun x196 => addD x195 x196)) >>= fun d197 => pure (id d197))))))
def f_law_no_reports (a0 a1 : D) : PM D := (((((((pure (D.str "unseen")) >>= fun d2 => (pure []) >>= fun s3 => pure (d2 :: s3)) >>= mkT)) >>= fun x4 => (pure a0) >>= fun x5 => mulG x4 x5)) >>= fun v1 => ((((pure D.non) >>= fun d40 => ((pure (D.bl true)) >>= fun d38 => ((pure (D.int 0)) >>= fun d36 => ((pure (D.str "")) >>= fun d34 => ((pure (D.str "alarm")) >>= fun d32 => ((((pure []) >>= mkT)) >>= fun d30 => ((((pure []) >>= mkL)) >>= fun d28 => ((pure (D.dct [])) >>= fun d26 => (((((pure v1) >>= fun d22 => (pure []) >>= fun s23 => pure (d22 :: s23)) >>= listF)) >>= fun d24 => ((((pure v1) >>= fun x17 => (((pure (D.int 1)) >>= asI)) >>= fun x18 => (pure none) >>= fun x19 => sliceD x17 x18 x19)) >>= fun d20 => ((((pure v1) >>= fun x13 => ((((pure (D.str "quiet")) >>= fun d11 => (pure []) >>= fun s12 => pure (d11 :: s12)) >>= mkT)) >>= fun x14 => addD x13 x14)) >>= fun d15 => (((((pure v1) >>= fun d7 => (pure []) >>= fun s8 => pure (d7 :: s8)) >>= mkT)) >>= fun d9 => (pure []) >>= fun s10 => pure (d9 :: s10)) >>= fun s16 => pure (d15 :: s16)) >>= fun s21 => pure (d20 :: s21)) >>= fun s25 => pure (d24 :: s25)) >>= fun s27 => pure (d26 :: s27)) >>= fun s29 => pure (d28 :: s29)) >>= fun s31 => pure (d30 :: s31)) >>= fun s33 => pure (d32 :: s33)) >>= fun s35 => pure (d34 :: s35)) >>= fun s37 => pure (d36 :: s37)) >>= fun s39 => pure (d38 :: s39)) >>= fun s41 => pure (d40 :: s41)) >>= okL) >>= fun xs6 => ((((((pure D.non) >>= fun d68 => ((pure (D.str "Alarm")) >>= fun d66 => ((pure (D.str "")) >>= fun d64 => ((pure (D.int 0)) >>= fun d62 => ((pure (D.bl true)) >>= fun d60 => ((pure (D.str "broken")) >>= fun d58 => (((((pure (D.str "alarm")) >>= fun d54 => (pure []) >>= fun s55 => pure (d54 :: s55)) >>= mkT)) >>= fun d56 => (((((pure (D.str "quiet")) >>= fun d50 => (pure []) >>= fun s51 => pure (d50 :: s51)) >>= mkL)) >>= fun d52 => ((pure (D.str "alar")) >>= fun d48 => (((((((pure []) >>= mkT)) >>= fun d42 => (pure []) >>= fun s43 => pure (d42 :: s43)) >>= fun s44 => mkT s44 >>= fun t45 => newO cNet ["own_needs"] (fnL1 f_Net_init) [t45])) >>= fun d46 => (pure []) >>= fun s47 => pure (d46 :: s47)) >>= fun s49 => pure (d48 :: s49)) >>= fun s53 => pure (d52 :: s53)) >>= fun s57 => pure (d56 :: s57)) >>= fun s59 => pure (d58 :: s59)) >>= fun s61 => pure (d60 :: s61)) >>= fun s63 => pure (d62 :: s63)) >>= fun s65 => pure (d64 :: s65)) >>= fun s67 => pure (d66 :: s67)) >>= fun s69 => pure (d68 :: s69)) >>= mkL)) >>= itemsD) >>= fun l72 => forS dec1 (fun (c70 : List D) z71 => (((((((((pure v1) >>= fun x73 => (pure none) >>= fun x74 => (((pure a1) >>= asI)) >>= fun x75 => sliceD x73 x74 x75)) >>= fun x78 => ((((pure z71) >>= fun d76 => (pure []) >>= fun s77 => pure (d76 :: s77)) >>= mkT)) >>= fun x79 => addD x78 x79)) >>= fun x85 => (((pure v1) >>= fun x82 => (((((pure a1) >>= fun x80 => (pure (D.int 1)) >>= fun x81 => addD x80 x81)) >>= asI)) >>= fun x83 => (pure none) >>= fun x84 => sliceD x82 x83 x84)) >>= fun x86 => addD x85 x86)) >>= fun d87 => okLen (c70 ++ [d87]) >>= fun _ => pure (c70 ++ [d87])) : PM (List D))) l72 xs6 >>= fun c70 => ((((pure (D.lst c70)) >>= fun x104 => ((((((((((((pure []) >>= mkT)) >>= fun d94 => (pure []) >>= fun s95 => pure (d94 :: s95)) >>= fun s96 => mkT s96 >>= fun t97 => newO cNet ["own_needs"] (fnL1 f_Net_init) [t97])) >>= fun d98 => (pure []) >>= fun s99 => pure (d98 :: s99)) >>= fun s100 => newO cWatch ["own_net", "kept", "past"] (fnL2 f_Watch_init) (s100 ++ [D.non]))) >>= fun d102 => (((((((pure []) >>= mkT)) >>= fun d88 => (pure []) >>= fun s89 => pure (d88 :: s89)) >>= fun s90 => mkT s90 >>= fun t91 => newO cNet ["own_needs"] (fnL1 f_Net_init) [t91])) >>= fun d92 => (pure []) >>= fun s93 => pure (d92 :: s93)) >>= fun s103 => pure (d102 :: s103)) >>= mkL)) >>= fun x105 => addD x104 x105)) >>= fun d106 => pure (id d106)))))
def f_law_odd : PM D := (((((pure D.non) >>= fun d36 => ((pure (D.bl true)) >>= fun d34 => ((pure (D.bl false)) >>= fun d32 => ((((pure (D.int 1)) >>= negD)) >>= fun d30 => ((pure (D.int 0)) >>= fun d28 => ((pure (D.int 1)) >>= fun d26 => ((pure (D.int 2)) >>= fun d24 => ((pure (D.int 9)) >>= fun d22 => ((((pure (D.int 10)) >>= fun x18 => (pure (D.int 11)) >>= fun x19 => powD x18 x19)) >>= fun d20 => ((pure (D.str "")) >>= fun d16 => ((pure (D.str "alarm")) >>= fun d14 => ((pure (D.str "quiet")) >>= fun d12 => ((pure (D.str "unseen")) >>= fun d10 => ((pure (D.str "broken")) >>= fun d8 => ((pure (D.str "none")) >>= fun d6 => ((((pure []) >>= mkT)) >>= fun d4 => ((((pure []) >>= mkL)) >>= fun d2 => (pure []) >>= fun s3 => pure (d2 :: s3)) >>= fun s5 => pure (d4 :: s5)) >>= fun s7 => pure (d6 :: s7)) >>= fun s9 => pure (d8 :: s9)) >>= fun s11 => pure (d10 :: s11)) >>= fun s13 => pure (d12 :: s13)) >>= fun s15 => pure (d14 :: s15)) >>= fun s17 => pure (d16 :: s17)) >>= fun s21 => pure (d20 :: s21)) >>= fun s23 => pure (d22 :: s23)) >>= fun s25 => pure (d24 :: s25)) >>= fun s27 => pure (d26 :: s27)) >>= fun s29 => pure (d28 :: s29)) >>= fun s31 => pure (d30 :: s31)) >>= fun s33 => pure (d32 :: s33)) >>= fun s35 => pure (d34 :: s35)) >>= fun s37 => pure (d36 :: s37)) >>= mkL)) >>= fun v1 => ((((pure v1) >>= fun x95 => ((((pure (D.dct [])) >>= fun d93 => (((((pure (D.int 0)) >>= fun d89 => (pure []) >>= fun s90 => pure (d89 :: s90)) >>= mkT)) >>= fun d91 => (((((pure (D.int 0)) >>= fun d85 => (pure []) >>= fun s86 => pure (d85 :: s86)) >>= mkL)) >>= fun d87 => (((((pure (D.int 0)) >>= fun d81 => ((pure (D.int 1)) >>= fun d79 => (pure []) >>= fun s80 => pure (d79 :: s80)) >>= fun s82 => pure (d81 :: s82)) >>= mkT)) >>= fun d83 => (((((pure (D.int 1)) >>= fun d75 => ((pure (D.int 0)) >>= fun d73 => (pure []) >>= fun s74 => pure (d73 :: s74)) >>= fun s76 => pure (d75 :: s76)) >>= mkT)) >>= fun d77 => (((((pure (D.bl true)) >>= fun d69 => (pure []) >>= fun s70 => pure (d69 :: s70)) >>= mkT)) >>= fun d71 => (((((pure (D.str "0")) >>= fun d65 => (pure []) >>= fun s66 => pure (d65 :: s66)) >>= mkT)) >>= fun d67 => (((((((pure []) >>= mkT)) >>= fun d61 => (pure []) >>= fun s62 => pure (d61 :: s62)) >>= mkT)) >>= fun d63 => ((((((((pure (D.int 1)) >>= fun d55 => (pure []) >>= fun s56 => pure (d55 :: s56)) >>= mkT)) >>= fun d57 => ((((pure []) >>= mkT)) >>= fun d53 => (pure []) >>= fun s54 => pure (d53 :: s54)) >>= fun s58 => pure (d57 :: s58)) >>= mkT)) >>= fun d59 => (((((pure (D.str "broken")) >>= fun d49 => ((((pure []) >>= mkT)) >>= fun d47 => (pure []) >>= fun s48 => pure (d47 :: s48)) >>= fun s50 => pure (d49 :: s50)) >>= mkT)) >>= fun d51 => (((((pure (D.str "none")) >>= fun d43 => ((pure (D.int 0)) >>= fun d41 => ((((pure []) >>= mkT)) >>= fun d39 => (pure []) >>= fun s40 => pure (d39 :: s40)) >>= fun s42 => pure (d41 :: s42)) >>= fun s44 => pure (d43 :: s44)) >>= mkT)) >>= fun d45 => (pure []) >>= fun s46 => pure (d45 :: s46)) >>= fun s52 => pure (d51 :: s52)) >>= fun s60 => pure (d59 :: s60)) >>= fun s64 => pure (d63 :: s64)) >>= fun s68 => pure (d67 :: s68)) >>= fun s72 => pure (d71 :: s72)) >>= fun s78 => pure (d77 :: s78)) >>= fun s84 => pure (d83 :: s84)) >>= fun s88 => pure (d87 :: s88)) >>= fun s92 => pure (d91 :: s92)) >>= fun s94 => pure (d93 :: s94)) >>= mkL)) >>= fun x96 => addD x95 x96)) >>= fun v38 => ((((((((pure (D.int 1)) >>= fun d100 => (pure []) >>= fun s101 => pure (d100 :: s101)) >>= mkT)) >>= fun d102 => ((((pure []) >>= mkT)) >>= fun d98 => (pure []) >>= fun s99 => pure (d98 :: s99)) >>= fun s103 => pure (d102 :: s103)) >>= fun s104 => mkT s104 >>= fun t105 => newO cNet ["own_needs"] (fnL1 f_Net_init) [t105])) >>= fun v97 => (((((pure v97) >>= fun d107 => (pure []) >>= fun s108 => pure (d107 :: s108)) >>= fun s109 => newO cWatch ["own_net", "kept", "past"] (fnL2 f_Watch_init) (s109 ++ [D.non]))) >>= fun v106 => (((((((pure v38) >>= fun x140 => ((((pure v97) >>= fun d138 => ((pure v106) >>= fun d136 => (((((pure v97) >>= fun d132 => (pure []) >>= fun s133 => pure (d132 :: s133)) >>= mkT)) >>= fun d134 => (((((pure v106) >>= fun d128 => (pure []) >>= fun s129 => pure (d128 :: s129)) >>= mkL)) >>= fun d130 => (((((pure (D.str "broken")) >>= fun d124 => ((pure v106) >>= fun d122 => (pure []) >>= fun s123 => pure (d122 :: s123)) >>= fun s125 => pure (d124 :: s125)) >>= mkT)) >>= fun d126 => (((((pure (D.str "none")) >>= fun d118 => ((pure (D.int 0)) >>= fun d116 => ((pure v97) >>= fun d114 => (pure []) >>= fun s115 => pure (d114 :: s115)) >>= fun s117 => pure (d116 :: s117)) >>= fun s119 => pure (d118 :: s119)) >>= mkT)) >>= fun d120 => ((((((pure []) >>= mkT)) >>= fun d111 => pure (D.dct [(D.int 0, d111)]))) >>= fun d112 => (pure []) >>= fun s113 => pure (d112 :: s113)) >>= fun s121 => pure (d120 :: s121)) >>= fun s127 => pure (d126 :: s127)) >>= fun s131 => pure (d130 :: s131)) >>= fun s135 => pure (d134 :: s135)) >>= fun s137 => pure (d136 :: s137)) >>= fun s139 => pure (d138 :: s139)) >>= mkL)) >>= fun x141 => addD x140 x141)) >>= fun d142 => (pure []) >>= fun s143 => pure (d142 :: s143)) >>= fn1 f_law_pick)) >>= fun d144 => pure (id d144))))))
def f_law_pen (a0 : D) : PM (List Int) := (((((pure (D.int 0)) >>= fun d13 => ((((pure a0) >>= fun x9 => (((pure (D.int 10)) >>= fun x7 => (pure (D.int 18)) >>= fun x8 => powD x7 x8)) >>= fun x10 => subD x9 x10)) >>= fun d11 => (pure []) >>= fun s12 => pure (d11 :: s12)) >>= fun s14 => pure (d13 :: s14)) >>= maxF)) >>= fun d15 => ((((pure a0) >>= fun x3 => (pure (D.int 1000000007)) >>= fun x4 => modD x3 x4)) >>= fun d5 => ((pure (D.int 0)) >>= fun d1 => (pure []) >>= fun s2 => pure (d1 :: s2)) >>= fun s6 => pure (d5 :: s6)) >>= fun s16 => pure (d15 :: s16)) >>= asInts
def f_law_have (a0 a1 : D) : PM D := (((((pure a0) >>= itemsD) >>= fun l4 => compL dec1 (fun z1 => ((pure z1) >>= fun x2 => (pure a1) >>= fun x3 => inD x2 x3 >>= asB)) (fun z1 => pure z1) l4 >>= fun r5 => pure (D.lst r5))) >>= fun d6 => pure (id d6))
def f_law_reach (a0 a1 : D) : PM D := ((((pure a1) >>= fun d2 => (pure []) >>= fun s3 => pure (d2 :: s3)) >>= okL) >>= fun xs1 => (((((((pure a0) >>= fun d4 => (pure []) >>= fun s5 => pure (d4 :: s5)) >>= lenF)) >>= fun d6 => (pure []) >>= fun s7 => pure (d6 :: s7)) >>= rangeF1) >>= fun l10 => forS dec1 (fun (c8 : List D) z9 => ((((((((pure a0) >>= fun d11 => (pure []) >>= fun s12 => pure (d11 :: s12)) >>= lenF)) >>= fun d13 => (pure []) >>= fun s14 => pure (d13 :: s14)) >>= rangeF1) >>= fun l17 => forS dec1 (fun (c15 : List D) z16 => ((((noExc (((((pure z16) >>= fun x18 => (pure (D.lst c15)) >>= fun x19 => notInD x18 x19 >>= asB)) >>= fun b29 => if b29 = true then (((((pure (D.lst c15)) >>= itemsD) >>= fun l25 => compL dec1 (fun z20 => ((pure z16) >>= fun x23 => (((pure a0) >>= fun x21 => (pure z20) >>= fun x22 => getD x21 x22)) >>= fun x24 => inD x23 x24 >>= asB)) (fun z20 => pure (D.int 1)) l25 >>= fun r26 => pure (D.lst r26))) >>= fun x27 => (((pure []) >>= mkL)) >>= fun x28 => neD x27 x28 >>= asB) else pure false)))) >>= fun b31 => (if b31 = true then (((pure z16) >>= fun d33 => okLen (c15 ++ [d33]) >>= fun _ => pure (c15 ++ [d33])) : PM (List D)) else pure c15) >>= fun j32 => pure j32) : PM (List D))) l17 c8 >>= fun c15 => pure c15) : PM (List D))) l10 xs1 >>= fun c8 => ((((((((pure (D.lst c8)) >>= fun d34 => (pure []) >>= fun s35 => pure (d34 :: s35)) >>= sortedG)) >>= fun d36 => (pure []) >>= fun s37 => pure (d36 :: s37)) >>= tupleF)) >>= fun d38 => pure (id d38))))
def f_law_alarming (a0 a1 : D) : PM D := ((((((((((((pure a0) >>= fun d1 => (pure []) >>= fun s2 => pure (d1 :: s2)) >>= lenF)) >>= fun d3 => (pure []) >>= fun s4 => pure (d3 :: s4)) >>= rangeF1) >>= fun l18 => compL dec1 (fun z5 => ((((((((pure a0) >>= fun d10 => ((pure z5) >>= fun d8 => (pure []) >>= fun s9 => pure (d8 :: s9)) >>= fun s11 => pure (d10 :: s11)) >>= fun s12 => run0 (fn2 f_law_reach s12))) >>= fun d13 => ((pure a1) >>= fun d6 => (pure []) >>= fun s7 => pure (d6 :: s7)) >>= fun s14 => pure (d13 :: s14)) >>= fun s15 => run0 (fn2 f_law_have s15))) >>= fun x16 => (((pure []) >>= mkL)) >>= fun x17 => neD x16 x17 >>= asB)) (fun z5 => pure z5) l18 >>= fun r19 => pure (D.lst r19))) >>= fun d20 => (pure []) >>= fun s21 => pure (d20 :: s21)) >>= tupleF)) >>= fun d22 => pure (id d22))
def f_law_seen (a0 a1 a2 : D) : PM D := ((((((pure a0) >>= fun d5 => ((pure a1) >>= fun d3 => (pure []) >>= fun s4 => pure (d3 :: s4)) >>= fun s6 => pure (d5 :: s6)) >>= fun s7 => run0 (fn2 f_law_alarming s7))) >>= fun d10 => ((((pure []) >>= okL)) >>= fun d8 => (pure []) >>= fun s9 => pure (Mv.o d8 :: s9)) >>= fun s11 => pure (Mv.v d10 :: s11)) >>= two2 (kVO fun v12 xs13 => (((((((pure a0) >>= fun d14 => (pure []) >>= fun s15 => pure (d14 :: s15)) >>= lenF)) >>= fun d16 => (pure []) >>= fun s17 => pure (d16 :: s17)) >>= rangeF1) >>= fun l20 => forS dec1 (fun (c18 : List D) z19 => (((((((pure z19) >>= fun x22 => (pure v12) >>= fun x23 => inD x22 x23 >>= asB)) >>= fun b24 => if b24 = true then pure (D.str "alarm") else pure (D.str "quiet"))) >>= fun v21 => ((((((pure z19) >>= fun x25 => (pure a2) >>= fun x26 => inD x25 x26 >>= asB)) >>= fun b27 => if b27 = true then pure v21 else pure (D.str "unseen"))) >>= fun d28 => okLen (c18 ++ [d28]) >>= fun _ => pure (c18 ++ [d28]))) : PM (List D))) l20 xs13 >>= fun c18 => (((((pure (D.lst c18)) >>= fun d29 => (pure []) >>= fun s30 => pure (d29 :: s30)) >>= tupleF)) >>= fun d31 => pure (id d31)))))
def f_law_set (a0 : D) : PM D := ((((pure (D.int 1)) >>= fun x4 => ((((pure (D.int 4)) >>= fun d2 => (pure []) >>= fun s3 => pure (d2 :: s3)) >>= fn1 f_law_draw)) >>= fun x5 => addD x4 x5)) >>= fun v1 => (((((((((pure a0) >>= fun d6 => (pure []) >>= fun s7 => pure (d6 :: s7)) >>= rangeF1) >>= fun l13 => compL dec1 (fun z8 => (((((pure (D.int 5)) >>= fun d9 => (pure []) >>= fun s10 => pure (d9 :: s10)) >>= fn1 f_law_draw)) >>= fun x11 => (pure v1) >>= fun x12 => ltD x11 x12 >>= asB)) (fun z8 => pure z8) l13 >>= fun r14 => pure (D.lst r14))) >>= fun d15 => (pure []) >>= fun s16 => pure (d15 :: s16)) >>= tupleF)) >>= fun d17 => pure (id d17)))
def f_law_report (a0 : D) : PM D := ((((((pure (D.int 4)) >>= fun d7 => (pure []) >>= fun s8 => pure (d7 :: s8)) >>= fn1 f_law_draw)) >>= fun d9 => (((((pure a0) >>= fun d3 => (pure []) >>= fun s4 => pure (d3 :: s4)) >>= lenF)) >>= fun d5 => (pure []) >>= fun s6 => pure (d5 :: s6)) >>= fun s10 => pure (d9 :: s10)) >>= two fun v1 v2 => (((((pure a0) >>= fun d20 => (((((pure v2) >>= fun d16 => (pure []) >>= fun s17 => pure (d16 :: s17)) >>= fn1 f_law_set)) >>= fun d18 => (((((pure v2) >>= fun d12 => (pure []) >>= fun s13 => pure (d12 :: s13)) >>= fn1 f_law_set)) >>= fun d14 => (pure []) >>= fun s15 => pure (d14 :: s15)) >>= fun s19 => pure (d18 :: s19)) >>= fun s21 => pure (d20 :: s21)) >>= fun s22 => run0 (fn3 f_law_seen s22))) >>= fun v11 => ((((pure v1) >>= fun x23 => (pure (D.int 0)) >>= fun x24 => eqD x23 x24 >>= asB)) >>= fun b26 => (if b26 = true then ((((((((((pure v2) >>= fun d29 => (pure []) >>= fun s30 => pure (d29 :: s30)) >>= rangeF1) >>= fun l42 => compL dec1 (fun z31 => pure true) (fun z31 => ((((((pure (D.str "alarm")) >>= fun d38 => ((pure (D.str "quiet")) >>= fun d36 => ((pure (D.str "unseen")) >>= fun d34 => ((pure (D.str "unseen")) >>= fun d32 => (pure []) >>= fun s33 => pure (d32 :: s33)) >>= fun s35 => pure (d34 :: s35)) >>= fun s37 => pure (d36 :: s37)) >>= fun s39 => pure (d38 :: s39)) >>= mkL)) >>= fun d40 => (pure []) >>= fun s41 => pure (d40 :: s41)) >>= fn1 f_law_pick)) l42 >>= fun r43 => pure (D.lst r43))) >>= fun d44 => (pure []) >>= fun s45 => pure (d44 :: s45)) >>= tupleF)) >>= fun v28 => pure v28) : PM (D)) else pure v11) >>= fun j27 => ((((pure v1) >>= fun x46 => (pure (D.int 1)) >>= fun x47 => eqD x46 x47 >>= asB)) >>= fun b49 => (if b49 = true then ((((((pure v2) >>= fun d52 => (pure []) >>= fun s53 => pure (d52 :: s53)) >>= fn1 f_law_draw)) >>= fun v51 => ((((((((pure j27) >>= fun x55 => (pure none) >>= fun x56 => (((pure v51) >>= asI)) >>= fun x57 => sliceD x55 x56 x57)) >>= fun x66 => ((((((((((pure (D.str "alarm")) >>= fun d60 => ((pure (D.str "quiet")) >>= fun d58 => (pure []) >>= fun s59 => pure (d58 :: s59)) >>= fun s61 => pure (d60 :: s61)) >>= mkL)) >>= fun d62 => (pure []) >>= fun s63 => pure (d62 :: s63)) >>= fn1 f_law_pick)) >>= fun d64 => (pure []) >>= fun s65 => pure (d64 :: s65)) >>= mkT)) >>= fun x67 => addD x66 x67)) >>= fun x73 => (((pure j27) >>= fun x70 => (((((pure v51) >>= fun x68 => (pure (D.int 1)) >>= fun x69 => addD x68 x69)) >>= asI)) >>= fun x71 => (pure none) >>= fun x72 => sliceD x70 x71 x72)) >>= fun x74 => addD x73 x74)) >>= fun v54 => pure v54)) : PM (D)) else pure j27) >>= fun j50 => ((pure j50) >>= fun d75 => pure (id d75))))))
def f_reach_of (a0 a1 : D) : PM D := ((((pure a1) >>= fun d2 => (pure []) >>= fun s3 => pure (d2 :: s3)) >>= okL) >>= fun xs1 => ((pure (D.int 0)) >>= fun v4 => (whileS (fun (c5 : D × List D) => (noExc (((pure c5.1) >>= fun x8 => ((((pure (D.lst c5.2)) >>= fun d6 => (pure []) >>= fun s7 => pure (d6 :: s7)) >>= lenF)) >>= fun x9 => ltD x8 x9 >>= asB)))) (fun (c5 : D × List D) => ((noExc ((((((pure a0) >>= fun x12 => (((pure (D.lst c5.2)) >>= fun x10 => (pure c5.1) >>= fun x11 => getD x10 x11)) >>= fun x13 => getD x12 x13)) >>= itemsD) >>= fun l17 => compL dec1 (fun z14 => ((pure z14) >>= fun x15 => (pure (D.lst c5.2)) >>= fun x16 => notInD x15 x16 >>= asB)) (fun z14 => pure z14) l17 >>= fun r18 => pure (D.lst r18))) >>= scalL >>= fun ys19 => okLen (c5.2 ++ ys19) >>= fun _ => ((((pure c5.1) >>= fun x21 => (pure (D.int 1)) >>= fun x22 => addD x21 x22)) >>= fun v20 => pure (v20, (c5.2 ++ ys19)))) : PM (D × List D))) 20 (v4, xs1) >>= fun c5 => ((((((((pure (D.lst c5.2)) >>= fun d23 => (pure []) >>= fun s24 => pure (d23 :: s24)) >>= sortedG)) >>= fun d25 => (pure []) >>= fun s26 => pure (d25 :: s26)) >>= tupleF)) >>= fun d27 => pure (id d27)))))
def f_all_reaches (a0 : D) : PM D := (((((((((pure a0) >>= fun d1 => (pure []) >>= fun s2 => pure (d1 :: s2)) >>= lenF)) >>= fun d3 => (pure []) >>= fun s4 => pure (d3 :: s4)) >>= rangeF1) >>= fun l11 => compL dec1 (fun z5 => pure true) (fun z5 => (((pure a0) >>= fun d8 => ((pure z5) >>= fun d6 => (pure []) >>= fun s7 => pure (d6 :: s7)) >>= fun s9 => pure (d8 :: s9)) >>= fun s10 => run0 (fn2 f_reach_of s10))) l11 >>= fun r12 => pure (D.lst r12))) >>= fun d13 => pure (id d13))
def f_with_word (a0 a1 : D) : PM D := (((((((((pure a0) >>= fun d1 => (pure []) >>= fun s2 => pure (d1 :: s2)) >>= enumF) >>= fun l6 => compL dec2 (fun z3 => ((pure z3.2) >>= fun x4 => (pure a1) >>= fun x5 => eqD x4 x5 >>= asB)) (fun z3 => pure z3.1) l6 >>= fun r7 => pure (D.lst r7))) >>= fun d8 => (pure []) >>= fun s9 => pure (d8 :: s9)) >>= tupleF)) >>= fun d10 => pure (id d10))
def f_candidates_of (a0 a1 : D) : PM D := (((((pure a0) >>= fun d2 => (pure []) >>= fun s3 => pure (d2 :: s3)) >>= fun s4 => run0 (fn1 f_all_reaches s4))) >>= fun v1 => (((((pure a1) >>= fun d8 => ((pure (D.str "quiet")) >>= fun d6 => (pure []) >>= fun s7 => pure (d6 :: s7)) >>= fun s9 => pure (d8 :: s9)) >>= fun s10 => run0 (fn2 f_with_word s10))) >>= fun v5 => ((((((((((((pure a0) >>= fun d11 => (pure []) >>= fun s12 => pure (d11 :: s12)) >>= lenF)) >>= fun d13 => (pure []) >>= fun s14 => pure (d13 :: s14)) >>= rangeF1) >>= fun l26 => compL dec1 (fun z15 => ((((((((((pure v5) >>= itemsD) >>= fun l21 => compL dec1 (fun z16 => pure true) (fun z16 => ((pure z15) >>= fun x19 => (((pure v1) >>= fun x17 => (pure z16) >>= fun x18 => getD x17 x18)) >>= fun x20 => inD x19 x20)) l21 >>= fun r22 => pure (D.lst r22))) >>= fun d23 => (pure []) >>= fun s24 => pure (d23 :: s24)) >>= anyF)) >>= asB)) >>= fun b25 => pure (!b25))) (fun z15 => pure z15) l26 >>= fun r27 => pure (D.lst r27))) >>= fun d28 => (pure []) >>= fun s29 => pure (d28 :: s29)) >>= tupleF)) >>= fun d30 => pure (id d30))))
def g_need_net (a0 : D) : PM Unit := (((((((((pure a0) >>= fun d1 => (pure []) >>= fun s2 => pure (d1 :: s2)) >>= fun s3 => run0 (fn1 f_is_net s3))) >>= asB)) >>= fun b4 => pure (!b4))) >>= fun b5 => if b5 = true then raiseP ⟨"NetError", []⟩ else pure ())
def f_need_net (a0 : D) : PM D := g_need_net a0 >>= fun _ => pure D.non
def g_need_report (a0 a1 : D) : PM Unit := (((((pure a0) >>= fun d1 => (pure []) >>= fun s2 => pure (d1 :: s2)) >>= fun s3 => run0 (fn1 f_need_net s3))) >>= fun _ => (((((((((pure a0) >>= fun d6 => ((pure a1) >>= fun d4 => (pure []) >>= fun s5 => pure (d4 :: s5)) >>= fun s7 => pure (d6 :: s7)) >>= fun s8 => run0 (fn2 f_is_report s8))) >>= asB)) >>= fun b9 => pure (!b9))) >>= fun b10 => if b10 = true then raiseP ⟨"ReportError", []⟩ else pure ()))
def f_need_report (a0 a1 : D) : PM D := g_need_report a0 a1 >>= fun _ => pure D.non
def f_candidates (a0 a1 : D) : PM D := (((((pure a0) >>= fun d3 => ((pure a1) >>= fun d1 => (pure []) >>= fun s2 => pure (d1 :: s2)) >>= fun s4 => pure (d3 :: s4)) >>= fun s5 => run0 (fn2 f_need_report s5))) >>= fun _ => (((((pure a0) >>= fun d8 => ((pure a1) >>= fun d6 => (pure []) >>= fun s7 => pure (d6 :: s7)) >>= fun s9 => pure (d8 :: s9)) >>= fun s10 => run0 (fn2 f_candidates_of s10))) >>= fun d11 => pure (id d11)))
def f_do_meet (a0 a1 : D) : PM D := ((((((((pure a0) >>= itemsD) >>= fun l4 => compL dec1 (fun z1 => pure true) (fun z1 => ((pure z1) >>= fun x2 => (pure a1) >>= fun x3 => inD x2 x3)) l4 >>= fun r5 => pure (D.lst r5))) >>= fun d6 => (pure []) >>= fun s7 => pure (d6 :: s7)) >>= anyF)) >>= fun d8 => pure (id d8))
def f_needed_of (a0 a1 : D) : PM D := (((((pure a0) >>= fun d4 => ((pure a1) >>= fun d2 => (pure []) >>= fun s3 => pure (d2 :: s3)) >>= fun s5 => pure (d4 :: s5)) >>= fun s6 => run0 (fn2 f_candidates_of s6))) >>= fun v1 => (((pure []) >>= okL) >>= fun xs7 => ((((((pure a1) >>= fun d10 => ((pure (D.str "alarm")) >>= fun d8 => (pure []) >>= fun s9 => pure (d8 :: s9)) >>= fun s11 => pure (d10 :: s11)) >>= fun s12 => run0 (fn2 f_with_word s12))) >>= itemsD) >>= fun l15 => forS dec1 (fun (c13 : List D) z14 => ((((((((((((pure a0) >>= fun d18 => ((pure z14) >>= fun d16 => (pure []) >>= fun s17 => pure (d16 :: s17)) >>= fun s19 => pure (d18 :: s19)) >>= fun s20 => run0 (fn2 f_reach_of s20))) >>= itemsD) >>= fun l24 => compL dec1 (fun z21 => ((pure z21) >>= fun x22 => (pure v1) >>= fun x23 => inD x22 x23 >>= asB)) (fun z21 => pure z21) l24 >>= fun r25 => pure (D.lst r25))) >>= fun d26 => (pure []) >>= fun s27 => pure (d26 :: s27)) >>= tupleF)) >>= fun d28 => okLen (c13 ++ [d28]) >>= fun _ => pure (c13 ++ [d28])) : PM (List D))) l15 xs7 >>= fun c13 => ((pure (D.lst c13)) >>= fun d29 => pure (id d29)))))
def f_subsets_of (a0 : D) : PM D := (((((((pure []) >>= mkT)) >>= fun d2 => (pure []) >>= fun s3 => pure (d2 :: s3)) >>= mkL)) >>= fun v1 => (((pure a0) >>= itemsD) >>= fun l6 => forS dec1 (fun (c4 : D) z5 => (((((pure c4) >>= fun x15 => ((((pure c4) >>= itemsD) >>= fun l13 => compL dec1 (fun z8 => pure true) (fun z8 => ((((pure z8) >>= itemsD) >>= fun d11 => ((pure z5) >>= fun d9 => (pure []) >>= fun s10 => pure (d9 :: s10)) >>= fun s12 => pure (d11 ++ s12)) >>= mkT)) l13 >>= fun r14 => pure (D.lst r14))) >>= fun x16 => addD x15 x16)) >>= fun v7 => pure v7) : PM (D))) l6 v1 >>= fun c4 => (((((pure c4) >>= fun d17 => (pure []) >>= fun s18 => pure (d17 :: s18)) >>= sortedG)) >>= fun d19 => pure (id d19))))
def f_explanations_of (a0 a1 : D) : PM D := (((((pure a0) >>= fun d4 => ((pure a1) >>= fun d2 => (pure []) >>= fun s3 => pure (d2 :: s3)) >>= fun s5 => pure (d4 :: s5)) >>= fun s6 => run0 (fn2 f_needed_of s6))) >>= fun v1 => (((((((((((pure a0) >>= fun d9 => ((pure a1) >>= fun d7 => (pure []) >>= fun s8 => pure (d7 :: s8)) >>= fun s10 => pure (d9 :: s10)) >>= fun s11 => run0 (fn2 f_candidates_of s11))) >>= fun d12 => (pure []) >>= fun s13 => pure (d12 :: s13)) >>= fun s14 => run0 (fn1 f_subsets_of s14))) >>= itemsD) >>= fun l26 => compL dec1 (fun z15 => ((((((((pure v1) >>= itemsD) >>= fun l22 => compL dec1 (fun z16 => pure true) (fun z16 => (((pure z16) >>= fun d19 => ((pure z15) >>= fun d17 => (pure []) >>= fun s18 => pure (d17 :: s18)) >>= fun s20 => pure (d19 :: s20)) >>= fun s21 => run0 (fn2 f_do_meet s21))) l22 >>= fun r23 => pure (D.lst r23))) >>= fun d24 => (pure []) >>= fun s25 => pure (d24 :: s25)) >>= allF)) >>= asB)) (fun z15 => pure z15) l26 >>= fun r27 => pure (D.lst r27))) >>= fun d28 => pure (id d28)))
def f_explanations (a0 a1 : D) : PM (List D) := ((((pure a0) >>= fun d3 => ((pure a1) >>= fun d1 => (pure []) >>= fun s2 => pure (d1 :: s2)) >>= fun s4 => pure (d3 :: s4)) >>= fun s5 => run0 (fn2 f_need_report s5))) >>= fun _ => (((((pure a0) >>= fun d8 => ((pure a1) >>= fun d6 => (pure []) >>= fun s7 => pure (d6 :: s7)) >>= fun s9 => pure (d8 :: s9)) >>= fun s10 => run0 (fn2 f_explanations_of s10))) >>= itemsD) >>= okL
def f_how_many (a0 a1 : D) : PM D := (((((pure a0) >>= fun d3 => ((pure a1) >>= fun d1 => (pure []) >>= fun s2 => pure (d1 :: s2)) >>= fun s4 => pure (d3 :: s4)) >>= fun s5 => run0 (fn2 f_need_report s5))) >>= fun _ => ((((((((pure a0) >>= fun d8 => ((pure a1) >>= fun d6 => (pure []) >>= fun s7 => pure (d6 :: s7)) >>= fun s9 => pure (d8 :: s9)) >>= fun s10 => run0 (fn2 f_explanations_of s10))) >>= fun d11 => (pure []) >>= fun s12 => pure (d11 :: s12)) >>= lenF)) >>= fun d13 => pure (id d13)))
def f_rulers_of (a0 a1 a2 : D) : PM D := ((((((((pure a1) >>= fun d3 => ((pure (D.str "quiet")) >>= fun d1 => (pure []) >>= fun s2 => pure (d1 :: s2)) >>= fun s4 => pure (d3 :: s4)) >>= fun s5 => run0 (fn2 f_with_word s5))) >>= itemsD) >>= fun l14 => compL dec1 (fun z6 => ((pure a2) >>= fun x12 => ((((pure a0) >>= fun d9 => ((pure z6) >>= fun d7 => (pure []) >>= fun s8 => pure (d7 :: s8)) >>= fun s10 => pure (d9 :: s10)) >>= fun s11 => run0 (fn2 f_reach_of s11))) >>= fun x13 => inD x12 x13 >>= asB)) (fun z6 => pure z6) l14 >>= fun r15 => pure (D.lst r15))) >>= fun d16 => pure (id d16))
def f_are_rulers (a0 a1 a2 a3 : D) : PM D := (((((((((((pure a2) >>= fun d9 => ((pure (D.int 0)) >>= fun d7 => (((((((pure a0) >>= fun d1 => (pure []) >>= fun s2 => pure (d1 :: s2)) >>= lenF)) >>= fun x3 => (pure (D.int 1)) >>= fun x4 => subD x3 x4)) >>= fun d5 => (pure []) >>= fun s6 => pure (d5 :: s6)) >>= fun s8 => pure (d7 :: s8)) >>= fun s10 => pure (d9 :: s10)) >>= fun s11 => run0 (fn3 f_is_between s11))) >>= asB)) >>= fun b12 => pure (!b12))) >>= fun b19 => if b19 = true then pure true else ((((((pure a1) >>= fun x13 => (pure a2) >>= fun x14 => getD x13 x14)) >>= fun x15 => (pure (D.str "alarm")) >>= fun x16 => neD x15 x16 >>= asB)) >>= fun b18 => if b18 = true then pure true else ((((((pure a3) >>= isF "tuple")) >>= asB)) >>= fun b17 => pure (!b17))))) >>= fun b20 => if b20 = true then ((pure (D.bl false)) >>= fun d21 => pure (id d21)) else (((((pure a0) >>= fun d25 => ((pure a2) >>= fun d23 => (pure []) >>= fun s24 => pure (d23 :: s24)) >>= fun s26 => pure (d25 :: s26)) >>= fun s27 => run0 (fn2 f_reach_of s27))) >>= fun v22 => (((((((((pure a3) >>= fun d28 => (pure []) >>= fun s29 => pure (d28 :: s29)) >>= lenF)) >>= fun x32 => ((((pure v22) >>= fun d30 => (pure []) >>= fun s31 => pure (d30 :: s31)) >>= lenF)) >>= fun x33 => neD x32 x33 >>= asB)) >>= fun b51 => if b51 = true then pure true else ((((((((((pure a3) >>= itemsD) >>= fun l46 => compL dec1 (fun z34 => pure true) (fun z34 => (((pure z34) >>= fun d43 => ((pure (D.int 0)) >>= fun d41 => (((((((pure a0) >>= fun d35 => (pure []) >>= fun s36 => pure (d35 :: s36)) >>= lenF)) >>= fun x37 => (pure (D.int 1)) >>= fun x38 => subD x37 x38)) >>= fun d39 => (pure []) >>= fun s40 => pure (d39 :: s40)) >>= fun s42 => pure (d41 :: s42)) >>= fun s44 => pure (d43 :: s44)) >>= fun s45 => run0 (fn3 f_is_between s45))) l46 >>= fun r47 => pure (D.lst r47))) >>= fun d48 => (pure []) >>= fun s49 => pure (d48 :: s49)) >>= allF)) >>= asB)) >>= fun b50 => pure (!b50)))) >>= fun b52 => if b52 = true then ((pure (D.bl false)) >>= fun d53 => pure (id d53)) else (((((((((pure v22) >>= fun d56 => ((pure a3) >>= fun d54 => (pure []) >>= fun s55 => pure (d54 :: s55)) >>= fun s57 => pure (d56 :: s57)) >>= zipF) >>= fun l68 => compL dec2 (fun z58 => pure true) (fun z58 => ((pure z58.2) >>= fun x66 => ((((pure a0) >>= fun d63 => ((pure a1) >>= fun d61 => ((pure z58.1) >>= fun d59 => (pure []) >>= fun s60 => pure (d59 :: s60)) >>= fun s62 => pure (d61 :: s62)) >>= fun s64 => pure (d63 :: s64)) >>= fun s65 => run0 (fn3 f_rulers_of s65))) >>= fun x67 => inD x66 x67)) l68 >>= fun r69 => pure (D.lst r69))) >>= fun d70 => (pure []) >>= fun s71 => pure (d70 :: s71)) >>= allF)) >>= fun d72 => pure (id d72)))))
def f_alarms_of (a0 a1 : D) : PM D := ((((((((((((pure a0) >>= fun d1 => (pure []) >>= fun s2 => pure (d1 :: s2)) >>= fun s3 => run0 (fn1 f_all_reaches s3))) >>= fun d4 => (pure []) >>= fun s5 => pure (d4 :: s5)) >>= enumF) >>= fun l12 => compL dec2 (fun z6 => (((((pure z6.2) >>= fun d9 => ((pure a1) >>= fun d7 => (pure []) >>= fun s8 => pure (d7 :: s8)) >>= fun s10 => pure (d9 :: s10)) >>= fun s11 => run0 (fn2 f_do_meet s11))) >>= asB)) (fun z6 => pure z6.1) l12 >>= fun r13 => pure (D.lst r13))) >>= fun d14 => (pure []) >>= fun s15 => pure (d14 :: s15)) >>= tupleF)) >>= fun d16 => pure (id d16))
def f_does_explain (a0 a1 a2 : D) : PM D := (((((pure a0) >>= fun d4 => ((pure a2) >>= fun d2 => (pure []) >>= fun s3 => pure (d2 :: s3)) >>= fun s5 => pure (d4 :: s5)) >>= fun s6 => run0 (fn2 f_alarms_of s6))) >>= fun v1 => ((((pure a1) >>= fun d7 => (pure []) >>= fun s8 => pure (d7 :: s8)) >>= enumF) >>= fun l11 => forL dec2 (fun (c9 : Unit) z10 => (((((((pure z10.2) >>= fun x12 => (pure (D.str "unseen")) >>= fun x13 => neD x12 x13 >>= asB)) >>= fun b20 => if b20 = true then ((((pure z10.2) >>= fun x14 => (pure (D.str "alarm")) >>= fun x15 => eqD x14 x15)) >>= fun x18 => (((pure z10.1) >>= fun x16 => (pure v1) >>= fun x17 => inD x16 x17)) >>= fun x19 => neD x18 x19 >>= asB) else pure false)) >>= fun b21 => if b21 = true then ((pure (D.bl false)) >>= fun d22 => pure (Lp.ret d22)) else pure (.go ())) : PM (Lp (Unit)))) l11 () >>= lpK id fun c9 => ((pure (D.bl true)) >>= fun d23 => pure (id d23))))
def f_shows_verdict (a0 a1 a2 : D) : PM D := (((((pure a0) >>= fun d3 => ((pure a1) >>= fun d1 => (pure []) >>= fun s2 => pure (d1 :: s2)) >>= fun s4 => pure (d3 :: s4)) >>= fun s5 => run0 (fn2 f_need_report s5))) >>= fun _ => ((((((((((pure a2) >>= isF "tuple")) >>= asB)) >>= fun b6 => pure (!b6))) >>= fun b15 => if b15 = true then pure true else (((((((pure a2) >>= fun d7 => (pure []) >>= fun s8 => pure (d7 :: s8)) >>= lenF)) >>= fun x9 => (pure (D.int 2)) >>= fun x10 => ltD x9 x10 >>= asB)) >>= fun b14 => if b14 = true then pure true else ((((((((pure a2) >>= fun x11 => (pure (D.int 0)) >>= fun x12 => getD x11 x12)) >>= isF "str")) >>= asB)) >>= fun b13 => pure (!b13))))) >>= fun b16 => if b16 = true then ((pure (D.bl false)) >>= fun d17 => pure (id d17)) else (((((pure a2) >>= fun x22 => (pure (D.int 0)) >>= fun x23 => getD x22 x23)) >>= fun d24 => (((((pure a2) >>= fun d18 => (pure []) >>= fun s19 => pure (d18 :: s19)) >>= lenF)) >>= fun d20 => (pure []) >>= fun s21 => pure (d20 :: s21)) >>= fun s25 => pure (d24 :: s25)) >>= matK (fun a26 b27 => (if (a26 == ("broken" : Str) && b27 == (2 : Int)) = true then ((((((((((pure a0) >>= fun d32 => (pure []) >>= fun s33 => pure (d32 :: s33)) >>= lenF)) >>= fun d34 => ((((pure a2) >>= fun x28 => (pure (D.int 1)) >>= fun x29 => getD x28 x29)) >>= fun d30 => (pure []) >>= fun s31 => pure (d30 :: s31)) >>= fun s35 => pure (d34 :: s35)) >>= fun s36 => run0 (fn2 f_is_rising s36))) >>= fun d46 => asB d46 >>= fun b47 => if b47 = true then (((pure a0) >>= fun d43 => ((pure a1) >>= fun d41 => ((((pure a2) >>= fun x37 => (pure (D.int 1)) >>= fun x38 => getD x37 x38)) >>= fun d39 => (pure []) >>= fun s40 => pure (d39 :: s40)) >>= fun s42 => pure (d41 :: s42)) >>= fun s44 => pure (d43 :: s44)) >>= fun s45 => run0 (fn3 f_does_explain s45)) else pure (D.bl false))) >>= fun d48 => pure (id d48)) else (if (a26 == ("none" : Str) && b27 == (3 : Int)) = true then (((((pure a0) >>= fun d59 => ((pure a1) >>= fun d57 => ((((pure a2) >>= fun x53 => (pure (D.int 1)) >>= fun x54 => getD x53 x54)) >>= fun d55 => ((((pure a2) >>= fun x49 => (pure (D.int 2)) >>= fun x50 => getD x49 x50)) >>= fun d51 => (pure []) >>= fun s52 => pure (d51 :: s52)) >>= fun s56 => pure (d55 :: s56)) >>= fun s58 => pure (d57 :: s58)) >>= fun s60 => pure (d59 :: s60)) >>= fun s61 => run0 (fn4 f_are_rulers s61))) >>= fun d62 => pure (id d62)) else ((pure (D.bl false)) >>= fun d63 => pure (id d63))))))))
def f_is_explained (a0 a1 : D) : PM D := ((((((pure []) >>= mkT)) >>= fun x6 => ((((pure a0) >>= fun d3 => ((pure a1) >>= fun d1 => (pure []) >>= fun s2 => pure (d1 :: s2)) >>= fun s4 => pure (d3 :: s4)) >>= fun s5 => run0 (fn2 f_needed_of s5))) >>= fun x7 => notInD x6 x7)) >>= fun d8 => pure (id d8))
def f_ruled_out (a0 a1 : D) : PM D := (((((pure a0) >>= fun d4 => ((pure a1) >>= fun d2 => (pure []) >>= fun s3 => pure (d2 :: s3)) >>= fun s5 => pure (d4 :: s5)) >>= fun s6 => run0 (fn2 f_candidates_of s6))) >>= fun v1 => ((((((((((pure a1) >>= fun d10 => ((pure (D.str "alarm")) >>= fun d8 => (pure []) >>= fun s9 => pure (d8 :: s9)) >>= fun s11 => pure (d10 :: s11)) >>= fun s12 => run0 (fn2 f_with_word s12))) >>= itemsD) >>= fun l25 => compL dec1 (fun z13 => ((((((((((pure a0) >>= fun d18 => ((pure z13) >>= fun d16 => (pure []) >>= fun s17 => pure (d16 :: s17)) >>= fun s19 => pure (d18 :: s19)) >>= fun s20 => run0 (fn2 f_reach_of s20))) >>= fun d21 => ((pure v1) >>= fun d14 => (pure []) >>= fun s15 => pure (d14 :: s15)) >>= fun s22 => pure (d21 :: s22)) >>= fun s23 => run0 (fn2 f_do_meet s23))) >>= asB)) >>= fun b24 => pure (!b24))) (fun z13 => pure z13) l25 >>= fun r26 => pure (D.lst r26))) >>= fun x27 => (pure (D.int 0)) >>= fun x28 => getD x27 x28)) >>= fun v7 => (((((pure v7) >>= fun d50 => (((((((((((pure a0) >>= fun d31 => ((pure v7) >>= fun d29 => (pure []) >>= fun s30 => pure (d29 :: s30)) >>= fun s32 => pure (d31 :: s32)) >>= fun s33 => run0 (fn2 f_reach_of s33))) >>= itemsD) >>= fun l44 => compL dec1 (fun z34 => pure true) (fun z34 => (((((pure a0) >>= fun d39 => ((pure a1) >>= fun d37 => ((pure z34) >>= fun d35 => (pure []) >>= fun s36 => pure (d35 :: s36)) >>= fun s38 => pure (d37 :: s38)) >>= fun s40 => pure (d39 :: s40)) >>= fun s41 => run0 (fn3 f_rulers_of s41))) >>= fun x42 => (pure (D.int 0)) >>= fun x43 => getD x42 x43)) l44 >>= fun r45 => pure (D.lst r45))) >>= fun d46 => (pure []) >>= fun s47 => pure (d46 :: s47)) >>= tupleF)) >>= fun d48 => (pure []) >>= fun s49 => pure (d48 :: s49)) >>= fun s51 => pure (d50 :: s51)) >>= mkT)) >>= fun d52 => pure (id d52))))
def f_verdict_of (a0 a1 : D) : PM D := (((((((pure a0) >>= fun d3 => ((pure a1) >>= fun d1 => (pure []) >>= fun s2 => pure (d1 :: s2)) >>= fun s4 => pure (d3 :: s4)) >>= fun s5 => run0 (fn2 f_is_explained s5))) >>= asB)) >>= fun b6 => if b6 = true then (((((pure (D.str "broken")) >>= fun d14 => (((((pure a0) >>= fun d9 => ((pure a1) >>= fun d7 => (pure []) >>= fun s8 => pure (d7 :: s8)) >>= fun s10 => pure (d9 :: s10)) >>= fun s11 => run0 (fn2 f_candidates_of s11))) >>= fun d12 => (pure []) >>= fun s13 => pure (d12 :: s13)) >>= fun s15 => pure (d14 :: s15)) >>= mkT)) >>= fun d16 => pure (id d16)) else (((((pure a0) >>= fun d21 => ((pure a1) >>= fun d19 => (pure []) >>= fun s20 => pure (d19 :: s20)) >>= fun s22 => pure (d21 :: s22)) >>= fun s23 => run0 (fn2 f_ruled_out s23))) >>= unp2 fun v17 v18 => (((((pure (D.str "none")) >>= fun d28 => ((pure v17) >>= fun d26 => ((pure v18) >>= fun d24 => (pure []) >>= fun s25 => pure (d24 :: s25)) >>= fun s27 => pure (d26 :: s27)) >>= fun s29 => pure (d28 :: s29)) >>= mkT)) >>= fun d30 => pure (id d30))))
def f_verdict (a0 a1 : D) : PM D := (((((pure a0) >>= fun d3 => ((pure a1) >>= fun d1 => (pure []) >>= fun s2 => pure (d1 :: s2)) >>= fun s4 => pure (d3 :: s4)) >>= fun s5 => run0 (fn2 f_need_report s5))) >>= fun _ => (((((pure a0) >>= fun d8 => ((pure a1) >>= fun d6 => (pure []) >>= fun s7 => pure (d6 :: s7)) >>= fun s9 => pure (d8 :: s9)) >>= fun s10 => run0 (fn2 f_verdict_of s10))) >>= fun d11 => pure (id d11)))
def f_law_words (a0 a1 a2 : D) : PM D := ((((saidM "nothing" ((((pure a0) >>= fun d4 => ((pure a1) >>= fun d2 => (pure []) >>= fun s3 => pure (d2 :: s3)) >>= fun s5 => pure (d4 :: s5)) >>= fun s6 => run0 (fn2 f_candidates s6)))) >>= fun d7 => (pure []) >>= fun s8 => pure (d7 :: s8)) >>= okL) >>= fun xs1 => ((saidM "nothing" ((((pure a0) >>= fun d11 => ((pure a1) >>= fun d9 => (pure []) >>= fun s10 => pure (d9 :: s10)) >>= fun s12 => pure (d11 :: s12)) >>= fun s13 => run0 (fn2 f_verdict s13)))) >>= fun d14 => okLen (xs1 ++ [d14]) >>= fun _ => ((saidM "nothing" ((((pure a0) >>= fun d19 => ((pure a1) >>= fun d17 => ((pure a2) >>= fun d15 => (pure []) >>= fun s16 => pure (d15 :: s16)) >>= fun s18 => pure (d17 :: s18)) >>= fun s20 => pure (d19 :: s20)) >>= fun s21 => run0 (fn3 f_shows_verdict s21)))) >>= fun d22 => okLen ((xs1 ++ [d14]) ++ [d22]) >>= fun _ => ((saidM "nothing" ((((pure a0) >>= fun d25 => ((pure a1) >>= fun d23 => (pure []) >>= fun s24 => pure (d23 :: s24)) >>= fun s26 => pure (d25 :: s26)) >>= fun s27 => onlyE ["NetError", "ReportError"] (run0 (fnL2 f_explanations s27)) >>= mkL))) >>= fun d28 => okLen (((xs1 ++ [d14]) ++ [d22]) ++ [d28]) >>= fun _ => ((saidM "nothing" ((((pure a0) >>= fun d31 => ((pure a1) >>= fun d29 => (pure []) >>= fun s30 => pure (d29 :: s30)) >>= fun s32 => pure (d31 :: s32)) >>= fun s33 => run0 (fn2 f_how_many s33)))) >>= fun d34 => okLen ((((xs1 ++ [d14]) ++ [d22]) ++ [d28]) ++ [d34]) >>= fun _ => ((pure (D.lst ((((xs1 ++ [d14]) ++ [d22]) ++ [d28]) ++ [d34]))) >>= fun d35 => pure (id d35)))))))
def f_law (ns : List Int) : PM D := (((((run0 (fn0 f_law_no_nets [])) >>= fun x1 => (run0 (fn0 f_law_long [])) >>= fun x2 => addD x1 x2)) >>= itemsD) >>= fun l5 => forL dec1 (fun (c3 : Unit) z4 => ((((((((pure z4) >>= fun d11 => ((pure D.non) >>= fun d9 => ((pure D.non) >>= fun d7 => (pure []) >>= fun s8 => pure (d7 :: s8)) >>= fun s10 => pure (d9 :: s10)) >>= fun s12 => pure (d11 :: s12)) >>= fun s13 => run0 (fn3 f_law_words s13))) >>= fun x23 => ((((pure z4) >>= fun d20 => (((((pure (D.str "quiet")) >>= fun d16 => (pure []) >>= fun s17 => pure (d16 :: s17)) >>= mkT)) >>= fun d18 => ((pure z4) >>= fun d14 => (pure []) >>= fun s15 => pure (d14 :: s15)) >>= fun s19 => pure (d18 :: s19)) >>= fun s21 => pure (d20 :: s21)) >>= fun s22 => run0 (fn3 f_law_words s22))) >>= fun x24 => addD x23 x24)) >>= fun v6 => ((((pure v6) >>= fun x29 => ((((((pure (D.str "! net")) >>= fun d25 => (pure []) >>= fun s26 => pure (d25 :: s26)) >>= mkL)) >>= fun x27 => (pure (D.int 10)) >>= fun x28 => mulL x27 x28)) >>= fun x30 => neD x29 x30 >>= asB)) >>= fun b31 => if b31 = true then ((pure (D.bl false)) >>= fun d32 => pure (Lp.ret d32)) else pure (.go ()))) : PM (Lp (Unit)))) l5 () >>= lpK id fun c3 => (((((((pure (D.int 1)) >>= fun d39 => (((((pure (D.int ns.length)) >>= fun d35 => ((pure (D.int 3)) >>= fun d33 => (pure []) >>= fun s34 => pure (d33 :: s34)) >>= fun s36 => pure (d35 :: s36)) >>= minF)) >>= fun d37 => (pure []) >>= fun s38 => pure (d37 :: s38)) >>= fun s40 => pure (d39 :: s40)) >>= maxF)) >>= fun d41 => (pure []) >>= fun s42 => pure (d41 :: s42)) >>= rangeF1) >>= fun l45 => forL dec1 (fun (c43 : Unit) z44 => (((((((pure z44) >>= fun d46 => (pure []) >>= fun s47 => pure (d46 :: s47)) >>= fun s48 => run0 (fn1 (f_law_cell_at ns) s48))) >>= fun d49 => (pure []) >>= fun s50 => pure (d49 :: s50)) >>= fun s51 => run0 (mfn1 f_law_pen s51) >>= fun n52 => withPen n52 (((((pure (D.int 3)) >>= fun d54 => (pure []) >>= fun s55 => pure (d54 :: s55)) >>= rangeF1) >>= fun l58 => forL dec1 (fun (c56 : Unit) z57 => (((((pure []) >>= fn0 f_law_net)) >>= fun v59 => ((((((((pure v59) >>= fun d61 => (pure []) >>= fun s62 => pure (d61 :: s62)) >>= lenF)) >>= fun d63 => (pure []) >>= fun s64 => pure (d63 :: s64)) >>= fn1 f_law_draw)) >>= fun v60 => (((((((((((pure v59) >>= fun d67 => (pure []) >>= fun s68 => pure (d67 :: s68)) >>= lenF)) >>= fun d69 => ((pure v60) >>= fun d65 => (pure []) >>= fun s66 => pure (d65 :: s66)) >>= fun s70 => pure (d69 :: s70)) >>= fun s71 => run0 (fn2 f_law_no_reports s71))) >>= fun x78 => (((run0 (fn0 f_law_long [])) >>= fun x76 => ((((((pure z57) >>= fun x72 => (pure (D.int 0)) >>= fun x73 => eqD x72 x73)) >>= fun d74 => (pure []) >>= fun s75 => pure (d74 :: s75)) >>= intF)) >>= fun x77 => mulL x76 x77)) >>= fun x79 => addD x78 x79)) >>= itemsD) >>= fun l82 => forL dec1 (fun (c80 : Unit) z81 => ((((((((pure v59) >>= fun d91 => ((pure z81) >>= fun d89 => (((((pure (D.str "broken")) >>= fun d85 => ((((pure []) >>= mkT)) >>= fun d83 => (pure []) >>= fun s84 => pure (d83 :: s84)) >>= fun s86 => pure (d85 :: s86)) >>= mkT)) >>= fun d87 => (pure []) >>= fun s88 => pure (d87 :: s88)) >>= fun s90 => pure (d89 :: s90)) >>= fun s92 => pure (d91 :: s92)) >>= fun s93 => run0 (fn3 f_law_words s93))) >>= fun x98 => ((((((pure (D.str "! report")) >>= fun d94 => (pure []) >>= fun s95 => pure (d94 :: s95)) >>= mkL)) >>= fun x96 => (pure (D.int 5)) >>= fun x97 => mulL x96 x97)) >>= fun x99 => neD x98 x99 >>= asB)) >>= fun b100 => if b100 = true then ((pure (D.bl false)) >>= fun d101 => pure (Lp.ret d101)) else pure (.go ())) : PM (Lp (Unit)))) l82 () >>= lpK Lp.ret fun c80 => (((((pure v59) >>= fun d103 => (pure []) >>= fun s104 => pure (d103 :: s104)) >>= fn1 f_law_report)) >>= fun v102 => ((((((pure D.non) >>= fun d129 => ((pure (D.int 0)) >>= fun d127 => ((pure v59) >>= fun d125 => ((((pure []) >>= mkT)) >>= fun d123 => (((((((pure []) >>= mkT)) >>= fun d119 => (pure []) >>= fun s120 => pure (d119 :: s120)) >>= mkL)) >>= fun d121 => (((((pure (D.str "broken")) >>= fun d115 => (pure []) >>= fun s116 => pure (d115 :: s116)) >>= mkT)) >>= fun d117 => (((((pure (D.str "none")) >>= fun d111 => ((pure (D.int 0)) >>= fun d109 => (pure []) >>= fun s110 => pure (d109 :: s110)) >>= fun s112 => pure (d111 :: s112)) >>= mkT)) >>= fun d113 => ((((pure []) >>= fn0 f_law_odd)) >>= fun d107 => ((((pure []) >>= fn0 f_law_odd)) >>= fun d105 => (pure []) >>= fun s106 => pure (d105 :: s106)) >>= fun s108 => pure (d107 :: s108)) >>= fun s114 => pure (d113 :: s114)) >>= fun s118 => pure (d117 :: s118)) >>= fun s122 => pure (d121 :: s122)) >>= fun s124 => pure (d123 :: s124)) >>= fun s126 => pure (d125 :: s126)) >>= fun s128 => pure (d127 :: s128)) >>= fun s130 => pure (d129 :: s130)) >>= mkL)) >>= itemsD) >>= fun l133 => forL dec1 (fun (c131 : Unit) z132 => ((((((pure v59) >>= fun d139 => ((pure v102) >>= fun d137 => ((pure z132) >>= fun d135 => (pure []) >>= fun s136 => pure (d135 :: s136)) >>= fun s138 => pure (d137 :: s138)) >>= fun s140 => pure (d139 :: s140)) >>= fun s141 => run0 (fn3 f_law_words s141))) >>= fun v134 => (((((((((pure v134) >>= itemsD) >>= fun l148 => compL dec1 (fun z142 => ((((pure z142) >>= fun x143 => (pure none) >>= fun x144 => (((pure (D.int 1)) >>= asI)) >>= fun x145 => sliceD x143 x144 x145)) >>= fun x146 => (pure (D.str "!")) >>= fun x147 => eqD x146 x147 >>= asB)) (fun z142 => pure z142) l148 >>= fun r149 => pure (D.lst r149))) >>= fun x150 => (((pure []) >>= mkL)) >>= fun x151 => neD x150 x151 >>= asB)) >>= fun b160 => if b160 = true then pure true else ((((pure v134) >>= fun x152 => (pure (D.int 2)) >>= fun x153 => getD x152 x153)) >>= fun x158 => ((((pure (D.str "True")) >>= fun d156 => ((pure (D.str "False")) >>= fun d154 => (pure []) >>= fun s155 => pure (d154 :: s155)) >>= fun s157 => pure (d156 :: s157)) >>= mkT)) >>= fun x159 => notInD x158 x159 >>= asB))) >>= fun b161 => if b161 = true then ((pure (D.bl false)) >>= fun d162 => pure (Lp.ret d162)) else pure (.go ()))) : PM (Lp (Unit)))) l133 () >>= lpK Lp.ret fun c131 => pure (.go ())))))) : PM (Lp (Unit)))) l58 () >>= lpK Lp.ret fun c56 => pure (.go ())))) : PM (Lp (Unit)))) l45 () >>= lpK id fun c43 => ((pure (D.bl true)) >>= fun d163 => pure (id d163))))
end Lw
namespace Lw
open PySem EV
theorem isF_int (x : Int) : isF "int" (.int x) = pure (.bl true) := rfl
theorem isF_intB (x : Int) : isF "bool" (.int x) = pure (.bl false) := rfl
theorem isF_tup (xs : List D) : isF "tuple" (.tup xs) = pure (.bl true) := rfl
theorem asB_bl (b : Bool) : asB (.bl b) = pure b := rfl
theorem le_int (a b : Int) : leD (.int a) (.int b) = pure (.bl (decide (a ≤ b))) := rfl
theorem lt_int (a b : Int) : ltD (.int a) (.int b) = pure (.bl (decide (a < b))) := rfl
theorem gt_int (a b : Int) : gtD (.int a) (.int b) = pure (.bl (decide (b < a))) := rfl
theorem add_int (a b : Int) : addD (.int a) (.int b) = pure (.int (a + b)) := rfl
theorem sub_int (a b : Int) : subD (.int a) (.int b) = pure (.int (a - b)) := rfl
theorem len_tup (xs : List D) : lenF [.tup xs] = pure (.int xs.length) := rfl
theorem len_lst (xs : List D) : lenF [.lst xs] = pure (.int xs.length) := rfl
theorem items_tup (xs : List D) : itemsD (.tup xs) = pure xs := rfl
theorem items_lst (xs : List D) : itemsD (.lst xs) = pure xs := rfl
theorem fn1_eq (g : D → PM D) (a : D) : fn1 g [a] = g a := rfl
theorem fn2_eq (g : D → D → PM D) (a b : D) : fn2 g [a, b] = g a b := rfl
theorem fn3_eq (g : D → D → D → PM D) (a b c : D) : fn3 g [a, b, c] = g a b c := rfl
theorem between (x a b : Int) : f_is_between (.int x) (.int a) (.int b) = pure (.bl (decide (a ≤ x ∧ x ≤ b))) := by
  simp only [f_is_between, pure_bind, isF_int, isF_intB, asB_bl, le_int, if_true, Bool.not_false]
  by_cases h : a ≤ x <;> simp [h]
def Rising (n : Nat) (r : List Int) : Prop := (∀ x ∈ r, 0 ≤ x ∧ x < n) ∧ r.Pairwise (· < ·)
theorem blsF (xs : List Bool) : allF [.lst (xs.map D.bl)] = pure (.bl (xs.all id)) := by
  show (match blsOf (xs.map D.bl) with | some bs => pure (.bl (bs.all id)) | none => bad : PM D) = _
  rw [blsOf_map]
theorem zipT_eq : ∀ (a b : List Int), zipT (a.map D.int) (b.map D.int) = (a.zip b).map fun p => .tup [.int p.1, .int p.2]
  | [], _ => by simp [zipT]
  | _ :: _, [] => by simp [zipT]
  | x :: a, y :: b => by simp [zipT, zipT_eq a b]
theorem adj_asc : ∀ {r : List Int}, (∀ p ∈ r.zip (r.drop 1), p.1 < p.2) → r.Pairwise (· < ·)
  | [], _ => .nil
  | [x], _ => by simp
  | x :: y :: r, h => by
    have h1 : x < y := h (x, y) (by simp)
    have ih := adj_asc (r := y :: r) fun p m => h p (by
      simp only [List.drop_succ_cons, List.drop_zero] at m ⊢
      exact List.mem_cons_of_mem _ m)
    refine List.pairwise_cons.mpr ⟨fun z m => ?_, ih⟩
    rcases List.mem_cons.mp m with rfl | m
    · exact h1
    · exact Int.lt_trans h1 ((List.pairwise_cons.mp ih).1 z m)
theorem asc_adj : ∀ {r : List Int}, r.Pairwise (· < ·) → ∀ p ∈ r.zip (r.drop 1), p.1 < p.2
  | [], _, p, m => by simp at m
  | [x], _, p, m => by simp at m
  | x :: y :: r, h, p, m => by
    simp only [List.drop_succ_cons, List.drop_zero, List.zip_cons_cons] at m
    have q := List.pairwise_cons.mp h
    rcases List.mem_cons.mp m with rfl | m
    · exact q.1 y List.mem_cons_self
    · exact asc_adj q.2 p (by simpa using m)
theorem cut1 (xs : List D) : cutD xs (some 1) none = xs.drop 1 := by
  have e : HT.sIx xs.length 0 (some 1) = min 1 xs.length := HT.sIx_nat _ _ 1
  unfold EV.cutD
  rw [e, HT.sIx_none]
  cases xs with
  | nil => rfl
  | cons x r =>
    have e : min 1 (x :: r).length = 1 := by simp
    rw [e]
    simp
theorem slice1 {r : List Int} (h : r.length ≤ lim) : sliceD (tI r) (some 1) none = pure (tI (r.drop 1)) := by
  show mkT (cutD (r.map D.int) (some 1) none) = _
  rw [cut1, ← List.map_drop]
  exact mkT_ok (by rw [List.length_map, List.length_drop]; omega)
theorem zip_ints (a b : List Int) : zipF [tI a, tI b] = pure ((a.zip b).map fun p => .tup [.int p.1, .int p.2]) := by
  show (pure (zipT (a.map D.int) (b.map D.int)) : PM (List D)) = _
  rw [zipT_eq]
theorem run0_p (d : D) : run0 (pure d : PM D) = pure d := rfl
theorem rising (n : Nat) (r : List Int) (hr : r.length ≤ lim) : ∃ b, f_is_rising (.int n) (tI r) = pure (.bl b) ∧ (b = true ↔ Rising n r) := by
  have h1 : ∀ c : D → PM Bool, (∀ z, c z = pure true) → compL dec1 c (fun z => run0 (fn3 f_is_between [z, .int 0, .int ((n : Int) - 1)])) (r.map D.int) = pure ((r.map fun x => decide (0 ≤ x ∧ x ≤ (n : Int) - 1)).map D.bl) := fun c hc => by
    rw [compIm (fun x => .bl (decide (0 ≤ x ∧ x ≤ (n : Int) - 1))) hr hc (fun x _ => by rw [fn3_eq, between]; rfl), List.map_map]
    rfl
  have h2 : compL dec2 (fun z => pure true) (fun z => ltD z.1 z.2) ((r.zip (r.drop 1)).map fun p => .tup [.int p.1, .int p.2]) = pure (((r.zip (r.drop 1)).map fun p => decide (p.1 < p.2)).map D.bl) := by
    rw [compPm (zs := r.zip (r.drop 1)) (fun p => (D.int p.1, D.int p.2)) (fun p => .bl (decide (p.1 < p.2))) (by rw [List.map_map]; rfl)
      (by rw [List.length_map, List.length_zip]; omega) (fun _ => rfl) (fun z m => rfl), List.map_map]
    rfl
  simp only [f_is_rising, pure_bind, isF_tup, asB_bl, items_tup, Bool.not_true, if_false, sub_int, slice1 hr, zip_ints, asI, id]
  rw [h1 _ fun z => rfl, h2]
  simp only [pure_bind, blsF, asB_bl]
  by_cases g : ((r.map fun x => decide (0 ≤ x ∧ x ≤ (n : Int) - 1)).all id) = true
  · rw [g]
    refine ⟨_, rfl, ?_⟩
    have g' : ∀ x ∈ r, 0 ≤ x ∧ x ≤ (n : Int) - 1 := by simpa using g
    rw [List.all_map]
    constructor
    · intro z
      refine ⟨fun x m => ⟨(g' x m).1, by have := (g' x m).2; omega⟩, adj_asc fun p m => ?_⟩
      have := List.all_eq_true.mp z p m
      simpa using this
    · intro z
      refine List.all_eq_true.mpr fun p m => ?_
      simpa using asc_adj z.2 p m
  · have g2 : ((r.map fun x => decide (0 ≤ x ∧ x ≤ (n : Int) - 1)).all id) = false := by simpa using g
    rw [g2]
    refine ⟨_, rfl, ?_⟩
    constructor
    · intro z
      cases z
    · intro z
      exact absurd (by
        rw [List.all_map]
        refine List.all_eq_true.mpr fun x m => ?_
        have := z.1 x m
        simp
        omega) g
end Lw
namespace Lw
open PySem EV
abbrev Nt := List (List Int)
abbrev dN (N : Nt) : D := .tup (N.map tI)
structure Net (N : Nt) : Prop where
  lo : 1 ≤ N.length
  hi : N.length ≤ 8
  row : ∀ (i : Nat) r, N[i]? = some r → Rising N.length r ∧ (i : Int) ∉ r
section
variable {N : Nt}
theorem Net.lim (h : Net N) : N.length ≤ EV.lim := Nat.le_trans h.hi (by decide)
theorem Rising.len {n : Nat} {r : List Int} (h : Rising n r) : r.length ≤ n := nodup_len (asc_nodup h.2) h.1
theorem Net.ixr (h : Net N) {i : Int} (h0 : 0 ≤ i) (h1 : i < N.length) : Rising N.length (ix N i) ∧ i ∉ ix N i := by
  have z := h.row i.toNat _ (ix_get h0 h1)
  rw [show ((i.toNat : Nat) : Int) = i by omega] at z
  exact z
theorem Net.rlen (h : Net N) {r : List Int} (m : r ∈ N) : r.length ≤ 8 := by
  obtain ⟨i, hi⟩ := List.mem_iff_getElem?.mp m
  have z := (h.row i r hi).1.len
  have := h.hi
  omega
theorem is_net (h : Net N) : f_is_net (dN N) = pure (.bl true) := by
  have hl := h.hi
  have lo := h.lo
  have e1 : decide ((1 : Int) ≤ (N.length : Int)) = true := decide_eq_true (by omega)
  have e2 : decide ((N.length : Int) ≤ 8) = true := decide_eq_true (by omega)
  simp only [f_is_net, pure_bind, isF_tup, asB_bl, len_tup, List.length_map, le_int, e1, e2, if_true, Bool.not_true, Bool.false_eq_true, if_false]
  show ((pure (pairsFrom 0 (N.map tI)) : PM (List D)) >>= _) = _
  rw [pure_bind, forL_goP (κ := List Int × Nat) (zs := N.zipIdx) (fun z => (D.int z.2, tI z.1)) (by rw [pairs_dec, List.zipIdx_map, List.map_map]; rfl) (fun z m => ?_)]
  · rfl
  · obtain ⟨r, i⟩ := z
    have hi : N[i]? = some r := by simpa [List.mem_zipIdx_iff_getElem?] using m
    obtain ⟨h1, h2⟩ := h.row i r hi
    obtain ⟨b, e, q⟩ := rising N.length r (by have := h1.len; show _ ≤ 1000000; omega)
    have eb : b = true := q.mpr h1
    subst eb
    simp only [fn2_eq, e, run0_p, pure_bind, asB_bl, Bool.not_true, Bool.false_eq_true, if_false, inT, decide_eq_false h2]
theorem need_net (h : Net N) : f_need_net (dN N) = pure .non := by
  simp only [f_need_net, g_need_net, pure_bind, fn1_eq, is_net h, run0_p, asB_bl, Bool.not_true]
  rfl
inductive Reach (N : Nt) (c : Int) : Int → Prop
  | refl : Reach N c c
  | step {x y : Int} : Reach N c x → y ∈ ix N x → Reach N c y
theorem Net.reach_in (h : Net N) {c x : Int} (h0 : 0 ≤ c ∧ c < N.length) (r : Reach N c x) : 0 ≤ x ∧ x < N.length := by
  induction r with
  | refl => exact h0
  | step _ m ih => exact (h.ixr ih.1 ih.2).1.1 _ m
noncomputable def setOf (n : Nat) (P : Int → Prop) : List Int := (iota n).filter fun x => @decide (P x) (Classical.propDecidable _)
theorem mem_setOf {n : Nat} {P : Int → Prop} {x : Int} : x ∈ setOf n P ↔ (0 ≤ x ∧ x < n) ∧ P x := by
  unfold setOf
  rw [List.mem_filter, mem_iota]
  exact and_congr_right fun _ => @decide_eq_true_iff (P x) (Classical.propDecidable _)
theorem setOf_asc (n : Nat) (P : Int → Prop) : (setOf n P).Pairwise (· < ·) := (iota_asc n).filter _
theorem setOf_len (n : Nat) (P : Int → Prop) : (setOf n P).length ≤ n := by
  unfold setOf
  exact Nat.le_trans (List.length_filter_le _ _) (by rw [len_iota]; exact Nat.le_refl _)
theorem eq_setOf {n : Nat} {P : Int → Prop} {l : List Int} (h : l.Pairwise (· < ·)) (e : ∀ x, x ∈ l ↔ (0 ≤ x ∧ x < n) ∧ P x) : l = setOf n P :=
  asc_eq h (setOf_asc n P) fun k => by rw [e, mem_setOf]
theorem filter_setOf {n : Nat} {P : Int → Prop} {b : Int → Bool} (e : ∀ x : Int, 0 ≤ x → x < n → (b x = true ↔ P x)) : (iota n).filter b = setOf n P :=
  eq_setOf ((iota_asc n).filter _) fun x => by
    rw [List.mem_filter, mem_iota]
    constructor
    · rintro ⟨h1, h2⟩
      exact ⟨h1, (e x h1.1 h1.2).mp h2⟩
    · rintro ⟨h1, h2⟩
      exact ⟨h1, (e x h1.1 h1.2).mpr h2⟩
/-- what c reaches -/
noncomputable def reachL (N : Nt) (c : Int) : List Int := setOf N.length (Reach N c)
theorem mem_reachL (h : Net N) {c x : Int} (h0 : 0 ≤ c) (h1 : c < N.length) : x ∈ reachL N c ↔ Reach N c x := by
  unfold reachL
  rw [mem_setOf]
  exact ⟨fun z => z.2, fun z => ⟨h.reach_in ⟨h0, h1⟩ z, z⟩⟩
/-- a found list: some of what c reaches -/
structure Fd (N : Nt) (c : Int) (xs : List Int) : Prop where
  nd : xs.Nodup
  rc : ∀ x ∈ xs, Reach N c x
  c : c ∈ xs
def Closed (N : Nt) (xs : List Int) : Prop := ∀ x ∈ xs, ∀ y ∈ ix N x, y ∈ xs
theorem Fd.done {c : Int} {xs : List Int} (f : Fd N c xs) (k : Closed N xs) (x : Int) : x ∈ xs ↔ Reach N c x := by
  refine ⟨f.rc x, fun r => ?_⟩
  induction r with
  | refl => exact f.c
  | step _ m ih => exact k _ ih _ m
theorem Fd.len {c : Int} {xs : List Int} (f : Fd N c xs) (h : Net N) (h0 : 0 ≤ c) (h1 : c < N.length) : xs.length ≤ N.length := nodup_len f.nd fun x m => h.reach_in ⟨h0, h1⟩ (f.rc x m)
theorem Fd.sorted {c : Int} {xs : List Int} (f : Fd N c xs) (h : Net N) (h0 : 0 ≤ c) (h1 : c < N.length) (k : Closed N xs) : (sortedG [lI xs] >>= fun d => tupleF [d]) = pure (tI (reachL N c)) := by
  have hl := f.len h h0 h1
  have hn := h.hi
  have e : sortI xs = reachL N c := eq_setOf (sortI_nodup f.nd) fun x => by
    rw [(sortI_perm xs).mem_iff, f.done k x]
    exact ⟨fun z => ⟨h.reach_in ⟨h0, h1⟩ z, z⟩, fun z => z.2⟩
  have e2 : (reachL N c).length ≤ 8 := Nat.le_trans (setOf_len _ _) hn
  rw [sortedI (by show _ ≤ 1000000; omega), pure_bind, e, tupleL (by rw [List.length_map]; show _ ≤ 1000000; omega)]
theorem reach_ok (h : Net N) {c : Int} (h0 : 0 ≤ c) (h1 : c < N.length) : f_reach_of (dN N) (.int c) = pure (tI (reachL N c)) := by
  have hn := h.hi
  have e0 : okL [D.int c] = pure [D.int c] := rfl
  simp only [f_reach_of, pure_bind, e0, id]
  refine while_then
    (fun p => ∃ (k : Nat) (xs : List Int), p = (.int k, xs.map .int) ∧ Fd N c xs ∧ k ≤ xs.length ∧ ∀ i x, i < k → xs[i]? = some x → ∀ y ∈ ix N x, y ∈ xs)
    (fun p => match p.1 with | .int k => 9 - k.toNat | _ => 0)
    (fun p => ∃ xs : List Int, p.2 = xs.map .int ∧ Fd N c xs ∧ Closed N xs)
    (fun p hp => by
      obtain ⟨k, xs, rfl, f, hk, hc⟩ := hp
      have hl := f.len h h0 h1
      dsimp only
      simp only [pure_bind, len_lst, lt_int, asB_bl, noExc_pure, List.length_map]
      by_cases g : k < xs.length
      · refine .inr ⟨by rw [decide_eq_true (by omega)], ?_⟩
        have hx := f.rc _ (ix_mem (l := xs) (i := k) (by omega) (by omega))
        have hin := h.reach_in ⟨h0, h1⟩ hx
        have hr := h.ixr hin.1 hin.2
        rw [getL (l := xs) (i := k) (by omega) (by omega), pure_bind, getT (l := N) hin.1 hin.2, pure_bind, items_tup, pure_bind,
          compI (fun y => !decide (y ∈ xs)) D.int (by have := hr.1.len; show _ ≤ 1000000; omega) (fun y _ => by rw [ninL, pure_bind, asB_bl]) (fun _ _ _ => rfl), pure_bind, noExc_pure, pure_bind, scal_ints, pure_bind]
        have f2 : Fd N c (xs ++ (ix N (ix xs k)).filter fun y => !decide (y ∈ xs)) := ⟨by
          rw [List.nodup_append]
          refine ⟨f.nd, (asc_nodup hr.1.2).filter _, fun a ha b hb e => ?_⟩
          subst e
          simp [ha] at hb, fun y m => by
          rcases List.mem_append.mp m with m | m
          · exact f.rc y m
          · exact .step hx (List.mem_filter.mp m).1, List.mem_append_left _ f.c⟩
        have hl2 := f2.len h h0 h1
        rw [← List.map_append, okLen_ok (by rw [List.length_map]; show _ ≤ 1000000; omega), pure_bind, add_int, pure_bind]
        refine ⟨_, rfl, ⟨k + 1, _, rfl, f2, by rw [List.length_append]; omega, fun i x hi e y m => ?_⟩, ?_⟩
        · rw [List.getElem?_append_left (by omega)] at e
          by_cases gi : i < k
          · exact List.mem_append_left _ (hc i x gi e y m)
          · have : i = k := by omega
            subst this
            have ex : x = ix xs (i : Int) := by
              have z := ix_get (l := xs) (i := (i : Int)) (by omega) (by omega)
              rw [show ((i : Int)).toNat = i by omega, e] at z
              exact Option.some.inj z
            rw [← ex]
            by_cases gm : y ∈ xs
            · exact List.mem_append_left _ gm
            · exact List.mem_append_right _ (List.mem_filter.mpr ⟨m, by simp [gm]⟩)
        · show 9 - (k + 1) < 9 - k
          exact Nat.sub_lt_sub_left (by omega) (Nat.lt_succ_self k)
      · refine .inl ⟨by rw [decide_eq_false (by omega)], xs, rfl, f, fun x m y my => ?_⟩
        obtain ⟨i, hi⟩ := List.mem_iff_getElem?.mp m
        exact hc i x (by have := (List.getElem?_eq_some_iff.mp hi).1; omega) hi y my)
    ⟨0, [c], rfl, ⟨by simp, fun x m => by rw [List.mem_singleton.mp m]; exact .refl, by simp⟩, by simp, fun i x hi => by omega⟩ (by show 9 - _ < 20; omega) (fun p hp => ?_)
  obtain ⟨xs, e2, f, k⟩ := hp
  have e3 := f.sorted h h0 h1 k
  rw [e2]
  simp only [bind_assoc, pure_bind, bind_pure]
  exact e3
end
end Lw
namespace Lw
open PySem EV
theorem pairs_iota (n : Nat) (F : Int → D) : (pairsFrom 0 ((iota n).map F)).map dec2 = (iota n).map fun i => some (D.int i, F i) := by
  rw [pairs_dec]
  refine List.ext_getElem? fun i => ?_
  rw [List.getElem?_map, List.getElem?_map, List.getElem?_zipIdx, List.getElem?_map]
  by_cases h : i < n
  · rw [iota_get h]
    simp
  · rw [List.getElem?_eq_none (by rw [len_iota]; omega)]
    rfl
theorem pairs_ix {α : Type} [Inhabited α] (l : List α) (f : α → D) : (pairsFrom 0 (l.map f)).map dec2 = (iota l.length).map fun i => some (D.int i, f (ix l i)) := by
  rw [pairs_dec]
  refine List.ext_getElem? fun i => ?_
  rw [List.getElem?_map, List.getElem?_map, List.getElem?_zipIdx, List.getElem?_map]
  by_cases h : i < l.length
  · rw [iota_get h]
    have z := ix_get (l := l) (i := (i : Int)) (by omega) (by omega)
    rw [show ((i : Int)).toNat = i by omega] at z
    rw [z]
    simp
  · have e1 : l[i]? = none := List.getElem?_eq_none (by omega)
    have e2 : (iota l.length)[i]? = none := List.getElem?_eq_none (by rw [len_iota]; omega)
    rw [e1, e2]
    rfl
section
variable {N : Nt}
theorem reachL_len (h : Net N) (c : Int) : (reachL N c).length ≤ 8 := Nat.le_trans (setOf_len _ _) h.hi
theorem all_reaches (h : Net N) : f_all_reaches (dN N) = pure (.lst ((iota N.length).map fun c => tI (reachL N c))) := by
  have hl := h.lim
  simp only [f_all_reaches, pure_bind, len_tup, List.length_map, range1 hl, id, fn2_eq]
  rw [compIm (fun c => tI (reachL N c)) (by rw [len_iota]; exact hl) (fun _ => rfl) fun c m => by
    have m := mem_iota.mp m
    rw [reach_ok h m.1 m.2]
    rfl]
  rfl
end
end Lw
namespace Lw
open PySem EV
section
variable {N : Nt}
theorem ne_nil {xs : List D} (h : shp (.lst xs) = true) : neD (.lst xs) (.lst []) = pure (.bl (!xs.isEmpty)) := by
  show (if shp (.lst xs) = true ∧ shp (.lst []) = true then pure (.bl (!eqvD (.lst xs) (.lst []))) else bad : PM D) = _
  rw [if_pos ⟨h, by decide⟩]
  cases xs with
  | nil => rfl
  | cons x r => rfl
theorem lreach (h : Net N) {c : Int} (h0 : 0 ≤ c) (h1 : c < N.length) : f_law_reach (dN N) (.int c) = pure (tI (reachL N c)) := by
  have hn := h.hi
  have hl := h.lim
  have e0 : okL [D.int c] = pure [D.int c] := rfl
  simp only [f_law_reach, pure_bind, e0, id, len_tup, List.length_map, range1 hl]
  refine forS_then (fun i p => ∃ xs : List Int, p = xs.map D.int ∧ Fd N c xs ∧ (Closed N xs ∨ i + 1 ≤ xs.length)) ⟨[c], rfl, ⟨by simp, fun x m => by rw [List.mem_singleton.mp m]; exact .refl, by simp⟩, .inr (by simp)⟩ (fun i z p _ hp => ?_) (fun p hp => ?_)
  · obtain ⟨xs, rfl, f, hc⟩ := hp
    refine forS_ex (fun m => ∃ c', m = pure c' ∧ ∃ xs : List Int, c' = xs.map D.int ∧ Fd N c xs ∧ (Closed N xs ∨ i + 1 + 1 ≤ xs.length)) (fun j p => ∃ ys : List Int, p = ys.map D.int ∧ Fd N c ys ∧ (∃ t, ys = xs ++ t) ∧ (Closed N xs → ys = xs) ∧ ∀ o : Int, 0 ≤ o → o < j → (∃ x ∈ xs, o ∈ ix N x) → o ∈ ys)
      ⟨xs, rfl, f, ⟨[], by simp⟩, fun _ => rfl, fun o h1 h2 => by omega⟩ (fun j o p ho hp => ?_) (fun p hp => ?_)
    · obtain ⟨ys, rfl, g, hx, hk, hd⟩ := hp
      have hj : j < N.length := by
        have := (List.getElem?_eq_some_iff.mp ho).1
        rw [len_iota] at this
        exact this
      rw [iota_get hj] at ho
      have ho := (Option.some.inj ho).symm
      subst ho
      have hyl := g.len h h0 h1
      have hyr : ∀ y ∈ ys, 0 ≤ y ∧ y < N.length := fun y m => h.reach_in ⟨h0, h1⟩ (g.rc y m)
      have ecomp : compL dec1 (fun z => getD (dN N) z >>= fun x => inD (.int (j : Int)) x >>= asB) (fun _ => pure (.int 1)) (ys.map D.int) = pure ((ys.filter fun y => decide ((j : Int) ∈ ix N y)).map fun _ => .int 1) :=
        compI _ _ (by show _ ≤ 1000000; omega) (fun y m => by rw [getT (hyr y m).1 (hyr y m).2, pure_bind, inT, pure_bind, asB_bl]) (fun _ _ _ => rfl)
      simp only [bind_assoc, pure_bind, ninL, asB_bl, items_lst]
      have eL : mkL [] = pure (.lst []) := rfl
      by_cases q1 : (j : Int) ∈ ys
      · rw [decide_eq_true q1]
        simp only [Bool.not_true, Bool.false_eq_true, if_false, noExc_pure, pure_bind]
        refine ⟨_, rfl, ys, rfl, g, hx, hk, fun o p1 p2 p3 => ?_⟩
        by_cases p4 : o < (j : Int)
        · exact hd o p1 p4 p3
        · have : o = (j : Int) := by omega
          rw [this]
          exact q1
      · rw [decide_eq_false q1]
        simp only [Bool.not_false, if_true, ecomp, pure_bind, eL]
        rw [ne_nil (by
          rw [show ((ys.filter fun y => decide ((j : Int) ∈ ix N y)).map fun _ => D.int 1) = ((ys.filter fun y => decide ((j : Int) ∈ ix N y)).map fun _ => (1 : Int)).map D.int by rw [List.map_map]; rfl]
          exact shpLI _)]
        simp only [pure_bind, asB_bl, noExc_pure]
        by_cases q2 : ∃ y ∈ ys, (j : Int) ∈ ix N y
        · obtain ⟨y, ym, yj⟩ := q2
          have e1 : (!((ys.filter fun y => decide ((j : Int) ∈ ix N y)).map fun _ => D.int 1).isEmpty) = true := by
            have : y ∈ ys.filter fun y => decide ((j : Int) ∈ ix N y) := List.mem_filter.mpr ⟨ym, decide_eq_true yj⟩
            cases q : ys.filter fun y => decide ((j : Int) ∈ ix N y) with
            | nil => rw [q] at this; cases this
            | cons _ _ => rfl
          rw [e1, if_pos rfl]
          have g2 : Fd N c (ys ++ [(j : Int)]) := ⟨by
            rw [List.nodup_append]
            refine ⟨g.nd, by simp, fun a ha b hb e => ?_⟩
            rw [List.mem_singleton.mp hb] at e
            exact q1 (e ▸ ha), fun x m => by
            rcases List.mem_append.mp m with m | m
            · exact g.rc x m
            · rw [List.mem_singleton.mp m]
              exact .step (g.rc y ym) yj, List.mem_append_left _ g.c⟩
          have hl2 := g2.len h h0 h1
          rw [show ys.map D.int ++ [D.int (j : Int)] = (ys ++ [(j : Int)]).map D.int by rw [List.map_append]; rfl, okLen_ok (by rw [List.length_map]; show _ ≤ 1000000; omega), pure_bind]
          refine ⟨_, rfl, _, rfl, g2, ?_, fun k => ?_, fun o p1 p2 p3 => ?_⟩
          · obtain ⟨t, rfl⟩ := hx
            exact ⟨t ++ [(j : Int)], by rw [List.append_assoc]⟩
          · have e := hk k
            subst e
            exact absurd (k y ym _ yj) q1
          · by_cases p4 : o < (j : Int)
            · exact List.mem_append_left _ (hd o p1 p4 p3)
            · have : o = (j : Int) := by omega
              rw [this]
              simp
        · have e1 : (ys.filter fun y => decide ((j : Int) ∈ ix N y)) = [] := List.filter_eq_nil_iff.mpr fun y m e => q2 ⟨y, m, of_decide_eq_true e⟩
          rw [e1]
          refine ⟨_, rfl, ys, rfl, g, hx, hk, fun o p1 p2 p3 => ?_⟩
          by_cases p4 : o < (j : Int)
          · exact hd o p1 p4 p3
          · have : o = (j : Int) := by omega
            subst this
            obtain ⟨x, m, e⟩ := p3
            obtain ⟨t, rfl⟩ := hx
            exact absurd ⟨x, List.mem_append_left _ m, e⟩ q2
    · obtain ⟨ys, rfl, g, ⟨t, rfl⟩, hk, hd⟩ := hp
      rw [len_iota] at hd
      refine ⟨_, rfl, _, rfl, g, ?_⟩
      have hxr : ∀ y ∈ xs, 0 ≤ y ∧ y < N.length := fun y m => h.reach_in ⟨h0, h1⟩ (f.rc y m)
      cases t with
      | nil =>
        refine .inl fun x m y my => ?_
        have m' : x ∈ xs := by simpa using m
        have z := (h.ixr (hxr x m').1 (hxr x m').2).1.1 y my
        exact hd y z.1 z.2 ⟨x, m', my⟩
      | cons a t =>
        refine .inr ?_
        rcases hc with hc | hc
        · have := hk hc
          simp at this
        · rw [List.length_append, List.length_cons]
          omega
  · obtain ⟨xs, rfl, f, hc⟩ := hp
    have k : Closed N xs := by
      rcases hc with hc | hc
      · exact hc
      · rw [len_iota] at hc
        have := f.len h h0 h1
        omega
    have e3 := f.sorted h h0 h1 k
    simp only [bind_assoc, pure_bind, bind_pure]
    exact e3
end
end Lw
namespace Lw
open PySem EV
def Pen (k : Nat) (s : List Int) : Prop := ∃ a b c, s = [a, b, c] ∧ 0 ≤ b ∧ b < 1000000007 ∧ 0 ≤ c ∧ c ≤ k
theorem Pen.mono {k k' : Nat} {s : List Int} (h : Pen k s) (e : k ≤ k') : Pen k' s := by
  obtain ⟨a, b, c, rfl, h1, h2, h3, h4⟩ := h
  exact ⟨a, b, c, rfl, h1, h2, h3, by omega⟩
theorem bind_ok {α β : Type} {m : PM α} {f : α → PM β} {s s' : List Int} {a : α} (h : m s = .ok a s') : (m >>= f) s = f a s' := by
  rw [PM.bind_def, h]
theorem get0 (a b c : Int) : penGet (.int 0) [a, b, c] = .ok (.int a) [a, b, c] := rfl
theorem get1 (a b c : Int) : penGet (.int 1) [a, b, c] = .ok (.int b) [a, b, c] := rfl
theorem get2 (a b c : Int) : penGet (.int 2) [a, b, c] = .ok (.int c) [a, b, c] := rfl
theorem set0 (a b c d : Int) : penSet (.int 0) (.int d) [a, b, c] = .ok () [d, b, c] := rfl
theorem set2 (a b c d : Int) : penSet (.int 2) (.int d) [a, b, c] = .ok () [a, b, d] := rfl
theorem mul_ok {i j : Int} (h : L2.CMul i j) : mulD (.int i) (.int j) = pure (.int (i * j)) := if_pos h
theorem mod_ok {i j : Int} (h : j ≠ 0) : modD (.int i) (.int j) = pure (.int (i.fmod j)) := if_pos h
theorem fdiv_ok {i j : Int} (h : L2.CDivN i j) : fdivD (.int i) (.int j) = pure (.int (i.fdiv j)) := if_pos h
theorem fmod_bd {i j : Int} (h : 0 < j) : 0 ≤ i.fmod j ∧ i.fmod j < j := ⟨Int.fmod_nonneg_of_pos i h, Int.fmod_lt_of_pos i h⟩
theorem mul_l {i j : Int} (h1 : -(2 ^ 64) < i := by omega) (h2 : i < 2 ^ 64 := by omega) : mulD (.int i) (.int j) = pure (.int (i * j)) := mul_ok (.inl ⟨h1, h2⟩)
theorem mul_r {i j : Int} (h1 : -(2 ^ 64) < j := by omega) (h2 : j < 2 ^ 64 := by omega) : mulD (.int i) (.int j) = pure (.int (i * j)) := mul_ok (.inr ⟨h1, h2⟩)
theorem draw {k m : Nat} {s : List Int} (h : Pen k s) (hk : k ≤ 1000000) (m1 : 1 ≤ m) (m2 : m ≤ 1000000) : Ok (f_law_draw (.int m)) s fun d s' => Pen (k + 1) s' ∧ ∃ x : Int, d = .int x ∧ 0 ≤ x ∧ x < m := by
  obtain ⟨a, b, c, rfl, h1, h2, h3, h4⟩ := h
  have hm0 : (m : Int) ≠ 0 := by omega
  simp only [f_law_draw, bind_assoc, pure_bind]
  by_cases ha : 0 < a
  · refine ⟨.int (a.fmod m), [a.fdiv m, b, c], ?_, ⟨_, _, _, rfl, h1, h2, h3, by omega⟩, _, rfl, fmod_bd (by omega)⟩
    rw [bind_ok (get0 a b c), bind_ok (show gtD (.int a) (.int 0) [a, b, c] = .ok (.bl true) [a, b, c] by rw [gt_int, decide_eq_true ha]; rfl), bind_ok (show asB (.bl true) [a, b, c] = .ok true [a, b, c] from rfl), if_pos rfl, bind_ok (get0 a b c),
      mod_ok hm0, pure_bind, bind_ok (get0 a b c), fdiv_ok ⟨hm0, by omega⟩, pure_bind, bind_ok (set0 a b c _)]
    rfl
  · rw [Ok]
    have e1 := mul_l (i := 17) (j := c + 1)
    have e2 := mul_l (i := 2) (j := c + 1)
    have e3 := mul_r (i := b + 17 * (c + 1)) (j := 69621 + 2 * (c + 1))
    have b1 := fmod_bd (i := (b + 17 * (c + 1)) * (69621 + 2 * (c + 1))) (j := 2147483647) (by decide)
    generalize hs1 : ((b + 17 * (c + 1)) * (69621 + 2 * (c + 1))).fmod 2147483647 = st at b1
    have e4 := mul_l (i := st) (j := st)
    have e5 := mul_l (i := 40503) (j := c + 1)
    have b2 := fmod_bd (i := st * st + 40503 * (c + 1) + 5) (j := 2147483629) (by decide)
    generalize hs2 : (st * st + 40503 * (c + 1) + 5).fmod 2147483629 = su at b2
    have e6 := mul_r (i := su) (j := 48271)
    refine ⟨.int ((((su * 48271).fmod 2147483647).fdiv 32).fmod m), [a, b, c + 1], ?_, ⟨_, _, _, rfl, h1, h2, by omega, by omega⟩, _, rfl, fmod_bd (by omega)⟩
    rw [bind_ok (get0 a b c), bind_ok (show gtD (.int a) (.int 0) [a, b, c] = .ok (.bl false) [a, b, c] by rw [gt_int, decide_eq_false ha]; rfl), bind_ok (show asB (.bl false) [a, b, c] = .ok false [a, b, c] from rfl), if_neg (by decide),
      bind_ok (get2 a b c), add_int, pure_bind, bind_ok (set2 a b c _), bind_ok (get1 a b _), bind_ok (get2 a b _), e1, pure_bind, add_int, pure_bind, bind_ok (get2 a b _), e2, pure_bind, add_int, pure_bind, e3, pure_bind, mod_ok (by decide), pure_bind, hs1,
      e4, pure_bind, bind_ok (get2 a b _), e5, pure_bind, add_int, pure_bind, add_int, pure_bind, mod_ok (by decide), pure_bind, hs2, e6, pure_bind, mod_ok (by decide), pure_bind, fdiv_ok ⟨by decide, by decide⟩, pure_bind, mod_ok hm0]
    rfl
theorem pick {k : Nat} {s : List Int} {ns : List Int} (h : Pen k s) (hk : k ≤ 1000000) (m1 : 1 ≤ ns.length) (m2 : ns.length ≤ 1000000) : Ok (f_law_pick (lI ns)) s fun d s' => Pen (k + 1) s' ∧ ∃ x : Int, d = .int x ∧ x ∈ ns := by
  simp only [f_law_pick, bind_assoc, pure_bind, len_lst, List.length_map, fn1_eq]
  refine Ok.bind ((draw h hk m1 m2).imp fun d s1 ⟨p, x, e, h1, h2⟩ => ?_)
  subst e
  rw [getL h1 h2]
  exact Ok.pure ⟨p, _, rfl, ix_mem h1 h2⟩
/-- a row that i may have -/
def Row (n : Nat) (i : Int) (l : List Int) : Prop := Rising n l ∧ i ∉ l
theorem Row.sub {n : Nat} {i : Int} {l m : List Int} (h : Row n i l) (s : m.Sublist l) : Row n i m :=
  ⟨⟨fun x hx => h.1.1 x (s.subset hx), h.1.2.sublist s⟩, fun hx => h.2 (s.subset hx)⟩
theorem iota_rising (n : Nat) : Rising n (iota n) := ⟨fun x m => mem_iota.mp m, iota_asc n⟩
theorem Rising.not {n : Nat} {i : Int} {l : List Int} (h : Rising n l) : Row n i (l.filter fun x => decide (x ≠ i)) :=
  ⟨⟨fun x m => h.1 x (List.mem_filter.mp m).1, h.2.filter _⟩, fun m => by simpa using (List.mem_filter.mp m).2⟩
theorem setI_len (ns : List Int) : (setI ns).length ≤ ns.length := by
  induction ns with
  | nil => exact Nat.le_refl _
  | cons x r ih =>
    have : ∀ l, (putI x l).length ≤ l.length + 1 := by
      intro l
      induction l with
      | nil => simp [putI]
      | cons y l ih =>
        unfold putI
        split
        · simp
        · split
          · simp
          · simp only [List.length_cons]
            omega
    have := this (setI r)
    unfold setI
    simp only [List.length_cons]
    omega
theorem ssetG {ns : List Int} (h : ns.length < 1000) (h2 : (setI ns).length < 64) : sortSetD (lI ns) = pure (lI (setI ns)) := by
  show (match intsOf (ns.map D.int) with | some ns => if ns.length < 1000 ∧ (setI ns).length < 64 then mkL ((setI ns).map D.int) else bad | none => bad : PM D) = _
  rw [intsOf_map]
  show (if ns.length < 1000 ∧ (setI ns).length < 64 then mkL ((setI ns).map D.int) else bad : PM D) = _
  rw [if_pos ⟨h, h2⟩]
  exact mkL_ok (by rw [List.length_map]; show _ ≤ 1000000; omega)
theorem sset {ns : List Int} (h : ns.length < 63) : sortSetD (lI ns) = pure (lI (setI ns)) := ssetG (by omega) (by have := setI_len ns; omega)
theorem filtI {c : D → PM Bool} (b : Int → Bool) {ns : List Int} (hl : ns.length ≤ lim) (hc : ∀ n ∈ ns, c (.int n) = pure (b n)) : compL dec1 c (fun z => pure z) (ns.map D.int) = pure ((ns.filter b).map D.int) := compI b D.int hl hc fun _ _ _ => rfl
end Lw
namespace Lw
open PySem EV
/-- draws in a comprehension -/
theorem Ok.draws {k m : Nat} {s : List Int} {ns : List Int} {g : Int → Bool} {c : D → PM Bool} (h : Pen k s) (hk : k + ns.length ≤ 1000000) (hc : ∀ n ∈ ns, ∀ j s, j ≤ 1000000 → Pen j s → Ok (c (.int n)) s fun _ s' => Pen (j + 1) s') :
    Ok (compL dec1 c (fun z => pure z) (ns.map D.int)) s fun r s' => Pen (k + ns.length) s' ∧ ∃ ms : List Int, ms.Sublist ns ∧ r = ms.map D.int := by
  unfold compL
  rw [if_pos (by rw [List.length_map]; show _ ≤ 1000000; omega)]
  induction ns generalizing k s with
  | nil => exact ⟨[], s, rfl, by simpa using h, [], .slnil, rfl⟩
  | cons n ns ih =>
    rw [List.length_cons] at hk
    rw [List.map_cons]
    unfold compG
    show Ok (EV.noExc (c (.int n)) >>= _) s _
    refine Ok.bind ((hc n List.mem_cons_self k s (by omega) h).noExc.imp fun b s1 h1 => ?_)
    have e : k + 1 + ns.length = k + (n :: ns).length := by
      rw [List.length_cons]
      omega
    cases b with
    | true =>
      rw [if_pos rfl, noExc_pure, pure_bind]
      refine Ok.bind ((ih h1 (by omega) (fun m hm => hc m (List.mem_cons_of_mem _ hm))).imp fun r s2 ⟨h2, ms, hs, er⟩ => ?_)
      refine Ok.pure ⟨by rw [← e]; exact h2, n :: ms, hs.cons₂ n, by rw [er]; rfl⟩
    | false =>
      rw [if_neg (by decide)]
      refine (ih h1 (by omega) (fun m hm => hc m (List.mem_cons_of_mem _ hm))).imp fun r s2 ⟨h2, ms, hs, er⟩ => ?_
      exact ⟨by rw [← e]; exact h2, ms, hs.cons n, er⟩
theorem net {k : Nat} {s : List Int} (h : Pen k s) (hk : k ≤ 900000) : Ok (f_law_net) s fun d s' => Pen (k + 200) s' ∧ ∃ N, Net N ∧ d = dN N := by
  have eo : okL [] = pure [] := rfl
  have e1 : mkL [D.int 1, D.int 2, D.int 3, D.int 3, D.int 4, D.int 4, D.int 5, D.int 6, D.int 7, D.int 8] = pure (lI [1, 2, 3, 3, 4, 4, 5, 6, 7, 8]) := rfl
  have e2 : mkL [D.int 1, D.int 2, D.int 4] = pure (lI [1, 2, 4]) := rfl
  simp only [f_law_net, bind_assoc, pure_bind, e1, e2, fn1_eq, two, eo, id]
  refine Ok.bind ((pick h (by omega) (by decide) (by decide)).imp fun d s1 ⟨p1, n0, e, hn⟩ => ?_)
  subst e
  obtain ⟨n, rfl, n1, n8⟩ : ∃ n : Nat, n0 = n ∧ 1 ≤ n ∧ n ≤ 8 := by
    have : n0 = 1 ∨ n0 = 2 ∨ n0 = 3 ∨ n0 = 4 ∨ n0 = 5 ∨ n0 = 6 ∨ n0 = 7 ∨ n0 = 8 := by
      simp at hn
      omega
    exact ⟨n0.toNat, by omega, by omega, by omega⟩
  refine Ok.bind ((draw (m := 6) p1 (by omega) (by decide) (by decide)).imp fun d s2 ⟨p2, way, e, _, _⟩ => ?_)
  subst e
  refine Ok.bind ((draw (m := 3) p2 (by omega) (by decide) (by decide)).imp fun d s3 ⟨p3, j, e, hj0, hj1⟩ => ?_)
  subst e
  have hlim : n ≤ lim := by show _ ≤ 1000000; omega
  rw [getL (l := [1, 2, 4]) hj0 (by simpa using hj1), pure_bind, range1 hlim, pure_bind]
  generalize ix ([1, 2, 4] : List Int) j = share
  refine Ok.bind ((Ok.forS (fun i c s => Pen (k + 3 + 16 * i) s ∧ ∃ N : Nt, c = N.map tI ∧ N.length = i ∧ ∀ (q : Nat) r, N[q]? = some r → Row n q r) (k := 0) ⟨p3, [], rfl, rfl, by simp⟩ (fun i z c s hz hp => ?_)).imp fun c s4 hp => ?_)
  · obtain ⟨pk, N, rfl, hN, hr⟩ := hp
    rw [Nat.zero_add] at pk hN ⊢
    have hi : i < n := by
      have := (List.getElem?_eq_some_iff.mp hz).1
      rw [len_iota] at this
      exact this
    rw [iota_get hi] at hz
    have hz := (Option.some.inj hz).symm
    subst hz
    have hil : (iota n).length ≤ lim := by rw [len_iota]; exact hlim
    rw [pure_bind, filtI (fun x => decide (x ≠ (i : Int))) hil (fun x _ => by rw [neInt, pure_bind, asB_bl]), pure_bind]
    have r0 : Row n i ((iota n).filter fun x => decide (x ≠ (i : Int))) := (iota_rising n).not
    generalize (iota n).filter (fun x => decide (x ≠ (i : Int))) = l0 at r0 ⊢
    have g0 := r0.1.len
    simp only [eqInt, pure_bind, asB_bl, items_lst]
    -- way 0
    refine Ok.bind (Ok.imp (Q := fun d s' => Pen (k + 3 + 16 * i) s' ∧ ∃ l, d = lI l ∧ Row n i l) ?_ fun d s5 ⟨p5, l1, e, r1⟩ => ?_)
    · by_cases w : way = 0
      · rw [decide_eq_true w, if_pos rfl, filtI (fun x => decide ((i : Int) < x)) (by show _ ≤ 1000000; omega) (fun x _ => by rw [gt_int, pure_bind, asB_bl]), pure_bind]
        exact Ok.pure ⟨pk, _, rfl, r0.sub (List.filter_sublist)⟩
      · rw [decide_eq_false w, if_neg (by decide)]
        exact Ok.pure ⟨pk, _, rfl, r0⟩
    subst e
    have g1 := r1.1.len
    simp only [items_lst, pure_bind]
    refine Ok.bind ((Ok.draws (m := 6) (g := fun _ => true) p5 (by omega) (fun x _ j s hj ps => ?_)).imp fun d s6 ⟨p6, ms, hs, e⟩ => ?_)
    · refine Ok.bind ((draw (m := 6) ps hj (by decide) (by decide)).imp fun d s' ⟨p', y, e, _, _⟩ => ?_)
      subst e
      rw [lt_int, pure_bind]
      exact Ok.pure p'
    subst e
    have r2 := r1.sub hs
    try simp only [eqInt, pure_bind, asB_bl, items_lst]
    have p7 := p6.mono (k' := k + 3 + 16 * i + 8) (by omega)
    -- way 1
    refine Ok.bind (Ok.imp (Q := fun d s' => Pen (k + 3 + 16 * i + 8) s' ∧ ∃ l, d = lI l ∧ Row n i l) ?_ fun d s7 ⟨p8, l3, e, r3⟩ => ?_)
    · by_cases w : way = 1
      · rw [decide_eq_true w, if_pos rfl]
        simp only [add_int, pure_bind, eqInt, asB_bl]
        rw [filtI (fun x => decide (x = (i : Int) + 1)) (by show _ ≤ 1000000; omega) (fun x _ => rfl), pure_bind]
        exact Ok.pure ⟨p7, _, rfl, r1.sub (List.filter_sublist)⟩
      · rw [decide_eq_false w, if_neg (by decide)]
        exact Ok.pure ⟨p7, _, rfl, r2⟩
    subst e
    have g3 := r3.1.len
    try simp only [eqInt, pure_bind, asB_bl, items_lst]
    -- way 2
    refine Ok.bind (Ok.imp (Q := fun d s' => Pen (k + 3 + 16 * i + 16) s' ∧ ∃ l, d = lI l ∧ Row n i l) ?_ fun d s9 ⟨p10, l5, e, r5⟩ => ?_)
    · by_cases w : way = 2
      · rw [decide_eq_true w, if_pos rfl]
        have em : ∀ x, mkL [D.int x] = pure (lI [x]) := fun _ => rfl
        simp only [add_int, pure_bind, mod_ok (show (n : Int) ≠ 0 by omega), em]
        refine Ok.bind ((Ok.draws (m := 3) (g := fun _ => true) p8 (by omega) (fun x _ j s hj ps => ?_)).imp fun d s8 ⟨p9, ms2, hs2, e⟩ => ?_)
        · refine Ok.bind ((draw (m := 3) ps hj (by decide) (by decide)).imp fun d s' ⟨p', y, e, _, _⟩ => ?_)
          subst e
          rw [eqInt, pure_bind]
          exact Ok.pure p'
        subst e
        have g4 := (r3.sub hs2).1.len
        have eadd : addD (lI [((i : Int) + 1).fmod n]) (D.lst (ms2.map D.int)) = pure (lI ([((i : Int) + 1).fmod n] ++ ms2)) := by
          show mkL (_ ++ _) = _
          rw [← List.map_append]
          refine mkL_ok ?_
          rw [List.length_map, List.length_append, List.length_singleton]
          show _ ≤ 1000000
          omega
        rw [eadd, pure_bind, sset (by rw [List.length_append, List.length_singleton]; omega), pure_bind, items_lst, pure_bind]
        have rr : Rising n (setI ([((i : Int) + 1).fmod n] ++ ms2)) := ⟨fun x m => by
          rcases List.mem_append.mp (mem_setI.mp m) with m | m
          · rw [List.mem_singleton.mp m]
            exact fmod_bd (by omega)
          · exact (r3.sub hs2).1.1 x m, setI_asc _⟩
        have g5 := rr.len
        rw [filtI (fun x => decide (x ≠ (i : Int))) (by show _ ≤ 1000000; omega) (fun x _ => by rw [neInt, pure_bind, asB_bl]), pure_bind]
        exact Ok.pure ⟨p9.mono (by omega), _, rfl, rr.not⟩
      · rw [decide_eq_false w, if_neg (by decide)]
        exact Ok.pure ⟨p8.mono (by omega), _, rfl, r3⟩
    subst e
    have g5 := r5.1.len
    rw [tupleL (by rw [List.length_map]; show _ ≤ 1000000; omega), pure_bind, show N.map tI ++ [D.tup (l5.map D.int)] = (N ++ [l5]).map tI by rw [List.map_append]; rfl,
      okLen_ok (by rw [List.length_map, List.length_append, List.length_singleton]; show _ ≤ 1000000; omega), pure_bind]
    refine Ok.pure ⟨p10.mono (by omega), _, rfl, by rw [List.length_append, List.length_singleton, hN], fun q r hq => ?_⟩
    rw [List.getElem?_append] at hq
    split at hq
    · exact hr q r hq
    · rename_i hql
      have : q - N.length = 0 := by
        cases hz : q - N.length with
        | zero => rfl
        | succ t => rw [hz] at hq; simp at hq
      rw [this] at hq
      have hq := Option.some.inj hq
      subst hq
      have : q = i := by omega
      subst this
      exact r5
  · obtain ⟨p5, N, rfl, hN, hr⟩ := hp
    rw [len_iota, Nat.zero_add] at p5 hN
    rw [tupleL (by rw [List.length_map]; show _ ≤ 1000000; omega)]
    refine Ok.pure ⟨p5.mono (by omega), N, ⟨by omega, by omega, fun q r hq => ?_⟩, rfl⟩
    rw [hN]
    exact hr q r hq
end Lw
namespace Lw
open PySem EV
theorem Net.sm {N : Nt} (h : Net N) : Sm 2 72 (dN N) := .tup (c := 8) (fun x m => by
  obtain ⟨r, hr, rfl⟩ := List.mem_map.mp m
  obtain ⟨i, hi⟩ := List.mem_iff_getElem?.mp hr
  have z := h.row i r hi
  have hn := h.hi
  exact (SmI.smT fun y my => by have := z.1.1 y my; omega).mono (by omega) (h.rlen hr)) (by rw [List.length_map]; have := h.hi; omega)
theorem set_sm {n : Nat} (hn : n ≤ 8) (P : Int → Prop) : Sm 1 8 (tI (setOf n P)) :=
  (SmI.smT fun y my => by have := (mem_setOf.mp my).1; omega).mono (by omega) (Nat.le_trans (setOf_len _ _) hn)
theorem laps (n : Nat) : ∃ m : Nat, m ≤ 3 ∧ ∀ {β : Type} (kk : List D → PM β), (minF [.int n, .int 3] >>= fun d5 => maxF [.int 1, d5] >>= fun d9 => rangeF1 [d9] >>= kk) = kk ((iota m).map D.int) := by
  refine ⟨if n ≤ 1 then 1 else if n ≤ 3 then n else 3, by split <;> (try split) <;> omega, fun kk => ?_⟩
  show (rangeF1 [.int (if (if (3 : Int) < n then (3 : Int) else n) > 1 then (if (3 : Int) < n then (3 : Int) else n) else 1)] >>= kk) = _
  have e : (if (if (3 : Int) < n then (3 : Int) else n) > 1 then (if (3 : Int) < n then (3 : Int) else n) else 1) = ((if n ≤ 1 then 1 else if n ≤ 3 then n else 3 : Nat) : Int) := by
    split <;> split <;> (try split) <;> (try split) <;> omega
  rw [e, range1 (by show _ ≤ 1000000; split <;> (try split) <;> omega), pure_bind]
theorem cell {ns : List Int} {z : Int} (h : 0 ≤ z) : ∃ v : Int, f_law_cell_at ns (.int z) = pure (.int v) := by
  simp only [f_law_cell_at, pure_bind, lt_int, asB_bl, id]
  by_cases g : z < ns.length
  · rw [decide_eq_true g, if_pos rfl]
    refine ⟨ix ns z, ?_⟩
    show ((match L2.atI ns z with | some m => pure (.int m) | none => bad : PM D) >>= _) = _
    rw [atI_ix h g]
    rfl
  · rw [decide_eq_false g, if_neg (by decide)]
    exact ⟨0, rfl⟩
theorem pen (v : Int) : ∃ p, f_law_pen (.int v) = pure p ∧ Pen 0 p := by
  have e : powD (.int 10) (.int 18) = pure (.int (10 ^ 18)) := by
    show (if L2.CPow 10 18 then pure (.int (10 ^ 18)) else bad : PM D) = _
    exact if_pos ⟨by decide, by decide, by decide⟩
  simp only [f_law_pen, pure_bind, e, sub_int, mod_ok (show (1000000007 : Int) ≠ 0 by decide)]
  have b := fmod_bd (i := v) (j := 1000000007) (by decide)
  exact ⟨_, rfl, _, _, _, rfl, b.1, b.2, Int.le_refl _, by omega⟩
end Lw
namespace Lw
open PySem EV
theorem law_frame {ns : List Int} {L t : Nat} {LB : Unit → D → PM (Lp Unit)} (hL : L ≤ 1000) (hLt : L * t ≤ 800000) (h : ∀ y ∈ iota L, ∀ j s, j ≤ 800000 → Pen j s → Ok (LB () (.int y)) s fun r s' => r = .go () ∧ Pen (j + t) s') :
    Ok (minF [.int ns.length, .int 3] >>= fun d5 => maxF [.int 1, d5] >>= fun d9 => rangeF1 [d9] >>= fun l => forL dec1 (fun _ z => run0 (f_law_cell_at ns z) >>= fun d => run0 (mfn1 f_law_pen [d]) >>= fun n =>
      withPen n (rangeF1 [.int L] >>= fun l => forL dec1 LB l () >>= lpK Lp.ret fun _ => pure (.go ()))) l () >>= lpK id fun _ => pure (.bl true)) [] (fun d _ => d = .bl true) := by
  obtain ⟨m, hm, el⟩ := laps ns.length
  rw [el]
  refine Ok.bind ((Ok.forL (fun _ _ => True) (t := 0) (k := 0) trivial (fun z hz _ s _ _ _ => ?_)).imp fun r s ⟨e, _⟩ => ?_)
  · obtain ⟨v, ev⟩ := cell (ns := ns) (mem_iota.mp hz).1
    obtain ⟨p, ep, pp⟩ := pen v
    have er : ∀ p : List Int, run0 (pure p : PM (List Int)) = pure p := fun _ => rfl
    have em : mfn1 f_law_pen [.int v] = pure p := ep
    rw [ev, run0_p, pure_bind, em, er, pure_bind, range1 (by show _ ≤ 1000000; omega), pure_bind]
    refine Ok.withPen (Ok.bind ((Ok.forL Pen (t := t) pp (fun y my j s hj1 hj2 pj => h y my j s (by rw [len_iota] at hj2; omega) pj)).imp fun r s ⟨e, _⟩ => ?_))
    subst e
    exact Ok.pure ⟨rfl, trivial⟩
  · subst e
    exact Ok.pure rfl
theorem ok_end {m : PM D} (key : Ok m [] fun d _ => d = .bl true) : ∃ s, m [] = .ok (.bl true) s := by
  obtain ⟨d, s, e, rfl⟩ := key
  exact ⟨s, e⟩
theorem mkT1 (a : D) : mkT [a] = pure (.tup [a]) := rfl
theorem mkT2 (a b : D) : mkT [a, b] = pure (.tup [a, b]) := rfl
theorem mkT3 (a b c : D) : mkT [a, b, c] = pure (.tup [a, b, c]) := rfl
theorem rising_sm {n : Nat} (hn : n ≤ 8) {B : List Int} (h : Rising n B) : Sm 1 8 (tI B) :=
  (SmI.smT fun y my => by have := h.1 y my; omega).mono (by omega) (Nat.le_trans h.len hn)
theorem rg_iota {n : Nat} (h : n ≤ lim) : rg1 (.int n) = pure ((iota n).map D.int) := by
  have h : n ≤ 1000000 := h
  unfold rg1
  dsimp only
  unfold rgD
  rw [if_pos ⟨by omega, by omega, by omega, by omega, by show _ ≤ 1000000; omega⟩, show ((n : Int) - 0).toNat = n by omega, rangeL_iota]
theorem addL {a b : List D} (h : a.length + b.length ≤ lim) : addD (.lst a) (.lst b) = pure (.lst (a ++ b)) := mkL_ok (by rw [List.length_append]; exact h)
end Lw
namespace Lw
open PySem EV
/-- drawn, one for each -/
theorem Ok.compE {e : D → PM D} {P : D → Prop} {t : Nat} {ns : List Int} {k : Nat} {s : List Int} (hl : ns.length ≤ lim) (h : Pen k s) (hk : k + ns.length * t ≤ 1000000)
    (he : ∀ n ∈ ns, ∀ j s, j + t ≤ 1000000 → Pen j s → Ok (e (.int n)) s fun d s' => Pen (j + t) s' ∧ P d) :
    Ok (compL dec1 (fun _ => pure true) e (ns.map D.int)) s fun r s' => Pen (k + ns.length * t) s' ∧ r.length = ns.length ∧ ∀ d ∈ r, P d := by
  unfold compL
  rw [if_pos (by rw [List.length_map]; exact hl)]
  clear hl
  induction ns generalizing k s with
  | nil => exact ⟨[], s, rfl, by simpa using h, rfl, by simp⟩
  | cons n ns ih =>
    rw [List.length_cons, Nat.succ_mul] at hk
    rw [List.map_cons]
    unfold compG
    show Ok (EV.noExc (pure true) >>= _) s _
    rw [noExc_pure, pure_bind, if_pos rfl]
    refine Ok.bind ((he n List.mem_cons_self k s (by omega) h).noExc.imp fun d s1 ⟨h1, hd⟩ => ?_)
    refine Ok.bind ((ih h1 (by omega) (fun m hm => he m (List.mem_cons_of_mem _ hm))).imp fun r s2 ⟨h2, h3, h4⟩ => ?_)
    refine Ok.pure ⟨by rw [List.length_cons, Nat.succ_mul, show k + (ns.length * t + t) = k + t + ns.length * t by omega]; exact h2, by rw [List.length_cons, h3, List.length_cons], fun x m => ?_⟩
    rcases List.mem_cons.mp m with rfl | m
    · exact hd
    · exact h4 x m
theorem forL_goD {body : Unit → D → PM (Lp Unit)} {ds : List D} (h : ∀ d ∈ ds, body () d = pure (.go ())) : forL dec1 body ds () = pure (.go ()) := by
  induction ds with
  | nil => rfl
  | cons n ns ih =>
    show (body () n >>= _) = _
    rw [h n List.mem_cons_self, pure_bind]
    exact ih fun m hm => h m (List.mem_cons_of_mem _ hm)
def meets (xs ys : List Int) : Bool := xs.any fun x => decide (x ∈ ys)
theorem meets_iff {xs ys : List Int} : meets xs ys = true ↔ ∃ x ∈ xs, x ∈ ys := by
  unfold meets
  rw [List.any_eq_true]
  constructor
  · rintro ⟨x, h1, h2⟩
    exact ⟨x, h1, of_decide_eq_true h2⟩
  · rintro ⟨x, h1, h2⟩
    exact ⟨x, h1, decide_eq_true h2⟩
theorem blsAny (xs : List Bool) : anyF [.lst (xs.map D.bl)] = pure (.bl (xs.any id)) := by
  show (match blsOf (xs.map D.bl) with | some bs => pure (.bl (bs.any id)) | none => bad : PM D) = _
  rw [blsOf_map]
theorem do_meet (xs ys : List Int) (hx : xs.length ≤ lim) : f_do_meet (tI xs) (tI ys) = pure (.bl (meets xs ys)) := by
  simp only [f_do_meet, pure_bind, items_tup, id]
  rw [compIm (fun x => .bl (decide (x ∈ ys))) hx (fun _ => rfl) (fun x _ => inT x ys), show (xs.map fun x => D.bl (decide (x ∈ ys))) = (xs.map fun x => decide (x ∈ ys)).map D.bl by rw [List.map_map]; rfl]
  simp only [pure_bind, blsAny, List.any_map]
  rfl
section
variable {N : Nt}
/-- the components with a broken one in their reach -/
noncomputable def alarmsL (N : Nt) (B : List Int) : List Int := setOf N.length fun o => ∃ b ∈ B, Reach N o b
theorem alarmsL_len (h : Net N) (B : List Int) : (alarmsL N B).length ≤ 8 := Nat.le_trans (setOf_len _ _) h.hi
theorem alarm_iff (h : Net N) {B : List Int} {o : Int} (h0 : 0 ≤ o) (h1 : o < N.length) : meets (reachL N o) B = true ↔ ∃ b ∈ B, Reach N o b := by
  rw [meets_iff]
  constructor
  · rintro ⟨x, m, b⟩
    exact ⟨x, b, (mem_reachL h h0 h1).mp m⟩
  · rintro ⟨x, b, r⟩
    exact ⟨x, (mem_reachL h h0 h1).mpr r, b⟩
theorem alarm_filter (h : Net N) (B : List Int) : (iota N.length).filter (fun o => meets (reachL N o) B) = alarmsL N B :=
  filter_setOf fun x h0 h1 => alarm_iff h h0 h1
theorem alarms_of (h : Net N) (B : List Int) : f_alarms_of (dN N) (tI B) = pure (tI (alarmsL N B)) := by
  have hl := h.lim
  simp only [f_alarms_of, pure_bind, fn1_eq, fn2_eq, all_reaches h, run0_p, id, enum_lst, bind_assoc]
  rw [compPf (fun i => (D.int i, tI (reachL N i))) (fun i => meets (reachL N i) B) D.int (pairs_iota _ _) (by rw [pairs_len, List.length_map, len_iota]; exact hl)
      (fun i _ => by rw [do_meet _ _ (by have := reachL_len h i; show _ ≤ 1000000; omega), run0_p, pure_bind, asB_bl]) (fun _ _ _ => rfl),
    alarm_filter h, pure_bind, tupleL (by rw [List.length_map]; have := alarmsL_len h B; show _ ≤ 1000000; omega)]
  rfl
end
section
variable {N : Nt}
theorem have_ (xs ys : List Int) (hx : xs.length ≤ lim) : f_law_have (tI xs) (tI ys) = pure (lI (xs.filter fun x => decide (x ∈ ys))) := by
  simp only [f_law_have, pure_bind, items_tup, id]
  rw [filtI (fun x => decide (x ∈ ys)) hx (fun x _ => by rw [inT, pure_bind, asB_bl]), pure_bind]
  rfl
theorem filt_meets (xs ys : List Int) : (!(xs.filter fun x => decide (x ∈ ys)).isEmpty) = meets xs ys := by
  rw [Bool.eq_iff_iff, meets_iff]
  constructor
  · intro h
    cases e : xs.filter fun x => decide (x ∈ ys) with
    | nil => rw [e] at h; cases h
    | cons x r =>
      have : x ∈ xs.filter fun x => decide (x ∈ ys) := by rw [e]; exact List.mem_cons_self
      exact ⟨x, (List.mem_filter.mp this).1, of_decide_eq_true (List.mem_filter.mp this).2⟩
  · rintro ⟨x, h1, h2⟩
    have : x ∈ xs.filter fun x => decide (x ∈ ys) := List.mem_filter.mpr ⟨h1, decide_eq_true h2⟩
    cases e : xs.filter fun x => decide (x ∈ ys) with
    | nil => rw [e] at this; cases this
    | cons _ _ => rfl
theorem isE_map {α β : Type} (f : α → β) (xs : List α) : (xs.map f).isEmpty = xs.isEmpty := by
  cases xs <;> rfl
end
theorem Rising.sub {n : Nat} {l m : List Int} (h : Rising n l) (s : m.Sublist l) : Rising n m := ⟨fun x hx => h.1 x (s.subset hx), h.2.sublist s⟩
theorem set_drawn {n : Nat} (hn : n ≤ 8) {k : Nat} {s : List Int} (h : Pen k s) (hk : k + 9 ≤ 1000000) : Ok (f_law_set (.int n)) s fun d s' => Pen (k + 9) s' ∧ ∃ B, Rising n B ∧ d = tI B := by
  have hlim : n ≤ lim := by show _ ≤ 1000000; omega
  simp only [f_law_set, pure_bind, bind_assoc, fn1_eq, range1 hlim, id]
  refine Ok.bind ((draw (m := 4) h (by omega) (by decide) (by decide)).imp fun d s1 ⟨p1, x, e, _, _⟩ => ?_)
  subst e
  rw [add_int, pure_bind]
  refine Ok.bind ((Ok.draws (m := 5) (g := fun _ => true) p1 (by rw [len_iota]; omega) (fun x _ j s hj ps => ?_)).imp fun d s2 ⟨p2, ms, hs, e⟩ => ?_)
  · refine Ok.bind ((draw (m := 5) ps hj (by decide) (by decide)).imp fun d s' ⟨p', y, e, _, _⟩ => ?_)
    subst e
    rw [lt_int, pure_bind]
    exact Ok.pure p'
  · subst e
    rw [len_iota] at p2
    have r := (iota_rising n).sub hs
    have rl := r.len
    rw [tupleL (by rw [List.length_map]; show _ ≤ 1000000; omega)]
    exact Ok.pure ⟨p2.mono (by omega), ms, r, rfl⟩
end Lw
namespace Lw
open PySem EV
section
variable {N : Nt}
theorem alarming (h : Net N) {B : List Int} : f_law_alarming (dN N) (tI B) = pure (tI (alarmsL N B)) := by
  have hl := h.lim
  have eL : mkL [] = pure (.lst []) := rfl
  simp only [f_law_alarming, pure_bind, bind_assoc, len_tup, List.length_map, range1 hl, id, fn2_eq, eL]
  rw [filtI (fun o => meets (reachL N o) B) (by rw [len_iota]; exact hl) (fun o mo => by
      have mo := mem_iota.mp mo
      rw [lreach h mo.1 mo.2, run0_p, pure_bind, have_ _ _ (by have := reachL_len h o; show _ ≤ 1000000; omega), run0_p, pure_bind, ne_nil (shpLI _), pure_bind, asB_bl, isE_map, filt_meets]),
    alarm_filter h, pure_bind, tupleL (by rw [List.length_map]; have := alarmsL_len h B; show _ ≤ 1000000; omega)]
  rfl
end
end Lw
namespace Lw
open PySem EV
theorem forS_map {body : List D → D → PM (List D)} (f : Int → D) : ∀ {ns : List Int} {c : List D}, (∀ c n, n ∈ ns → c.length + 1 ≤ lim → body c (.int n) = pure (c ++ [f n])) → c.length + ns.length ≤ lim → forS dec1 body (ns.map D.int) c = pure (c ++ ns.map f)
  | [], c, _, _ => by
    rw [List.map_nil, List.map_nil, List.append_nil]
    rfl
  | n :: ns, c, h, hl => by
    rw [List.length_cons] at hl
    rw [List.map_cons]
    show (body c (.int n) >>= forS dec1 body (ns.map D.int)) = _
    rw [h c n List.mem_cons_self (by omega), pure_bind, forS_map f (fun c m hm => h c m (List.mem_cons_of_mem _ hm)) (by rw [List.length_append, List.length_singleton]; omega), List.map_cons, List.append_assoc]
    rfl
abbrev tS (ws : List Str) : D := .tup (ws.map .str)
def Words (ws : List Str) : Prop := ∀ w ∈ ws, w = "alarm" ∨ w = "quiet" ∨ w = "unseen"
theorem word_sm {w : Str} (h : w = "alarm" ∨ w = "quiet" ∨ w = "unseen") : Sm 0 6 (.str w) := by
  rcases h with rfl | rfl | rfl <;> exact .str (by decide +kernel) (by decide +kernel)
theorem words_sm {ws : List Str} (h : Words ws) (hl : ws.length ≤ 8) : Sm 1 56 (tS ws) := .tup (c := 6) (fun x m => by
  obtain ⟨w, hw, rfl⟩ := List.mem_map.mp m
  exact word_sm (h w hw)) (by rw [List.length_map]; omega)
section
variable {N : Nt}
open Classical in
/-- the word of o, the broken B, the watched W -/
noncomputable def wordOf (N : Nt) (B W : List Int) (o : Int) : Str := if o ∈ W then (if o ∈ alarmsL N B then "alarm" else "quiet") else "unseen"
noncomputable def seenL (N : Nt) (B W : List Int) : List Str := (iota N.length).map (wordOf N B W)
theorem seenL_len (N : Nt) (B W : List Int) : (seenL N B W).length = N.length := by
  unfold seenL
  rw [List.length_map, len_iota]
theorem seenL_words (N : Nt) (B W : List Int) : Words (seenL N B W) := fun w h => by
  unfold seenL at h
  obtain ⟨o, _, rfl⟩ := List.mem_map.mp h
  unfold wordOf
  split
  · split
    · exact .inl rfl
    · exact .inr (.inl rfl)
  · exact .inr (.inr rfl)
theorem word_step (N : Nt) (B W : List Int) (o : Int) : (inD (.int o) (tI (alarmsL N B)) >>= asB >>= fun b => (if b = true then pure (D.str "alarm") else pure (D.str "quiet")) >>= fun v => inD (.int o) (tI W) >>= asB >>= fun b => if b = true then pure v else pure (D.str "unseen")) = pure (D.str (wordOf N B W o)) := by
  rw [inT, inT, pure_bind, asB_bl, pure_bind]
  unfold wordOf
  by_cases h1 : o ∈ alarmsL N B <;> by_cases h2 : o ∈ W <;> simp [h1, h2, asB_bl]
end
end Lw
namespace Lw
open PySem EV
section
variable {N : Nt}
theorem lseen (h : Net N) (B W : List Int) : f_law_seen (dN N) (tI B) (tI W) = pure (tS (seenL N B W)) := by
  have hl := h.lim
  have h8 := h.hi
  have eo : okL [] = pure [] := rfl
  simp only [f_law_seen, pure_bind, bind_assoc, fn2_eq, alarming h, run0_p, eo, two2, kVO, len_tup, List.length_map, range1 hl, id]
  rw [forS_map (fun o => D.str (wordOf N B W o)) (fun c n _ hc => ?_) (by rw [len_iota, List.length_nil]; show _ ≤ 1000000; omega), pure_bind, List.nil_append, tupleL (by rw [List.length_map, len_iota]; exact hl)]
  · unfold seenL
    rw [tS, List.map_map]
    rfl
  · have z := congrArg (fun m => m >>= fun d => okLen (c ++ [d]) >>= fun _ => (pure (c ++ [d]) : PM (List D))) (word_step N B W n)
    simp only [bind_assoc, pure_bind] at z
    rw [z, okLen_ok (by rw [List.length_append, List.length_singleton]; exact hc)]
    rfl
end
end Lw
namespace Lw
open PySem EV
theorem eqStr (a b : Str) : eqD (.str a) (.str b) = pure (.bl (a == b)) := rfl
/-- where the word w stands -/
def withL (ws : List Str) (w : Str) : List Int := (iota ws.length).filter fun i => ix ws i == w
theorem mem_withL {ws : List Str} {w : Str} {i : Int} : i ∈ withL ws w ↔ (0 ≤ i ∧ i < ws.length) ∧ ix ws i = w := by
  unfold withL
  rw [List.mem_filter, mem_iota, beq_iff_eq]
theorem withL_rising (ws : List Str) (w : Str) : Rising ws.length (withL ws w) := ⟨fun x m => (mem_withL.mp m).1, (iota_asc _).filter _⟩
theorem with_word (ws : List Str) (w : Str) (h : ws.length ≤ lim) : f_with_word (tS ws) (.str w) = pure (tI (withL ws w)) := by
  simp only [f_with_word, pure_bind, bind_assoc, enum_tup, id]
  rw [compPf (fun i => (D.int i, D.str (ix ws i))) (fun i => ix ws i == w) D.int (pairs_ix ws D.str) (by rw [pairs_len, List.length_map]; exact h) (fun i _ => by rw [eqStr, pure_bind, asB_bl]) (fun _ _ _ => rfl), pure_bind,
    tupleL (by rw [List.length_map]; exact Nat.le_trans (List.length_filter_le _ _) (by rw [len_iota]; exact h))]
  rfl
/-- a report of the net -/
structure Rep (N : Nt) (ws : List Str) : Prop where
  len : ws.length = N.length
  ws : Words ws
section
variable {N : Nt} {ws : List Str}
theorem Rep.sm (r : Rep N ws) (h : Net N) : Sm 1 56 (tS ws) := words_sm r.ws (by rw [r.len]; exact h.hi)
theorem Rep.lim (r : Rep N ws) (h : Net N) : ws.length ≤ EV.lim := by
  rw [r.len]
  exact h.lim
/-- the components in the reach of no quiet one -/
noncomputable def candL (N : Nt) (ws : List Str) : List Int := setOf N.length fun o => ¬ ∃ q ∈ withL ws "quiet", Reach N q o
theorem candL_len (h : Net N) (ws : List Str) : (candL N ws).length ≤ 8 := Nat.le_trans (setOf_len _ _) h.hi
theorem candL_rising (N : Nt) (ws : List Str) : Rising N.length (candL N ws) := ⟨fun x m => (mem_setOf.mp m).1, setOf_asc _ _⟩
theorem quiet_reach (h : Net N) (r : Rep N ws) {o : Int} : (withL ws "quiet").any (fun q => decide (o ∈ reachL N q)) = true ↔ ∃ q ∈ withL ws "quiet", Reach N q o := by
  rw [List.any_eq_true]
  constructor
  · rintro ⟨q, m, e⟩
    have z := (mem_withL.mp m).1
    exact ⟨q, m, (mem_reachL h z.1 (by rw [← r.len]; exact z.2)).mp (of_decide_eq_true e)⟩
  · rintro ⟨q, m, e⟩
    have z := (mem_withL.mp m).1
    exact ⟨q, m, decide_eq_true ((mem_reachL h z.1 (by rw [← r.len]; exact z.2)).mpr e)⟩
theorem cand_filter (h : Net N) (r : Rep N ws) : (iota N.length).filter (fun o => !(withL ws "quiet").any fun q => decide (o ∈ reachL N q)) = candL N ws :=
  filter_setOf fun x h0 h1 => by
    rw [Bool.not_eq_true', ← Bool.not_eq_true, quiet_reach h r]
theorem candidates_of (h : Net N) (r : Rep N ws) : f_candidates_of (dN N) (tS ws) = pure (tI (candL N ws)) := by
  have hl := h.lim
  have wl := (withL_rising ws "quiet").len
  have rl := r.lim h
  simp only [f_candidates_of, pure_bind, bind_assoc, fn1_eq, fn2_eq, all_reaches h, with_word ws _ rl, run0_p, id, len_tup, List.length_map, range1 hl, items_tup]
  rw [filtI (fun o => !(withL ws "quiet").any fun q => decide (o ∈ reachL N q)) (by rw [len_iota]; exact hl) (fun o _ => ?_), cand_filter h r, pure_bind, tupleL (by rw [List.length_map]; have := candL_len h ws; show _ ≤ 1000000; omega)]
  · rfl
  · rw [compIm (fun q => .bl (decide (o ∈ reachL N q))) (Nat.le_trans wl rl) (fun _ => rfl) (fun q mq => ?_), pure_bind, show ((withL ws "quiet").map fun q => D.bl (decide (o ∈ reachL N q))) = ((withL ws "quiet").map fun q => decide (o ∈ reachL N q)).map D.bl by rw [List.map_map]; rfl, blsAny, pure_bind, asB_bl, pure_bind, List.any_map]
    · rfl
    · have z := (mem_withL.mp mq).1
      have z2 : q < N.length := by rw [← r.len]; exact z.2
      rw [getL (f := fun c => tI (reachL N c)) z.1 (by rw [len_iota]; exact z2), pure_bind, ix_iota z.1 z2, inT]
theorem is_word {w : Str} (h : w = "alarm" ∨ w = "quiet" ∨ w = "unseen") : f_is_word (.str w) = pure (.bl true) := by
  have e : ∀ w : Str, isF "str" (.str w) = pure (.bl true) := fun _ => rfl
  have s : shp d_WORDS = true := by decide +kernel
  have s1 : ∀ w : Str, (w = "alarm" ∨ w = "quiet" ∨ w = "unseen") → inD (.str w) d_WORDS = pure (.bl true) := fun w h => by
    show (if shp (.str w) = true ∧ shp d_WORDS = true then pure (.bl ((["alarm", "quiet", "unseen"] : List Str).map D.str |>.any fun z => eqvD z (.str w))) else bad : PM D) = _
    rcases h with rfl | rfl | rfl
    · rw [if_pos ⟨by decide +kernel, s⟩, show ((["alarm", "quiet", "unseen"] : List Str).map D.str |>.any fun z => eqvD z (.str "alarm")) = true by decide +kernel]
    · rw [if_pos ⟨by decide +kernel, s⟩, show ((["alarm", "quiet", "unseen"] : List Str).map D.str |>.any fun z => eqvD z (.str "quiet")) = true by decide +kernel]
    · rw [if_pos ⟨by decide +kernel, s⟩, show ((["alarm", "quiet", "unseen"] : List Str).map D.str |>.any fun z => eqvD z (.str "unseen")) = true by decide +kernel]
  simp only [f_is_word, pure_bind, e, asB_bl, if_true, s1 w h, id]
theorem comp_words {e : D → PM D} (hl : ws.length ≤ lim) (he : ∀ w ∈ ws, e (.str w) = pure (.bl true)) : compL dec1 (fun _ => pure true) e (ws.map D.str) = pure ((ws.map fun _ => true).map D.bl) := by
  rw [compPm (zs := ws) (g := D.str) (f := fun _ => D.bl true) (by rw [List.map_map]; rfl) (by rw [List.length_map]; exact hl) (fun _ => rfl) he, List.map_map]
  rfl
theorem is_report (h : Net N) (r : Rep N ws) : f_is_report (dN N) (tS ws) = pure (.bl true) := by
  have e : ∀ w : Str, isF "str" (.str w) = pure (.bl true) := fun _ => rfl
  simp only [f_is_report, pure_bind, bind_assoc, isF_tup, asB_bl, if_true, len_tup, List.length_map, eqInt, r.len, decide_true, items_tup, fn1_eq, id]
  rw [comp_words (r.lim h) (fun w m => by rw [is_word (r.ws w m)]; rfl), pure_bind, blsF, pure_bind, List.all_map]
  congr 2
  exact List.all_eq_true.mpr fun _ _ => rfl
theorem need_report (h : Net N) (r : Rep N ws) : f_need_report (dN N) (tS ws) = pure .non := by
  simp only [f_need_report, g_need_report, pure_bind, bind_assoc, fn1_eq, fn2_eq, need_net h, is_report h r, run0_p, asB_bl, Bool.not_true]
  rfl
end
end Lw
namespace Lw
open PySem EV
theorem pickS {k : Nat} {s : List Int} {l : List Str} (h : Pen k s) (hk : k ≤ 1000000) (m1 : 1 ≤ l.length) (m2 : l.length ≤ 1000000) : Ok (f_law_pick (.lst (l.map .str))) s fun d s' => Pen (k + 1) s' ∧ ∃ x : Str, d = .str x ∧ x ∈ l := by
  simp only [f_law_pick, bind_assoc, pure_bind, len_lst, List.length_map, fn1_eq]
  refine Ok.bind ((draw h hk m1 m2).imp fun d s1 ⟨p, x, e, h1, h2⟩ => ?_)
  subst e
  rw [getL h1 h2]
  exact Ok.pure ⟨p, _, rfl, ix_mem h1 h2⟩
theorem cut_take {α : Type} (xs : List D) (k : Nat) (h : k ≤ xs.length) : cutD xs none (some k) = xs.take k := by
  unfold EV.cutD
  rw [HT.sIx_none, HT.sIx_nat, List.drop_zero, Nat.min_eq_left h, Nat.sub_zero]
theorem cut_drop {α : Type} (xs : List D) (k : Nat) (h : k ≤ xs.length) : cutD xs (some k) none = xs.drop k := by
  unfold EV.cutD
  rw [HT.sIx_none, HT.sIx_nat, Nat.min_eq_left h, List.take_of_length_le (by rw [List.length_drop]; omega)]
theorem strs_of {n : Nat} : ∀ {r : List D}, (∀ d ∈ r, ∃ w : Str, d = .str w ∧ (w = "alarm" ∨ w = "quiet" ∨ w = "unseen")) → ∃ ws : List Str, r = ws.map .str ∧ Words ws
  | [], _ => ⟨[], rfl, fun _ m => by cases m⟩
  | d :: r, h => by
    obtain ⟨w, rfl, hw⟩ := h d List.mem_cons_self
    obtain ⟨ws, rfl, hs⟩ := strs_of (n := n) (r := r) fun x m => h x (List.mem_cons_of_mem _ m)
    refine ⟨w :: ws, rfl, fun x m => ?_⟩
    rcases List.mem_cons.mp m with rfl | m
    · exact hw
    · exact hs x m
theorem report {N : Nt} (hN : Net N) {k : Nat} {s : List Int} (h : Pen k s) (hk : k ≤ 900000) : Ok (f_law_report (dN N)) s fun d s' => Pen (k + 30) s' ∧ ∃ ws, Rep N ws ∧ d = tS ws := by
  have hl := hN.lim
  have h8 := hN.hi
  have h1 := hN.lo
  have e4 : mkL [D.str "alarm", D.str "quiet", D.str "unseen", D.str "unseen"] = pure (.lst ((["alarm", "quiet", "unseen", "unseen"] : List Str).map .str)) := rfl
  have e2 : mkL [D.str "alarm", D.str "quiet"] = pure (.lst ((["alarm", "quiet"] : List Str).map .str)) := rfl
  simp only [f_law_report, bind_assoc, pure_bind, fn1_eq, fn3_eq, len_tup, List.length_map, two, id]
  refine Ok.bind ((draw (m := 4) h (by omega) (by decide) (by decide)).imp fun d s1 ⟨p1, way, e, _, _⟩ => ?_)
  subst e
  refine Ok.bind ((set_drawn h8 p1 (by omega)).imp fun d s2 ⟨p2, B, hB, e⟩ => ?_)
  subst e
  refine Ok.bind ((set_drawn h8 p2 (by omega)).imp fun d s3 ⟨p3, W, hW, e⟩ => ?_)
  subst e
  simp only [lseen hN, run0_p, pure_bind, eqInt, asB_bl]
  refine Ok.bind (Ok.imp (Q := fun d s' => Pen (k + 28) s' ∧ ∃ ws, Rep N ws ∧ d = tS ws) ?_ fun d s4 ⟨p4, ws, r, e⟩ => ?_)
  · by_cases w : way = 0
    · rw [decide_eq_true w, if_pos rfl, range1 hl, pure_bind]
      simp only [e4, pure_bind]
      refine Ok.bind ((Ok.compE (t := 1) (P := fun d => ∃ w : Str, d = .str w ∧ (w = "alarm" ∨ w = "quiet" ∨ w = "unseen")) (by rw [len_iota]; exact hl) p3 (by rw [len_iota]; omega) (fun _ _ j s hj ps => ?_)).imp fun r s5 ⟨p5, hr, hp⟩ => ?_)
      · refine (pickS ps (by omega) (by decide) (by decide)).imp fun d s' ⟨p', x, e, hx⟩ => ⟨p', x, e, ?_⟩
        simp only [List.mem_cons, List.not_mem_nil, or_false] at hx
        rcases hx with rfl | rfl | rfl | rfl
        · exact .inl rfl
        · exact .inr (.inl rfl)
        · exact .inr (.inr rfl)
        · exact .inr (.inr rfl)
      · rw [len_iota] at p5 hr
        obtain ⟨ws, rfl, hs⟩ := strs_of (n := 0) hp
        rw [List.length_map] at hr
        rw [tupleL (by rw [List.length_map, hr]; exact hl)]
        exact Ok.pure ⟨p5.mono (by omega), ws, ⟨hr, hs⟩, rfl⟩
    · rw [decide_eq_false w, if_neg (by decide)]
      exact Ok.pure ⟨p3.mono (by omega), _, ⟨seenL_len _ _ _, seenL_words _ _ _⟩, rfl⟩
  · subst e
    by_cases w : way = 1
    · rw [decide_eq_true w, if_pos rfl]
      simp only [e2, pure_bind, bind_assoc]
      refine Ok.bind ((draw (m := N.length) p4 (by omega) h1 (by omega)).imp fun d s5 ⟨p5, a, e, a0, a1⟩ => ?_)
      subst e
      obtain ⟨a, rfl⟩ : ∃ b : Nat, a = b := ⟨a.toNat, by omega⟩
      have rl := r.len
      have e5 : sliceD (tS ws) none (some (a : Int)) = pure (tS (ws.take a)) := by
        show mkT (cutD (ws.map D.str) none (some (a : Int))) = _
        rw [cut_take (α := Nat) _ a (by rw [List.length_map, rl]; omega), ← List.map_take]
        exact mkT_ok (by rw [List.length_map, List.length_take]; show _ ≤ 1000000; omega)
      have e6 : sliceD (tS ws) (some ((a : Int) + 1)) none = pure (tS (ws.drop (a + 1))) := by
        show mkT (cutD (ws.map D.str) (some ((a : Int) + 1)) none) = _
        rw [show ((a : Int) + 1) = ((a + 1 : Nat) : Int) by omega, cut_drop (α := Nat) _ (a + 1) (by rw [List.length_map, rl]; omega), ← List.map_drop]
        exact mkT_ok (by rw [List.length_map, List.length_drop]; show _ ≤ 1000000; omega)
      have eI : ∀ i : Int, asI (.int i) = pure (some i) := fun _ => rfl
      simp only [eI, pure_bind, e5]
      refine Ok.bind ((pickS p5 (by omega) (by decide) (by decide)).imp fun d s6 ⟨p6, x, e, hx⟩ => ?_)
      subst e
      have ea : addD (tS (ws.take a)) (.tup [.str x]) = pure (tS (ws.take a ++ [x])) := by
        show mkT (_ ++ _) = _
        rw [show (ws.take a).map D.str ++ [D.str x] = (ws.take a ++ [x]).map D.str by rw [List.map_append]; rfl]
        exact mkT_ok (by rw [List.length_map, List.length_append, List.length_take, List.length_singleton]; show _ ≤ 1000000; omega)
      have eb : addD (tS (ws.take a ++ [x])) (tS (ws.drop (a + 1))) = pure (tS (ws.take a ++ [x] ++ ws.drop (a + 1))) := by
        show mkT (_ ++ _) = _
        rw [← List.map_append]
        exact mkT_ok (by simp only [List.length_map, List.length_append, List.length_take, List.length_singleton, List.length_drop]; show _ ≤ 1000000; omega)
      simp only [mkT1, pure_bind, ea, add_int, eI, e6, eb]
      refine Ok.pure ⟨p6.mono (by omega), _, ⟨by simp only [List.length_append, List.length_take, List.length_singleton, List.length_drop]; omega, fun y m => ?_⟩, rfl⟩
      rcases List.mem_append.mp m with m | m
      · rcases List.mem_append.mp m with m | m
        · exact r.ws y (List.mem_of_mem_take m)
        · rw [List.mem_singleton.mp m]
          simp only [List.mem_cons, List.not_mem_nil, or_false] at hx
          rcases hx with rfl | rfl
          · exact .inl rfl
          · exact .inr (.inl rfl)
      · exact r.ws y (List.mem_of_mem_drop m)
    · rw [decide_eq_false w, if_neg (by decide)]
      exact Ok.pure ⟨p4.mono (by omega), ws, r, rfl⟩
end Lw
namespace Lw
open PySem EV
def leI (a b : List Int) : Bool := decide (a ≤ b)
theorem leI_tr (a b c : List Int) (h : leI a b = true) (h2 : leI b c = true) : leI a c = true := decide_eq_true (List.le_trans (of_decide_eq_true h) (of_decide_eq_true h2))
theorem leI_tot (a b : List Int) : (leI a b || leI b a) = true := by
  rw [Bool.or_eq_true]
  rcases List.le_total a b with h | h
  · exact .inl (decide_eq_true h)
  · exact .inr (decide_eq_true h)
theorem leI_anti {a b : List Int} (h : leI a b = true) (h2 : leI b a = true) : a = b := List.le_antisymm (of_decide_eq_true h) (of_decide_eq_true h2)
theorem toPy_tI (a : List Int) : toPy (tI a) = .tuple (a.map PyData.int) := by
  show PyData.tuple (toPyL (a.map D.int)) = _
  rw [toPyL_map, List.map_map]
  rfl
theorem leD2_rows (a b : List Int) : leD2 (tI a) (tI b) = leI a b := by
  unfold leD2 leI
  rw [toPy_tI, toPy_tI, PySem.W.dataLt_tuple, show PyProof.Rows.lexLt PyProof.Rows.itemOrd (PySem.W.keyToksAll (b.map PyData.int)) (PySem.W.keyToksAll (a.map PyData.int)) = PySem.W.rowLt (b.map .int) (a.map .int) from rfl, PySem.W.dataLt_ints]
  by_cases h : b < a
  · rw [decide_eq_true h, decide_eq_false (fun z => (List.not_lt.mpr z) h)]
    rfl
  · rw [decide_eq_false h, decide_eq_true (List.not_lt.mp h)]
    rfl
theorem sortP_rows {L : List (List Int)} (h : (∃ r, L = [] :: r) ∨ ∀ r ∈ L, r ≠ []) : sortP (L.map tI) = true := by
  unfold sortP
  have e1 : ((L.map tI).all fun a => (L.map tI).all fun b => PySem.W.alike (toPy a) (toPy b)) = true := by
    refine List.all_eq_true.mpr fun x hx => List.all_eq_true.mpr fun y hy => ?_
    obtain ⟨a, _, rfl⟩ := List.mem_map.mp hx
    obtain ⟨b, _, rfl⟩ := List.mem_map.mp hy
    rw [toPy_tI, toPy_tI]
    simp only [PySem.W.alike]
    exact PySem.W.alike_ints a b
  have e2 : ((L.map tI).all fun a => decide ((toPy a).depth ≤ 60)) = true := by
    refine List.all_eq_true.mpr fun x hx => ?_
    obtain ⟨a, _, rfl⟩ := List.mem_map.mp hx
    rw [toPy_tI]
    simp only [PyData.depth, PySem.W.depth_ints, decide_eq_true_eq]
    omega
  rw [e1, e2]
  rcases h with ⟨r, rfl⟩ | h
  · have e3 : ((([] : List Int) :: r).map tI).all (fun a => isTup (toPy a)) = true := by
      refine List.all_eq_true.mpr fun x hx => ?_
      obtain ⟨a, _, rfl⟩ := List.mem_map.mp hx
      rw [toPy_tI]
      rfl
    have e4 : tup0 (((([] : List Int) :: r).map tI).map toPy) = true := by
      rw [List.map_cons, List.map_cons, toPy_tI]
      rfl
    rw [e3, e4]
    simp
  · have e3 : (L.map tI).all (fun a => neTup (toPy a)) = true := by
      refine List.all_eq_true.mpr fun x hx => ?_
      obtain ⟨a, ha, rfl⟩ := List.mem_map.mp hx
      rw [toPy_tI]
      cases a with
      | nil => exact absurd rfl (h [] ha)
      | cons y r => rfl
    rw [e3]
    simp
theorem map_sort (L : List (List Int)) : (L.map tI).mergeSort leD2 = (L.mergeSort leI).map tI := (List.map_mergeSort fun a _ b _ => (leD2_rows a b).symm).symm
theorem sort_rows {L : List (List Int)} (h : (∃ r, L = [] :: r) ∨ ∀ r ∈ L, r ≠ []) (hl : L.length ≤ lim) : sortedG [.lst (L.map tI)] = pure (.lst ((L.mergeSort leI).map tI)) := by
  cases L with
  | nil =>
    rw [List.mergeSort_nil]
    rfl
  | cons x r =>
    have e : intsQ [.lst ((x :: r).map tI)] = false := rfl
    unfold sortedG
    rw [e, if_neg (by decide)]
    show (if sortP ((x :: r).map tI) = true then mkL (((x :: r).map tI).mergeSort leD2) else bad : PM D) = _
    rw [if_pos (sortP_rows h), map_sort]
    exact mkL_ok (by rw [List.length_map, List.length_mergeSort]; exact hl)
structure IsSubs (k : Nat) (L : List (List Int)) : Prop where
  mem : ∀ B, B ∈ L ↔ Rising k B
  nd : L.Nodup
  hd : ∃ r, L = [] :: r
  len : L.length = 2 ^ k
theorem rising_zero (B : List Int) : Rising 0 B ↔ B = [] := by
  constructor
  · intro h
    cases B with
    | nil => rfl
    | cons x r =>
      have := h.1 x List.mem_cons_self
      omega
  · rintro rfl
    exact ⟨by simp, .nil⟩
theorem rising_succ (k : Nat) (B : List Int) : Rising (k + 1) B ↔ Rising k B ∨ ∃ r, B = r ++ [(k : Int)] ∧ Rising k r := by
  constructor
  · intro h
    by_cases hk : (k : Int) ∈ B
    · obtain ⟨s, t, rfl⟩ := List.append_of_mem hk
      have q := List.pairwise_append.mp h.2
      have q2 := List.pairwise_cons.mp q.2.1
      have ht : t = [] := by
        cases t with
        | nil => rfl
        | cons y t =>
          have h1 := q2.1 y List.mem_cons_self
          have h2 := h.1 y (by simp)
          omega
      subst ht
      refine .inr ⟨s, rfl, fun x m => ?_, q.1⟩
      have h1 := q.2.2 x m (k : Int) (by simp)
      have h2 := h.1 x (by simp [m])
      omega
    · refine .inl ⟨fun x m => ?_, h.2⟩
      have h1 := h.1 x m
      have h2 : x ≠ k := fun e => hk (e ▸ m)
      omega
  · rintro (h | ⟨r, rfl, h⟩)
    · exact ⟨fun x m => by have := h.1 x m; omega, h.2⟩
    · refine ⟨fun x m => ?_, List.pairwise_append.mpr ⟨h.2, by simp, fun a ha b hb => ?_⟩⟩
      · rcases List.mem_append.mp m with m | m
        · have := h.1 x m
          omega
        · rw [List.mem_singleton.mp m]
          omega
      · rw [List.mem_singleton.mp hb]
        have := h.1 a ha
        omega
theorem subs_zero : IsSubs 0 [[]] := ⟨fun B => by rw [rising_zero, List.mem_singleton], by simp, ⟨[], rfl⟩, rfl⟩
theorem not_self {k : Nat} {L : List (List Int)} (h : IsSubs k L) {r : List Int} : r ++ [(k : Int)] ∉ L := fun m => by
  have := ((h.mem _).mp m).1 k (by simp)
  omega
/-- all rows, then all rows with k -/
theorem subs_app {k : Nat} {L : List (List Int)} (h : IsSubs k L) : IsSubs (k + 1) (L ++ L.map fun r => r ++ [(k : Int)]) := by
  refine ⟨fun B => ?_, ?_, ?_, ?_⟩
  · rw [List.mem_append, rising_succ, h.mem, List.mem_map]
    constructor
    · rintro (hB | ⟨r, hr, rfl⟩)
      · exact .inl hB
      · exact .inr ⟨r, rfl, (h.mem _).mp hr⟩
    · rintro (hB | ⟨r, rfl, hr⟩)
      · exact .inl hB
      · exact .inr ⟨r, (h.mem _).mpr hr, rfl⟩
  · refine List.nodup_append.mpr ⟨h.nd, ?_, fun a ha b hb e => ?_⟩
    · exact List.pairwise_map.mpr (h.nd.imp fun hne e => hne (List.append_cancel_right e))
    · subst e
      obtain ⟨r, _, e⟩ := List.mem_map.mp hb
      exact not_self h (e ▸ ha)
  · obtain ⟨r, rfl⟩ := h.hd
    exact ⟨_, rfl⟩
  · rw [List.length_append, List.length_map, h.len, Nat.pow_succ]
    omega
def genS : Nat → List (List Int)
  | 0 => [[]]
  | k + 1 => genS k ++ (genS k).map fun r => r ++ [(k : Int)]
theorem genS_is : ∀ k, IsSubs k (genS k)
  | 0 => subs_zero
  | k + 1 => subs_app (genS_is k)
/-- all sets of components, ascending -/
def subs (n : Nat) : List (List Int) := (genS n).mergeSort leI
theorem mem_subs {n : Nat} {B : List Int} : B ∈ subs n ↔ Rising n B := by
  unfold subs
  rw [(List.mergeSort_perm _ _).mem_iff, (genS_is n).mem]
theorem subs_len (n : Nat) : (subs n).length = 2 ^ n := by
  unfold subs
  rw [List.length_mergeSort, (genS_is n).len]
theorem subs_sorted (n : Nat) : (subs n).Pairwise fun a b => leI a b = true := List.pairwise_mergeSort leI_tr leI_tot _
theorem subs_nodup (n : Nat) : (subs n).Nodup := (List.mergeSort_perm _ _).nodup_iff.mpr (genS_is n).nd
theorem pow8 {n : Nat} (h : n ≤ 8) : 2 ^ n ≤ 256 := Nat.pow_le_pow_right (by decide) h
end Lw
namespace Lw
open PySem EV
theorem neStr2 (a b : Str) : neD (.str a) (.str b) = pure (.bl (!(a == b))) := rfl
section
variable {N : Nt} {ws : List Str}
/-- with B broken the watched ones do what the report says -/
noncomputable def fitB (N : Nt) (ws : List Str) (B : List Int) : Bool := (iota ws.length).all fun i => (ix ws i == "unseen") || ((ix ws i == "alarm") == meets (reachL N i) B)
noncomputable def everyL (N : Nt) (ws : List Str) : List (List Int) := (subs N.length).filter (fitB N ws)
theorem everyL_len (h : Net N) (ws : List Str) : (everyL N ws).length ≤ 256 := Nat.le_trans (List.length_filter_le _ _) (by rw [subs_len]; exact pow8 h.hi)
theorem mem_every {B : List Int} : B ∈ everyL N ws ↔ Rising N.length B ∧ fitB N ws B = true := by
  unfold everyL
  rw [List.mem_filter, mem_subs]
theorem fit_alarm {B : List Int} (f : fitB N ws B = true) {i : Int} (m : i ∈ withL ws "alarm") : meets (reachL N i) B = true := by
  obtain ⟨h1, h2⟩ := mem_withL.mp m
  have z := List.all_eq_true.mp f i (mem_iota.mpr h1)
  rw [h2, show (("alarm" : Str) == "unseen") = false by decide +kernel, show (("alarm" : Str) == "alarm") = true by decide +kernel, Bool.false_or, beq_iff_eq] at z
  exact z.symm
theorem fit_quiet {B : List Int} (f : fitB N ws B = true) {i : Int} (m : i ∈ withL ws "quiet") : meets (reachL N i) B = false := by
  obtain ⟨h1, h2⟩ := mem_withL.mp m
  have z := List.all_eq_true.mp f i (mem_iota.mpr h1)
  rw [h2, show (("quiet" : Str) == "unseen") = false by decide +kernel, show (("quiet" : Str) == "alarm") = false by decide +kernel, Bool.false_or, beq_iff_eq] at z
  exact z.symm
theorem fit_of (r : Rep N ws) {B : List Int} (ha : ∀ i ∈ withL ws "alarm", meets (reachL N i) B = true) (hq : ∀ i ∈ withL ws "quiet", meets (reachL N i) B = false) : fitB N ws B = true := by
  refine List.all_eq_true.mpr fun i mi => ?_
  have hi := mem_iota.mp mi
  rcases r.ws (ix ws i) (ix_mem hi.1 hi.2) with e | e | e
  · rw [ha i (mem_withL.mpr ⟨hi, e⟩), e]
    rfl
  · rw [hq i (mem_withL.mpr ⟨hi, e⟩), e]
    rfl
  · rw [e]
    rfl
theorem fit_sub (h : Net N) (r : Rep N ws) {B : List Int} (hB : Rising N.length B) (f : fitB N ws B = true) : ∀ b ∈ B, b ∈ candL N ws := fun b mb => by
  refine mem_setOf.mpr ⟨hB.1 b mb, fun ⟨q, mq, rq⟩ => ?_⟩
  have z := fit_quiet f mq
  have hq := (mem_withL.mp mq).1
  rw [(alarm_iff h hq.1 (by rw [← r.len]; exact hq.2)).mpr ⟨b, mb, rq⟩] at z
  cases z
theorem cand_quiet (h : Net N) (r : Rep N ws) {i : Int} (m : i ∈ withL ws "quiet") : meets (reachL N i) (candL N ws) = false := by
  have hq := (mem_withL.mp m).1
  have hq2 : i < N.length := by rw [← r.len]; exact hq.2
  cases e : meets (reachL N i) (candL N ws) with
  | false => rfl
  | true =>
    obtain ⟨c, mc, rc⟩ := (alarm_iff h hq.1 hq2).mp e
    exact absurd ⟨i, m, rc⟩ (mem_setOf.mp mc).2
end
end Lw
namespace Lw
open PySem EV
section
variable {N : Nt} {ws : List Str}
/-- the candidates in the reach of a -/
noncomputable def needL (N : Nt) (ws : List Str) (a : Int) : List Int := (reachL N a).filter fun x => decide (x ∈ candL N ws)
theorem needL_len (h : Net N) (ws : List Str) (a : Int) : (needL N ws a).length ≤ 8 := Nat.le_trans (List.length_filter_le _ _) (reachL_len h a)
theorem withL_in (r : Rep N ws) {w : Str} {i : Int} (m : i ∈ withL ws w) : 0 ≤ i ∧ i < N.length := by
  have z := (mem_withL.mp m).1
  exact ⟨z.1, by rw [← r.len]; exact z.2⟩
theorem withL_len8 (h : Net N) (r : Rep N ws) (w : Str) : (withL ws w).length ≤ 8 := by
  have z := (withL_rising ws w).len
  have := r.len
  have := h.hi
  omega
theorem needed_of (h : Net N) (r : Rep N ws) : f_needed_of (dN N) (tS ws) = pure (.lst (((withL ws "alarm").map (needL N ws)).map tI)) := by
  have rl := r.lim h
  have w8 := withL_len8 h r "alarm"
  have eo : okL [] = pure [] := rfl
  simp only [f_needed_of, pure_bind, bind_assoc, fn2_eq, candidates_of h r, with_word ws _ rl, run0_p, items_tup, eo, id]
  rw [forS_map (fun a => tI (needL N ws a)) (fun c a ma hc => ?_) (by rw [List.length_nil]; show _ ≤ 1000000; omega), pure_bind, List.nil_append, List.map_map]
  · rfl
  · have z := withL_in r ma
    rw [reach_ok h z.1 z.2, run0_p, pure_bind, items_tup, pure_bind, filtI (fun x => decide (x ∈ candL N ws)) (by have := reachL_len h a; show _ ≤ 1000000; omega) (fun x _ => by rw [inT, pure_bind, asB_bl]), pure_bind,
      tupleL (by rw [List.length_map]; have := needL_len h ws a; show (needL N ws a).length ≤ 1000000; omega), pure_bind, okLen_ok (by rw [List.length_append, List.length_singleton]; exact hc)]
    rfl
/-- rows of ints, small: how they compare -/
theorem rows_shp {L : List (List Int)} : shp (.lst (L.map tI)) = true := by
  unfold EV.shp SeqAt.shaped
  have e1 : PyData.canLayAll0 (toPyL (L.map tI)) = true := all_lay fun x m => by
    obtain ⟨a, _, rfl⟩ := List.mem_map.mp m
    have z := allI_lay a
    simp only [toPy, PyData.canLay0]
    exact z
  have e2 : PyData.depthAll (toPyL (L.map tI)) ≤ 1 := all_deep fun x m => by
    obtain ⟨a, _, rfl⟩ := List.mem_map.mp m
    have z := allI_deep a
    simp only [toPy, PyData.depth]
    omega
  simp only [toPy, PyData.canLay0, PyData.depth, e1, Bool.true_and, decide_eq_true_eq]
  omega
theorem eqv_rows : ∀ a b : List Int, eqvD (tI a) (tI b) = (a == b)
  | [], [] => rfl
  | [], _ :: _ => rfl
  | _ :: _, [] => rfl
  | x :: a, y :: b => by
    show (x == y && eqvD (tI a) (tI b)) = (x == y && a == b)
    rw [eqv_rows a b]
theorem any_rows (L : List (List Int)) (b : List Int) : ((L.map tI).any fun z => eqvD z (tI b)) = decide (b ∈ L) := by
  rw [Bool.eq_iff_iff, List.any_eq_true, decide_eq_true_eq]
  constructor
  · rintro ⟨z, hz, e⟩
    obtain ⟨a, ha, rfl⟩ := List.mem_map.mp hz
    rw [eqv_rows, beq_iff_eq] at e
    exact e ▸ ha
  · intro h
    exact ⟨tI b, List.mem_map.mpr ⟨b, h, rfl⟩, by rw [eqv_rows, beq_iff_eq]⟩
theorem ninRows (b : List Int) (L : List (List Int)) : notInD (tI b) (.lst (L.map tI)) = pure (.bl (!decide (b ∈ L))) := by
  show (if shp (tI b) = true ∧ shp (.lst (L.map tI)) = true then pure (.bl (!(L.map tI).any fun z => eqvD z (tI b))) else bad : PM D) = _
  rw [if_pos ⟨shpTI b, rows_shp⟩, any_rows]
theorem need_empty (N : Nt) (ws : List Str) (a : Int) : needL N ws a = [] ↔ meets (reachL N a) (candL N ws) = false := by
  unfold needL
  rw [List.filter_eq_nil_iff, ← Bool.not_eq_true, meets_iff]
  constructor
  · rintro h ⟨x, h1, h2⟩
    exact h x h1 (decide_eq_true h2)
  · intro h x h1 h2
    exact h ⟨x, h1, of_decide_eq_true h2⟩
theorem is_explained (h : Net N) (r : Rep N ws) : f_is_explained (dN N) (tS ws) = pure (.bl ((withL ws "alarm").all fun a => meets (reachL N a) (candL N ws))) := by
  have e1 : mkT [] = pure (tI []) := rfl
  simp only [f_is_explained, pure_bind, fn2_eq, needed_of h r, run0_p, e1, ninRows, id]
  congr 2
  rw [Bool.eq_iff_iff, Bool.not_eq_true', decide_eq_false_iff_not, List.all_eq_true]
  constructor
  · intro z a ma
    cases e : meets (reachL N a) (candL N ws) with
    | true => rfl
    | false => exact absurd (List.mem_map.mpr ⟨a, ma, (need_empty N ws a).mpr e⟩) z
  · intro z m
    obtain ⟨a, ma, e⟩ := List.mem_map.mp m
    have q := z a ma
    rw [(need_empty N ws a).mp e] at q
    cases q
/-- the quiet ones that reach c -/
noncomputable def rulersL (N : Nt) (ws : List Str) (c : Int) : List Int := (withL ws "quiet").filter fun q => decide (c ∈ reachL N q)
theorem rulers_of (h : Net N) (r : Rep N ws) (c : Int) : f_rulers_of (dN N) (tS ws) (.int c) = pure (lI (rulersL N ws c)) := by
  have rl := r.lim h
  have w8 := withL_len8 h r "quiet"
  simp only [f_rulers_of, pure_bind, bind_assoc, fn2_eq, with_word ws _ rl, run0_p, items_tup, id]
  rw [filtI (fun q => decide (c ∈ reachL N q)) (by show _ ≤ 1000000; omega) (fun q mq => by
    have z := withL_in r mq
    rw [reach_ok h z.1 z.2, run0_p, pure_bind, inT, pure_bind, asB_bl]), pure_bind]
  rfl
theorem rulers_ne (h : Net N) (r : Rep N ws) {c : Int} (h0 : 0 ≤ c) (h1 : c < N.length) (hc : c ∉ candL N ws) : rulersL N ws c ≠ [] := by
  have : ∃ q ∈ withL ws "quiet", Reach N q c := Classical.byContradiction fun z => hc (mem_setOf.mpr ⟨⟨h0, h1⟩, z⟩)
  obtain ⟨q, mq, rq⟩ := this
  have z := withL_in r mq
  intro e
  have m : q ∈ rulersL N ws c := List.mem_filter.mpr ⟨mq, decide_eq_true ((mem_reachL h z.1 z.2).mpr rq)⟩
  rw [e] at m
  cases m
/-- the alarming ones without a candidate -/
noncomputable def lostL (N : Nt) (ws : List Str) : List Int := (withL ws "alarm").filter fun a => !meets (reachL N a) (candL N ws)
theorem first0 {l : List Int} (h : l ≠ []) : getD (lI l) (.int 0) = pure (.int (ix l 0)) := by
  have : 0 < l.length := List.length_pos_iff.mpr h
  rw [getL (l := l) (f := D.int) (by omega) (by omega)]
noncomputable def firstL (N : Nt) (ws : List Str) (c : Int) : Int := ix (rulersL N ws c) 0
/-- the proof that nothing explains -/
noncomputable def lostD (N : Nt) (ws : List Str) : Int := ix (lostL N ws) 0
noncomputable def lostQ (N : Nt) (ws : List Str) : List Int := (reachL N (lostD N ws)).map (firstL N ws)
theorem lost_ne (e : (withL ws "alarm").all (fun a => meets (reachL N a) (candL N ws)) = false) : lostL N ws ≠ [] := by
  intro z
  unfold lostL at z
  rw [List.filter_eq_nil_iff] at z
  rw [List.all_eq_false] at e
  obtain ⟨a, ma, h⟩ := e
  exact z a ma (by simpa using h)
theorem lost_mem (h : Net N) (r : Rep N ws) (e : lostL N ws ≠ []) : (0 ≤ lostD N ws ∧ lostD N ws < N.length) ∧ ∀ c ∈ reachL N (lostD N ws), rulersL N ws c ≠ [] := by
  have hp : 0 < (lostL N ws).length := List.length_pos_iff.mpr e
  have m : lostD N ws ∈ lostL N ws := ix_mem (by omega) (by omega)
  obtain ⟨m1, m2⟩ := List.mem_filter.mp m
  have z := withL_in r m1
  refine ⟨z, fun c mc => ?_⟩
  have hc := h.reach_in z ((mem_reachL h z.1 z.2).mp mc)
  refine rulers_ne h r hc.1 hc.2 fun k => ?_
  have : meets (reachL N (lostD N ws)) (candL N ws) = true := meets_iff.mpr ⟨c, mc, k⟩
  rw [this] at m2
  cases m2
theorem ruled_out (h : Net N) (r : Rep N ws) (e : lostL N ws ≠ []) : f_ruled_out (dN N) (tS ws) = pure (.tup [.int (lostD N ws), tI (lostQ N ws)]) := by
  have rl := r.lim h
  have w8 := withL_len8 h r "alarm"
  obtain ⟨hd, hq⟩ := lost_mem h r e
  have r8 := reachL_len h (lostD N ws)
  simp only [f_ruled_out, pure_bind, bind_assoc, fn2_eq, fn3_eq, candidates_of h r, with_word ws _ rl, run0_p, items_tup, id]
  rw [filtI (fun a => !meets (reachL N a) (candL N ws)) (by show _ ≤ 1000000; omega) (fun a ma => by
    have z := withL_in r ma
    rw [reach_ok h z.1 z.2, run0_p, pure_bind, do_meet _ _ (by have := reachL_len h a; show _ ≤ 1000000; omega), run0_p, pure_bind, asB_bl, pure_bind]), pure_bind]
  show (getD (lI (lostL N ws)) (.int 0) >>= _) = _
  rw [first0 e, pure_bind]
  show (run0 (f_reach_of (dN N) (.int (lostD N ws))) >>= _) = _
  rw [reach_ok h hd.1 hd.2, run0_p, pure_bind, items_tup, pure_bind, compIm (fun c => .int (firstL N ws c)) (by show _ ≤ 1000000; omega) (fun _ => rfl) (fun c mc => by
    rw [rulers_of h r, run0_p, pure_bind, first0 (hq c mc)]
    rfl), pure_bind, tupleL (by rw [List.length_map]; show _ ≤ 1000000; omega), pure_bind, mkT2]
  unfold lostQ
  rw [tI, List.map_map]
  rfl
theorem verdict_of (h : Net N) (r : Rep N ws) : f_verdict_of (dN N) (tS ws) = pure (if (withL ws "alarm").all (fun a => meets (reachL N a) (candL N ws)) = true then .tup [.str "broken", tI (candL N ws)] else .tup [.str "none", .int (lostD N ws), tI (lostQ N ws)]) := by
  simp only [f_verdict_of, pure_bind, bind_assoc, fn2_eq, is_explained h r, run0_p, asB_bl]
  cases e : (withL ws "alarm").all (fun a => meets (reachL N a) (candL N ws)) with
  | true =>
    rw [if_pos rfl, if_pos rfl, candidates_of h r, run0_p, pure_bind, mkT2]
    rfl
  | false =>
    rw [if_neg (by decide), if_neg (by decide), ruled_out h r (lost_ne e), run0_p, pure_bind]
    show (mkT [.str "none", .int (lostD N ws), tI (lostQ N ws)] >>= _) = _
    rw [mkT3]
    rfl
end
end Lw
namespace Lw
open PySem EV
/-- all sublists -/
structure IsSub (l : List Int) (L : List (List Int)) : Prop where
  mem : ∀ B, B ∈ L ↔ B.Sublist l
  nd : L.Nodup
  hd : ∃ r, L = [] :: r
  len : L.length = 2 ^ l.length
theorem sub_zero : IsSub [] [[]] := ⟨fun B => by rw [List.mem_singleton, List.sublist_nil], by simp, ⟨[], rfl⟩, rfl⟩
theorem sub_app {l : List Int} {x : Int} {L : List (List Int)} (h : IsSub l L) (hx : x ∉ l) : IsSub (l ++ [x]) (L ++ L.map fun r => r ++ [x]) := by
  have no : ∀ r : List Int, r ++ [x] ∉ L := fun r m => hx (((h.mem _).mp m).subset (by simp))
  refine ⟨fun B => ?_, ?_, ?_, ?_⟩
  · rw [List.mem_append, h.mem, List.mem_map, List.sublist_append_iff]
    constructor
    · rintro (hB | ⟨r, hr, rfl⟩)
      · exact ⟨B, [], by simp, hB, by simp⟩
      · exact ⟨r, [x], rfl, (h.mem _).mp hr, List.Sublist.refl _⟩
    · rintro ⟨a, b, rfl, ha, hb⟩
      have hb' : b = [] ∨ b = [x] := by
        cases hb with
        | cons _ h => exact .inl (List.sublist_nil.mp h)
        | cons_cons _ h => exact .inr (by rw [List.sublist_nil.mp h])
      rcases hb' with rfl | rfl
      · exact .inl (by simpa using ha)
      · exact .inr ⟨a, (h.mem _).mpr ha, rfl⟩
  · refine List.nodup_append.mpr ⟨h.nd, ?_, fun a ha b hb e => ?_⟩
    · exact List.pairwise_map.mpr (h.nd.imp fun hne e => hne (List.append_cancel_right e))
    · subst e
      obtain ⟨r, _, e⟩ := List.mem_map.mp hb
      exact no r (e ▸ ha)
  · obtain ⟨r, rfl⟩ := h.hd
    exact ⟨_, rfl⟩
  · rw [List.length_append, List.length_map, h.len, List.length_append, List.length_singleton, Nat.pow_succ]
    omega
theorem sub_ex (l : List Int) (hl : l.Nodup) : ∃ L, IsSub l L := by
  have : ∀ n, n ≤ l.length → ∃ L, IsSub (l.take n) L := fun n => by
    induction n with
    | zero => exact fun _ => ⟨_, by rw [List.take_zero]; exact sub_zero⟩
    | succ n ih =>
      intro hn
      obtain ⟨L, h⟩ := ih (by omega)
      have e : l.take (n + 1) = l.take n ++ [l[n]] := by rw [List.take_append_getElem]
      have nd : (l.take n ++ [l[n]]).Nodup := by
        rw [← e]
        exact hl.sublist (List.take_sublist _ _)
      rw [e]
      exact ⟨_, sub_app h fun m => (List.nodup_append.mp nd).2.2 _ m _ (by simp) rfl⟩
  obtain ⟨L, h⟩ := this l.length (Nat.le_refl _)
  rw [List.take_length] at h
  exact ⟨L, h⟩
open Classical in
/-- all sublists, ascending -/
noncomputable def subsL (l : List Int) : List (List Int) := if h : ∃ L, IsSub l L then (Classical.choose h).mergeSort leI else []
theorem sorted_uniq {A B : List (List Int)} (ha : A.Pairwise fun a b => leI a b = true) (hb : B.Pairwise fun a b => leI a b = true) (na : A.Nodup) (nb : B.Nodup) (e : ∀ x, x ∈ A ↔ x ∈ B) : A = B :=
  List.Perm.eq_of_pairwise (fun a b _ _ h1 h2 => leI_anti h1 h2) ha hb ((List.perm_ext_iff_of_nodup na nb).mpr e)
theorem subsL_of {l : List Int} {L : List (List Int)} (h : IsSub l L) : L.mergeSort leI = subsL l := by
  have ex : ∃ L, IsSub l L := ⟨L, h⟩
  unfold subsL
  rw [dif_pos ex]
  have h2 := Classical.choose_spec ex
  refine sorted_uniq (List.pairwise_mergeSort leI_tr leI_tot _) (List.pairwise_mergeSort leI_tr leI_tot _) ((List.mergeSort_perm _ _).nodup_iff.mpr h.nd) ((List.mergeSort_perm _ _).nodup_iff.mpr h2.nd) fun x => ?_
  rw [(List.mergeSort_perm _ _).mem_iff, (List.mergeSort_perm _ _).mem_iff, h.mem, h2.mem]
section
variable {l : List Int}
theorem mem_subsL (hl : l.Nodup) {B : List Int} : B ∈ subsL l ↔ B.Sublist l := by
  obtain ⟨L, h⟩ := sub_ex l hl
  rw [← subsL_of h, (List.mergeSort_perm _ _).mem_iff, h.mem]
theorem subsL_len (hl : l.Nodup) : (subsL l).length = 2 ^ l.length := by
  obtain ⟨L, h⟩ := sub_ex l hl
  rw [← subsL_of h, List.length_mergeSort, h.len]
theorem subsL_nodup (hl : l.Nodup) : (subsL l).Nodup := by
  obtain ⟨L, h⟩ := sub_ex l hl
  rw [← subsL_of h]
  exact (List.mergeSort_perm _ _).nodup_iff.mpr h.nd
theorem subsL_sorted (hl : l.Nodup) : (subsL l).Pairwise fun a b => leI a b = true := by
  obtain ⟨L, h⟩ := sub_ex l hl
  rw [← subsL_of h]
  exact List.pairwise_mergeSort leI_tr leI_tot _
end
theorem sub_asc {l B : List Int} (hl : l.Pairwise (· < ·)) : B.Sublist l ↔ B.Pairwise (· < ·) ∧ ∀ x ∈ B, x ∈ l := by
  constructor
  · intro h
    exact ⟨hl.sublist h, fun x m => h.subset m⟩
  · rintro ⟨h1, h2⟩
    have e : B = l.filter fun x => decide (x ∈ B) := asc_eq h1 (hl.filter _) fun k => by
      rw [List.mem_filter, decide_eq_true_eq]
      exact ⟨fun m => ⟨h2 k m, m⟩, fun m => m.2⟩
    rw [e]
    exact List.filter_sublist
theorem take_snoc {l : List Int} {i : Nat} {z : Int} (h : l[i]? = some z) : l.take (i + 1) = l.take i ++ [z] := by
  obtain ⟨hi, e⟩ := List.getElem?_eq_some_iff.mp h
  subst e
  rw [List.take_append_getElem]
theorem not_take {l : List Int} (hl : l.Nodup) {i : Nat} {z : Int} (h : l[i]? = some z) : z ∉ l.take i := fun m => by
  have e := take_snoc h
  have nd : (l.take i ++ [z]).Nodup := by
    rw [← e]
    exact hl.sublist (List.take_sublist _ _)
  exact (List.nodup_append.mp nd).2.2 _ m _ (by simp) rfl
theorem pow8' {n : Nat} (h : n ≤ 8) : 2 ^ n ≤ 256 := Nat.pow_le_pow_right (by decide) h
theorem subsets_ofG {l : List Int} {d : D} (hd : itemsD d = pure (l.map D.int)) (hl : l.Nodup) (h8 : l.length ≤ 8) : f_subsets_of d = pure (.lst ((subsL l).map tI)) := by
  have e1 : mkT [] = pure (.tup []) := rfl
  have e2 : ∀ d : D, mkL [d] = pure (.lst [d]) := fun _ => rfl
  simp only [f_subsets_of, pure_bind, bind_assoc, e1, e2, hd, id]
  refine forS_then (fun i c => ∃ L, c = .lst (L.map tI) ∧ IsSub (l.take i) L) ⟨[[]], rfl, by rw [List.take_zero]; exact sub_zero⟩ (fun i z c hz hc => ?_) (fun c hc => ?_)
  · obtain ⟨L, rfl, h⟩ := hc
    have hi := (List.getElem?_eq_some_iff.mp hz).1
    refine ⟨_, ?_, _, rfl, by rw [take_snoc hz]; exact sub_app h (not_take hl hz)⟩
    have tl : (l.take i).length ≤ 8 := by rw [List.length_take]; omega
    have h256 := pow8' tl
    have hL := h.len
    rw [items_lst, pure_bind, compPm (zs := L) tI (fun r => tI (r ++ [z])) (by rw [List.map_map]; rfl) (by rw [List.length_map]; show _ ≤ 1000000; omega) (fun _ => rfl) (fun r mr => ?_), pure_bind, addL (by rw [List.length_map, List.length_map]; show _ ≤ 1000000; omega)]
    · rw [List.map_append, List.map_map]
      rfl
    · have hr := ((h.mem r).mp mr).length_le
      simp only [items_tup, pure_bind]
      rw [show r.map D.int ++ [D.int z] = (r ++ [z]).map D.int by rw [List.map_append]; rfl]
      exact mkT_ok (by rw [List.length_map, List.length_append, List.length_singleton]; show _ ≤ 1000000; omega)
  · obtain ⟨L, rfl, h⟩ := hc
    rw [List.take_length] at h
    have h256 := pow8' h8
    rw [sort_rows (.inl h.hd) (by rw [h.len]; show _ ≤ 1000000; omega), subsL_of h]
    rfl
theorem subsets_of {l : List Int} (hl : l.Nodup) (h8 : l.length ≤ 8) : f_subsets_of (tI l) = pure (.lst ((subsL l).map tI)) := subsets_ofG (items_tup _) hl h8
section
variable {N : Nt} {ws : List Str}
theorem need_sub {a x : Int} : x ∈ needL N ws a ↔ x ∈ reachL N a ∧ x ∈ candL N ws := by
  unfold needL
  rw [List.mem_filter, decide_eq_true_eq]
theorem every_sorted (N : Nt) (ws : List Str) : (everyL N ws).Pairwise fun a b => leI a b = true := (subs_sorted _).filter _
theorem every_nodup (N : Nt) (ws : List Str) : (everyL N ws).Nodup := (subs_nodup _).filter _
/-- an explanation: candidates, and one for each alarming one -/
theorem fit_iff (h : Net N) (r : Rep N ws) {B : List Int} : (Rising N.length B ∧ fitB N ws B = true) ↔ B.Sublist (candL N ws) ∧ ∀ a ∈ withL ws "alarm", meets (needL N ws a) B = true := by
  rw [sub_asc (candL_rising N ws).2]
  constructor
  · rintro ⟨h1, h2⟩
    have s := fit_sub h r h1 h2
    refine ⟨⟨h1.2, s⟩, fun a ma => ?_⟩
    obtain ⟨x, m1, m2⟩ := meets_iff.mp (fit_alarm h2 ma)
    exact meets_iff.mpr ⟨x, need_sub.mpr ⟨m1, s x m2⟩, m2⟩
  · rintro ⟨⟨h1, s⟩, h2⟩
    refine ⟨⟨fun x m => (candL_rising N ws).1 x (s x m), h1⟩, fit_of r (fun a ma => ?_) fun q mq => ?_⟩
    · obtain ⟨x, m1, m2⟩ := meets_iff.mp (h2 a ma)
      exact meets_iff.mpr ⟨x, (need_sub.mp m1).1, m2⟩
    · have z := cand_quiet h r mq
      cases e : meets (reachL N q) B with
      | false => rfl
      | true =>
        obtain ⟨x, m1, m2⟩ := meets_iff.mp e
        rw [meets_iff.mpr ⟨x, m1, s x m2⟩] at z
        cases z
theorem every_filter (h : Net N) (r : Rep N ws) : (subsL (candL N ws)).filter (fun B => (withL ws "alarm").all fun a => meets (needL N ws a) B) = everyL N ws := by
  have nd := asc_nodup (candL_rising N ws).2
  refine sorted_uniq ((subsL_sorted nd).filter _) (every_sorted N ws) ((subsL_nodup nd).filter _) (every_nodup N ws) fun B => ?_
  rw [List.mem_filter, mem_subsL nd, mem_every, fit_iff h r, List.all_eq_true]
theorem explanations_of (h : Net N) (r : Rep N ws) : f_explanations_of (dN N) (tS ws) = pure (.lst ((everyL N ws).map tI)) := by
  have nd := asc_nodup (candL_rising N ws).2
  have c8 := candL_len h ws
  have w8 := withL_len8 h r "alarm"
  have h256 := pow8' c8
  have sl := subsL_len nd
  simp only [f_explanations_of, pure_bind, bind_assoc, fn1_eq, fn2_eq, needed_of h r, run0_p, candidates_of h r, subsets_of nd c8, items_lst, id]
  rw [compPf (zs := subsL (candL N ws)) tI (fun B => (withL ws "alarm").all fun a => meets (needL N ws a) B) tI (by rw [List.map_map]; rfl) (by rw [List.length_map, sl]; show _ ≤ 1000000; omega) (fun B _ => ?_) (fun _ _ _ => rfl), pure_bind, every_filter h r]
  rw [compPm (zs := (withL ws "alarm").map (needL N ws)) tI (fun l => .bl (meets l B)) (by rw [List.map_map]; rfl) (by rw [List.length_map, List.length_map]; show _ ≤ 1000000; omega) (fun _ => rfl) (fun l ml => ?_), pure_bind]
  · rw [List.map_map, show ((withL ws "alarm").map ((fun l => D.bl (meets l B)) ∘ needL N ws)) = ((withL ws "alarm").map fun a => meets (needL N ws a) B).map D.bl by rw [List.map_map]; rfl, blsF, pure_bind, asB_bl, List.all_map]
    rfl
  · obtain ⟨a, _, rfl⟩ := List.mem_map.mp ml
    rw [do_meet _ _ (by have := needL_len h ws a; show _ ≤ 1000000; omega), run0_p]
end
end Lw
namespace Lw
open PySem EV
section
variable {N : Nt} {ws : List Str}
theorem forL_any {ι κ : Type} {dec : D → Option ι} {body : Unit → ι → PM (Lp Unit)} (g : κ → ι) (p : κ → Bool) {v : D} : ∀ {ds : List D} {zs : List κ}, ds.map dec = zs.map (fun z => some (g z)) → (∀ z ∈ zs, body () (g z) = pure (if p z = true then .ret v else .go ())) → forL dec body ds () = pure (if zs.any p = true then .ret v else .go ())
  | [], [], _, _ => rfl
  | [], _ :: _, h, _ => by simp at h
  | _ :: _, [], h, _ => by simp at h
  | d :: ds, z :: zs, h, hb => by
    rw [List.map_cons, List.map_cons] at h
    injection h with h1 h2
    unfold forL
    rw [h1]
    show (body () (g z) >>= _) = _
    rw [hb z List.mem_cons_self, pure_bind, List.any_cons]
    cases p z with
    | false =>
      rw [if_neg (by decide), Bool.false_or]
      exact forL_any g p h2 fun y m => hb y (List.mem_cons_of_mem _ m)
    | true => rfl
theorem how_many (h : Net N) (r : Rep N ws) : f_how_many (dN N) (tS ws) = pure (.int (everyL N ws).length) := by
  simp only [f_how_many, pure_bind, bind_assoc, fn2_eq, need_report h r, explanations_of h r, run0_p, len_lst, List.length_map, id]
end
end Lw
namespace Lw
open PySem EV
def within (a b : List Int) : Bool := a.all fun x => decide (x ∈ b)
end Lw
namespace Lw
open PySem EV
section
variable {N : Nt} {ws : List Str}
/-- does what is seen at i -/
noncomputable def okAt (N : Nt) (ws : List Str) (B : List Int) (i : Int) : Bool := (ix ws i == "unseen") || ((ix ws i == "alarm") == meets (reachL N i) B)
end
end Lw
namespace Lw
open PySem EV
theorem neBl (a b : Bool) : neD (.bl a) (.bl b) = pure (.bl (a != b)) := by cases a <;> cases b <;> rfl
section
variable {N : Nt} {ws : List Str} {B C F W : List Int}
theorem alarmsM (h : Net N) {c : Int} (h0 : 0 ≤ c) (h1 : c < N.length) (B : List Int) : decide (c ∈ alarmsL N B) = meets (reachL N c) B := by
  rw [Bool.eq_iff_iff, alarm_iff h h0 h1, decide_eq_true_eq]
  unfold alarmsL
  rw [mem_setOf]
  exact ⟨fun z => z.2, fun z => ⟨⟨h0, h1⟩, z⟩⟩
theorem candidates_ok (h : Net N) (r : Rep N ws) : f_candidates (dN N) (tS ws) = pure (tI (candL N ws)) := by
  simp only [f_candidates, pure_bind, fn2_eq, need_report h r, candidates_of h r, run0_p, id]
theorem does_ok (h : Net N) (r : Rep N ws) (B : List Int) : f_does_explain (dN N) (tS ws) (tI B) = pure (.bl (fitB N ws B)) := by
  have rl := r.len
  simp only [f_does_explain, pure_bind, bind_assoc, fn2_eq, alarms_of h, run0_p, enum_tup, id]
  rw [forL_any (v := .bl false) (zs := iota ws.length) (fun i => (D.int i, D.str (ix ws i))) (fun i => !okAt N ws B i) (pairs_ix ws D.str) (fun i mi => ?_), pure_bind]
  · have e : fitB N ws B = !((iota ws.length).any fun i => !okAt N ws B i) := by
      unfold fitB
      rw [List.any_eq_not_all_not, Bool.not_not]
      simp only [Bool.not_not]
      rfl
    rw [e]
    cases ((iota ws.length).any fun i => !okAt N ws B i) <;> rfl
  · have hi := mem_iota.mp mi
    dsimp only
    unfold okAt
    rw [neStr2, pure_bind, asB_bl, pure_bind, ← alarmsM h hi.1 (by omega) B]
    cases (ix ws i == "unseen") with
    | true => rfl
    | false =>
      rw [Bool.not_false, if_pos rfl, eqStr, pure_bind, inT, pure_bind, neBl, pure_bind, asB_bl, pure_bind]
      cases (ix ws i == "alarm") <;> cases decide (i ∈ alarmsL N B) <;> rfl
end
end Lw
namespace Lw
open PySem EV
theorem run0_raise {α : Type} (e : Ex) : run0 (raiseP e : PM α) = raiseP e := rfl
theorem raise_bind {α β : Type} (e : Ex) (f : α → PM β) : ((raiseP e : PM α) >>= f) = raiseP e := rfl
theorem said_net (w8 : Str) : saidM w8 (raiseP ⟨"NetError", []⟩) = pure (.str "! net") := funext fun s => by kernel_rfl
theorem said_rep (w8 : Str) : saidM w8 (raiseP ⟨"ReportError", []⟩) = pure (.str "! report") := funext fun s => by kernel_rfl
theorem said_ok (w8 : Str) {h b : Nat} {d : D} (s : Sm h b d) (e1 : h ≤ 60 := by omega) (e2 : b ≤ 60000 := by omega) : saidM w8 (pure d) = pure (.str (shown d)) := funext fun z => by
  show reprF [d] z = _
  rw [s.repr e1 e2]
/-- a run without a pen whose end is known -/
theorem run0_at {α : Type} {m : PM α} {a : α} {s : List Int} (h : m [] = .ok a s) : run0 m = pure a := funext fun z => by
  show (match m [] with | .ok a _ => R.ok a z | .exc e => .exc e | .bad => .bad) = _
  rw [h]
  rfl
/-- how a text begins -/
def Open40 (z : Str) : Prop := ∃ r, z.cps.toList = 40 :: r
theorem open_app (J T : Str) : Open40 (("(" : Str) ++ J ++ T) := ⟨J.cps.toList ++ T.cps.toList, by
  show ((#[40] ++ J.cps) ++ T.cps).toList = _
  simp⟩
theorem open_tup (xs : List D) : Open40 (shown (.tup xs)) := by
  unfold EV.shown
  simp only [toPy, PyData.shown, PySem.tupleText]
  exact open_app _ _
theorem cut_open {z : Str} (h : Open40 z) : (L2.cutS z none (some 1) == ("!" : Str)) = false := by
  obtain ⟨r, e⟩ := h
  have hl : z.length = r.length + 1 := by
    have q := congrArg List.length e
    rw [Array.length_toList] at q
    exact q
  have c : L2.cutS z none (some 1) = ⟨#[40]⟩ := by
    unfold L2.cutS
    have e1 : HT.sIx z.length z.length (some 1) = 1 := by
      have q := HT.sIx_nat z.length z.length 1
      rw [show ((1 : Nat) : Int) = 1 from rfl] at q
      rw [q, hl]
      omega
    rw [e1, e]
    rfl
  rw [c]
  decide +kernel
theorem shownLe {h b : Nat} {d : D} (s : Sm h b d) (e1 : h ≤ 60 := by omega) (e2 : b ≤ 60000 := by omega) : (shown d).length ≤ lim := by
  have f := s.facts
  have l := PyData.shown_le_bulk 13 (by decide) (toPy d) f.2.1
  show (toPy d).shown.length ≤ 1000000
  omega
end Lw
namespace Lw
open PySem EV
def outM (m : PM D) : List D := match m [] with
  | .ok (.lst xs) _ => xs
  | _ => []
def isFls (m : PM D) : Bool := match m [] with
  | .ok (.bl false) _ => true
  | _ => false
theorem isFls_run {m : PM D} (h : isFls m = true) : run0 m = pure (.bl false) := by
  unfold isFls at h
  split at h
  · rename_i s e
    exact run0_at e
  · cases h
/-- a text that does not begin with the mark -/
def NoMk (z : Str) : Prop := (L2.cutS z none (some 1) == ("!" : Str)) = false ∧ z.length ≤ lim
theorem noMk_open {z : Str} (h : Open40 z) (hl : z.length ≤ lim) : NoMk z := ⟨cut_open h, hl⟩
theorem noMk_bl (b : Bool) : NoMk (shown (.bl b)) := by
  cases b <;> exact ⟨by decide +kernel, by decide +kernel⟩
theorem no_marksN {zs : List Str} (h : ∀ z ∈ zs, NoMk z) (hl : zs.length ≤ lim) :
    compL dec1 (fun z => sliceD z none (some 1) >>= fun x => eqD x (.str "!") >>= asB) (fun z => pure z) (zs.map D.str) = pure [] := by
  unfold compL
  rw [if_pos (by rw [List.length_map]; exact hl)]
  clear hl
  induction zs with
  | nil => rfl
  | cons z zs ih =>
    rw [List.map_cons]
    unfold compG
    obtain ⟨h1, h2⟩ := h z List.mem_cons_self
    have e1 : sliceD (.str z) none (some 1) = pure (.str (L2.cutS z none (some 1))) := if_pos h2
    have e2 : eqD (.str (L2.cutS z none (some 1))) (.str "!") = pure (.bl false) := by
      show (pure (.bl (L2.cutS z none (some 1) == ("!" : Str))) : PM D) = _
      rw [h1]
    show (noExc (sliceD (.str z) none (some 1) >>= fun x => eqD x (.str "!") >>= asB) >>= _) = _
    rw [e1, pure_bind, e2, pure_bind]
    show (noExc (pure false) >>= _) = _
    rw [noExc_pure, pure_bind]
    exact ih fun y m => h y (List.mem_cons_of_mem _ m)
end Lw
namespace Lw
open PySem EV
mutual
def ncB : D → Bool
  | .tup xs => decide (xs.length ≤ 1000000) && ncBL xs
  | .lst xs => decide (xs.length ≤ 1000000) && ncBL xs
  | .cls _ => false
  | .non => true
  | .bl _ => true
  | .int _ => true
  | .str _ => true
  | .dct _ => true
  | .obj _ _ => true
def ncBL : List D → Bool
  | [] => true
  | x :: xs => ncB x && ncBL xs
end
theorem ncBL_iff : ∀ {xs : List D}, ncBL xs = true ↔ ∀ x ∈ xs, ncB x = true
  | [] => by simp [ncBL]
  | x :: xs => by
    rw [ncBL, Bool.and_eq_true, ncBL_iff]
    constructor
    · rintro ⟨h1, h2⟩ y m
      rcases List.mem_cons.mp m with rfl | m
      · exact h1
      · exact h2 y m
    · intro h
      exact ⟨h x List.mem_cons_self, fun y m => h y (List.mem_cons_of_mem _ m)⟩
theorem nc_tup {xs : List D} : ncB (.tup xs) = true ↔ xs.length ≤ 1000000 ∧ ∀ x ∈ xs, ncB x = true := by
  rw [ncB, Bool.and_eq_true, decide_eq_true_eq, ncBL_iff]
def wB (y : D) (a b : Int) : Bool := match y with
  | .int x => decide (a ≤ x ∧ x ≤ b)
  | _ => false
theorem between_any {y : D} (h : ncB y = true) (a b : Int) : f_is_between y (.int a) (.int b) = pure (.bl (wB y a b)) := by
  cases y with
  | int x => exact between x a b
  | cls C => rw [ncB] at h; cases h
  | _ => rfl
def setB (n : Int) : Int → List D → Bool
  | _, [] => true
  | l, .int i :: ys => decide (l + 1 ≤ i ∧ i ≤ n - 1) && setB n i ys
  | _, _ :: _ => false
theorem setB_ints (n : Int) : ∀ (l : Int) (B : List Int), setB n l (B.map .int) = true ↔ (∀ x ∈ B, l < x ∧ x < n) ∧ B.Pairwise (· < ·)
  | l, [] => by simp [setB]
  | l, x :: B => by
    rw [List.map_cons, setB, Bool.and_eq_true, decide_eq_true_eq, setB_ints n x B, List.pairwise_cons]
    constructor
    · rintro ⟨⟨h1, h2⟩, h3, h4⟩
      refine ⟨fun y m => ?_, fun y m => (h3 y m).1, h4⟩
      rcases List.mem_cons.mp m with rfl | m
      · omega
      · have := h3 y m
        omega
    · rintro ⟨h1, h2, h3⟩
      have h0 := h1 x List.mem_cons_self
      exact ⟨by omega, fun y m => ⟨h2 y m, (h1 y (List.mem_cons_of_mem _ m)).2⟩, h3⟩
theorem setB_map (n : Int) : ∀ (l : Int) (ys : List D), setB n l ys = true → ∃ B : List Int, ys = B.map .int
  | _, [], _ => ⟨[], rfl⟩
  | l, y :: ys, h => by
    cases y with
    | int i =>
      rw [setB, Bool.and_eq_true] at h
      obtain ⟨B, rfl⟩ := setB_map n i ys h.2
      exact ⟨i :: B, rfl⟩
    | _ => cases h
/-- the set's tuple -/
def sB (n : Nat) : D → Bool
  | .tup ys => setB n (-1) ys
  | _ => false
theorem sB_iff {n : Nat} {d : D} : sB n d = true ↔ ∃ B : List Int, d = tI B ∧ Rising n B := by
  constructor
  · intro h
    cases d with
    | tup ys =>
      obtain ⟨B, rfl⟩ := setB_map n (-1) ys h
      have h := (setB_ints n (-1) B).mp h
      exact ⟨B, rfl, fun x m => by have := h.1 x m; omega, h.2⟩
    | _ => cases h
  · rintro ⟨B, rfl, h1, h2⟩
    exact (setB_ints n (-1) B).mpr ⟨fun x m => by have := h1 x m; omega, h2⟩
theorem rising_any {n : Nat} {d : D} (h : ncB d = true) : f_is_rising (.int n) d = pure (.bl (sB n d)) := by
  cases d with
  | tup ys =>
    have hl := (nc_tup.mp h).1
    have hy := (nc_tup.mp h).2
    by_cases q : (ys.map fun y => wB y 0 ((n : Int) - 1)).all id = true
    · have hm : ∃ B : List Int, ys = B.map .int := by
        clear h hl
        induction ys with
        | nil => exact ⟨[], rfl⟩
        | cons y ys ih =>
          rw [List.map_cons, List.all_cons, Bool.and_eq_true] at q
          obtain ⟨B, e⟩ := ih (fun y m => hy y (List.mem_cons_of_mem _ m)) q.2
          cases y with
          | int i => exact ⟨i :: B, by rw [e]; rfl⟩
          | _ => cases q.1
      obtain ⟨B, rfl⟩ := hm
      obtain ⟨b, eb, hb⟩ := rising n B (by rw [List.length_map] at hl; exact hl)
      rw [eb]
      have : b = sB n (.tup (B.map .int)) := by
        rw [Bool.eq_iff_iff, hb, sB_iff]
        constructor
        · intro r
          exact ⟨B, rfl, r⟩
        · rintro ⟨C, e, r⟩
          injection e with e
          have : B = C := by
            clear hb eb hl hy h q r
            induction B generalizing C with
            | nil => cases C with
              | nil => rfl
              | cons x C => cases e
            | cons x B ih => cases C with
              | nil => cases e
              | cons y C =>
                injection e with e1 e2
                injection e1 with e1
                rw [e1, ih C e2]
          rw [this]
          exact r
      rw [this]
    · have q2 : (ys.map fun y => wB y 0 ((n : Int) - 1)).all id = false := by simpa using q
      have s0 : sB n (.tup ys) = false := by
        cases e : sB n (.tup ys) with
        | false => rfl
        | true =>
          obtain ⟨B, eB, r⟩ := sB_iff.mp e
          injection eB with eB
          subst eB
          refine absurd ?_ q
          rw [List.all_map]
          refine List.all_eq_true.mpr fun x m => ?_
          obtain ⟨i, mi, rfl⟩ := List.mem_map.mp m
          have := r.1 i mi
          show decide _ = true
          simp
          omega
      have h1 : ∀ c : D → PM Bool, (∀ z, c z = pure true) → compL dec1 c (fun z => run0 (fn3 f_is_between [z, .int 0, .int ((n : Int) - 1)])) ys = pure ((ys.map fun y => wB y 0 ((n : Int) - 1)).map D.bl) := fun c hc => by
        rw [compPm (dec := dec1) (zs := ys) (fun y => y) (fun y => .bl (wB y 0 ((n : Int) - 1))) rfl hl hc (fun y m => by rw [fn3_eq, between_any (hy y m)]; rfl), List.map_map]
        rfl
      rw [s0]
      simp only [f_is_rising, pure_bind, isF_tup, asB_bl, items_tup, Bool.not_true, if_false, sub_int, id]
      rw [h1 _ fun z => rfl]
      simp only [pure_bind, blsF, asB_bl]
      rw [q2]
      rfl
  | cls C => rw [ncB] at h; cases h
  | _ => rfl
end Lw
namespace Lw
open PySem EV
instance : Inhabited D := ⟨.non⟩
theorem pickG {k : Nat} {s : List Int} {ds : List D} (h : Pen k s) (hk : k ≤ 1000000) (m1 : 1 ≤ ds.length) (m2 : ds.length ≤ 1000000) : Ok (f_law_pick (.lst ds)) s fun d s' => Pen (k + 1) s' ∧ d ∈ ds := by
  simp only [f_law_pick, bind_assoc, pure_bind, len_lst, fn1_eq]
  refine Ok.bind ((draw h hk m1 m2).imp fun d s1 ⟨p, x, e, h1, h2⟩ => ?_)
  subst e
  have e : getD (.lst ds) (.int x) = pure (ix ds x) := by
    have := getL (l := ds) (f := id) h1 h2
    rw [List.map_id] at this
    exact this
  rw [e]
  exact Ok.pure ⟨p, ix_mem h1 h2⟩
def oN1 : D := .obj cNet [("own_needs", .tup [.tup [.int 1], .tup []])]
def oW1 : D := .obj cWatch [("own_net", oN1), ("kept", .tup [.str "unseen", .str "unseen"]), ("past", .tup [])]
def ODs : List D := [.non, .bl true, .bl false, .int (-1), .int 0, .int 1, .int 2, .int 9, .int 100000000000, .str "", .str "alarm", .str "quiet", .str "unseen", .str "broken", .str "none", .tup [], .lst [],
  .dct [], .tup [.int 0], .lst [.int 0], .tup [.int 0, .int 1], .tup [.int 1, .int 0], .tup [.bl true], .tup [.str "0"], .tup [.tup []], .tup [.tup [.int 1], .tup []], .tup [.str "broken", .tup []], .tup [.str "none", .int 0, .tup []],
  oN1, oW1, .tup [oN1], .lst [oW1], .tup [.str "broken", oW1], .tup [.str "none", .int 0, oN1], .dct [(.int 0, .tup [])]]
theorem odd_eq0 : f_law_odd = (fn1 f_law_pick [.lst ODs] >>= fun d => pure (id d)) := by
  funext s
  kernel_rfl
theorem odd_eq : f_law_odd = fn1 f_law_pick [.lst ODs] := by
  rw [odd_eq0]
  exact bind_pure _
theorem odd_mem {k : Nat} {s : List Int} (p : Pen k s) (hk : k ≤ 1000000) : Ok f_law_odd s fun d s' => Pen (k + 1) s' ∧ d ∈ ODs := by
  rw [odd_eq, fn1_eq]
  exact pickG p hk (by decide) (by decide)
end Lw
namespace Lw
open PySem EV
theorem rep1 (n : Nat) (d : D) : repD (n : Int) [d] = List.replicate n d := by
  unfold repD
  rw [Int.toNat_natCast]
  induction n with
  | zero => rfl
  | succ n ih => rw [List.replicate_succ, List.flatten_cons, ih, List.replicate_succ]; rfl
theorem mulM1 (d : D) : mulM (.tup [d]) (.int 2000) = pure (.tup (List.replicate 2000 d)) := by
  unfold mulM
  dsimp only
  rw [if_pos ⟨by simp, by decide, by decide, by simp⟩]
  rw [show repD (2000 : Int) [d] = repD ((2000 : Nat) : Int) [d] from rfl, rep1]
  exact mkT_ok (by rw [List.length_replicate]; decide)
def dpD : Nat → D
  | 0 => .tup []
  | n + 1 => .tup [dpD n]
def aD : D := .str (repS 1000 "a")
def LLs : List D := [.tup (List.replicate 2000 (.tup [.int 0, .int 1])), .tup ((iota 2000).map .int), .tup (List.replicate 2000 (.str "quiet")), .tup (List.replicate 2000 (.tup [])), dpD 19, aD]
theorem long_eq : f_law_long = pure (.lst LLs) := by
  have r19 : rangeF1 [.int 19] = pure ((iota 19).map D.int) := range1 (n := 19) (by decide)
  have eT0 : mkT [] = pure (.tup []) := rfl
  have eT1 : ∀ a : D, mkT [a] = pure (.tup [a]) := fun _ => rfl
  have rg : rg1 (.int 2000) = pure ((iota 2000).map D.int) := rg_iota (n := 2000) (by decide)
  have rt : mkT ((iota 2000).map D.int) = pure (.tup ((iota 2000).map D.int)) := mkT_ok (by rw [List.length_map, len_iota]; decide)
  have ms : mulS (.str "a") (.int 1000) = pure aD := by
    show (if (2 : Int) ≤ 1000 ∧ (1000 : Int) ≤ 1000 ∧ 1 ≤ ("a" : Str).length ∧ ("a" : Str).length ≤ 100 then pure (.str (repS (1000 : Int).toNat "a")) else bad : PM D) = _
    exact if_pos (by decide)
  have fs : forS dec1 (fun (c4 : D) z5 => (pure (.tup [c4]) : PM D)) ((iota 19).map D.int) (.tup []) = pure (dpD 19) := rfl
  have eL : ∀ a b c d e f : D, mkL [a, b, c, d, e, f] = pure (.lst [a, b, c, d, e, f]) := fun _ _ _ _ _ _ => rfl
  simp only [f_law_long, pure_bind, bind_assoc, bind_pure, eT0, r19, eT1, mkT2, mulM1, rg, rt, ms, fs, eL, id]
  try rfl
theorem LLs_len : LLs.length = 6 := rfl
end Lw
namespace Lw
open PySem EV
theorem words_all {a b c : D} {m1 m2 m3 m5 : PM D} {m4 : PM D} {w1 w2 w3 w4 w5 : Str} (h1 : f_candidates a b = m1) (h2 : f_verdict a b = m2) (h3 : f_shows_verdict a b c = m3) (h4 : (onlyE ["NetError", "ReportError"] (run0 (f_explanations a b)) >>= mkL) = m4) (h5 : f_how_many a b = m5)
    (q1 : saidM "nothing" (run0 m1) = pure (.str w1)) (q2 : saidM "nothing" (run0 m2) = pure (.str w2)) (q3 : saidM "nothing" (run0 m3) = pure (.str w3)) (q4 : saidM "nothing" m4 = pure (.str w4)) (q5 : saidM "nothing" (run0 m5) = pure (.str w5)) :
    f_law_words a b c = pure (.lst [.str w1, .str w2, .str w3, .str w4, .str w5]) := by
  have eO : ∀ xs : List D, xs.length ≤ 1000 → okL xs = pure xs := fun xs q => okL_ok (by show _ ≤ 1000000; omega)
  have eK : ∀ xs : List D, xs.length ≤ 1000 → okLen xs = pure () := fun xs q => okLen_ok (by show _ ≤ 1000000; omega)
  have eF : fnL2 f_explanations [a, b] = f_explanations a b := rfl
  simp only [f_law_words, pure_bind, bind_assoc, fn2_eq, fn3_eq, eF, h1, h2, h3, h4, h5, q1, q2, q3, q4, q5, eO [D.str w1] (by simp), List.cons_append, List.nil_append, eK [D.str w1, D.str w2] (by simp), eK [D.str w1, D.str w2, D.str w3] (by simp), eK [D.str w1, D.str w2, D.str w3, D.str w4] (by simp), eK [D.str w1, D.str w2, D.str w3, D.str w4, D.str w5] (by simp), id]
theorem words_need {a b c : D} {nm w : Str} (hw : saidM "nothing" (raiseP ⟨nm, []⟩) = pure (.str w)) (hn : (["NetError", "ReportError"] : List Str).contains nm = true) (h : f_need_report a b = raiseP ⟨nm, []⟩) : f_law_words a b c = pure (.lst [.str w, .str w, .str w, .str w, .str w]) := by
  have e1 : f_candidates a b = raiseP ⟨nm, []⟩ := by simp only [f_candidates, pure_bind, fn2_eq, h, run0_raise, raise_bind, bind_assoc]
  have e2 : f_verdict a b = raiseP ⟨nm, []⟩ := by simp only [f_verdict, pure_bind, fn2_eq, h, run0_raise, raise_bind, bind_assoc]
  have e3 : f_shows_verdict a b c = raiseP ⟨nm, []⟩ := by simp only [f_shows_verdict, pure_bind, fn2_eq, h, run0_raise, raise_bind, bind_assoc]
  have e4 : f_explanations a b = raiseP ⟨nm, []⟩ := by simp only [f_explanations, pure_bind, fn2_eq, h, run0_raise, raise_bind, bind_assoc]
  have e5 : f_how_many a b = raiseP ⟨nm, []⟩ := by simp only [f_how_many, pure_bind, fn2_eq, h, run0_raise, raise_bind, bind_assoc]
  exact words_all e1 e2 e3 (by rw [e4, run0_raise, onlyE_raise hn, raise_bind]) e5 (by rw [run0_raise]; exact hw) (by rw [run0_raise]; exact hw) (by rw [run0_raise]; exact hw) hw (by rw [run0_raise]; exact hw)
theorem need_net_bad {d : D} (h : run0 (f_is_net d) = pure (.bl false)) : f_need_net d = raiseP ⟨"NetError", []⟩ := by
  simp only [f_need_net, g_need_net, pure_bind, fn1_eq, h, asB_bl, Bool.not_false, if_true, raise_bind, bind_assoc]
theorem words_net {d b c : D} (h : run0 (f_is_net d) = pure (.bl false)) : f_law_words d b c = pure (.lst [.str "! net", .str "! net", .str "! net", .str "! net", .str "! net"]) :=
  words_need (nm := "NetError") (said_net _) rfl (by simp only [f_need_report, g_need_report, pure_bind, fn1_eq, need_net_bad h, run0_raise, raise_bind, bind_assoc])
section
variable {N : Nt} {ws : List Str}
theorem isrep_len {xs ys : List D} (h : xs.length = ys.length) (d : D) : f_is_report (.tup xs) d = f_is_report (.tup ys) d := by
  simp only [f_is_report, pure_bind, len_tup, h]
theorem words_rep (h : Net N) {d c : D} (e : run0 (f_is_report (dN N) d) = pure (.bl false)) : f_law_words (dN N) d c = pure (.lst [.str "! report", .str "! report", .str "! report", .str "! report", .str "! report"]) :=
  words_need (nm := "ReportError") (said_rep _) rfl (by simp only [f_need_report, g_need_report, pure_bind, fn1_eq, fn2_eq, need_net h, run0_p, e, asB_bl, Bool.not_false, if_true, raise_bind, bind_assoc])
theorem first_sm13 (h : Net N) (r : Rep N ws) {c : Int} (hc : rulersL N ws c ≠ []) : 0 ≤ firstL N ws c ∧ firstL N ws c < 8 := by
  have hp : 0 < (rulersL N ws c).length := List.length_pos_iff.mpr hc
  have m : firstL N ws c ∈ rulersL N ws c := ix_mem (by omega) (by omega)
  have z := withL_in r (List.mem_filter.mp m).1
  have := h.hi
  omega
theorem verdict13 (h : Net N) (r : Rep N ws) : ∃ v, f_verdict (dN N) (tS ws) = pure v ∧ Sm 2 27 v ∧ ∃ xs, v = .tup xs := by
  have h8 := h.hi
  refine ⟨if (withL ws "alarm").all (fun a => meets (reachL N a) (candL N ws)) = true then .tup [.str "broken", tI (candL N ws)] else .tup [.str "none", .int (lostD N ws), tI (lostQ N ws)], by
    simp only [f_verdict, pure_bind, bind_assoc, fn2_eq, need_report h r, run0_p, verdict_of h r]
    rfl, ?_⟩
  cases e : (withL ws "alarm").all (fun a => meets (reachL N a) (candL N ws)) with
  | true =>
    rw [if_pos rfl]
    refine ⟨.tup (c := 8) (fun x mx => ?_) (by simp), _, rfl⟩
    simp only [List.mem_cons, List.not_mem_nil, or_false] at mx
    rcases mx with rfl | rfl
    · exact .str (by decide +kernel) (by decide +kernel)
    · exact set_sm h8 _
  | false =>
    rw [if_neg (by decide)]
    obtain ⟨hd, hq⟩ := lost_mem h r (lost_ne e)
    refine ⟨.tup (c := 8) (fun x mx => ?_) (by simp), _, rfl⟩
    simp only [List.mem_cons, List.not_mem_nil, or_false] at mx
    rcases mx with rfl | rfl | rfl
    · exact .str (by decide +kernel) (by decide +kernel)
    · exact .int (by omega) (by omega)
    · refine (SmI.smT fun y my => ?_).mono (by omega) (by unfold lostQ; rw [List.length_map]; exact reachL_len h _)
      obtain ⟨c, mc, rfl⟩ := List.mem_map.mp my
      have := first_sm13 h r (hq c mc)
      omega
theorem rulers13 (h : Net N) (r : Rep N ws) {z : D} (hz : z = .tup [] ∨ z = oN1) : f_are_rulers (dN N) (tS ws) (.int 0) z = pure (.bl false) := by
  have h1 := h.lo
  have lw := r.len
  have g0 : getD (tS ws) (.int 0) = pure (.str (ix ws 0)) := getT (f := D.str) (by decide) (by omega)
  have bt : f_is_between (.int 0) (.int 0) (.int ((N.length : Int) - 1)) = pure (.bl true) := by
    rw [between, decide_eq_true (by omega)]
  have ne : neD (.str (ix ws 0)) (.str "alarm") = pure (.bl (!(ix ws 0 == "alarm"))) := rfl
  simp only [f_are_rulers, pure_bind, bind_assoc, len_tup, List.length_map, sub_int, fn2_eq, fn3_eq, bt, run0_p, asB_bl, Bool.not_true, Bool.false_eq_true, if_false, g0, ne]
  cases hq : (ix ws 0 == ("alarm" : Str)) with
  | false => rfl
  | true =>
    simp only [Bool.not_true, Bool.false_eq_true, if_false]
    rcases hz with rfl | rfl
    · have rr := reach_ok h (c := 0) (by decide) (by omega)
      have rl : (reachL N 0) ≠ [] := fun z => by
        have := (mem_reachL h (c := 0) (by decide) (by omega)).mpr (Reach.refl (N := N))
        rw [z] at this
        cases this
      have l0 : 0 < (reachL N 0).length := List.length_pos_iff.mpr rl
      have nn : neD (.int ((([] : List D).length : Nat) : Int)) (.int (((reachL N 0).length : Nat) : Int)) = pure (.bl true) := by
        rw [neInt, decide_eq_true]
        simp
        omega
      simp only [isF_tup, pure_bind, asB_bl, Bool.not_true, Bool.false_eq_true, if_false, rr, run0_p, len_tup, List.length_map, nn, if_true]
      rfl
    · rfl
theorem shows13 (h : Net N) (r : Rep N ws) {d : D} (hd : d = dN N ∨ d ∈ ([.non, .int 0, .tup [], .lst [.tup []], .tup [.str "broken"], .tup [.str "none", .int 0]] : List D) ∨ d ∈ ODs) : ∃ b, f_shows_verdict (dN N) (tS ws) d = pure (.bl b) := by
  have h1 := h.lo
  have nr := need_report h r
  have spec : ∀ x : D, ncB x = true → ∃ b, f_shows_verdict (dN N) (tS ws) (.tup [.str "broken", x]) = pure (.bl b) := fun x hx => by
    have g1 : getD (.tup [.str "broken", x]) (.int 1) = pure x := rfl
    have rs := rising_any (n := N.length) hx
    have e : ∃ b, (asB (.bl (sB N.length x)) >>= fun b47 => if b47 = true then run0 (f_does_explain (dN N) (tS ws) x) else pure (D.bl false)) = (pure (.bl b) : PM D) := by
      rw [asB_bl, pure_bind]
      cases q : sB N.length x with
      | false => exact ⟨false, rfl⟩
      | true =>
        obtain ⟨B, rfl, hB⟩ := sB_iff.mp q
        exact ⟨fitB N ws B, by rw [if_pos rfl, does_ok h r B, run0_p]⟩
    obtain ⟨b, e⟩ := e
    refine ⟨b, ?_⟩
    have g0 : getD (.tup [.str "broken", x]) (.int 0) = pure (.str "broken") := rfl
    have fs : isF "str" (.str "broken") = pure (.bl true) := rfl
    have mk : ∀ f : Str → Int → PM D, matK f [.str "broken", .int (([D.str "broken", x].length : Nat) : Int)] = f "broken" 2 := fun _ => rfl
    have lt : ltD (.int (([D.str "broken", x].length : Nat) : Int)) (.int 2) = pure (.bl false) := rfl
    have cb : ((("broken" : Str) == ("broken" : Str)) && ((2 : Int) == 2)) = true := by decide
    simp only [f_shows_verdict, pure_bind, bind_assoc, fn2_eq, fn3_eq, nr, run0_p, isF_tup, asB_bl, Bool.not_true, Bool.false_eq_true, if_false, len_tup, lt, g0, fs, mk, cb, if_true, g1, List.length_map, rs, id]
    have e' := e
    rw [asB_bl, pure_bind] at e'
    simp only [e', pure_bind]
  have specN : ∀ z : D, z = .tup [] ∨ z = oN1 → ∃ b, f_shows_verdict (dN N) (tS ws) (.tup [.str "none", .int 0, z]) = pure (.bl b) := fun z hz => by
    refine ⟨false, ?_⟩
    have g0 : getD (.tup [.str "none", .int 0, z]) (.int 0) = pure (.str "none") := rfl
    have g1 : getD (.tup [.str "none", .int 0, z]) (.int 1) = pure (.int 0) := rfl
    have g2 : getD (.tup [.str "none", .int 0, z]) (.int 2) = pure z := rfl
    have fs : isF "str" (.str "none") = pure (.bl true) := rfl
    have mk : ∀ f : Str → Int → PM D, matK f [.str "none", .int (([D.str "none", .int 0, z].length : Nat) : Int)] = f "none" 3 := fun _ => rfl
    have lt : ltD (.int (([D.str "none", .int 0, z].length : Nat) : Int)) (.int 2) = pure (.bl false) := rfl
    have cb : ((("none" : Str) == ("broken" : Str)) && ((3 : Int) == 2)) = false := by decide
    have cn : ((("none" : Str) == ("none" : Str)) && ((3 : Int) == 3)) = true := by decide
    simp only [f_shows_verdict, pure_bind, bind_assoc, fn2_eq, fn4, nr, run0_p, isF_tup, asB_bl, Bool.not_true, Bool.false_eq_true, if_false, len_tup, lt, g0, g1, g2, fs, mk, cb, cn, if_true, rulers13 h r hz, id]
  have plain : ∀ d : D, (∀ a b : D, (isF "tuple" d >>= fun x => asB x >>= fun b6 => (if (!b6) = true then pure true else lenF [d] >>= fun x9 => ltD x9 (.int 2) >>= fun x => asB x >>= fun b14 => if b14 = true then pure true else getD d (.int 0) >>= fun x => isF "str" x >>= fun x => asB x >>= fun b13 => pure (!b13) : PM Bool)) = (pure true : PM Bool)) → ∃ b, f_shows_verdict (dN N) (tS ws) d = pure (.bl b) := fun d e => by
    refine ⟨false, ?_⟩
    have e := e .non .non
    have e2 : ∀ {β : Type} (kk : Bool → PM β), (isF "tuple" d >>= fun x => asB x >>= fun b6 => (if (!b6) = true then pure true else lenF [d] >>= fun x9 => ltD x9 (.int 2) >>= fun x => asB x >>= fun b14 => if b14 = true then pure true else getD d (.int 0) >>= fun x => isF "str" x >>= fun x => asB x >>= fun b13 => pure (!b13) : PM Bool) >>= kk) = kk true := fun kk => by
      have := congrArg (fun m : PM Bool => m >>= kk) e
      simp only [bind_assoc, pure_bind] at this
      exact this
    simp only [f_shows_verdict, pure_bind, bind_assoc, fn2_eq, nr, run0_p, id]
    rw [e2, if_pos rfl]
  rcases hd with rfl | hd | hd
  · refine plain _ fun _ _ => ?_
    have g0 : getD (dN N) (.int 0) = pure (tI (ix N 0)) := getT (f := tI) (by decide) (by omega)
    simp only [isF_tup, pure_bind, asB_bl, Bool.not_true, Bool.false_eq_true, if_false, len_tup, lt_int]
    by_cases q : (((N.map tI).length : Nat) : Int) < 2
    · rw [decide_eq_true q, if_pos rfl]
    · rw [decide_eq_false q, if_neg (by decide), g0]
      rfl
  · simp only [List.mem_cons, List.not_mem_nil, or_false] at hd
    rcases hd with rfl | rfl | rfl | rfl | rfl | rfl
    · exact plain _ fun _ _ => rfl
    · exact plain _ fun _ _ => rfl
    · exact plain _ fun _ _ => rfl
    · exact plain _ fun _ _ => rfl
    · exact plain _ fun _ _ => rfl
    · refine ⟨false, ?_⟩
      simp only [f_shows_verdict, pure_bind, bind_assoc, fn2_eq, nr, run0_p, id]
      rfl
  · simp only [ODs, List.mem_cons, List.not_mem_nil, or_false] at hd
    rcases hd with rfl | rfl | rfl | rfl | rfl | rfl | rfl | rfl | rfl | rfl | rfl | rfl | rfl | rfl | rfl | rfl | rfl | rfl | rfl | rfl | rfl | rfl | rfl | rfl | rfl | rfl | rfl | rfl | rfl | rfl | rfl | rfl | rfl | rfl | rfl
    all_goals first | (with_reducible refine spec _ ?_); rfl | (with_reducible refine specN _ (.inl ?_)); with_reducible rfl | (with_reducible refine specN _ (.inr ?_)); with_reducible rfl | (with_reducible refine plain _ ?_); exact fun _ _ => rfl
theorem open_list (ts : List Str) : ∃ r, (PySem.listText ts).cps.toList = 91 :: r := by
  rw [PySem.listText_eq_join]
  refine ⟨(Str.join ", " ts).cps.toList ++ ("]" : Str).cps.toList, ?_⟩
  show ((#[91] ++ (Str.join ", " ts).cps) ++ ("]" : Str).cps).toList = _
  simp
theorem noMk_lst (xs : List D) : NoMk (shown (.lst xs)) ↔ (shown (.lst xs)).length ≤ lim := by
  constructor
  · exact fun h => h.2
  · intro hl
    have : ∃ r, (shown (.lst xs)).cps.toList = 91 :: r := by
      show ∃ r, (PyData.shown (toPy (.lst xs))).cps.toList = 91 :: r
      simp only [toPy, PyData.shown]
      exact open_list _
    obtain ⟨r, e⟩ := this
    refine ⟨?_, hl⟩
    have ln : (shown (.lst xs)).length = r.length + 1 := by
      have q := congrArg List.length e
      rw [Array.length_toList] at q
      exact q
    have c : L2.cutS (shown (.lst xs)) none (some 1) = ⟨#[91]⟩ := by
      unfold L2.cutS
      have e1 : HT.sIx (shown (.lst xs)).length (shown (.lst xs)).length (some 1) = 1 := by
        have q := HT.sIx_nat (shown (.lst xs)).length (shown (.lst xs)).length 1
        rw [show ((1 : Nat) : Int) = 1 from rfl] at q
        rw [q, ln]
        omega
      rw [e1, e]
      rfl
    rw [c]
    decide +kernel
theorem noMk_int {n : Nat} (h : n ≤ 256) : NoMk (shown (.int n)) := by
  have z : ∀ k : Fin 257, ((L2.cutS (shown (.int (k.val : Int))) none (some 1) == ("!" : Str)) = false ∧ (shown (.int (k.val : Int))).length ≤ 1000) := by decide +kernel
  have := z ⟨n, by omega⟩
  exact ⟨this.1, Nat.le_trans this.2 (by show 1000 ≤ 1000000; decide)⟩
end
theorem is_net9 {xs : List D} (h : 9 ≤ xs.length) : f_is_net (.tup xs) = pure (.bl false) := by
  simp only [f_is_net, pure_bind, bind_assoc, isF_tup, asB_bl, Bool.not_true, Bool.false_eq_true, if_false, len_tup, le_int, id]
  rw [decide_eq_true (show (1 : Int) ≤ xs.length by omega), if_pos rfl, pure_bind, decide_eq_false (show ¬ ((xs.length : Int) ≤ 8) by omega)]
  rfl
theorem lls_net : ∀ d ∈ LLs, run0 (f_is_net d) = pure (.bl false) := fun d m => by
  simp only [LLs, List.mem_cons, List.not_mem_nil, or_false] at m
  rcases m with rfl | rfl | rfl | rfl | rfl | rfl
  · rw [is_net9 (by rw [List.length_replicate]; decide), run0_p]
  · rw [is_net9 (by rw [List.length_map, len_iota]; decide), run0_p]
  · rw [is_net9 (by rw [List.length_replicate]; decide), run0_p]
  · rw [is_net9 (by rw [List.length_replicate]; decide), run0_p]
  · exact isFls_run (by decide +kernel)
  · rfl
theorem nets_eq : run0 (f_law_no_nets) = pure (.lst (outM f_law_no_nets)) := run0_at (m := f_law_no_nets) (a := .lst (outM f_law_no_nets)) (s := []) (by kernel_rfl)
theorem nets_chk : ((outM f_law_no_nets).all fun d => isFls (f_is_net d)) = true := by kernel_rfl
theorem nets_len : decide ((outM f_law_no_nets).length ≤ 100) = true := by kernel_rfl
def chkR (n a : Nat) : Bool := match f_law_no_reports (.int n) (.int a) [] with
  | .ok (.lst xs) _ => decide (xs.length ≤ 100) && xs.all (fun d => isFls (f_is_report (.tup (List.replicate n .non)) d))
  | _ => false
theorem reps_chk : ((List.range 8).all fun n => (List.range (n + 1)).all fun a => chkR (n + 1) a) = true := by kernel_rfl
section
variable {N : Nt}
theorem reps_ok (h : Net N) {c : Int} (c0 : 0 ≤ c) (c1 : c < N.length) : ∃ xs : List D, run0 (f_law_no_reports (.int N.length) (.int c)) = pure (.lst xs) ∧ xs.length ≤ 100 ∧ ∀ d ∈ xs, run0 (f_is_report (dN N) d) = pure (.bl false) := by
  have h8 := h.hi
  have h1 := h.lo
  have e := List.all_eq_true.mp (List.all_eq_true.mp reps_chk (N.length - 1) (List.mem_range.mpr (by omega))) c.toNat (List.mem_range.mpr (by omega))
  rw [show N.length - 1 + 1 = N.length by omega] at e
  unfold chkR at e
  rw [show ((c.toNat : Nat) : Int) = c by omega] at e
  split at e
  · rename_i xs s q
    rw [Bool.and_eq_true, decide_eq_true_eq, List.all_eq_true] at e
    refine ⟨xs, run0_at q, e.1, fun d m => ?_⟩
    rw [isrep_len (ys := List.replicate N.length .non) (by rw [List.length_map, List.length_replicate])]
    exact isFls_run (e.2 d m)
  · cases e
theorem rep_long (h : Net N) {xs : List D} (hl : 9 ≤ xs.length) : run0 (f_is_report (dN N) (.tup xs)) = pure (.bl false) := by
  have h8 := h.hi
  simp only [f_is_report, pure_bind, bind_assoc, isF_tup, asB_bl, if_true, len_tup, List.length_map, eqInt, id]
  rw [decide_eq_false (by omega)]
  rfl
theorem dp_chk : ((List.range 8).all fun n => isFls (f_is_report (.tup (List.replicate (n + 1) .non)) (dpD 19))) = true := by kernel_rfl
theorem lls_rep (h : Net N) : ∀ d ∈ LLs, run0 (f_is_report (dN N) d) = pure (.bl false) := fun d m => by
  have h8 := h.hi
  have h1 := h.lo
  simp only [LLs, List.mem_cons, List.not_mem_nil, or_false] at m
  rcases m with rfl | rfl | rfl | rfl | rfl | rfl
  · exact rep_long h (by rw [List.length_replicate]; decide)
  · exact rep_long h (by rw [List.length_map, len_iota]; decide)
  · exact rep_long h (by rw [List.length_replicate]; decide)
  · exact rep_long h (by rw [List.length_replicate]; decide)
  · have e := List.all_eq_true.mp dp_chk (N.length - 1) (List.mem_range.mpr (by omega))
    rw [show N.length - 1 + 1 = N.length by omega] at e
    rw [isrep_len (ys := List.replicate N.length .non) (by rw [List.length_map, List.length_replicate])]
    exact isFls_run e
  · rfl
/-- the lists, in the first lap with the long ones -/
theorem with_long {y : Int} {xs : List D} (hl : xs.length ≤ 100) : ∃ Z : List D, (∀ {β : Type} (kk : D → PM β), (run0 f_law_long >>= fun x76 => eqD (.int y) (.int 0) >>= fun d74 => intF [d74] >>= fun x77 => mulL x76 x77 >>= fun x79 => addD (.lst xs) x79 >>= kk) = kk (.lst (xs ++ Z))) ∧ ∀ d ∈ Z, d ∈ LLs := by
  have el : run0 f_law_long = pure (.lst LLs) := by
    rw [long_eq]
    rfl
  by_cases q : y = 0
  · refine ⟨LLs, fun kk => ?_, fun _ m => m⟩
    have em : mulL (.lst LLs) (.int 1) = pure (.lst LLs) := by
      show (if -(2 ^ 63) ≤ (1 : Int) ∧ (1 : Int) < 2 ^ 63 ∧ LLs.length * (1 : Int).toNat ≤ lim then mkL (repD 1 LLs) else bad : PM D) = _
      rw [if_pos ⟨by decide, by decide, by decide⟩]
      rfl
    have ei : intF [.bl true] = pure (.int 1) := rfl
    rw [el, pure_bind, eqInt, pure_bind, decide_eq_true q, ei, pure_bind, em, pure_bind, addL (by rw [LLs_len]; show _ ≤ 1000000; omega), pure_bind]
  · refine ⟨[], fun kk => ?_, fun _ m => (nomatch m)⟩
    have em : mulL (.lst LLs) (.int 0) = pure (.lst []) := by
      show (if -(2 ^ 63) ≤ (0 : Int) ∧ (0 : Int) < 2 ^ 63 ∧ LLs.length * (0 : Int).toNat ≤ lim then mkL (repD 0 LLs) else bad : PM D) = _
      rw [if_pos ⟨by decide, by decide, by decide⟩]
      rfl
    have ei : intF [.bl false] = pure (.int 0) := rfl
    rw [el, pure_bind, eqInt, pure_bind, decide_eq_false q, ei, pure_bind, em, pure_bind, addL (by rw [List.length_nil]; show _ ≤ 1000000; omega), pure_bind]
end
section
variable {N : Nt} {ws : List Str}
theorem words_right (h : Net N) (r : Rep N ws) {d : D} (hd : d = dN N ∨ d ∈ ([.non, .int 0, .tup [], .lst [.tup []], .tup [.str "broken"], .tup [.str "none", .int 0]] : List D) ∨ d ∈ ODs) :
    ∃ (w1 w2 w4 w5 : Str) (b : Bool), f_law_words (dN N) (tS ws) d = pure (.lst [.str w1, .str w2, .str (shown (.bl b)), .str w4, .str w5]) ∧ NoMk w1 ∧ NoMk w2 ∧ NoMk w4 ∧ NoMk w5 := by
  obtain ⟨v, ev, sv, xs, ex⟩ := verdict13 h r
  obtain ⟨b, eb⟩ := shows13 h r hd
  have l256 := everyL_len h ws
  have s1 : Sm 1 8 (tI (candL N ws)) := set_sm h.hi _
  have s4 : Sm 2 2304 (D.lst ((everyL N ws).map tI)) := .lst (c := 8) (fun x m => by
    obtain ⟨B, mB, rfl⟩ := List.mem_map.mp m
    exact rising_sm h.hi (mem_every.mp mB).1) (by rw [List.length_map]; omega)
  have s5 : Sm 0 0 (D.int ((everyL N ws).length : Int)) := .int (by omega) (by omega)
  have e4 : f_explanations (dN N) (tS ws) = pure ((everyL N ws).map tI) := by
    simp only [f_explanations, pure_bind, bind_assoc, fn2_eq, need_report h r, explanations_of h r, run0_p, items_lst]
    exact okL_ok (by rw [List.length_map]; show _ ≤ 1000000; omega)
  have em : (onlyE ["NetError", "ReportError"] (run0 (f_explanations (dN N) (tS ws))) >>= mkL) = pure (D.lst ((everyL N ws).map tI)) := by
    rw [e4]
    show (onlyE _ (pure ((everyL N ws).map tI)) >>= mkL) = _
    rw [onlyE_ok, pure_bind]
    exact mkL_ok (by rw [List.length_map]; show _ ≤ 1000000; omega)
  refine ⟨shown (tI (candL N ws)), shown v, shown (.lst ((everyL N ws).map tI)), shown (.int ((everyL N ws).length : Int)), b, words_all (candidates_ok h r) ev eb em (how_many h r) (by rw [run0_p]; exact said_ok _ s1) (by rw [run0_p]; exact said_ok _ sv) (by rw [run0_p]; exact said_ok _ (Sm.bl (h := 0) (b := 0) b)) (said_ok _ s4) (by rw [run0_p]; exact said_ok _ s5),
    noMk_open (open_tup _) (shownLe s1), ?_, (noMk_lst _).mpr (shownLe s4), noMk_int l256⟩
  have l := shownLe sv
  rw [ex] at l ⊢
  exact noMk_open (open_tup _) l
end
theorem law_true (ns : List Int) (hn : ns.length ≤ 63) : ∃ s, fn0 (f_law ns) [] [] = .ok (.bl true) s := by
  refine ok_end ?_
  show Ok (f_law ns) [] _
  have nl := of_decide_eq_true nets_len
  have ea : addD (.lst (outM f_law_no_nets)) (.lst LLs) = pure (.lst (outM f_law_no_nets ++ LLs)) := addL (by rw [LLs_len]; show _ ≤ 1000000; omega)
  have el : run0 f_law_long = pure (.lst LLs) := by
    rw [long_eq]
    rfl
  have w5 : ∀ w : Str, addD (.lst [.str w, .str w, .str w, .str w, .str w]) (.lst [.str w, .str w, .str w, .str w, .str w]) = pure (.lst [.str w, .str w, .str w, .str w, .str w, .str w, .str w, .str w, .str w, .str w]) := fun _ => rfl
  have mr : mulL (.lst [D.str "! net"]) (.int 10) = pure (.lst [.str "! net", .str "! net", .str "! net", .str "! net", .str "! net", .str "! net", .str "! net", .str "! net", .str "! net", .str "! net"]) := by kernel_rfl
  have nr : ∀ s, neD (.lst [.str "! net", .str "! net", .str "! net", .str "! net", .str "! net", .str "! net", .str "! net", .str "! net", .str "! net", .str "! net"]) (.lst [.str "! net", .str "! net", .str "! net", .str "! net", .str "! net", .str "! net", .str "! net", .str "! net", .str "! net", .str "! net"]) s = (pure (.bl false) : PM D) s := fun s => by kernel_rfl
  have e1 : ∀ w : Str, mkL [D.str w] = pure (.lst [.str w]) := fun _ => rfl
  have eT1 : ∀ a : D, mkT [a] = pure (.tup [a]) := fun _ => rfl
  simp only [f_law, bind_assoc, pure_bind, fn0, fn1_eq, fn2_eq, fn3_eq, nets_eq, el, ea, items_lst, eT1, id]
  rw [forL_goD (fun d md => by
    have hz : run0 (f_is_net d) = pure (.bl false) := by
      rcases List.mem_append.mp md with m | m
      · exact isFls_run (List.all_eq_true.mp nets_chk d m)
      · exact lls_net d m
    simp only [words_net hz, run0_p, pure_bind, w5, e1, mr, funext nr, asB_bl, Bool.false_eq_true, if_false]), pure_bind]
  show Ok _ [] _
  refine law_frame (L := 3) (t := 300) (by decide) (by decide) fun y my j s hj pj => ?_
  refine Ok.bind ((net pj (by omega)).imp fun d s1 ⟨p1, N, h, e⟩ => ?_)
  subst e
  have h8 := h.hi
  have h1 := h.lo
  simp only [len_tup, List.length_map, pure_bind]
  refine Ok.bind ((draw p1 (by omega) h1 (by omega)).imp fun d s2 ⟨p2, c, e, c0, c1⟩ => ?_)
  subst e
  obtain ⟨xs, ex, xl, hx⟩ := reps_ok h c0 c1
  obtain ⟨Z, eZ, hZ⟩ := with_long (y := y) xl
  have mr : mulL (.lst [D.str "! report"]) (.int 5) = pure (.lst [.str "! report", .str "! report", .str "! report", .str "! report", .str "! report"]) := by kernel_rfl
  have nr : ∀ s, neD (.lst [.str "! report", .str "! report", .str "! report", .str "! report", .str "! report"]) (.lst [.str "! report", .str "! report", .str "! report", .str "! report", .str "! report"]) s = (pure (.bl false) : PM D) s := fun s => by kernel_rfl
  have eT0 : mkT [] = pure (.tup []) := rfl
  have eL0 : mkL [] = pure (.lst []) := rfl
  rw [ex, pure_bind, el] at *
  have eZ' := fun {β : Type} (kk : D → PM β) => eZ kk
  simp only [el, pure_bind] at eZ'
  rw [eZ', items_lst, pure_bind]
  rw [forL_goD (fun d md => by
    have hz : run0 (f_is_report (dN N) d) = pure (.bl false) := by
      rcases List.mem_append.mp md with m | m
      · exact hx d m
      · exact lls_rep h d (hZ d m)
    simp only [eT0, mkT2, pure_bind, words_rep h hz, run0_p, e1, mr, funext nr, asB_bl, Bool.false_eq_true, if_false]), pure_bind]
  simp only [lpK]
  refine Ok.bind ((report h p2 (by omega)).imp fun d s3 ⟨p3, ws, r, e⟩ => ?_)
  subst e
  have eL1 : ∀ a : D, mkL [a] = pure (.lst [a]) := fun _ => rfl
  simp only [eT0, eL1, eT1, mkT2, pure_bind]
  refine Ok.bind ((odd_mem p3 (by omega)).imp fun o1 s4 ⟨p4, m1⟩ => ?_)
  refine Ok.bind ((odd_mem p4 (by omega)).imp fun o2 s5 ⟨p5, m2⟩ => ?_)
  have eL9 : ∀ a b c d e f g h i : D, mkL [a, b, c, d, e, f, g, h, i] = pure (.lst [a, b, c, d, e, f, g, h, i]) := fun _ _ _ _ _ _ _ _ _ => rfl
  have n0 : neD (.lst []) (.lst []) = pure (.bl false) := by kernel_rfl
  have tf : ∀ b : Bool, notInD (.str (shown (.bl b))) (.tup [.str "True", .str "False"]) = pure (.bl false) := fun b => by
    cases b <;> kernel_rfl
  simp only [eL9, pure_bind, items_lst]
  rw [forL_goD (fun d md => by
    have hd : d = dN N ∨ d ∈ ([.non, .int 0, .tup [], .lst [.tup []], .tup [.str "broken"], .tup [.str "none", .int 0]] : List D) ∨ d ∈ ODs := by
      simp only [List.mem_cons, List.not_mem_nil, or_false] at md
      rcases md with rfl | rfl | rfl | rfl | rfl | rfl | rfl | rfl | rfl
      · exact .inr (.inl (by simp))
      · exact .inr (.inl (by simp))
      · exact .inl rfl
      · exact .inr (.inl (by simp))
      · exact .inr (.inl (by simp))
      · exact .inr (.inl (by simp))
      · exact .inr (.inl (by simp))
      · exact .inr (.inr m1)
      · exact .inr (.inr m2)
    obtain ⟨w1, w2, w4, w5, b, ew, k1, k2, k4, k5⟩ := words_right h r hd
    have em := no_marksN (zs := [w1, w2, shown (.bl b), w4, w5]) (fun z mz => by
      simp only [List.mem_cons, List.not_mem_nil, or_false] at mz
      rcases mz with rfl | rfl | rfl | rfl | rfl
      · exact k1
      · exact k2
      · exact noMk_bl b
      · exact k4
      · exact k5) (by show 5 ≤ 1000000; decide)
    simp only [List.map_cons, List.map_nil] at em
    have g2 : getD (.lst [.str w1, .str w2, .str (shown (.bl b)), .str w4, .str w5]) (.int 2) = pure (.str (shown (.bl b))) := rfl
    have eA : asI (.int 1) = pure (some 1) := rfl
    simp only [ew, run0_p, pure_bind, items_lst, eA, em, eL0, n0, asB_bl, Bool.false_eq_true, if_false, g2, mkT2, tf]), pure_bind]
  exact Ok.pure ⟨rfl, p5.mono (by omega)⟩
end Lw
section
set_option maxHeartbeats 4000000
namespace Lw
open PySem PySem.Spec PyProof.Rows L2 EV
def topS (i : Nat) : Stmt := PySem.Challenge.pw_rootalarms_k13_reports_refused.main.body.getD i (.Pass ⟨0, 0, 0, 0⟩)
abbrev s_law_cell_at : Stmt := topS 63
theorem sc_law_cell_at : FnScope ["_law_script", "_law_k"] ["_law_script", "_law_k"] (defScope s_law_cell_at) := ⟨rfl, rfl, rfl, by decide +kernel, rfl, by decide +kernel, by decide +kernel⟩
abbrev s_law_draw : Stmt := topS 65
theorem sc_law_draw : FnScope ["_law_pen_here", "_law_many", "_law_digit", "_law_stir"] ["_law_pen_here", "_law_many"] (defScope s_law_draw) := ⟨rfl, rfl, rfl, by decide +kernel, rfl, by decide +kernel, by decide +kernel⟩
abbrev s_law_long : Stmt := topS 80
theorem sc_law_long : FnScope ["_law_deep", "_law_turn"] [] (defScope s_law_long) := ⟨rfl, rfl, rfl, by decide +kernel, rfl, by decide +kernel, by decide +kernel⟩
abbrev s_law_pick : Stmt := topS 66
theorem sc_law_pick : FnScope ["_law_pen_here", "_law_things"] ["_law_pen_here", "_law_things"] (defScope s_law_pick) := ⟨rfl, rfl, rfl, by decide +kernel, rfl, by decide +kernel, by decide +kernel⟩
abbrev s_law_net : Stmt := topS 67
theorem sc_law_net : FnScope ["_law_pen_here", "_law_size", "_law_way", "_law_share", "_law_net_here", "_law_component", "_law_others", "_law_own", "_law_other"] ["_law_pen_here"] (defScope s_law_net) := ⟨rfl, rfl, rfl, by decide +kernel, rfl, by decide +kernel, by decide +kernel⟩
abbrev s_is_between : Stmt := topS 15
theorem sc_is_between : FnScope ["thing", "low", "high"] ["thing", "low", "high"] (defScope s_is_between) := ⟨rfl, rfl, rfl, by decide +kernel, rfl, by decide +kernel, by decide +kernel⟩
abbrev s_is_rising : Stmt := topS 16
theorem sc_is_rising : FnScope ["size", "thing", "one", "later"] ["size", "thing"] (defScope s_is_rising) := ⟨rfl, rfl, rfl, by decide +kernel, rfl, by decide +kernel, by decide +kernel⟩
abbrev s_is_net : Stmt := topS 17
theorem sc_is_net : FnScope ["thing", "component", "needs"] ["thing"] (defScope s_is_net) := ⟨rfl, rfl, rfl, by decide +kernel, rfl, by decide +kernel, by decide +kernel⟩
abbrev s_Net_init : Stmt := (clsBody (topS 57)).getD 0 (.Pass ⟨0, 0, 0, 0⟩)
theorem sc_Net_init : FnScope ["self", "needs"] ["self", "needs"] (defScope s_Net_init) := ⟨rfl, rfl, rfl, by decide +kernel, rfl, by decide +kernel, by decide +kernel⟩
abbrev s_is_word : Stmt := topS 32
theorem sc_is_word : FnScope ["thing"] ["thing"] (defScope s_is_word) := ⟨rfl, rfl, rfl, by decide +kernel, rfl, by decide +kernel, by decide +kernel⟩
abbrev s_is_report : Stmt := topS 33
theorem sc_is_report : FnScope ["net", "thing", "word"] ["net", "thing"] (defScope s_is_report) := ⟨rfl, rfl, rfl, by decide +kernel, rfl, by decide +kernel, by decide +kernel⟩
abbrev s_need_start : Stmt := topS 59
theorem sc_need_start : FnScope ["net", "report"] ["net", "report"] (defScope s_need_start) := ⟨rfl, rfl, rfl, by decide +kernel, rfl, by decide +kernel, by decide +kernel⟩
abbrev s_Watch_init : Stmt := (clsBody (topS 61)).getD 1 (.Pass ⟨0, 0, 0, 0⟩)
theorem sc_Watch_init : FnScope ["self", "net", "report"] ["self", "net", "report"] (defScope s_Watch_init) := ⟨rfl, rfl, rfl, by decide +kernel, rfl, by decide +kernel, by decide +kernel⟩
abbrev s_law_no_nets : Stmt := topS 77
theorem sc_law_no_nets : FnScope ["_law_plain", "_law_found"] [] (defScope s_law_no_nets) := ⟨rfl, rfl, rfl, by decide +kernel, rfl, by decide +kernel, by decide +kernel⟩
abbrev s_law_no_reports : Stmt := topS 78
theorem sc_law_no_reports : FnScope ["_law_size", "_law_at", "_law_plain", "_law_found", "_law_word"] ["_law_size", "_law_at"] (defScope s_law_no_reports) := ⟨rfl, rfl, rfl, by decide +kernel, rfl, by decide +kernel, by decide +kernel⟩
abbrev s_law_odd : Stmt := topS 74
theorem sc_law_odd : FnScope ["_law_pen_here", "_law_some", "_law_one", "_law_watch"] ["_law_pen_here"] (defScope s_law_odd) := ⟨rfl, rfl, rfl, by decide +kernel, rfl, by decide +kernel, by decide +kernel⟩
abbrev s_law_pen : Stmt := topS 64
theorem sc_law_pen : FnScope ["_law_cell"] ["_law_cell"] (defScope s_law_pen) := ⟨rfl, rfl, rfl, by decide +kernel, rfl, by decide +kernel, by decide +kernel⟩
abbrev s_law_have : Stmt := topS 69
theorem sc_law_have : FnScope ["_law_one", "_law_other", "_law_thing"] ["_law_one", "_law_other"] (defScope s_law_have) := ⟨rfl, rfl, rfl, by decide +kernel, rfl, by decide +kernel, by decide +kernel⟩
abbrev s_law_reach : Stmt := topS 68
theorem sc_law_reach : FnScope ["_law_net_here", "_law_component", "_law_found", "_law_turn", "_law_other", "_law_one"] ["_law_net_here", "_law_component"] (defScope s_law_reach) := ⟨rfl, rfl, rfl, by decide +kernel, rfl, by decide +kernel, by decide +kernel⟩
abbrev s_law_alarming : Stmt := topS 70
theorem sc_law_alarming : FnScope ["_law_net_here", "_law_broken", "_law_one"] ["_law_net_here", "_law_broken"] (defScope s_law_alarming) := ⟨rfl, rfl, rfl, by decide +kernel, rfl, by decide +kernel, by decide +kernel⟩
abbrev s_law_seen : Stmt := topS 72
theorem sc_law_seen : FnScope ["_law_net_here", "_law_broken", "_law_watched", "_law_alarming_here", "_law_found", "_law_one", "_law_word"] ["_law_net_here", "_law_broken", "_law_watched"] (defScope s_law_seen) := ⟨rfl, rfl, rfl, by decide +kernel, rfl, by decide +kernel, by decide +kernel⟩
abbrev s_law_set : Stmt := topS 71
theorem sc_law_set : FnScope ["_law_pen_here", "_law_size", "_law_share", "_law_one"] ["_law_pen_here", "_law_size"] (defScope s_law_set) := ⟨rfl, rfl, rfl, by decide +kernel, rfl, by decide +kernel, by decide +kernel⟩
abbrev s_law_report : Stmt := topS 73
theorem sc_law_report : FnScope ["_law_pen_here", "_law_net_here", "_law_way", "_law_size", "_law_found", "_law_at", "_law_one"] ["_law_pen_here", "_law_net_here"] (defScope s_law_report) := ⟨rfl, rfl, rfl, by decide +kernel, rfl, by decide +kernel, by decide +kernel⟩
abbrev s_reach_of : Stmt := topS 21
theorem sc_reach_of : FnScope ["net", "component", "found", "at", "needed"] ["net", "component"] (defScope s_reach_of) := ⟨rfl, rfl, rfl, by decide +kernel, rfl, by decide +kernel, by decide +kernel⟩
abbrev s_all_reaches : Stmt := topS 22
theorem sc_all_reaches : FnScope ["net", "component"] ["net"] (defScope s_all_reaches) := ⟨rfl, rfl, rfl, by decide +kernel, rfl, by decide +kernel, by decide +kernel⟩
abbrev s_with_word : Stmt := topS 35
theorem sc_with_word : FnScope ["report", "word", "component", "own"] ["report", "word"] (defScope s_with_word) := ⟨rfl, rfl, rfl, by decide +kernel, rfl, by decide +kernel, by decide +kernel⟩
abbrev s_candidates_of : Stmt := topS 36
theorem sc_candidates_of : FnScope ["net", "report", "reaches", "quiet", "one", "other"] ["net", "report"] (defScope s_candidates_of) := ⟨rfl, rfl, rfl, by decide +kernel, rfl, by decide +kernel, by decide +kernel⟩
abbrev s_need_net : Stmt := topS 18
theorem sc_need_net : FnScope ["thing"] ["thing"] (defScope s_need_net) := ⟨rfl, rfl, rfl, by decide +kernel, rfl, by decide +kernel, by decide +kernel⟩
abbrev s_need_report : Stmt := topS 34
theorem sc_need_report : FnScope ["net", "thing"] ["net", "thing"] (defScope s_need_report) := ⟨rfl, rfl, rfl, by decide +kernel, rfl, by decide +kernel, by decide +kernel⟩
abbrev s_candidates : Stmt := topS 37
theorem sc_candidates : FnScope ["net", "report"] ["net", "report"] (defScope s_candidates) := ⟨rfl, rfl, rfl, by decide +kernel, rfl, by decide +kernel, by decide +kernel⟩
abbrev s_do_meet : Stmt := topS 23
theorem sc_do_meet : FnScope ["one", "other", "thing"] ["one", "other"] (defScope s_do_meet) := ⟨rfl, rfl, rfl, by decide +kernel, rfl, by decide +kernel, by decide +kernel⟩
abbrev s_needed_of : Stmt := topS 38
theorem sc_needed_of : FnScope ["net", "report", "some", "found", "component", "one"] ["net", "report"] (defScope s_needed_of) := ⟨rfl, rfl, rfl, by decide +kernel, rfl, by decide +kernel, by decide +kernel⟩
abbrev s_subsets_of : Stmt := topS 47
theorem sc_subsets_of : FnScope ["things", "found", "thing", "row"] ["things"] (defScope s_subsets_of) := ⟨rfl, rfl, rfl, by decide +kernel, rfl, by decide +kernel, by decide +kernel⟩
abbrev s_explanations_of : Stmt := topS 48
theorem sc_explanations_of : FnScope ["net", "report", "needed", "some", "one"] ["net", "report"] (defScope s_explanations_of) := ⟨rfl, rfl, rfl, by decide +kernel, rfl, by decide +kernel, by decide +kernel⟩
abbrev s_explanations : Stmt := topS 49
theorem sc_explanations : GScope ["net", "report", "broken"] ["net", "report"] (defScope s_explanations) := ⟨rfl, rfl, rfl, by decide +kernel, rfl, by decide +kernel, by decide +kernel⟩
abbrev s_how_many : Stmt := topS 50
theorem sc_how_many : FnScope ["net", "report"] ["net", "report"] (defScope s_how_many) := ⟨rfl, rfl, rfl, by decide +kernel, rfl, by decide +kernel, by decide +kernel⟩
abbrev s_rulers_of : Stmt := topS 40
theorem sc_rulers_of : FnScope ["net", "report", "component", "other"] ["net", "report", "component"] (defScope s_rulers_of) := ⟨rfl, rfl, rfl, by decide +kernel, rfl, by decide +kernel, by decide +kernel⟩
abbrev s_are_rulers : Stmt := topS 45
theorem sc_are_rulers : FnScope ["net", "report", "alarm", "quiets", "own", "one", "quiet"] ["net", "report", "alarm", "quiets"] (defScope s_are_rulers) := ⟨rfl, rfl, rfl, by decide +kernel, rfl, by decide +kernel, by decide +kernel⟩
abbrev s_alarms_of : Stmt := topS 24
theorem sc_alarms_of : FnScope ["net", "broken", "component", "own"] ["net", "broken"] (defScope s_alarms_of) := ⟨rfl, rfl, rfl, by decide +kernel, rfl, by decide +kernel, by decide +kernel⟩
abbrev s_does_explain : Stmt := topS 44
theorem sc_does_explain : FnScope ["net", "report", "broken", "alarming", "component", "word"] ["net", "report", "broken"] (defScope s_does_explain) := ⟨rfl, rfl, rfl, by decide +kernel, rfl, by decide +kernel, by decide +kernel⟩
abbrev s_shows_verdict : Stmt := topS 46
theorem sc_shows_verdict : FnScope ["net", "report", "thing"] ["net", "report", "thing"] (defScope s_shows_verdict) := ⟨rfl, rfl, rfl, by decide +kernel, rfl, by decide +kernel, by decide +kernel⟩
abbrev s_is_explained : Stmt := topS 39
theorem sc_is_explained : FnScope ["net", "report"] ["net", "report"] (defScope s_is_explained) := ⟨rfl, rfl, rfl, by decide +kernel, rfl, by decide +kernel, by decide +kernel⟩
abbrev s_ruled_out : Stmt := topS 41
theorem sc_ruled_out : FnScope ["net", "report", "some", "alarm", "one"] ["net", "report"] (defScope s_ruled_out) := ⟨rfl, rfl, rfl, by decide +kernel, rfl, by decide +kernel, by decide +kernel⟩
abbrev s_verdict_of : Stmt := topS 42
theorem sc_verdict_of : FnScope ["net", "report", "alarm", "quiets"] ["net", "report"] (defScope s_verdict_of) := ⟨rfl, rfl, rfl, by decide +kernel, rfl, by decide +kernel, by decide +kernel⟩
abbrev s_verdict : Stmt := topS 43
theorem sc_verdict : FnScope ["net", "report"] ["net", "report"] (defScope s_verdict) := ⟨rfl, rfl, rfl, by decide +kernel, rfl, by decide +kernel, by decide +kernel⟩
abbrev s_law_words : Stmt := topS 79
theorem sc_law_words : FnScope ["_law_net_here", "_law_report_here", "_law_thing", "_law_words_here"] ["_law_net_here", "_law_report_here", "_law_thing"] (defScope s_law_words) := ⟨rfl, rfl, rfl, by decide +kernel, rfl, by decide +kernel, by decide +kernel⟩
abbrev s_law : Stmt := topS 81
theorem sc_law : FnScope ["_law_script", "_law_bad", "_law_words_here", "_law_k", "_law_pen_here", "_law_lap", "_law_net_here", "_law_at", "_law_report_here", "_law_thing", "_law_word"] ["_law_script"] (defScope s_law) := ⟨rfl, rfl, rfl, by decide +kernel, rfl, by decide +kernel, by decide +kernel⟩
abbrev s_law_said : Stmt := topS 76
theorem sc_law_said : FnScope ["_law_call", "_law_e"] ["_law_call"] (defScope s_law_said) := ⟨rfl, rfl, rfl, by decide +kernel, rfl, by decide +kernel, by decide +kernel⟩
abbrev s_law_kind : Stmt := topS 75
theorem sc_law_kind : FnScope ["_law_e", "_law_marks", "_law_words_here"] ["_law_e"] (defScope s_law_kind) := ⟨rfl, rfl, rfl, by decide +kernel, rfl, by decide +kernel, by decide +kernel⟩
abbrev s_fit : Stmt := (clsBody (topS 61)).getD 9 (.Pass ⟨0, 0, 0, 0⟩)
theorem sc_fit : FnScope ["self", "report"] ["self", "report"] (defScope s_fit) := ⟨rfl, rfl, rfl, by decide +kernel, rfl, by decide +kernel, by decide +kernel⟩
section
variable {P : Program} {w : World} {K : PySem.W.Frag} {mg : Str → Option Value} {base : Heap}
theorem q_kind (B : Bn mg) (hV : mg "ValueError" = none) {CA : Addr} {f : Addr} {fd : FuncData} (FU : Fun K "_law_kind" "_law_kind" s_law_kind f fd) : FnQ P w K mg base 31 f fd ["_law_e"] (spK "nothing" K mg CA) := by
  refine fn_q (N := ["_law_e", "_law_marks", "_law_words_here"]) (k := 30) FU sc_law_kind (fun p vs H Q h => by obtain ⟨D, j, hj, rfl, _⟩ := h; rfl) (fun cdv A outer s H vs Q p hr h => ?_)
  obtain ⟨D, j, hj, rfl, hz, hf, ej, hQ⟩ := h
  have hE : HotE (cxQ P w K mg base ["_law_e", "_law_marks", "_law_words_here"] "_law_kind" (defScope s_law_kind) f cdv A outer s H p) p.1 D p.2 := ⟨List.mem_cons_self, ej.cls, hz, hf, ⟨_, rfl, .inl rfl⟩⟩
  obtain ⟨C0, m0, k0⟩ := ej.is 0 _ rfl
  obtain ⟨C1, m1, k1⟩ := ej.is 1 _ rfl
  obtain ⟨C2, m2, k2⟩ := ej.is 2 _ rfl
  obtain ⟨C3, m3, k3⟩ := ej.is 3 _ rfl
  obtain ⟨C4, m4, k4⟩ := ej.is 4 _ rfl
  obtain ⟨C5, m5, k5⟩ := ej.is 5 _ rfl
  obtain ⟨C6, m6, k6⟩ := ej.is 6 _ rfl
  obtain ⟨C7, m7, k7⟩ := ej.is 7 _ rfl
  obtain ⟨C8, m8, k8⟩ := ej.is 8 _ rfl
  obtain ⟨C9, m9, k9⟩ := ej.is 9 _ rfl
  have hu := hr.un
  exact ⟨_, pss_kind (e := "_law_e") (q35 := ⟨0, 0, 0, 0⟩) (k12 := 0) (k13 := 0) (k14 := 0) (w8 := "nothing") hj (show (A.deeper (envOfC "_law_kind" (defScope s_law_kind) s.heap.objs.size f cdv)).units + 65 < cLine from by omega) sc_law_kind.nd rfl rfl (.inl rfl) (.inl rfl) (.inl rfl) (.inl rfl) (pe_isi (c := "NetError") hE rfl (.inl rfl) rfl B.isinstance rfl m0 k0) (pe_isi (c := "ComponentError") hE rfl (.inl rfl) rfl B.isinstance rfl m1 k1) (pe_isi (c := "SetError") hE rfl (.inl rfl) rfl B.isinstance rfl m2 k2) (pe_isi (c := "ReportError") hE rfl (.inl rfl) rfl B.isinstance rfl m3 k3) (pe_isi (c := "WordError") hE rfl (.inl rfl) rfl B.isinstance rfl m4 k4) (pe_isi (c := "NumberError") hE rfl (.inl rfl) rfl B.isinstance rfl m5 k5) (pe_isi (c := "TextError") hE rfl (.inl rfl) rfl B.isinstance rfl m6 k6) (pe_isi (c := "NothingDone") hE rfl (.inl rfl) rfl B.isinstance rfl m7 k7) (pe_isi (c := "Unexplained") hE rfl (.inl rfl) rfl B.isinstance rfl m8 k8) (pe_isi (c := "LimitError") hE rfl (.inl rfl) rfl B.isinstance rfl m9 k9) (pt_val (pe_isiT (c := "ValueError") hE rfl (.inl rfl) rfl B.isinstance rfl hV (by decide +kernel) ej.val)), rfl, hQ⟩
theorem c_said (B : Bn mg) (hV : mg "ValueError" = none) {CA : Addr} (hA : mg "AlarmError" = some (.ref CA)) (hE : ∀ j y, errsL[j]? = some y → ∃ D, mg y = some (.ref D) ∧ ErrJ K mg CA D j) (AS : FunAt K mg "_law_said" s_law_said) (AK : FunAt K mg "_law_kind" s_law_kind) : SaidC P w K mg base 31 "_law_said" "nothing" := by
  obtain ⟨fs, fds, FS, hs⟩ := AS.ex
  obtain ⟨fk, fdk, FK, hk⟩ := AK.ex
  obtain ⟨oc, od, kV, doc, pm, an, cdv, ct, osl, e, lk, hcd⟩ := FS.ex
  subst e
  refine ⟨fs, CA, _, _, defScope s_law_said, kV, doc, pm, cdv, ct, oc, an, od, osl, "_law_call", ["_law_call", "_law_e"], hs, FS.kp, lk, hcd, FS.binds (ps := ["_law_call"]) (fun _ _ _ _ _ _ us hl => match us, hl with | [_], _ => rfl), sc_law_said, rfl, .inl rfl, by decide, by decide, hE, ?_⟩
  intro X e1 e2 e3 e4 e5 hr hg q
  subst e1 e2 e3 e4 e5
  exact said_gives (by decide) (q_kind B hV FK) hk FK.kp (FK.binds (ps := ["_law_e"]) (fun _ _ _ _ _ _ us hl => match us, hl with | [_], _ => rfl)) hr hg rfl B.repr rfl rfl hA rfl (by decide) (by decide) (by decide) (by decide) (by decide)
theorem ok_law_cell_at (B : Bn mg) (FA : FunAt K mg "_law_cell_at" s_law_cell_at) : Cal P w K mg base 1 "_law_cell_at" ["_law_script", "_law_k"] (spS K mg 1 (fun ns => fn1 (f_law_cell_at ns))) := by
  refine mk_scr (N := ["_law_script", "_law_k"]) (k := 0) FA sc_law_cell_at rfl (fun _ _ _ _ _ _ us hl => match us, hl with | [_, _], _ => rfl) (fun f cdv A outer s H E C ns ds hn => ?_)
  obtain ⟨a0, rfl⟩ := len1 hn
  refine ⟨D, Out.ret, f_law_cell_at ns a0, ?_, out_ret _⟩
  unfold f_law_cell_at
  change SV _ _ _ [.scr ns, .val a0] _ _ _
  refine sv_ifR (eb_cmp od_lt (vv 1) (slen 0 B.len) (nomark _)) ?_ (by repeat first | exact nf_bad | exact nf_raise | exact nf_raiseF | exact nf_ret (fun _ => rfl) | refine nf_bind (fun _ => ?_) | refine nf_unp2 (fun _ _ => ?_) | refine nf_ite ?_ ?_) ?_
  · exact sv_ret (inj := id) (fun _ => rfl) (sget 0 (vv 1) (fun _ _ => rfl))
  · exact sv_ret (inj := id) (fun _ => rfl) ev_int
theorem ok_law_draw (B : Bn mg) (FA : FunAt K mg "_law_draw" s_law_draw) : Cal P w K mg base 1 "_law_draw" ["_law_pen_here", "_law_many"] (spF K mg true 1 (fn1 f_law_draw)) := by
  refine mk_pen (N := ["_law_pen_here", "_law_many", "_law_digit", "_law_stir"]) (k := 0) FA sc_law_draw rfl (fun _ _ _ _ _ _ us hl => match us, hl with | [_, _], _ => rfl) (fun f cdv A outer s H E C q ds hn => ?_)
  obtain ⟨a0, rfl⟩ := len1 hn
  refine ⟨D, Out.ret, f_law_draw a0, ?_, out_ret _⟩
  unfold f_law_draw
  change SV _ _ _ [.pen, .val a0, .junk, .junk] _ _ _
  refine sv_ifR (eb_cmp od_gt (pget 0 ev_int (fun _ _ => rfl)) ev_int (nomark _)) ?_ (by repeat first | exact nf_bad | exact nf_raise | exact nf_raiseF | exact nf_ret (fun _ => rfl) | refine nf_bind (fun _ => ?_) | refine nf_unp2 (fun _ _ => ?_) | refine nf_ite ?_ ?_) ?_
  · refine sv_set 2 C.nd (ev_op od_mod (pget 0 ev_int (fun _ _ => rfl)) (vv 1)) (fun v4 => ?_)
    change SV _ _ _ [.pen, .val a0, .val v4, .junk] _ _ _
    refine sv_pen (i := 0) rfl rfl (by first | exact Or.inl rfl | exact Or.inr (Or.inl rfl)) (ev_op od_fdiv (pget 0 ev_int (fun _ _ => rfl)) (vv 1)) ev_int ?_
    change SV _ _ _ [.pen, .val a0, .val v4, .junk] _ _ _
    exact sv_ret (inj := id) (fun _ => rfl) (vv 2)
  · refine sv_pen (i := 0) rfl rfl (by first | exact Or.inl rfl | exact Or.inr (Or.inl rfl)) (ev_op od_add (pget 0 ev_int (fun _ _ => rfl)) ev_int) ev_int ?_
    change SV _ _ _ [.pen, .val a0, .junk, .junk] _ _ _
    refine sv_set 3 C.nd (ev_op od_mod (ev_op od_mul (ev_op od_add (pget 0 ev_int (fun _ _ => rfl)) (ev_op od_mul ev_int (pget 0 ev_int (fun _ _ => rfl)))) (ev_op od_add ev_int (ev_op od_mul ev_int (pget 0 ev_int (fun _ _ => rfl))))) ev_int) (fun v16 => ?_)
    change SV _ _ _ [.pen, .val a0, .junk, .val v16] _ _ _
    refine sv_set 3 C.nd (ev_op od_mod (ev_op od_add (ev_op od_add (ev_op od_mul (vv 3) (vv 3)) (ev_op od_mul ev_int (pget 0 ev_int (fun _ _ => rfl)))) ev_int) ev_int) (fun v29 => ?_)
    change SV _ _ _ [.pen, .val a0, .junk, .val v29] _ _ _
    exact sv_ret (inj := id) (fun _ => rfl) (ev_op od_mod (ev_op od_fdiv (ev_op od_mod (ev_op od_mul (vv 3) ev_int) ev_int) ev_int) (vv 1))
theorem ok_law_long (B : Bn mg) (FA : FunAt K mg "_law_long" s_law_long) : Cal P w K mg base 1 "_law_long" [] (spF K mg false 0 (fn0 f_law_long)) := by
  refine mk_pure (N := ["_law_deep", "_law_turn"]) (k := 0) FA sc_law_long rfl (fun _ _ _ _ _ _ us hl => match us, hl with | [], _ => rfl) (fun f cdv A outer s H E C ds hn => ?_)
  obtain rfl := len0 hn
  refine ⟨D, Out.ret, f_law_long, ?_, out_ret _⟩
  unfold f_law_long
  change SV _ _ _ [.junk, .junk] _ _ _
  refine sv_set 0 C.nd (ev_tup el_nil) (fun v1 => ?_)
  change SV _ _ _ [.val v1, .junk] _ _ _
  refine sv_forS (dec := dec1) (g := gName 1) (vs := [1]) (mk := (fun (c4 : D) => [.val c4, .junk])) (c0 := v1) C (ei_range1 (by rfl) B.range (el_cons ev_int el_nil)) (pgn 1 C.nd) (fun _ => tg_name (by simp)) (wk (wj wn)) (fun c4 z5 => ?_) (fun c4 => ?_)
  · change SV _ _ _ [.val c4, .val z5] _ _ _
    refine sv_set 0 C.nd (ev_tup (el_cons (vv 0) el_nil)) (fun v7 => ?_)
    change SV _ _ _ [.val v7, .val z5] _ _ _
    exact sv_nil rfl (wk (wj wn))
  · change SV _ _ _ [.val c4, .junk] _ _ _
    exact sv_ret (inj := id) (fun _ => rfl) (ev_lst (el_cons (ev_op od_mulM (ev_tup (el_cons (ev_tup (el_cons ev_int (el_cons ev_int el_nil))) el_nil)) ev_int) (el_cons (ev_tupRg1 C (by rfl) B.tuple (by rfl) B.range ev_int) (el_cons (ev_op od_mulM (ev_tup (el_cons ev_str el_nil)) ev_int) (el_cons (ev_op od_mulM (ev_tup (el_cons (ev_tup el_nil) el_nil)) ev_int) (el_cons (vv 0) (el_cons (ev_op od_mulS ev_str ev_int) el_nil)))))))
theorem ok_law_pick (B : Bn mg) (K_law_draw : Cal P w K mg base 1 "_law_draw" ["_law_pen_here", "_law_many"] (spF K mg true 1 (fn1 f_law_draw))) (FA : FunAt K mg "_law_pick" s_law_pick) : Cal P w K mg base 2 "_law_pick" ["_law_pen_here", "_law_things"] (spF K mg true 1 (fn1 f_law_pick)) := by
  refine mk_pen (N := ["_law_pen_here", "_law_things"]) (k := 1) FA sc_law_pick rfl (fun _ _ _ _ _ _ us hl => match us, hl with | [_, _], _ => rfl) (fun f cdv A outer s H E C q ds hn => ?_)
  obtain ⟨a0, rfl⟩ := len1 hn
  refine ⟨D, Out.ret, f_law_pick a0, ?_, out_ret _⟩
  unfold f_law_pick
  change SV _ _ _ [.pen, .val a0] _ _ _
  exact sv_ret (inj := id) (fun _ => rfl) (ev_ix (vv 1) (callP 0 C K_law_draw ar1 (el_cons (ev_callB cd_len (by rfl) B.len PySem.boot_len (el_cons (vv 1) el_nil)) el_nil)) (fun _ _ => rfl))
theorem ok_law_net (B : Bn mg) (K_law_draw : Cal P w K mg base 1 "_law_draw" ["_law_pen_here", "_law_many"] (spF K mg true 1 (fn1 f_law_draw))) (K_law_pick : Cal P w K mg base 2 "_law_pick" ["_law_pen_here", "_law_things"] (spF K mg true 1 (fn1 f_law_pick))) (FA : FunAt K mg "_law_net" s_law_net) : Cal P w K mg base 3 "_law_net" ["_law_pen_here"] (spF K mg true 0 (fn0 f_law_net)) := by
  refine mk_pen (N := ["_law_pen_here", "_law_size", "_law_way", "_law_share", "_law_net_here", "_law_component", "_law_others", "_law_own", "_law_other"]) (k := 2) FA sc_law_net rfl (fun _ _ _ _ _ _ us hl => match us, hl with | [_], _ => rfl) (fun f cdv A outer s H E C q ds hn => ?_)
  obtain rfl := len0 hn
  refine ⟨D, Out.ret, f_law_net, ?_, out_ret _⟩
  unfold f_law_net
  change SV _ _ _ [.pen, .junk, .junk, .junk, .junk, .junk, .junk, .junk, .junk] _ _ _
  refine sv_par 1 2 C.calm C.nd (el_cons (callP 0 C K_law_pick ar1 (el_cons (ev_lst (el_cons ev_int (el_cons ev_int (el_cons ev_int (el_cons ev_int (el_cons ev_int (el_cons ev_int (el_cons ev_int (el_cons ev_int (el_cons ev_int (el_cons ev_int el_nil))))))))))) el_nil)) (el_cons (callP 0 C K_law_draw ar1 (el_cons ev_int el_nil)) el_nil)) (by decide) (fun v1 v2 => ?_)
  change SV _ _ _ [.pen, .val v1, .val v2, .junk, .junk, .junk, .junk, .junk, .junk] _ _ _
  refine sv_set 3 C.nd (ev_ix (ev_lst (el_cons ev_int (el_cons ev_int (el_cons ev_int el_nil)))) (callP 0 C K_law_draw ar1 (el_cons ev_int el_nil)) (fun _ _ => rfl)) (fun v31 => ?_)
  change SV _ _ _ [.pen, .val v1, .val v2, .val v31, .junk, .junk, .junk, .junk, .junk] _ _ _
  refine sv_setO 4 (ps_o C.nd (eo_lst el_nil)) (fun xs42 => ?_)
  change SV _ _ _ [.pen, .val v1, .val v2, .val v31, .own xs42, .junk, .junk, .junk, .junk] _ _ _
  refine sv_forS (dec := dec1) (g := gName 5) (vs := [5]) (mk := (fun (c45 : List D) => [.pen, .val v1, .val v2, .val v31, .own c45, .junk, .junk, .junk, .junk])) (c0 := xs42) C (ei_range1 (by rfl) B.range (el_cons (vv 1) el_nil)) (pgn 5 C.nd) (fun _ => tg_name (by simp)) (wk (wk (wk (wk (wk (wj (wj (wj (wj wn))))))))) (fun c45 z46 => ?_) (fun c45 => ?_)
  · change SV _ _ _ [.pen, .val v1, .val v2, .val v31, .own c45, .val z46, .junk, .junk, .junk] _ _ _
    refine sv_setV 6 (ps_lcV (own := [(("_law_other" : Str), 8)]) (dec := dec1) (g := gName 8) (Γz := fun z51 => [.pen, .val v1, .val v2, .val v31, .own c45, .val z46, .junk, .junk, .val z51]) C rfl rfl (sw_true rfl rfl rfl (by decide +kernel)) (ei_range1 (by rfl) B.range (el_cons (vv 1) el_nil)) (blkOk_by (by rfl)) (tg_name (by simp)) (fun _ _ _ _ _ => pgn 8 C.nd) (fun z51 _ _ _ _ _ => (ets_one (eb_cmp (od_ne C.blk.room) (vv 8) (vv 5) (nomark _)))) (fun z51 _ _ _ _ _ => (vv 8))) (fun v48 => ?_)
    change SV _ _ _ [.pen, .val v1, .val v2, .val v31, .own c45, .val z46, .val v48, .junk, .junk] _ _ _
    refine sv_ifJ (mk := (fun (j60 : D) => [.pen, .val v1, .val v2, .val v31, .own c45, .val z46, .val j60, .junk, .junk])) (eb_cmp (od_eq C.room) (vv 2) ev_int (nomark _)) ?_ ?_ (fun j60 => ?_)
    · refine sv_setV 6 (ps_lcV (own := [(("_law_other" : Str), 8)]) (dec := dec1) (g := gName 8) (Γz := fun z62 => [.pen, .val v1, .val v2, .val v31, .own c45, .val z46, .val v48, .junk, .val z62]) C rfl rfl (sw_true rfl rfl rfl (by decide +kernel)) (ei_seq (vv 6)) (blkOk_by (by rfl)) (tg_name (by simp)) (fun _ _ _ _ _ => pgn 8 C.nd) (fun z62 _ _ _ _ _ => (ets_one (eb_cmp od_gt (vv 8) (vv 5) (nomark _)))) (fun z62 _ _ _ _ _ => (vv 8))) (fun v61 => ?_)
      change SV _ _ _ [.pen, .val v1, .val v2, .val v31, .own c45, .val z46, .val v61, .junk, .junk] _ _ _
      exact sv_nil rfl (wk (wk (wk (wk (wk (wk (wk (wj (wj wn)))))))))
    · exact sv_nil rfl (wk (wk (wk (wk (wk (wk (wk (wj (wj wn)))))))))
    · change SV _ _ _ [.pen, .val v1, .val v2, .val v31, .own c45, .val z46, .val j60, .junk, .junk] _ _ _
      refine sv_setV 7 (ps_lcV (own := [(("_law_other" : Str), 8)]) (dec := dec1) (g := gName 8) (Γz := fun z68 => [.pen, .val v1, .val v2, .val v31, .own c45, .val z46, .val j60, .junk, .val z68]) C rfl rfl (sw_true rfl rfl rfl (by decide +kernel)) (ei_seq (vv 6)) (blkOk_by (by rfl)) (tg_name (by simp)) (fun _ _ _ _ _ => pgn 8 C.nd) (fun z68 _ _ _ _ _ => (ets_one (eb_cmp od_lt (callP 0 C.blk K_law_draw ar1 (el_cons ev_int el_nil)) (vv 3) (nomark _)))) (fun z68 _ _ _ _ _ => (vv 8))) (fun v67 => ?_)
      change SV _ _ _ [.pen, .val v1, .val v2, .val v31, .own c45, .val z46, .val j60, .val v67, .junk] _ _ _
      refine sv_ifJ (mk := (fun (j79 : D) => [.pen, .val v1, .val v2, .val v31, .own c45, .val z46, .val j60, .val j79, .junk])) (eb_cmp (od_eq C.room) (vv 2) ev_int (nomark _)) ?_ ?_ (fun j79 => ?_)
      · refine sv_setV 7 (ps_lcV (own := [(("_law_other" : Str), 8)]) (dec := dec1) (g := gName 8) (Γz := fun z81 => [.pen, .val v1, .val v2, .val v31, .own c45, .val z46, .val j60, .val v67, .val z81]) C rfl rfl (sw_true rfl rfl rfl (by decide +kernel)) (ei_seq (vv 6)) (blkOk_by (by rfl)) (tg_name (by simp)) (fun _ _ _ _ _ => pgn 8 C.nd) (fun z81 _ _ _ _ _ => (ets_one (eb_cmp (od_eq C.blk.room) (vv 8) (ev_op od_add (vv 5) ev_int) (nomark _)))) (fun z81 _ _ _ _ _ => (vv 8))) (fun v80 => ?_)
        change SV _ _ _ [.pen, .val v1, .val v2, .val v31, .own c45, .val z46, .val j60, .val v80, .junk] _ _ _
        exact sv_nil rfl (wk (wk (wk (wk (wk (wk (wk (wk (wj wn)))))))))
      · exact sv_nil rfl (wk (wk (wk (wk (wk (wk (wk (wk (wj wn)))))))))
      · change SV _ _ _ [.pen, .val v1, .val v2, .val v31, .own c45, .val z46, .val j60, .val j79, .junk] _ _ _
        refine sv_ifJ (mk := (fun (j92 : D) => [.pen, .val v1, .val v2, .val v31, .own c45, .val z46, .val j60, .val j92, .junk])) (eb_cmp (od_eq C.room) (vv 2) ev_int (nomark _)) ?_ ?_ (fun j92 => ?_)
        · refine sv_set 7 C.nd (ev_setI C.calm (by rfl) B.sorted (by rfl) B.set (ev_op od_add (ev_lst (el_cons (ev_op od_mod (ev_op od_add (vv 5) ev_int) (vv 1)) el_nil)) (ev_lc (own := [(("_law_other" : Str), 8)]) (dec := dec1) (g := gName 8) (Γz := fun z100 => [.pen, .val v1, .val v2, .val v31, .own c45, .val z46, .val j60, .val j79, .val z100]) C (ei_seq (vv 7)) (blkOk_by (by rfl)) (tg_name (by simp)) (fun _ _ _ _ _ => pgn 8 C.nd) (fun z100 _ _ _ _ _ => (ets_one (eb_cmp (od_eq C.blk.room) (callP 0 C.blk K_law_draw ar1 (el_cons ev_int el_nil)) ev_int (nomark _)))) (fun z100 _ _ _ _ _ => (vv 8))))) (fun v93 => ?_)
          change SV _ _ _ [.pen, .val v1, .val v2, .val v31, .own c45, .val z46, .val j60, .val v93, .junk] _ _ _
          refine sv_setV 7 (ps_lcV (own := [(("_law_other" : Str), 8)]) (dec := dec1) (g := gName 8) (Γz := fun z110 => [.pen, .val v1, .val v2, .val v31, .own c45, .val z46, .val j60, .val v93, .val z110]) C rfl rfl (sw_true rfl rfl rfl (by decide +kernel)) (ei_seq (vv 7)) (blkOk_by (by rfl)) (tg_name (by simp)) (fun _ _ _ _ _ => pgn 8 C.nd) (fun z110 _ _ _ _ _ => (ets_one (eb_cmp (od_ne C.blk.room) (vv 8) (vv 5) (nomark _)))) (fun z110 _ _ _ _ _ => (vv 8))) (fun v109 => ?_)
          change SV _ _ _ [.pen, .val v1, .val v2, .val v31, .own c45, .val z46, .val j60, .val v109, .junk] _ _ _
          exact sv_nil rfl (wk (wk (wk (wk (wk (wk (wk (wk (wj wn)))))))))
        · exact sv_nil rfl (wk (wk (wk (wk (wk (wk (wk (wk (wj wn)))))))))
        · change SV _ _ _ [.pen, .val v1, .val v2, .val v31, .own c45, .val z46, .val j60, .val j92, .junk] _ _ _
          refine sv_append 4 (xs := c45) rfl (ev_callTy cd_tuple (by rfl) B.tuple (by decide +kernel) (el_cons (vv 7) el_nil)) (fun d117 => ?_)
          change SV _ _ _ [.pen, .val v1, .val v2, .val v31, .own (c45 ++ [d117]), .val z46, .val j60, .val j92, .junk] _ _ _
          exact sv_nil rfl (wk (wk (wk (wk (wk (wj (wj (wj (wj wn)))))))))
  · change SV _ _ _ [.pen, .val v1, .val v2, .val v31, .own c45, .junk, .junk, .junk, .junk] _ _ _
    refine sv_pub 4 (xs := c45) rfl ?_
    change SV _ _ _ [.pen, .val v1, .val v2, .val v31, .val (D.lst c45), .junk, .junk, .junk, .junk] _ _ _
    exact sv_ret (inj := id) (fun _ => rfl) (ev_callTy cd_tuple (by rfl) B.tuple (by decide +kernel) (el_cons (vv 4) el_nil))
theorem ok_is_between (B : Bn mg) (FA : FunAt K mg "is_between" s_is_between) : Cal P w K mg base 1 "is_between" ["thing", "low", "high"] (spF K mg false 3 (fn3 f_is_between)) := by
  refine mk_pure (N := ["thing", "low", "high"]) (k := 0) FA sc_is_between rfl (fun _ _ _ _ _ _ us hl => match us, hl with | [_, _, _], _ => rfl) (fun f cdv A outer s H E C ds hn => ?_)
  obtain ⟨a0, a1, a2, rfl⟩ := len3 hn
  refine ⟨D, Out.ret, f_is_between a0 a1 a2, ?_, out_ret _⟩
  unfold f_is_between
  change SV _ _ _ [.val a0, .val a1, .val a2] _ _ _
  exact sv_ret (inj := id) (fun _ => rfl) (ev_and (ev_isi (T := "int") (by decide) (vv 0) (by rfl) B.isinstance (by rfl) B.int (by decide +kernel)) (ev_and (ev_not (ev_isi (T := "bool") (by decide) (vv 0) (by rfl) B.isinstance (by rfl) B.bool (by decide +kernel))) (ev_one (ev_chain od_le od_le (vv 1) (vv 0) (vv 2)))))
theorem ok_is_rising (B : Bn mg) (K_is_between : Cal P w K mg base 1 "is_between" ["thing", "low", "high"] (spF K mg false 3 (fn3 f_is_between))) (FA : FunAt K mg "is_rising" s_is_rising) : Cal P w K mg base 2 "is_rising" ["size", "thing"] (spF K mg false 2 (fn2 f_is_rising)) := by
  refine mk_pure (N := ["size", "thing", "one", "later"]) (k := 1) FA sc_is_rising rfl (fun _ _ _ _ _ _ us hl => match us, hl with | [_, _], _ => rfl) (fun f cdv A outer s H E C ds hn => ?_)
  obtain ⟨a0, a1, rfl⟩ := len2 hn
  refine ⟨D, Out.ret, f_is_rising a0 a1, ?_, out_ret _⟩
  unfold f_is_rising
  change SV _ _ _ [.val a0, .val a1, .junk, .junk] _ _ _
  refine sv_ifR (eb_bool (ew_or (eb_not (eb_val (ev_isi (T := "tuple") (by decide) (vv 1) (by rfl) B.isinstance (by rfl) B.tuple (by decide +kernel)))) (ew_or1 (eb_not (eb_val (ev_callB (cd_all C.calm) (by rfl) B.all (by decide +kernel) (el_cons (ev_lc (own := [(("one" : Str), 2)]) (dec := dec1) (g := gName 2) (Γz := fun z2 => [.val a0, .val a1, .val z2, .junk]) C (ei_seq (vv 1)) (blkOk_by (by rfl)) (tg_name (by simp)) (fun _ _ _ _ _ => pgn 2 C.nd) (fun z2 _ _ _ _ _ => ets_nil) (fun z2 _ _ _ _ _ => (call C.blk K_is_between ar3 (el_cons (vv 2) (el_cons ev_int (el_cons (ev_op od_sub (vv 0) ev_int) el_nil)))))) el_nil))))))) ?_ (by repeat first | exact nf_bad | exact nf_raise | exact nf_raiseF | exact nf_ret (fun _ => rfl) | refine nf_bind (fun _ => ?_) | refine nf_unp2 (fun _ _ => ?_) | refine nf_ite ?_ ?_) ?_
  · exact sv_ret (inj := id) (fun _ => rfl) ev_bl
  · exact sv_ret (inj := id) (fun _ => rfl) (ev_callB (cd_all C.calm) (by rfl) B.all (by decide +kernel) (el_cons (ev_lc (own := [(("one" : Str), 2), (("later" : Str), 3)]) (dec := dec2) (g := gTup _ 2 (gCons (gName 2) (gCons (gName 3) gNil))) (Γz := fun z27 => [.val a0, .val a1, .val z27.1, .val z27.2]) C (ei_zip (by rfl) B.zip (el_cons (vv 1) (el_cons (ev_slice (vv 1) (eo_some ev_int) eo_none) el_nil))) (blkOk_by (by rfl)) (tg_pair (by simp) (by simp)) (fun _ _ _ _ _ => pg_tup rfl (pgs_cons (pgn 2 C.nd) (pgs_cons (pgn 3 C.nd) pgs_nil))) (fun z27 _ _ _ _ _ => ets_nil) (fun z27 _ _ _ _ _ => (ev_cmp od_lt (vv 2) (vv 3) (nomark _)))) el_nil))
theorem ok_is_net (B : Bn mg) (c_MOST_COMPONENTS : ∃ t, mg "MOST_COMPONENTS" = some (.int 8 t)) (K_is_rising : Cal P w K mg base 2 "is_rising" ["size", "thing"] (spF K mg false 2 (fn2 f_is_rising))) (FA : FunAt K mg "is_net" s_is_net) : Cal P w K mg base 3 "is_net" ["thing"] (spF K mg false 1 (fn1 f_is_net)) := by
  obtain ⟨_, c_MOST_COMPONENTS⟩ := c_MOST_COMPONENTS
  refine mk_pure (N := ["thing", "component", "needs"]) (k := 2) FA sc_is_net rfl (fun _ _ _ _ _ _ us hl => match us, hl with | [_], _ => rfl) (fun f cdv A outer s H E C ds hn => ?_)
  obtain ⟨a0, rfl⟩ := len1 hn
  refine ⟨D, Out.ret, f_is_net a0, ?_, out_ret _⟩
  unfold f_is_net
  change SV _ _ _ [.val a0, .junk, .junk] _ _ _
  refine sv_ifR (eb_bool (ew_or (eb_not (eb_val (ev_isi (T := "tuple") (by decide) (vv 0) (by rfl) B.isinstance (by rfl) B.tuple (by decide +kernel)))) (ew_or1 (eb_not (eb_chain od_le od_le ev_int (ev_callB cd_len (by rfl) B.len PySem.boot_len (el_cons (vv 0) el_nil)) (ev_glob (v := .int 8) (by rfl) c_MOST_COMPONENTS ⟨_, rfl⟩ fun _ => .int _)))))) ?_ (by repeat first | exact nf_bad | exact nf_raise | exact nf_raiseF | exact nf_ret (fun _ => rfl) | refine nf_bind (fun _ => ?_) | refine nf_unp2 (fun _ _ => ?_) | refine nf_ite ?_ ?_) ?_
  · exact sv_ret (inj := id) (fun _ => rfl) ev_bl
  · refine sv_forL (dec := dec2) (g := gTup _ 2 (gCons (gName 1) (gCons (gName 2) gNil))) (vs := [1, 2]) (mk := (fun (c15 : Unit) => [.val a0, .junk, .junk])) (c0 := ()) (inj := id) C (ei_enum (by rfl) B.enumerate (el_cons (vv 0) el_nil)) (pg_tup rfl (pgs_cons (pgn 1 C.nd) (pgs_cons (pgn 2 C.nd) pgs_nil))) (fun _ => tg_pair (by simp) (by simp)) (wk (wj (wj wn))) (fun _ => rfl) (fun c15 z16 => ?_) (fun c15 => ?_)
    · change SV _ _ _ [.val a0, .val z16.1, .val z16.2] _ _ _
      refine sv_ifR (eb_bool (ew_or (eb_not (eb_val (call C K_is_rising ar2 (el_cons (ev_callB cd_len (by rfl) B.len PySem.boot_len (el_cons (vv 0) el_nil)) (el_cons (vv 2) el_nil))))) (ew_or1 (eb_cmp (od_in C.room) (vv 1) (vv 2) (by rfl))))) ?_ (by repeat first | exact nf_bad | exact nf_raise | exact nf_raiseF | exact nf_ret (fun _ => rfl) | refine nf_bind (fun _ => ?_) | refine nf_unp2 (fun _ _ => ?_) | refine nf_ite ?_ ?_) ?_
      · exact sv_ret (inj := Lp.ret) (fun _ => rfl) ev_bl
      · exact sv_nil rfl (wk (wj (wj wn)))
    · change SV _ _ _ [.val a0, .junk, .junk] _ _ _
      exact sv_ret (inj := id) (fun _ => rfl) ev_bl
theorem ok_Net_init (B : Bn mg) (E_NetError : ErrC K mg "NetError") (NA_Net_own_needs : NoAttr K cNet "own_needs") (OC_Net : ObjC K cNet) (K_is_net : Cal P w K mg base 3 "is_net" ["thing"] (spF K mg false 1 (fn1 f_is_net))) (CA : ClsAt K mg "Net" cNet "Net.__init__" s_Net_init []) : MkC P w K mg base 4 "Net" cNet (spStar (spI K mg cNet ["own_needs"] 1 (fnL1 f_Net_init))) := by
  refine mkS (N := ["self", "needs"]) (k := 3) CA sc_Net_init (by decide) (fun kV doc pm an cdv ct => StX.bind_star1 (B := fun vs => bindArgs (PySem.W.fnOf "__init__" "Net.__init__" (defArgs s_Net_init) (defBody s_Net_init) (defScope s_Net_init) .none kV doc pm an cdv ct) ⟨vs, []⟩) (p1 := "self") (pv := "needs") (fun _ => rfl) (fun _ _ _ => rfl)) (fun f => ⟨fun cdv A outer s H E C x dx ds hn => ?_⟩)
  obtain ⟨a0, rfl⟩ := len1 hn
  refine ⟨fun fs => [insS x cNet dx ["own_needs"] fs, .junk], fun _ => rfl, ?_⟩
  change SV _ _ _ [insS x cNet dx ([] : List Str) ([] : List D), .val a0] _ _ (f_Net_init a0)
  unfold f_Net_init
  refine sv_ifR (eb_not (eb_val (call C K_is_net ar1 (el_cons (vv 1) el_nil)))) ?_ (by repeat first | exact nf_bad | exact nf_raise | exact nf_raiseF | exact nf_ret (fun _ => rfl) | refine nf_bind (fun _ => ?_) | refine nf_unp2 (fun _ _ => ?_) | refine nf_ite ?_ ?_) ?_
  · exact sv_raise C E_NetError
  · refine sv_fldNew 0 OC_Net.cl NA_Net_own_needs rfl (by decide) (by decide) (vv 1) (fun d6 => ?_)
    change SV _ _ _ [insS x cNet dx (([] : List Str) ++ [("own_needs" : Str)]) (([] : List D) ++ [d6]), .val a0] _ _ _
    exact sv_nil rfl (wk (wj wn))
theorem ok_is_word (B : Bn mg) (c_WORDS : CT K mg "WORDS" d_WORDS) (FA : FunAt K mg "is_word" s_is_word) : Cal P w K mg base 1 "is_word" ["thing"] (spF K mg false 1 (fn1 f_is_word)) := by
  obtain ⟨a_WORDS, c_WORDS, r_WORDS⟩ := c_WORDS.ex
  refine mk_pure (N := ["thing"]) (k := 0) FA sc_is_word rfl (fun _ _ _ _ _ _ us hl => match us, hl with | [_], _ => rfl) (fun f cdv A outer s H E C ds hn => ?_)
  obtain ⟨a0, rfl⟩ := len1 hn
  refine ⟨D, Out.ret, f_is_word a0, ?_, out_ret _⟩
  unfold f_is_word
  change SV _ _ _ [.val a0] _ _ _
  exact sv_ret (inj := id) (fun _ => rfl) (ev_and (ev_isi (T := "str") (by decide) (vv 0) (by rfl) B.isinstance (by rfl) B.str (by decide +kernel)) (ev_one (ev_cmp (od_in C.room) (vv 0) (ev_glob (v := .ref a_WORDS) (by rfl) c_WORDS rfl r_WORDS) (by rfl))))
theorem ok_is_report (B : Bn mg) (K_is_word : Cal P w K mg base 1 "is_word" ["thing"] (spF K mg false 1 (fn1 f_is_word))) (FA : FunAt K mg "is_report" s_is_report) : Cal P w K mg base 2 "is_report" ["net", "thing"] (spF K mg false 2 (fn2 f_is_report)) := by
  refine mk_pure (N := ["net", "thing", "word"]) (k := 1) FA sc_is_report rfl (fun _ _ _ _ _ _ us hl => match us, hl with | [_, _], _ => rfl) (fun f cdv A outer s H E C ds hn => ?_)
  obtain ⟨a0, a1, rfl⟩ := len2 hn
  refine ⟨D, Out.ret, f_is_report a0 a1, ?_, out_ret _⟩
  unfold f_is_report
  change SV _ _ _ [.val a0, .val a1, .junk] _ _ _
  exact sv_ret (inj := id) (fun _ => rfl) (ev_and (ev_isi (T := "tuple") (by decide) (vv 1) (by rfl) B.isinstance (by rfl) B.tuple (by decide +kernel)) (ev_and (ev_cmp (od_eq C.room) (ev_callB cd_len (by rfl) B.len PySem.boot_len (el_cons (vv 1) el_nil)) (ev_callB cd_len (by rfl) B.len PySem.boot_len (el_cons (vv 0) el_nil)) (nomark _)) (ev_one (ev_callB (cd_all C.calm) (by rfl) B.all (by decide +kernel) (el_cons (ev_lc (own := [(("word" : Str), 2)]) (dec := dec1) (g := gName 2) (Γz := fun z7 => [.val a0, .val a1, .val z7]) C (ei_seq (vv 1)) (blkOk_by (by rfl)) (tg_name (by simp)) (fun _ _ _ _ _ => pgn 2 C.nd) (fun z7 _ _ _ _ _ => ets_nil) (fun z7 _ _ _ _ _ => (call C.blk K_is_word ar1 (el_cons (vv 2) el_nil)))) el_nil)))))
theorem ok_need_start (B : Bn mg) (E_NetError : ErrC K mg "NetError") (E_ReportError : ErrC K mg "ReportError") (NA_Net_own_needs : NoAttr K cNet "own_needs") (I_Net : IsCl K mg "Net" tab_Net) (K_is_report : Cal P w K mg base 2 "is_report" ["net", "thing"] (spF K mg false 2 (fn2 f_is_report))) (FA : FunAt K mg "need_start" s_need_start) : Cal P w K mg base 3 "need_start" ["net", "report"] (spF K mg false 2 (fn2 f_need_start)) := by
  refine mk_pure (N := ["net", "report"]) (k := 2) FA sc_need_start rfl (fun _ _ _ _ _ _ us hl => match us, hl with | [_, _], _ => rfl) (fun f cdv A outer s H E C ds hn => ?_)
  obtain ⟨a0, a1, rfl⟩ := len2 hn
  refine ⟨Unit, fun _ => Out.fall [.junk, .junk], g_need_start a0 a1, ?_, rfl⟩
  unfold g_need_start
  change SV _ _ _ [.val a0, .val a1] _ _ _
  refine sv_ifR (eb_not (eb_val (ev_isC (vv 0) I_Net (by rfl) B.isinstance (by rfl)))) ?_ (by repeat first | exact nf_bad | exact nf_raise | exact nf_raiseF | exact nf_ret (fun _ => rfl) | refine nf_bind (fun _ => ?_) | refine nf_unp2 (fun _ _ => ?_) | refine nf_ite ?_ ?_) ?_
  · exact sv_raise C E_NetError
  · refine sv_ifR (eb_bool (ew_and (eb_cmp od_notN (vv 1) ev_non (nomark _)) (ew_and1 (eb_not (eb_val (call C K_is_report ar2 (el_cons (ev_fldO NA_Net_own_needs (vv 0)) (el_cons (vv 1) el_nil)))))))) ?_ (by repeat first | exact nf_bad | exact nf_raise | exact nf_raiseF | exact nf_ret (fun _ => rfl) | refine nf_bind (fun _ => ?_) | refine nf_unp2 (fun _ _ => ?_) | refine nf_ite ?_ ?_) ?_
    · exact sv_raise C E_ReportError
    · exact sv_nil rfl (wj (wj wn))
theorem ok_Watch_init (B : Bn mg) (c_UNSEEN : ∃ t, mg "UNSEEN" = some (.str "unseen" t)) (NA_Net_own_needs : NoAttr K cNet "own_needs") (NA_Watch_kept : NoAttr K cWatch "kept") (NA_Watch_own_net : NoAttr K cWatch "own_net") (NA_Watch_past : NoAttr K cWatch "past") (OC_Watch : ObjC K cWatch) (FIT : FitC P w K mg base 1 cWatch "need_fit") (K_need_start : Cal P w K mg base 3 "need_start" ["net", "report"] (spF K mg false 2 (fn2 f_need_start))) (CA : ClsAt K mg "Watch" cWatch "Watch.__init__" s_Watch_init [.non]) : MkD2 P w K mg base 4 "Watch" cWatch ["own_net", "kept", "past"] (fnL2 f_Watch_init) "report" := by
  obtain ⟨_, c_UNSEEN⟩ := c_UNSEEN
  refine mkD2 (N := ["self", "net", "report"]) (k := 3) CA sc_Watch_init (by decide) (fun _ _ _ _ _ _ _ us its hu hi => match us, its, hu, hi with | [_, _], [_], _, _ => ⟨_, rfl, rfl⟩) (fun _ _ _ _ _ _ _ us its hu hi => match us, its, hu, hi with | [_, _, _], [_], _, _ => ⟨_, rfl, rfl⟩) (fun _ _ _ _ _ _ _ us its ws hu hi hw => match us, its, ws, hu, hi, hw with | [_, _], [_], [_], _, _, _ => ⟨_, rfl, rfl⟩) (fun f => ⟨fun cdv A outer s H E C x dx ds hn => ?_⟩)
  obtain ⟨a0, a1, rfl⟩ := len2 hn
  refine ⟨fun fs => [insS x cWatch dx ["own_net", "kept", "past"] fs, .junk, .junk], fun _ => rfl, ?_⟩
  change SV _ _ _ [insS x cWatch dx ([] : List Str) ([] : List D), .val a0, .val a1] _ _ (f_Watch_init a0 a1)
  unfold f_Watch_init
  refine sv_expr (call C K_need_start ar2 (el_cons (vv 1) (el_cons (vv 2) el_nil))) ?_
  change SV _ _ _ [insS x cWatch dx ([] : List Str) ([] : List D), .val a0, .val a1] _ _ _
  refine sv_fldNew 0 OC_Watch.cl NA_Watch_own_net rfl (by decide) (by decide) (vv 1) (fun d6 => ?_)
  change SV _ _ _ [insS x cWatch dx (([] : List Str) ++ [("own_net" : Str)]) (([] : List D) ++ [d6]), .val a0, .val a1] _ _ _
  refine sv_fldNew 0 OC_Watch.cl NA_Watch_kept rfl (by decide) (by decide) (ev_ifExp (eb_cmp od_isN (vv 2) ev_non (nomark _)) (ev_op od_mulG (ev_tup (el_cons (ev_glob (v := .str "unseen") (by rfl) c_UNSEEN ⟨_, rfl⟩ fun _ => .str _) el_nil)) (ev_callB cd_len (by rfl) B.len PySem.boot_len (el_cons (ev_fldO NA_Net_own_needs (vv 1)) el_nil))) (vv 2)) (fun d16 => ?_)
  change SV _ _ _ [insS x cWatch dx ((([] : List Str) ++ [("own_net" : Str)]) ++ [("kept" : Str)]) ((([] : List D) ++ [d6]) ++ [d16]), .val a0, .val a1] _ _ _
  refine sv_fldNew 0 OC_Watch.cl NA_Watch_past rfl (by decide) (by decide) (ev_tup el_nil) (fun d17 => ?_)
  change SV _ _ _ [insS x cWatch dx (((([] : List Str) ++ [("own_net" : Str)]) ++ [("kept" : Str)]) ++ [("past" : Str)]) (((([] : List D) ++ [d6]) ++ [d16]) ++ [d17]), .val a0, .val a1] _ _ _
  refine sv_fit 0 C OC_Watch.cl FIT rfl (by decide) (ev_fldOwn 0 1 OC_Watch.cl NA_Watch_kept rfl rfl (by decide) rfl) ?_
  change SV _ _ _ [insS x cWatch dx (((([] : List Str) ++ [("own_net" : Str)]) ++ [("kept" : Str)]) ++ [("past" : Str)]) (((([] : List D) ++ [d6]) ++ [d16]) ++ [d17]), .val a0, .val a1] _ _ _
  exact sv_nil rfl (wk (wj (wj wn)))
theorem ok_law_no_nets (B : Bn mg) (K_Net_init : MkC P w K mg base 4 "Net" cNet (spStar (spI K mg cNet ["own_needs"] 1 (fnL1 f_Net_init)))) (K_Watch_init : MkD2 P w K mg base 4 "Watch" cWatch ["own_net", "kept", "past"] (fnL2 f_Watch_init) "report") (FA : FunAt K mg "_law_no_nets" s_law_no_nets) : Cal P w K mg base 6 "_law_no_nets" [] (spF K mg false 0 (fn0 f_law_no_nets)) := by
  refine mk_pure (N := ["_law_plain", "_law_found"]) (k := 5) FA sc_law_no_nets rfl (fun _ _ _ _ _ _ us hl => match us, hl with | [], _ => rfl) (fun f cdv A outer s H E C ds hn => ?_)
  obtain rfl := len0 hn
  refine ⟨D, Out.ret, f_law_no_nets, ?_, out_ret _⟩
  unfold f_law_no_nets
  change SV _ _ _ [.junk, .junk] _ _ _
  refine sv_set 0 C.nd (newS C K_Net_init (el_cons (ev_tup (el_cons ev_int el_nil)) (el_cons (ev_tup el_nil) el_nil))) (fun v1 => ?_)
  change SV _ _ _ [.val v1, .junk] _ _ _
  refine sv_set 1 C.nd (ev_lst (el_cons ev_non (el_cons ev_bl (el_cons ev_int (el_cons ev_str (el_cons (ev_tup el_nil) (el_cons (ev_lst el_nil) (el_cons ev_dict0 (el_cons (ev_lst (el_cons (ev_tup el_nil) el_nil)) (el_cons (ev_op od_mulG (ev_tup (el_cons (ev_tup el_nil) el_nil)) ev_int) (el_cons (ev_tup (el_cons ev_non el_nil)) (el_cons (ev_tup (el_cons ev_int el_nil)) (el_cons (ev_tup (el_cons (ev_lst el_nil) el_nil)) (el_cons (ev_tup (el_cons (ev_tup (el_cons ev_int el_nil)) el_nil)) (el_cons (ev_tup (el_cons (ev_tup (el_cons ev_int el_nil)) el_nil)) (el_cons (ev_tup (el_cons (ev_tup (el_cons (ev_neg ev_int) el_nil)) (el_cons (ev_tup el_nil) el_nil))) el_nil)))))))))))))))) (fun v10 => ?_)
  change SV _ _ _ [.val v1, .val v10] _ _ _
  refine sv_set 1 C.nd (ev_op od_add (vv 1) (ev_lst (el_cons (ev_tup (el_cons (ev_tup (el_cons ev_int (el_cons ev_int el_nil))) (el_cons (ev_tup el_nil) el_nil))) (el_cons (ev_tup (el_cons (ev_tup (el_cons ev_int (el_cons ev_int el_nil))) (el_cons (ev_tup el_nil) (el_cons (ev_tup el_nil) el_nil)))) (el_cons (ev_tup (el_cons (ev_tup (el_cons ev_bl el_nil)) (el_cons (ev_tup el_nil) el_nil))) (el_cons (ev_tup (el_cons (ev_tup (el_cons ev_non el_nil)) (el_cons (ev_tup el_nil) el_nil))) (el_cons (ev_tup (el_cons (ev_tup (el_cons ev_str el_nil)) (el_cons (ev_tup el_nil) el_nil))) (el_cons (ev_tup (el_cons (ev_tup (el_cons (ev_tup (el_cons ev_int el_nil)) el_nil)) (el_cons (ev_tup el_nil) el_nil))) el_nil)))))))) (fun v67 => ?_)
  change SV _ _ _ [.val v1, .val v67] _ _ _
  refine sv_set 1 C.nd (ev_op od_add (vv 1) (ev_lst (el_cons (ev_tup (el_cons (ev_tup el_nil) (el_cons (ev_tup (el_cons ev_int el_nil)) el_nil))) (el_cons (ev_tup (el_cons (ev_tup el_nil) (el_cons (ev_tup (el_cons ev_int (el_cons ev_int el_nil))) el_nil))) (el_cons (ev_tup (el_cons (ev_tup el_nil) (el_cons ev_non el_nil))) (el_cons (ev_tup (el_cons ev_str (el_cons ev_str el_nil))) (el_cons (ev_tup (el_cons (ev_tup (el_cons ev_int el_nil)) (el_cons (ev_lst (el_cons ev_int el_nil)) el_nil))) (el_cons (ev_tup (el_cons (ev_tup (el_cons ev_int el_nil)) (el_cons (ev_tup el_nil) el_nil))) el_nil)))))))) (fun v126 => ?_)
  change SV _ _ _ [.val v1, .val v126] _ _ _
  exact sv_ret (inj := id) (fun _ => rfl) (ev_op od_add (vv 1) (ev_lst (el_cons (vv 0) (el_cons (ev_tup (el_cons (vv 0) el_nil)) (el_cons (newD1 C (MkD2.one K_Watch_init) arL2 (el_cons (vv 0) el_nil)) (el_cons (ev_tup (el_cons (ev_tup el_nil) (el_cons (vv 0) el_nil))) el_nil))))))
theorem ok_law_no_reports (B : Bn mg) (K_Net_init : MkC P w K mg base 4 "Net" cNet (spStar (spI K mg cNet ["own_needs"] 1 (fnL1 f_Net_init)))) (K_Watch_init : MkD2 P w K mg base 4 "Watch" cWatch ["own_net", "kept", "past"] (fnL2 f_Watch_init) "report") (FA : FunAt K mg "_law_no_reports" s_law_no_reports) : Cal P w K mg base 6 "_law_no_reports" ["_law_size", "_law_at"] (spF K mg false 2 (fn2 f_law_no_reports)) := by
  refine mk_pure (N := ["_law_size", "_law_at", "_law_plain", "_law_found", "_law_word"]) (k := 5) FA sc_law_no_reports rfl (fun _ _ _ _ _ _ us hl => match us, hl with | [_, _], _ => rfl) (fun f cdv A outer s H E C ds hn => ?_)
  obtain ⟨a0, a1, rfl⟩ := len2 hn
  refine ⟨D, Out.ret, f_law_no_reports a0 a1, ?_, out_ret _⟩
  unfold f_law_no_reports
  change SV _ _ _ [.val a0, .val a1, .junk, .junk, .junk] _ _ _
  refine sv_set 2 C.nd (ev_op od_mulG (ev_tup (el_cons ev_str el_nil)) (vv 0)) (fun v1 => ?_)
  change SV _ _ _ [.val a0, .val a1, .val v1, .junk, .junk] _ _ _
  refine sv_setO 3 (ps_o C.nd (eo_lst (el_cons ev_non (el_cons ev_bl (el_cons ev_int (el_cons ev_str (el_cons ev_str (el_cons (ev_tup el_nil) (el_cons (ev_lst el_nil) (el_cons ev_dict0 (el_cons (ev_callTy cd_list (by rfl) B.list (by decide +kernel) (el_cons (vv 2) el_nil)) (el_cons (ev_slice (vv 2) (eo_some ev_int) eo_none) (el_cons (ev_op od_add (vv 2) (ev_tup (el_cons ev_str el_nil))) (el_cons (ev_tup (el_cons (vv 2) el_nil)) el_nil)))))))))))))) (fun xs6 => ?_)
  change SV _ _ _ [.val a0, .val a1, .val v1, .own xs6, .junk] _ _ _
  refine sv_forS (dec := dec1) (g := gName 4) (vs := [4]) (mk := (fun (c70 : List D) => [.val a0, .val a1, .val v1, .own c70, .junk])) (c0 := xs6) C (ei_seq (ev_lst (el_cons ev_non (el_cons ev_str (el_cons ev_str (el_cons ev_int (el_cons ev_bl (el_cons ev_str (el_cons (ev_tup (el_cons ev_str el_nil)) (el_cons (ev_lst (el_cons ev_str el_nil)) (el_cons ev_str (el_cons (newS C K_Net_init (el_cons (ev_tup el_nil) el_nil)) el_nil)))))))))))) (pgn 4 C.nd) (fun _ => tg_name (by simp)) (wk (wk (wk (wk (wj wn))))) (fun c70 z71 => ?_) (fun c70 => ?_)
  · change SV _ _ _ [.val a0, .val a1, .val v1, .own c70, .val z71] _ _ _
    refine sv_append 3 (xs := c70) rfl (ev_op od_add (ev_op od_add (ev_slice (vv 2) eo_none (eo_some (vv 1))) (ev_tup (el_cons (vv 4) el_nil))) (ev_slice (vv 2) (eo_some (ev_op od_add (vv 1) ev_int)) eo_none)) (fun d87 => ?_)
    change SV _ _ _ [.val a0, .val a1, .val v1, .own (c70 ++ [d87]), .val z71] _ _ _
    exact sv_nil rfl (wk (wk (wk (wk (wj wn)))))
  · change SV _ _ _ [.val a0, .val a1, .val v1, .own c70, .junk] _ _ _
    refine sv_pub 3 (xs := c70) rfl ?_
    change SV _ _ _ [.val a0, .val a1, .val v1, .val (D.lst c70), .junk] _ _ _
    exact sv_ret (inj := id) (fun _ => rfl) (ev_op od_add (vv 3) (ev_lst (el_cons (newD1 C (MkD2.one K_Watch_init) arL2 (el_cons (newS C K_Net_init (el_cons (ev_tup el_nil) el_nil)) el_nil)) (el_cons (newS C K_Net_init (el_cons (ev_tup el_nil) el_nil)) el_nil))))
theorem ok_law_odd (B : Bn mg) (K_Net_init : MkC P w K mg base 4 "Net" cNet (spStar (spI K mg cNet ["own_needs"] 1 (fnL1 f_Net_init)))) (K_Watch_init : MkD2 P w K mg base 4 "Watch" cWatch ["own_net", "kept", "past"] (fnL2 f_Watch_init) "report") (K_law_pick : Cal P w K mg base 2 "_law_pick" ["_law_pen_here", "_law_things"] (spF K mg true 1 (fn1 f_law_pick))) (FA : FunAt K mg "_law_odd" s_law_odd) : Cal P w K mg base 6 "_law_odd" ["_law_pen_here"] (spF K mg true 0 (fn0 f_law_odd)) := by
  refine mk_pen (N := ["_law_pen_here", "_law_some", "_law_one", "_law_watch"]) (k := 5) FA sc_law_odd rfl (fun _ _ _ _ _ _ us hl => match us, hl with | [_], _ => rfl) (fun f cdv A outer s H E C q ds hn => ?_)
  obtain rfl := len0 hn
  refine ⟨D, Out.ret, f_law_odd, ?_, out_ret _⟩
  unfold f_law_odd
  change SV _ _ _ [.pen, .junk, .junk, .junk] _ _ _
  refine sv_set 1 C.nd (ev_lst (el_cons ev_non (el_cons ev_bl (el_cons ev_bl (el_cons (ev_neg ev_int) (el_cons ev_int (el_cons ev_int (el_cons ev_int (el_cons ev_int (el_cons (ev_op od_pow ev_int ev_int) (el_cons ev_str (el_cons ev_str (el_cons ev_str (el_cons ev_str (el_cons ev_str (el_cons ev_str (el_cons (ev_tup el_nil) (el_cons (ev_lst el_nil) el_nil)))))))))))))))))) (fun v1 => ?_)
  change SV _ _ _ [.pen, .val v1, .junk, .junk] _ _ _
  refine sv_set 1 C.nd (ev_op od_add (vv 1) (ev_lst (el_cons ev_dict0 (el_cons (ev_tup (el_cons ev_int el_nil)) (el_cons (ev_lst (el_cons ev_int el_nil)) (el_cons (ev_tup (el_cons ev_int (el_cons ev_int el_nil))) (el_cons (ev_tup (el_cons ev_int (el_cons ev_int el_nil))) (el_cons (ev_tup (el_cons ev_bl el_nil)) (el_cons (ev_tup (el_cons ev_str el_nil)) (el_cons (ev_tup (el_cons (ev_tup el_nil) el_nil)) (el_cons (ev_tup (el_cons (ev_tup (el_cons ev_int el_nil)) (el_cons (ev_tup el_nil) el_nil))) (el_cons (ev_tup (el_cons ev_str (el_cons (ev_tup el_nil) el_nil))) (el_cons (ev_tup (el_cons ev_str (el_cons ev_int (el_cons (ev_tup el_nil) el_nil)))) el_nil))))))))))))) (fun v38 => ?_)
  change SV _ _ _ [.pen, .val v38, .junk, .junk] _ _ _
  refine sv_set 2 C.nd (newS C K_Net_init (el_cons (ev_tup (el_cons ev_int el_nil)) (el_cons (ev_tup el_nil) el_nil))) (fun v97 => ?_)
  change SV _ _ _ [.pen, .val v38, .val v97, .junk] _ _ _
  refine sv_set 3 C.nd (newD1 C (MkD2.one K_Watch_init) arL2 (el_cons (vv 2) el_nil)) (fun v106 => ?_)
  change SV _ _ _ [.pen, .val v38, .val v97, .val v106] _ _ _
  exact sv_ret (inj := id) (fun _ => rfl) (callP 0 C K_law_pick ar1 (el_cons (ev_op od_add (vv 1) (ev_lst (el_cons (vv 2) (el_cons (vv 3) (el_cons (ev_tup (el_cons (vv 2) el_nil)) (el_cons (ev_lst (el_cons (vv 3) el_nil)) (el_cons (ev_tup (el_cons ev_str (el_cons (vv 3) el_nil))) (el_cons (ev_tup (el_cons ev_str (el_cons ev_int (el_cons (vv 2) el_nil)))) (el_cons (ev_dict1 (ev_tup el_nil)) el_nil))))))))) el_nil))
theorem ok_law_pen (B : Bn mg) (FA : FunAt K mg "_law_pen" s_law_pen) : Cal P w K mg base 1 "_law_pen" ["_law_cell"] (spM K mg 1 (mfn1 f_law_pen)) := by
  refine mk_mk (N := ["_law_cell"]) (k := 0) FA sc_law_pen rfl (fun _ _ _ _ _ _ us hl => match us, hl with | [_], _ => rfl) rfl (fun f cdv A outer s H E C ds hn => ?_)
  obtain ⟨a0, rfl⟩ := len1 hn
  exact ⟨_, (el_cons (ev_callB (cd_max C.calm) (by rfl) B.max (by decide +kernel) (el_cons ev_int (el_cons (ev_op od_sub (vv 0) (ev_op od_pow ev_int ev_int)) el_nil))) (el_cons (ev_op od_mod (vv 0) ev_int) (el_cons ev_int el_nil))), rfl⟩
theorem ok_law_have (B : Bn mg) (FA : FunAt K mg "_law_have" s_law_have) : Cal P w K mg base 1 "_law_have" ["_law_one", "_law_other"] (spF K mg false 2 (fn2 f_law_have)) := by
  refine mk_pure (N := ["_law_one", "_law_other", "_law_thing"]) (k := 0) FA sc_law_have rfl (fun _ _ _ _ _ _ us hl => match us, hl with | [_, _], _ => rfl) (fun f cdv A outer s H E C ds hn => ?_)
  obtain ⟨a0, a1, rfl⟩ := len2 hn
  refine ⟨D, Out.ret, f_law_have a0 a1, ?_, out_ret _⟩
  unfold f_law_have
  change SV _ _ _ [.val a0, .val a1, .junk] _ _ _
  exact sv_ret (inj := id) (fun _ => rfl) (ev_lc (own := [(("_law_thing" : Str), 2)]) (dec := dec1) (g := gName 2) (Γz := fun z1 => [.val a0, .val a1, .val z1]) C (ei_seq (vv 0)) (blkOk_by (by rfl)) (tg_name (by simp)) (fun _ _ _ _ _ => pgn 2 C.nd) (fun z1 _ _ _ _ _ => (ets_one (eb_cmp (od_in C.blk.room) (vv 2) (vv 1) (by rfl)))) (fun z1 _ _ _ _ _ => (vv 2)))
theorem ok_law_reach (B : Bn mg) (FA : FunAt K mg "_law_reach" s_law_reach) : Cal P w K mg base 1 "_law_reach" ["_law_net_here", "_law_component"] (spF K mg false 2 (fn2 f_law_reach)) := by
  refine mk_pure (N := ["_law_net_here", "_law_component", "_law_found", "_law_turn", "_law_other", "_law_one"]) (k := 0) FA sc_law_reach rfl (fun _ _ _ _ _ _ us hl => match us, hl with | [_, _], _ => rfl) (fun f cdv A outer s H E C ds hn => ?_)
  obtain ⟨a0, a1, rfl⟩ := len2 hn
  refine ⟨D, Out.ret, f_law_reach a0 a1, ?_, out_ret _⟩
  unfold f_law_reach
  change SV _ _ _ [.val a0, .val a1, .junk, .junk, .junk, .junk] _ _ _
  refine sv_setO 2 (ps_o C.nd (eo_lst (el_cons (vv 1) el_nil))) (fun xs1 => ?_)
  change SV _ _ _ [.val a0, .val a1, .own xs1, .junk, .junk, .junk] _ _ _
  refine sv_forS (dec := dec1) (g := gName 3) (vs := [3]) (mk := (fun (c8 : List D) => [.val a0, .val a1, .own c8, .junk, .junk, .junk])) (c0 := xs1) C (ei_range1 (by rfl) B.range (el_cons (ev_callB cd_len (by rfl) B.len PySem.boot_len (el_cons (vv 0) el_nil)) el_nil)) (pgn 3 C.nd) (fun _ => tg_name (by simp)) (wk (wk (wk (wj (wj (wj wn)))))) (fun c8 z9 => ?_) (fun c8 => ?_)
  · change SV _ _ _ [.val a0, .val a1, .own c8, .val z9, .junk, .junk] _ _ _
    refine sv_forS (dec := dec1) (g := gName 4) (vs := [4]) (mk := (fun (c15 : List D) => [.val a0, .val a1, .own c15, .val z9, .junk, .junk])) (c0 := c8) C (ei_range1 (by rfl) B.range (el_cons (ev_callB cd_len (by rfl) B.len PySem.boot_len (el_cons (vv 0) el_nil)) el_nil)) (pgn 4 C.nd) (fun _ => tg_name (by simp)) (wk (wk (wk (wk (wj (wj wn)))))) (fun c15 z16 => ?_) (fun c15 => ?_)
    · change SV _ _ _ [.val a0, .val a1, .own c15, .val z9, .val z16, .junk] _ _ _
      refine sv_ifJ (mk := (fun (j32 : List D) => [.val a0, .val a1, .own j32, .val z9, .val z16, .junk])) (peekB [.val a0, .val a1, .val (D.lst c15), .val z9, .val z16, .junk] 2 (xs := c15) rfl rfl (eb_bool (ew_and (eb_cmp (od_notIn C.room) (vv 4) (vv 2) (by rfl)) (ew_and1 (eb_cmp (od_ne C.room) (ev_lc (own := [(("_law_one" : Str), 5)]) (dec := dec1) (g := gName 5) (Γz := fun z20 => [.val a0, .val a1, .val (D.lst c15), .val z9, .val z16, .val z20]) C (ei_seq (vv 2)) (blkOk_by (by rfl)) (tg_name (by simp)) (fun _ _ _ _ _ => pgn 5 C.nd) (fun z20 _ _ _ _ _ => (ets_one (eb_cmp (od_in C.blk.room) (vv 4) (ev_ix (vv 0) (vv 5) (fun _ _ => rfl)) (by rfl)))) (fun z20 _ _ _ _ _ => ev_int)) (ev_lst el_nil) (nomark _)))))) ?_ ?_ (fun j32 => ?_)
      · refine sv_append 2 (xs := c15) rfl (vv 4) (fun d33 => ?_)
        change SV _ _ _ [.val a0, .val a1, .own (c15 ++ [d33]), .val z9, .val z16, .junk] _ _ _
        exact sv_nil rfl (wk (wk (wk (wk (wk (wj wn))))))
      · exact sv_nil rfl (wk (wk (wk (wk (wk (wj wn))))))
      · change SV _ _ _ [.val a0, .val a1, .own j32, .val z9, .val z16, .junk] _ _ _
        exact sv_nil rfl (wk (wk (wk (wk (wj (wj wn))))))
    · change SV _ _ _ [.val a0, .val a1, .own c15, .val z9, .junk, .junk] _ _ _
      exact sv_nil rfl (wk (wk (wk (wj (wj (wj wn))))))
  · change SV _ _ _ [.val a0, .val a1, .own c8, .junk, .junk, .junk] _ _ _
    refine sv_pub 2 (xs := c8) rfl ?_
    change SV _ _ _ [.val a0, .val a1, .val (D.lst c8), .junk, .junk, .junk] _ _ _
    exact sv_ret (inj := id) (fun _ => rfl) (ev_callTy cd_tuple (by rfl) B.tuple (by decide +kernel) (el_cons (ev_callB (cd_sortedG C.room) (by rfl) B.sorted (by decide +kernel) (el_cons (vv 2) el_nil)) el_nil))
theorem ok_law_alarming (B : Bn mg) (K_law_have : Cal P w K mg base 1 "_law_have" ["_law_one", "_law_other"] (spF K mg false 2 (fn2 f_law_have))) (K_law_reach : Cal P w K mg base 1 "_law_reach" ["_law_net_here", "_law_component"] (spF K mg false 2 (fn2 f_law_reach))) (FA : FunAt K mg "_law_alarming" s_law_alarming) : Cal P w K mg base 2 "_law_alarming" ["_law_net_here", "_law_broken"] (spF K mg false 2 (fn2 f_law_alarming)) := by
  refine mk_pure (N := ["_law_net_here", "_law_broken", "_law_one"]) (k := 1) FA sc_law_alarming rfl (fun _ _ _ _ _ _ us hl => match us, hl with | [_, _], _ => rfl) (fun f cdv A outer s H E C ds hn => ?_)
  obtain ⟨a0, a1, rfl⟩ := len2 hn
  refine ⟨D, Out.ret, f_law_alarming a0 a1, ?_, out_ret _⟩
  unfold f_law_alarming
  change SV _ _ _ [.val a0, .val a1, .junk] _ _ _
  exact sv_ret (inj := id) (fun _ => rfl) (ev_callTy cd_tuple (by rfl) B.tuple (by decide +kernel) (el_cons (ev_lc (own := [(("_law_one" : Str), 2)]) (dec := dec1) (g := gName 2) (Γz := fun z5 => [.val a0, .val a1, .val z5]) C (ei_range1 (by rfl) B.range (el_cons (ev_callB cd_len (by rfl) B.len PySem.boot_len (el_cons (vv 0) el_nil)) el_nil)) (blkOk_by (by rfl)) (tg_name (by simp)) (fun _ _ _ _ _ => pgn 2 C.nd) (fun z5 _ _ _ _ _ => (ets_one (eb_cmp (od_ne C.blk.room) (call C.blk K_law_have ar2 (el_cons (call C.blk K_law_reach ar2 (el_cons (vv 0) (el_cons (vv 2) el_nil))) (el_cons (vv 1) el_nil))) (ev_lst el_nil) (nomark _)))) (fun z5 _ _ _ _ _ => (vv 2))) el_nil))
theorem ok_law_seen (B : Bn mg) (K_law_alarming : Cal P w K mg base 2 "_law_alarming" ["_law_net_here", "_law_broken"] (spF K mg false 2 (fn2 f_law_alarming))) (FA : FunAt K mg "_law_seen" s_law_seen) : Cal P w K mg base 3 "_law_seen" ["_law_net_here", "_law_broken", "_law_watched"] (spF K mg false 3 (fn3 f_law_seen)) := by
  refine mk_pure (N := ["_law_net_here", "_law_broken", "_law_watched", "_law_alarming_here", "_law_found", "_law_one", "_law_word"]) (k := 2) FA sc_law_seen rfl (fun _ _ _ _ _ _ us hl => match us, hl with | [_, _, _], _ => rfl) (fun f cdv A outer s H E C ds hn => ?_)
  obtain ⟨a0, a1, a2, rfl⟩ := len3 hn
  refine ⟨D, Out.ret, f_law_seen a0 a1 a2, ?_, out_ret _⟩
  unfold f_law_seen
  change SV _ _ _ [.val a0, .val a1, .val a2, .junk, .junk, .junk, .junk] _ _ _
  refine sv_parM 3 4 C.calm C.nd (em_v (call C K_law_alarming ar2 (el_cons (vv 0) (el_cons (vv 1) el_nil))) (em_o (eo_lst el_nil) em_nil)) (by decide) (h_vo fun v12 xs13 => ?_)
  change SV _ _ _ [.val a0, .val a1, .val a2, .val v12, .own xs13, .junk, .junk] _ _ _
  refine sv_forS (dec := dec1) (g := gName 5) (vs := [5]) (mk := (fun (c18 : List D) => [.val a0, .val a1, .val a2, .val v12, .own c18, .junk, .junk])) (c0 := xs13) C (ei_range1 (by rfl) B.range (el_cons (ev_callB cd_len (by rfl) B.len PySem.boot_len (el_cons (vv 0) el_nil)) el_nil)) (pgn 5 C.nd) (fun _ => tg_name (by simp)) (wk (wk (wk (wk (wk (wj (wj wn))))))) (fun c18 z19 => ?_) (fun c18 => ?_)
  · change SV _ _ _ [.val a0, .val a1, .val a2, .val v12, .own c18, .val z19, .junk] _ _ _
    refine sv_set 6 C.nd (ev_ifExp (eb_cmp (od_in C.room) (vv 5) (vv 3) (by rfl)) ev_str ev_str) (fun v21 => ?_)
    change SV _ _ _ [.val a0, .val a1, .val a2, .val v12, .own c18, .val z19, .val v21] _ _ _
    refine sv_append 4 (xs := c18) rfl (ev_ifExp (eb_cmp (od_in C.room) (vv 5) (vv 2) (by rfl)) (vv 6) ev_str) (fun d28 => ?_)
    change SV _ _ _ [.val a0, .val a1, .val a2, .val v12, .own (c18 ++ [d28]), .val z19, .val v21] _ _ _
    exact sv_nil rfl (wk (wk (wk (wk (wk (wj (wj wn)))))))
  · change SV _ _ _ [.val a0, .val a1, .val a2, .val v12, .own c18, .junk, .junk] _ _ _
    refine sv_pub 4 (xs := c18) rfl ?_
    change SV _ _ _ [.val a0, .val a1, .val a2, .val v12, .val (D.lst c18), .junk, .junk] _ _ _
    exact sv_ret (inj := id) (fun _ => rfl) (ev_callTy cd_tuple (by rfl) B.tuple (by decide +kernel) (el_cons (vv 4) el_nil))
theorem ok_law_set (B : Bn mg) (K_law_draw : Cal P w K mg base 1 "_law_draw" ["_law_pen_here", "_law_many"] (spF K mg true 1 (fn1 f_law_draw))) (FA : FunAt K mg "_law_set" s_law_set) : Cal P w K mg base 2 "_law_set" ["_law_pen_here", "_law_size"] (spF K mg true 1 (fn1 f_law_set)) := by
  refine mk_pen (N := ["_law_pen_here", "_law_size", "_law_share", "_law_one"]) (k := 1) FA sc_law_set rfl (fun _ _ _ _ _ _ us hl => match us, hl with | [_, _], _ => rfl) (fun f cdv A outer s H E C q ds hn => ?_)
  obtain ⟨a0, rfl⟩ := len1 hn
  refine ⟨D, Out.ret, f_law_set a0, ?_, out_ret _⟩
  unfold f_law_set
  change SV _ _ _ [.pen, .val a0, .junk, .junk] _ _ _
  refine sv_set 2 C.nd (ev_op od_add ev_int (callP 0 C K_law_draw ar1 (el_cons ev_int el_nil))) (fun v1 => ?_)
  change SV _ _ _ [.pen, .val a0, .val v1, .junk] _ _ _
  exact sv_ret (inj := id) (fun _ => rfl) (ev_callTy cd_tuple (by rfl) B.tuple (by decide +kernel) (el_cons (ev_lc (own := [(("_law_one" : Str), 3)]) (dec := dec1) (g := gName 3) (Γz := fun z8 => [.pen, .val a0, .val v1, .val z8]) C (ei_range1 (by rfl) B.range (el_cons (vv 1) el_nil)) (blkOk_by (by rfl)) (tg_name (by simp)) (fun _ _ _ _ _ => pgn 3 C.nd) (fun z8 _ _ _ _ _ => (ets_one (eb_cmp od_lt (callP 0 C.blk K_law_draw ar1 (el_cons ev_int el_nil)) (vv 2) (nomark _)))) (fun z8 _ _ _ _ _ => (vv 3))) el_nil))
theorem ok_law_report (B : Bn mg) (K_law_draw : Cal P w K mg base 1 "_law_draw" ["_law_pen_here", "_law_many"] (spF K mg true 1 (fn1 f_law_draw))) (K_law_pick : Cal P w K mg base 2 "_law_pick" ["_law_pen_here", "_law_things"] (spF K mg true 1 (fn1 f_law_pick))) (K_law_seen : Cal P w K mg base 3 "_law_seen" ["_law_net_here", "_law_broken", "_law_watched"] (spF K mg false 3 (fn3 f_law_seen))) (K_law_set : Cal P w K mg base 2 "_law_set" ["_law_pen_here", "_law_size"] (spF K mg true 1 (fn1 f_law_set))) (FA : FunAt K mg "_law_report" s_law_report) : Cal P w K mg base 4 "_law_report" ["_law_pen_here", "_law_net_here"] (spF K mg true 1 (fn1 f_law_report)) := by
  refine mk_pen (N := ["_law_pen_here", "_law_net_here", "_law_way", "_law_size", "_law_found", "_law_at", "_law_one"]) (k := 3) FA sc_law_report rfl (fun _ _ _ _ _ _ us hl => match us, hl with | [_, _], _ => rfl) (fun f cdv A outer s H E C q ds hn => ?_)
  obtain ⟨a0, rfl⟩ := len1 hn
  refine ⟨D, Out.ret, f_law_report a0, ?_, out_ret _⟩
  unfold f_law_report
  change SV _ _ _ [.pen, .val a0, .junk, .junk, .junk, .junk, .junk] _ _ _
  refine sv_par 2 3 C.calm C.nd (el_cons (callP 0 C K_law_draw ar1 (el_cons ev_int el_nil)) (el_cons (ev_callB cd_len (by rfl) B.len PySem.boot_len (el_cons (vv 1) el_nil)) el_nil)) (by decide) (fun v1 v2 => ?_)
  change SV _ _ _ [.pen, .val a0, .val v1, .val v2, .junk, .junk, .junk] _ _ _
  refine sv_set 4 C.nd (call C K_law_seen ar3 (el_cons (vv 1) (el_cons (callP 0 C K_law_set ar1 (el_cons (vv 3) el_nil)) (el_cons (callP 0 C K_law_set ar1 (el_cons (vv 3) el_nil)) el_nil)))) (fun v11 => ?_)
  change SV _ _ _ [.pen, .val a0, .val v1, .val v2, .val v11, .junk, .junk] _ _ _
  refine sv_ifJ (mk := (fun (j27 : D) => [.pen, .val a0, .val v1, .val v2, .val j27, .junk, .junk])) (eb_cmp (od_eq C.room) (vv 2) ev_int (nomark _)) ?_ ?_ (fun j27 => ?_)
  · refine sv_set 4 C.nd (ev_callTy cd_tuple (by rfl) B.tuple (by decide +kernel) (el_cons (ev_lc (own := [(("_law_one" : Str), 6)]) (dec := dec1) (g := gName 6) (Γz := fun z31 => [.pen, .val a0, .val v1, .val v2, .val v11, .junk, .val z31]) C (ei_range1 (by rfl) B.range (el_cons (vv 3) el_nil)) (blkOk_by (by rfl)) (tg_name (by simp)) (fun _ _ _ _ _ => pgn 6 C.nd) (fun z31 _ _ _ _ _ => ets_nil) (fun z31 _ _ _ _ _ => (callP 0 C.blk K_law_pick ar1 (el_cons (ev_lst (el_cons ev_str (el_cons ev_str (el_cons ev_str (el_cons ev_str el_nil))))) el_nil)))) el_nil)) (fun v28 => ?_)
    change SV _ _ _ [.pen, .val a0, .val v1, .val v2, .val v28, .junk, .junk] _ _ _
    exact sv_nil rfl (wk (wk (wk (wk (wk (wj (wj wn)))))))
  · exact sv_nil rfl (wk (wk (wk (wk (wk (wj (wj wn)))))))
  · change SV _ _ _ [.pen, .val a0, .val v1, .val v2, .val j27, .junk, .junk] _ _ _
    refine sv_ifJ (mk := (fun (j50 : D) => [.pen, .val a0, .val v1, .val v2, .val j50, .junk, .junk])) (eb_cmp (od_eq C.room) (vv 2) ev_int (nomark _)) ?_ ?_ (fun j50 => ?_)
    · refine sv_set 5 C.nd (callP 0 C K_law_draw ar1 (el_cons (vv 3) el_nil)) (fun v51 => ?_)
      change SV _ _ _ [.pen, .val a0, .val v1, .val v2, .val j27, .val v51, .junk] _ _ _
      refine sv_set 4 C.nd (ev_op od_add (ev_op od_add (ev_slice (vv 4) eo_none (eo_some (vv 5))) (ev_tup (el_cons (callP 0 C K_law_pick ar1 (el_cons (ev_lst (el_cons ev_str (el_cons ev_str el_nil))) el_nil)) el_nil))) (ev_slice (vv 4) (eo_some (ev_op od_add (vv 5) ev_int)) eo_none)) (fun v54 => ?_)
      change SV _ _ _ [.pen, .val a0, .val v1, .val v2, .val v54, .val v51, .junk] _ _ _
      exact sv_nil rfl (wk (wk (wk (wk (wk (wj (wj wn)))))))
    · exact sv_nil rfl (wk (wk (wk (wk (wk (wj (wj wn)))))))
    · change SV _ _ _ [.pen, .val a0, .val v1, .val v2, .val j50, .junk, .junk] _ _ _
      exact sv_ret (inj := id) (fun _ => rfl) (vv 4)
theorem ok_reach_of (B : Bn mg) (FA : FunAt K mg "reach_of" s_reach_of) : Cal P w K mg base 1 "reach_of" ["net", "component"] (spF K mg false 2 (fn2 f_reach_of)) := by
  refine mk_pure (N := ["net", "component", "found", "at", "needed"]) (k := 0) FA sc_reach_of rfl (fun _ _ _ _ _ _ us hl => match us, hl with | [_, _], _ => rfl) (fun f cdv A outer s H E C ds hn => ?_)
  obtain ⟨a0, a1, rfl⟩ := len2 hn
  refine ⟨D, Out.ret, f_reach_of a0 a1, ?_, out_ret _⟩
  unfold f_reach_of
  change SV _ _ _ [.val a0, .val a1, .junk, .junk, .junk] _ _ _
  refine sv_setO 2 (ps_o C.nd (eo_lst (el_cons (vv 1) el_nil))) (fun xs1 => ?_)
  change SV _ _ _ [.val a0, .val a1, .own xs1, .junk, .junk] _ _ _
  refine sv_set 3 C.nd ev_int (fun v4 => ?_)
  change SV _ _ _ [.val a0, .val a1, .own xs1, .val v4, .junk] _ _ _
  refine sv_while 20 (mk := (fun (c5 : D × List D) => [.val a0, .val a1, .own c5.2, .val c5.1, .junk])) (c0 := (v4, xs1)) C (wk (wk (wk (wk (wj wn))))) (fun c5 => (peekB [.val a0, .val a1, .val (D.lst c5.2), .val c5.1, .junk] 2 (xs := c5.2) rfl rfl (eb_cmp od_lt (vv 3) (ev_callB cd_len (by rfl) B.len PySem.boot_len (el_cons (vv 2) el_nil)) (nomark _)))) (fun c5 => ?_) (fun c5 => ?_)
  · change SV _ _ _ [.val a0, .val a1, .own c5.2, .val c5.1, .junk] _ _ _
    refine sv_ext [.val a0, .val a1, .val (D.lst c5.2), .val c5.1, .junk] 2 (xs := c5.2) rfl rfl (ev_lc (own := [(("needed" : Str), 4)]) (dec := dec1) (g := gName 4) (Γz := fun z14 => [.val a0, .val a1, .val (D.lst c5.2), .val c5.1, .val z14]) C (ei_seq (ev_ix (vv 0) (ev_ix (vv 2) (vv 3) (fun _ _ => rfl)) (fun _ _ => rfl))) (blkOk_by (by rfl)) (tg_name (by simp)) (fun _ _ _ _ _ => pgn 4 C.nd) (fun z14 _ _ _ _ _ => (ets_one (eb_cmp (od_notIn C.blk.room) (vv 4) (vv 2) (by rfl)))) (fun z14 _ _ _ _ _ => (vv 4))) (fun ys19 => ?_)
    change SV _ _ _ [.val a0, .val a1, .own (c5.2 ++ ys19), .val c5.1, .junk] _ _ _
    refine sv_set 3 C.nd (ev_op od_add (vv 3) ev_int) (fun v20 => ?_)
    change SV _ _ _ [.val a0, .val a1, .own (c5.2 ++ ys19), .val v20, .junk] _ _ _
    exact sv_nil rfl (wk (wk (wk (wk (wj wn)))))
  · change SV _ _ _ [.val a0, .val a1, .own c5.2, .val c5.1, .junk] _ _ _
    refine sv_pub 2 (xs := c5.2) rfl ?_
    change SV _ _ _ [.val a0, .val a1, .val (D.lst c5.2), .val c5.1, .junk] _ _ _
    exact sv_ret (inj := id) (fun _ => rfl) (ev_callTy cd_tuple (by rfl) B.tuple (by decide +kernel) (el_cons (ev_callB (cd_sortedG C.room) (by rfl) B.sorted (by decide +kernel) (el_cons (vv 2) el_nil)) el_nil))
theorem ok_all_reaches (B : Bn mg) (K_reach_of : Cal P w K mg base 1 "reach_of" ["net", "component"] (spF K mg false 2 (fn2 f_reach_of))) (FA : FunAt K mg "all_reaches" s_all_reaches) : Cal P w K mg base 2 "all_reaches" ["net"] (spF K mg false 1 (fn1 f_all_reaches)) := by
  refine mk_pure (N := ["net", "component"]) (k := 1) FA sc_all_reaches rfl (fun _ _ _ _ _ _ us hl => match us, hl with | [_], _ => rfl) (fun f cdv A outer s H E C ds hn => ?_)
  obtain ⟨a0, rfl⟩ := len1 hn
  refine ⟨D, Out.ret, f_all_reaches a0, ?_, out_ret _⟩
  unfold f_all_reaches
  change SV _ _ _ [.val a0, .junk] _ _ _
  exact sv_ret (inj := id) (fun _ => rfl) (ev_lc (own := [(("component" : Str), 1)]) (dec := dec1) (g := gName 1) (Γz := fun z5 => [.val a0, .val z5]) C (ei_range1 (by rfl) B.range (el_cons (ev_callB cd_len (by rfl) B.len PySem.boot_len (el_cons (vv 0) el_nil)) el_nil)) (blkOk_by (by rfl)) (tg_name (by simp)) (fun _ _ _ _ _ => pgn 1 C.nd) (fun z5 _ _ _ _ _ => ets_nil) (fun z5 _ _ _ _ _ => (call C.blk K_reach_of ar2 (el_cons (vv 0) (el_cons (vv 1) el_nil)))))
theorem ok_with_word (B : Bn mg) (FA : FunAt K mg "with_word" s_with_word) : Cal P w K mg base 1 "with_word" ["report", "word"] (spF K mg false 2 (fn2 f_with_word)) := by
  refine mk_pure (N := ["report", "word", "component", "own"]) (k := 0) FA sc_with_word rfl (fun _ _ _ _ _ _ us hl => match us, hl with | [_, _], _ => rfl) (fun f cdv A outer s H E C ds hn => ?_)
  obtain ⟨a0, a1, rfl⟩ := len2 hn
  refine ⟨D, Out.ret, f_with_word a0 a1, ?_, out_ret _⟩
  unfold f_with_word
  change SV _ _ _ [.val a0, .val a1, .junk, .junk] _ _ _
  exact sv_ret (inj := id) (fun _ => rfl) (ev_callTy cd_tuple (by rfl) B.tuple (by decide +kernel) (el_cons (ev_lc (own := [(("component" : Str), 2), (("own" : Str), 3)]) (dec := dec2) (g := gTup _ 2 (gCons (gName 2) (gCons (gName 3) gNil))) (Γz := fun z3 => [.val a0, .val a1, .val z3.1, .val z3.2]) C (ei_enum (by rfl) B.enumerate (el_cons (vv 0) el_nil)) (blkOk_by (by rfl)) (tg_pair (by simp) (by simp)) (fun _ _ _ _ _ => pg_tup rfl (pgs_cons (pgn 2 C.nd) (pgs_cons (pgn 3 C.nd) pgs_nil))) (fun z3 _ _ _ _ _ => (ets_one (eb_cmp (od_eq C.blk.room) (vv 3) (vv 1) (nomark _)))) (fun z3 _ _ _ _ _ => (vv 2))) el_nil))
theorem ok_candidates_of (B : Bn mg) (c_QUIET : ∃ t, mg "QUIET" = some (.str "quiet" t)) (K_all_reaches : Cal P w K mg base 2 "all_reaches" ["net"] (spF K mg false 1 (fn1 f_all_reaches))) (K_with_word : Cal P w K mg base 1 "with_word" ["report", "word"] (spF K mg false 2 (fn2 f_with_word))) (FA : FunAt K mg "candidates_of" s_candidates_of) : Cal P w K mg base 3 "candidates_of" ["net", "report"] (spF K mg false 2 (fn2 f_candidates_of)) := by
  obtain ⟨_, c_QUIET⟩ := c_QUIET
  refine mk_pure (N := ["net", "report", "reaches", "quiet", "one", "other"]) (k := 2) FA sc_candidates_of rfl (fun _ _ _ _ _ _ us hl => match us, hl with | [_, _], _ => rfl) (fun f cdv A outer s H E C ds hn => ?_)
  obtain ⟨a0, a1, rfl⟩ := len2 hn
  refine ⟨D, Out.ret, f_candidates_of a0 a1, ?_, out_ret _⟩
  unfold f_candidates_of
  change SV _ _ _ [.val a0, .val a1, .junk, .junk, .junk, .junk] _ _ _
  refine sv_set 2 C.nd (call C K_all_reaches ar1 (el_cons (vv 0) el_nil)) (fun v1 => ?_)
  change SV _ _ _ [.val a0, .val a1, .val v1, .junk, .junk, .junk] _ _ _
  refine sv_set 3 C.nd (call C K_with_word ar2 (el_cons (vv 1) (el_cons (ev_glob (v := .str "quiet") (by rfl) c_QUIET ⟨_, rfl⟩ fun _ => .str _) el_nil))) (fun v5 => ?_)
  change SV _ _ _ [.val a0, .val a1, .val v1, .val v5, .junk, .junk] _ _ _
  exact sv_ret (inj := id) (fun _ => rfl) (ev_callTy cd_tuple (by rfl) B.tuple (by decide +kernel) (el_cons (ev_lc (own := [(("one" : Str), 4)]) (dec := dec1) (g := gName 4) (Γz := fun z15 => [.val a0, .val a1, .val v1, .val v5, .val z15, .junk]) C (ei_range1 (by rfl) B.range (el_cons (ev_callB cd_len (by rfl) B.len PySem.boot_len (el_cons (vv 0) el_nil)) el_nil)) (blkOk_by (by rfl)) (tg_name (by simp)) (fun _ _ _ _ _ => pgn 4 C.nd) (fun z15 _ _ _ _ _ => (ets_one (eb_not (eb_val (ev_callB (cd_any C.blk.calm) (by rfl) B.any (by decide +kernel) (el_cons (ev_lc (own := [(("other" : Str), 5)]) (dec := dec1) (g := gName 5) (Γz := fun z16 => [.val a0, .val a1, .val v1, .val v5, .val z15, .val z16]) C.blk (ei_seq (vv 3)) (blkOk_by (by rfl)) (tg_name (by simp)) (fun _ _ _ _ _ => pgn 5 C.blk.nd) (fun z16 _ _ _ _ _ => ets_nil) (fun z16 _ _ _ _ _ => (ev_cmp (od_in C.blk.blk.room) (vv 4) (ev_ix (vv 2) (vv 5) (fun _ _ => rfl)) (by rfl)))) el_nil)))))) (fun z15 _ _ _ _ _ => (vv 4))) el_nil))
theorem ok_need_net (B : Bn mg) (E_NetError : ErrC K mg "NetError") (K_is_net : Cal P w K mg base 3 "is_net" ["thing"] (spF K mg false 1 (fn1 f_is_net))) (FA : FunAt K mg "need_net" s_need_net) : Cal P w K mg base 4 "need_net" ["thing"] (spF K mg false 1 (fn1 f_need_net)) := by
  refine mk_pure (N := ["thing"]) (k := 3) FA sc_need_net rfl (fun _ _ _ _ _ _ us hl => match us, hl with | [_], _ => rfl) (fun f cdv A outer s H E C ds hn => ?_)
  obtain ⟨a0, rfl⟩ := len1 hn
  refine ⟨Unit, fun _ => Out.fall [.junk], g_need_net a0, ?_, rfl⟩
  unfold g_need_net
  change SV _ _ _ [.val a0] _ _ _
  refine sv_ifR (eb_not (eb_val (call C K_is_net ar1 (el_cons (vv 0) el_nil)))) ?_ (by repeat first | exact nf_bad | exact nf_raise | exact nf_raiseF | exact nf_ret (fun _ => rfl) | refine nf_bind (fun _ => ?_) | refine nf_unp2 (fun _ _ => ?_) | refine nf_ite ?_ ?_) ?_
  · exact sv_raise C E_NetError
  · exact sv_nil rfl (wj wn)
theorem ok_need_report (B : Bn mg) (E_ReportError : ErrC K mg "ReportError") (K_is_report : Cal P w K mg base 2 "is_report" ["net", "thing"] (spF K mg false 2 (fn2 f_is_report))) (K_need_net : Cal P w K mg base 4 "need_net" ["thing"] (spF K mg false 1 (fn1 f_need_net))) (FA : FunAt K mg "need_report" s_need_report) : Cal P w K mg base 5 "need_report" ["net", "thing"] (spF K mg false 2 (fn2 f_need_report)) := by
  refine mk_pure (N := ["net", "thing"]) (k := 4) FA sc_need_report rfl (fun _ _ _ _ _ _ us hl => match us, hl with | [_, _], _ => rfl) (fun f cdv A outer s H E C ds hn => ?_)
  obtain ⟨a0, a1, rfl⟩ := len2 hn
  refine ⟨Unit, fun _ => Out.fall [.junk, .junk], g_need_report a0 a1, ?_, rfl⟩
  unfold g_need_report
  change SV _ _ _ [.val a0, .val a1] _ _ _
  refine sv_expr (call C K_need_net ar1 (el_cons (vv 0) el_nil)) ?_
  change SV _ _ _ [.val a0, .val a1] _ _ _
  refine sv_ifR (eb_not (eb_val (call C K_is_report ar2 (el_cons (vv 0) (el_cons (vv 1) el_nil))))) ?_ (by repeat first | exact nf_bad | exact nf_raise | exact nf_raiseF | exact nf_ret (fun _ => rfl) | refine nf_bind (fun _ => ?_) | refine nf_unp2 (fun _ _ => ?_) | refine nf_ite ?_ ?_) ?_
  · exact sv_raise C E_ReportError
  · exact sv_nil rfl (wj (wj wn))
theorem ok_candidates (B : Bn mg) (K_candidates_of : Cal P w K mg base 3 "candidates_of" ["net", "report"] (spF K mg false 2 (fn2 f_candidates_of))) (K_need_report : Cal P w K mg base 5 "need_report" ["net", "thing"] (spF K mg false 2 (fn2 f_need_report))) (FA : FunAt K mg "candidates" s_candidates) : Cal P w K mg base 6 "candidates" ["net", "report"] (spF K mg false 2 (fn2 f_candidates)) := by
  refine mk_pure (N := ["net", "report"]) (k := 5) FA sc_candidates rfl (fun _ _ _ _ _ _ us hl => match us, hl with | [_, _], _ => rfl) (fun f cdv A outer s H E C ds hn => ?_)
  obtain ⟨a0, a1, rfl⟩ := len2 hn
  refine ⟨D, Out.ret, f_candidates a0 a1, ?_, out_ret _⟩
  unfold f_candidates
  change SV _ _ _ [.val a0, .val a1] _ _ _
  refine sv_expr (call C K_need_report ar2 (el_cons (vv 0) (el_cons (vv 1) el_nil))) ?_
  change SV _ _ _ [.val a0, .val a1] _ _ _
  exact sv_ret (inj := id) (fun _ => rfl) (call C K_candidates_of ar2 (el_cons (vv 0) (el_cons (vv 1) el_nil)))
theorem ok_do_meet (B : Bn mg) (FA : FunAt K mg "do_meet" s_do_meet) : Cal P w K mg base 1 "do_meet" ["one", "other"] (spF K mg false 2 (fn2 f_do_meet)) := by
  refine mk_pure (N := ["one", "other", "thing"]) (k := 0) FA sc_do_meet rfl (fun _ _ _ _ _ _ us hl => match us, hl with | [_, _], _ => rfl) (fun f cdv A outer s H E C ds hn => ?_)
  obtain ⟨a0, a1, rfl⟩ := len2 hn
  refine ⟨D, Out.ret, f_do_meet a0 a1, ?_, out_ret _⟩
  unfold f_do_meet
  change SV _ _ _ [.val a0, .val a1, .junk] _ _ _
  exact sv_ret (inj := id) (fun _ => rfl) (ev_callB (cd_any C.calm) (by rfl) B.any (by decide +kernel) (el_cons (ev_lc (own := [(("thing" : Str), 2)]) (dec := dec1) (g := gName 2) (Γz := fun z1 => [.val a0, .val a1, .val z1]) C (ei_seq (vv 0)) (blkOk_by (by rfl)) (tg_name (by simp)) (fun _ _ _ _ _ => pgn 2 C.nd) (fun z1 _ _ _ _ _ => ets_nil) (fun z1 _ _ _ _ _ => (ev_cmp (od_in C.blk.room) (vv 2) (vv 1) (by rfl)))) el_nil))
theorem ok_needed_of (B : Bn mg) (c_ALARM : ∃ t, mg "ALARM" = some (.str "alarm" t)) (K_candidates_of : Cal P w K mg base 3 "candidates_of" ["net", "report"] (spF K mg false 2 (fn2 f_candidates_of))) (K_reach_of : Cal P w K mg base 1 "reach_of" ["net", "component"] (spF K mg false 2 (fn2 f_reach_of))) (K_with_word : Cal P w K mg base 1 "with_word" ["report", "word"] (spF K mg false 2 (fn2 f_with_word))) (FA : FunAt K mg "needed_of" s_needed_of) : Cal P w K mg base 4 "needed_of" ["net", "report"] (spF K mg false 2 (fn2 f_needed_of)) := by
  obtain ⟨_, c_ALARM⟩ := c_ALARM
  refine mk_pure (N := ["net", "report", "some", "found", "component", "one"]) (k := 3) FA sc_needed_of rfl (fun _ _ _ _ _ _ us hl => match us, hl with | [_, _], _ => rfl) (fun f cdv A outer s H E C ds hn => ?_)
  obtain ⟨a0, a1, rfl⟩ := len2 hn
  refine ⟨D, Out.ret, f_needed_of a0 a1, ?_, out_ret _⟩
  unfold f_needed_of
  change SV _ _ _ [.val a0, .val a1, .junk, .junk, .junk, .junk] _ _ _
  refine sv_set 2 C.nd (call C K_candidates_of ar2 (el_cons (vv 0) (el_cons (vv 1) el_nil))) (fun v1 => ?_)
  change SV _ _ _ [.val a0, .val a1, .val v1, .junk, .junk, .junk] _ _ _
  refine sv_setO 3 (ps_o C.nd (eo_lst el_nil)) (fun xs7 => ?_)
  change SV _ _ _ [.val a0, .val a1, .val v1, .own xs7, .junk, .junk] _ _ _
  refine sv_forS (dec := dec1) (g := gName 4) (vs := [4]) (mk := (fun (c13 : List D) => [.val a0, .val a1, .val v1, .own c13, .junk, .junk])) (c0 := xs7) C (ei_seq (call C K_with_word ar2 (el_cons (vv 1) (el_cons (ev_glob (v := .str "alarm") (by rfl) c_ALARM ⟨_, rfl⟩ fun _ => .str _) el_nil)))) (pgn 4 C.nd) (fun _ => tg_name (by simp)) (wk (wk (wk (wk (wj (wj wn)))))) (fun c13 z14 => ?_) (fun c13 => ?_)
  · change SV _ _ _ [.val a0, .val a1, .val v1, .own c13, .val z14, .junk] _ _ _
    refine sv_append 3 (xs := c13) rfl (ev_callTy cd_tuple (by rfl) B.tuple (by decide +kernel) (el_cons (ev_lc (own := [(("one" : Str), 5)]) (dec := dec1) (g := gName 5) (Γz := fun z21 => [.val a0, .val a1, .val v1, .own c13, .val z14, .val z21]) C (ei_seq (call C K_reach_of ar2 (el_cons (vv 0) (el_cons (vv 4) el_nil)))) (blkOk_by (by rfl)) (tg_name (by simp)) (fun _ _ _ _ _ => pgn 5 C.nd) (fun z21 _ _ _ _ _ => (ets_one (eb_cmp (od_in C.blk.room) (vv 5) (vv 2) (by rfl)))) (fun z21 _ _ _ _ _ => (vv 5))) el_nil)) (fun d28 => ?_)
    change SV _ _ _ [.val a0, .val a1, .val v1, .own (c13 ++ [d28]), .val z14, .junk] _ _ _
    exact sv_nil rfl (wk (wk (wk (wk (wj (wj wn))))))
  · change SV _ _ _ [.val a0, .val a1, .val v1, .own c13, .junk, .junk] _ _ _
    refine sv_pub 3 (xs := c13) rfl ?_
    change SV _ _ _ [.val a0, .val a1, .val v1, .val (D.lst c13), .junk, .junk] _ _ _
    exact sv_ret (inj := id) (fun _ => rfl) (vv 3)
theorem ok_subsets_of (B : Bn mg) (FA : FunAt K mg "subsets_of" s_subsets_of) : Cal P w K mg base 1 "subsets_of" ["things"] (spF K mg false 1 (fn1 f_subsets_of)) := by
  refine mk_pure (N := ["things", "found", "thing", "row"]) (k := 0) FA sc_subsets_of rfl (fun _ _ _ _ _ _ us hl => match us, hl with | [_], _ => rfl) (fun f cdv A outer s H E C ds hn => ?_)
  obtain ⟨a0, rfl⟩ := len1 hn
  refine ⟨D, Out.ret, f_subsets_of a0, ?_, out_ret _⟩
  unfold f_subsets_of
  change SV _ _ _ [.val a0, .junk, .junk, .junk] _ _ _
  refine sv_set 1 C.nd (ev_lst (el_cons (ev_tup el_nil) el_nil)) (fun v1 => ?_)
  change SV _ _ _ [.val a0, .val v1, .junk, .junk] _ _ _
  refine sv_forS (dec := dec1) (g := gName 2) (vs := [2]) (mk := (fun (c4 : D) => [.val a0, .val c4, .junk, .junk])) (c0 := v1) C (ei_seq (vv 0)) (pgn 2 C.nd) (fun _ => tg_name (by simp)) (wk (wk (wj (wj wn)))) (fun c4 z5 => ?_) (fun c4 => ?_)
  · change SV _ _ _ [.val a0, .val c4, .val z5, .junk] _ _ _
    refine sv_set 1 C.nd (ev_op od_add (vv 1) (ev_lc (own := [(("row" : Str), 3)]) (dec := dec1) (g := gName 3) (Γz := fun z8 => [.val a0, .val c4, .val z5, .val z8]) C (ei_seq (vv 1)) (blkOk_by (by rfl)) (tg_name (by simp)) (fun _ _ _ _ _ => pgn 3 C.nd) (fun z8 _ _ _ _ _ => ets_nil) (fun z8 _ _ _ _ _ => (ev_tup (el_star (vv 3) (el_cons (vv 2) el_nil)))))) (fun v7 => ?_)
    change SV _ _ _ [.val a0, .val v7, .val z5, .junk] _ _ _
    exact sv_nil rfl (wk (wk (wj (wj wn))))
  · change SV _ _ _ [.val a0, .val c4, .junk, .junk] _ _ _
    exact sv_ret (inj := id) (fun _ => rfl) (ev_callB (cd_sortedG C.room) (by rfl) B.sorted (by decide +kernel) (el_cons (vv 1) el_nil))
theorem ok_explanations_of (B : Bn mg) (K_candidates_of : Cal P w K mg base 3 "candidates_of" ["net", "report"] (spF K mg false 2 (fn2 f_candidates_of))) (K_do_meet : Cal P w K mg base 1 "do_meet" ["one", "other"] (spF K mg false 2 (fn2 f_do_meet))) (K_needed_of : Cal P w K mg base 4 "needed_of" ["net", "report"] (spF K mg false 2 (fn2 f_needed_of))) (K_subsets_of : Cal P w K mg base 1 "subsets_of" ["things"] (spF K mg false 1 (fn1 f_subsets_of))) (FA : FunAt K mg "explanations_of" s_explanations_of) : Cal P w K mg base 5 "explanations_of" ["net", "report"] (spF K mg false 2 (fn2 f_explanations_of)) := by
  refine mk_pure (N := ["net", "report", "needed", "some", "one"]) (k := 4) FA sc_explanations_of rfl (fun _ _ _ _ _ _ us hl => match us, hl with | [_, _], _ => rfl) (fun f cdv A outer s H E C ds hn => ?_)
  obtain ⟨a0, a1, rfl⟩ := len2 hn
  refine ⟨D, Out.ret, f_explanations_of a0 a1, ?_, out_ret _⟩
  unfold f_explanations_of
  change SV _ _ _ [.val a0, .val a1, .junk, .junk, .junk] _ _ _
  refine sv_set 2 C.nd (call C K_needed_of ar2 (el_cons (vv 0) (el_cons (vv 1) el_nil))) (fun v1 => ?_)
  change SV _ _ _ [.val a0, .val a1, .val v1, .junk, .junk] _ _ _
  exact sv_ret (inj := id) (fun _ => rfl) (ev_lc (own := [(("some" : Str), 3)]) (dec := dec1) (g := gName 3) (Γz := fun z15 => [.val a0, .val a1, .val v1, .val z15, .junk]) C (ei_seq (call C K_subsets_of ar1 (el_cons (call C K_candidates_of ar2 (el_cons (vv 0) (el_cons (vv 1) el_nil))) el_nil))) (blkOk_by (by rfl)) (tg_name (by simp)) (fun _ _ _ _ _ => pgn 3 C.nd) (fun z15 _ _ _ _ _ => (ets_one (eb_val (ev_callB (cd_all C.blk.calm) (by rfl) B.all (by decide +kernel) (el_cons (ev_lc (own := [(("one" : Str), 4)]) (dec := dec1) (g := gName 4) (Γz := fun z16 => [.val a0, .val a1, .val v1, .val z15, .val z16]) C.blk (ei_seq (vv 2)) (blkOk_by (by rfl)) (tg_name (by simp)) (fun _ _ _ _ _ => pgn 4 C.blk.nd) (fun z16 _ _ _ _ _ => ets_nil) (fun z16 _ _ _ _ _ => (call C.blk.blk K_do_meet ar2 (el_cons (vv 4) (el_cons (vv 3) el_nil))))) el_nil))))) (fun z15 _ _ _ _ _ => (vv 3)))
theorem ok_explanations (B : Bn mg) (K_explanations_of : Cal P w K mg base 5 "explanations_of" ["net", "report"] (spF K mg false 2 (fn2 f_explanations_of))) (K_need_report : Cal P w K mg base 5 "need_report" ["net", "thing"] (spF K mg false 2 (fn2 f_need_report))) (FA : FunAt K mg "explanations" s_explanations) : CalG P w K mg base 6 "explanations" ["net", "report"] (spGx K mg 2 (fnL2 f_explanations)) := by
  refine mk_genX (by decide) (N := ["net", "report", "broken"]) (k := 5) FA sc_explanations rfl (fun _ _ _ _ _ _ us hl => match us, hl with | [_, _], _ => rfl) (fun f cdv A outer s H E pn C ds hn => ?_)
  obtain ⟨a0, a1, rfl⟩ := len2 hn
  change GSs _ _ (gbT _ _ _ [.val a0, .val a1, .junk] (f_explanations a0 a1))
  unfold f_explanations
  exact gb_for 2 C (call C K_need_report ar2 (el_cons (vv 0) (el_cons (vv 1) el_nil))) (ei_seq (call C K_explanations_of ar2 (el_cons (vv 0) (el_cons (vv 1) el_nil)))) (wk (wk (wj wn))) (pgn 2 C.nd) (by simp)
theorem ok_how_many (B : Bn mg) (K_explanations_of : Cal P w K mg base 5 "explanations_of" ["net", "report"] (spF K mg false 2 (fn2 f_explanations_of))) (K_need_report : Cal P w K mg base 5 "need_report" ["net", "thing"] (spF K mg false 2 (fn2 f_need_report))) (FA : FunAt K mg "how_many" s_how_many) : Cal P w K mg base 6 "how_many" ["net", "report"] (spF K mg false 2 (fn2 f_how_many)) := by
  refine mk_pure (N := ["net", "report"]) (k := 5) FA sc_how_many rfl (fun _ _ _ _ _ _ us hl => match us, hl with | [_, _], _ => rfl) (fun f cdv A outer s H E C ds hn => ?_)
  obtain ⟨a0, a1, rfl⟩ := len2 hn
  refine ⟨D, Out.ret, f_how_many a0 a1, ?_, out_ret _⟩
  unfold f_how_many
  change SV _ _ _ [.val a0, .val a1] _ _ _
  refine sv_expr (call C K_need_report ar2 (el_cons (vv 0) (el_cons (vv 1) el_nil))) ?_
  change SV _ _ _ [.val a0, .val a1] _ _ _
  exact sv_ret (inj := id) (fun _ => rfl) (ev_callB cd_len (by rfl) B.len PySem.boot_len (el_cons (call C K_explanations_of ar2 (el_cons (vv 0) (el_cons (vv 1) el_nil))) el_nil))
theorem ok_rulers_of (B : Bn mg) (c_QUIET : ∃ t, mg "QUIET" = some (.str "quiet" t)) (K_reach_of : Cal P w K mg base 1 "reach_of" ["net", "component"] (spF K mg false 2 (fn2 f_reach_of))) (K_with_word : Cal P w K mg base 1 "with_word" ["report", "word"] (spF K mg false 2 (fn2 f_with_word))) (FA : FunAt K mg "rulers_of" s_rulers_of) : Cal P w K mg base 2 "rulers_of" ["net", "report", "component"] (spF K mg false 3 (fn3 f_rulers_of)) := by
  obtain ⟨_, c_QUIET⟩ := c_QUIET
  refine mk_pure (N := ["net", "report", "component", "other"]) (k := 1) FA sc_rulers_of rfl (fun _ _ _ _ _ _ us hl => match us, hl with | [_, _, _], _ => rfl) (fun f cdv A outer s H E C ds hn => ?_)
  obtain ⟨a0, a1, a2, rfl⟩ := len3 hn
  refine ⟨D, Out.ret, f_rulers_of a0 a1 a2, ?_, out_ret _⟩
  unfold f_rulers_of
  change SV _ _ _ [.val a0, .val a1, .val a2, .junk] _ _ _
  exact sv_ret (inj := id) (fun _ => rfl) (ev_lc (own := [(("other" : Str), 3)]) (dec := dec1) (g := gName 3) (Γz := fun z6 => [.val a0, .val a1, .val a2, .val z6]) C (ei_seq (call C K_with_word ar2 (el_cons (vv 1) (el_cons (ev_glob (v := .str "quiet") (by rfl) c_QUIET ⟨_, rfl⟩ fun _ => .str _) el_nil)))) (blkOk_by (by rfl)) (tg_name (by simp)) (fun _ _ _ _ _ => pgn 3 C.nd) (fun z6 _ _ _ _ _ => (ets_one (eb_cmp (od_in C.blk.room) (vv 2) (call C.blk K_reach_of ar2 (el_cons (vv 0) (el_cons (vv 3) el_nil))) (by rfl)))) (fun z6 _ _ _ _ _ => (vv 3)))
theorem ok_are_rulers (B : Bn mg) (c_ALARM : ∃ t, mg "ALARM" = some (.str "alarm" t)) (K_is_between : Cal P w K mg base 1 "is_between" ["thing", "low", "high"] (spF K mg false 3 (fn3 f_is_between))) (K_reach_of : Cal P w K mg base 1 "reach_of" ["net", "component"] (spF K mg false 2 (fn2 f_reach_of))) (K_rulers_of : Cal P w K mg base 2 "rulers_of" ["net", "report", "component"] (spF K mg false 3 (fn3 f_rulers_of))) (FA : FunAt K mg "are_rulers" s_are_rulers) : Cal P w K mg base 3 "are_rulers" ["net", "report", "alarm", "quiets"] (spF K mg false 4 (fn4 f_are_rulers)) := by
  obtain ⟨_, c_ALARM⟩ := c_ALARM
  refine mk_pure (N := ["net", "report", "alarm", "quiets", "own", "one", "quiet"]) (k := 2) FA sc_are_rulers rfl (fun _ _ _ _ _ _ us hl => match us, hl with | [_, _, _, _], _ => rfl) (fun f cdv A outer s H E C ds hn => ?_)
  obtain ⟨a0, a1, a2, a3, rfl⟩ := len4 hn
  refine ⟨D, Out.ret, f_are_rulers a0 a1 a2 a3, ?_, out_ret _⟩
  unfold f_are_rulers
  change SV _ _ _ [.val a0, .val a1, .val a2, .val a3, .junk, .junk, .junk] _ _ _
  refine sv_ifR (eb_bool (ew_or (eb_not (eb_val (call C K_is_between ar3 (el_cons (vv 2) (el_cons ev_int (el_cons (ev_op od_sub (ev_callB cd_len (by rfl) B.len PySem.boot_len (el_cons (vv 0) el_nil)) ev_int) el_nil)))))) (ew_or (eb_cmp (od_ne C.room) (ev_ix (vv 1) (vv 2) (fun _ _ => rfl)) (ev_glob (v := .str "alarm") (by rfl) c_ALARM ⟨_, rfl⟩ fun _ => .str _) (nomark _)) (ew_or1 (eb_not (eb_val (ev_isi (T := "tuple") (by decide) (vv 3) (by rfl) B.isinstance (by rfl) B.tuple (by decide +kernel)))))))) ?_ (by repeat first | exact nf_bad | exact nf_raise | exact nf_raiseF | exact nf_ret (fun _ => rfl) | refine nf_bind (fun _ => ?_) | refine nf_unp2 (fun _ _ => ?_) | refine nf_ite ?_ ?_) ?_
  · exact sv_ret (inj := id) (fun _ => rfl) ev_bl
  · refine sv_set 4 C.nd (call C K_reach_of ar2 (el_cons (vv 0) (el_cons (vv 2) el_nil))) (fun v22 => ?_)
    change SV _ _ _ [.val a0, .val a1, .val a2, .val a3, .val v22, .junk, .junk] _ _ _
    refine sv_ifR (eb_bool (ew_or (eb_cmp (od_ne C.room) (ev_callB cd_len (by rfl) B.len PySem.boot_len (el_cons (vv 3) el_nil)) (ev_callB cd_len (by rfl) B.len PySem.boot_len (el_cons (vv 4) el_nil)) (nomark _)) (ew_or1 (eb_not (eb_val (ev_callB (cd_all C.calm) (by rfl) B.all (by decide +kernel) (el_cons (ev_lc (own := [(("one" : Str), 5)]) (dec := dec1) (g := gName 5) (Γz := fun z34 => [.val a0, .val a1, .val a2, .val a3, .val v22, .val z34, .junk]) C (ei_seq (vv 3)) (blkOk_by (by rfl)) (tg_name (by simp)) (fun _ _ _ _ _ => pgn 5 C.nd) (fun z34 _ _ _ _ _ => ets_nil) (fun z34 _ _ _ _ _ => (call C.blk K_is_between ar3 (el_cons (vv 5) (el_cons ev_int (el_cons (ev_op od_sub (ev_callB cd_len (by rfl) B.len PySem.boot_len (el_cons (vv 0) el_nil)) ev_int) el_nil)))))) el_nil))))))) ?_ (by repeat first | exact nf_bad | exact nf_raise | exact nf_raiseF | exact nf_ret (fun _ => rfl) | refine nf_bind (fun _ => ?_) | refine nf_unp2 (fun _ _ => ?_) | refine nf_ite ?_ ?_) ?_
    · exact sv_ret (inj := id) (fun _ => rfl) ev_bl
    · exact sv_ret (inj := id) (fun _ => rfl) (ev_callB (cd_all C.calm) (by rfl) B.all (by decide +kernel) (el_cons (ev_lc (own := [(("one" : Str), 5), (("quiet" : Str), 6)]) (dec := dec2) (g := gTup _ 2 (gCons (gName 5) (gCons (gName 6) gNil))) (Γz := fun z58 => [.val a0, .val a1, .val a2, .val a3, .val v22, .val z58.1, .val z58.2]) C (ei_zip (by rfl) B.zip (el_cons (vv 4) (el_cons (vv 3) el_nil))) (blkOk_by (by rfl)) (tg_pair (by simp) (by simp)) (fun _ _ _ _ _ => pg_tup rfl (pgs_cons (pgn 5 C.nd) (pgs_cons (pgn 6 C.nd) pgs_nil))) (fun z58 _ _ _ _ _ => ets_nil) (fun z58 _ _ _ _ _ => (ev_cmp (od_in C.blk.room) (vv 6) (call C.blk K_rulers_of ar3 (el_cons (vv 0) (el_cons (vv 1) (el_cons (vv 5) el_nil)))) (by rfl)))) el_nil))
theorem ok_alarms_of (B : Bn mg) (K_all_reaches : Cal P w K mg base 2 "all_reaches" ["net"] (spF K mg false 1 (fn1 f_all_reaches))) (K_do_meet : Cal P w K mg base 1 "do_meet" ["one", "other"] (spF K mg false 2 (fn2 f_do_meet))) (FA : FunAt K mg "alarms_of" s_alarms_of) : Cal P w K mg base 3 "alarms_of" ["net", "broken"] (spF K mg false 2 (fn2 f_alarms_of)) := by
  refine mk_pure (N := ["net", "broken", "component", "own"]) (k := 2) FA sc_alarms_of rfl (fun _ _ _ _ _ _ us hl => match us, hl with | [_, _], _ => rfl) (fun f cdv A outer s H E C ds hn => ?_)
  obtain ⟨a0, a1, rfl⟩ := len2 hn
  refine ⟨D, Out.ret, f_alarms_of a0 a1, ?_, out_ret _⟩
  unfold f_alarms_of
  change SV _ _ _ [.val a0, .val a1, .junk, .junk] _ _ _
  exact sv_ret (inj := id) (fun _ => rfl) (ev_callTy cd_tuple (by rfl) B.tuple (by decide +kernel) (el_cons (ev_lc (own := [(("component" : Str), 2), (("own" : Str), 3)]) (dec := dec2) (g := gTup _ 2 (gCons (gName 2) (gCons (gName 3) gNil))) (Γz := fun z6 => [.val a0, .val a1, .val z6.1, .val z6.2]) C (ei_enum (by rfl) B.enumerate (el_cons (call C K_all_reaches ar1 (el_cons (vv 0) el_nil)) el_nil)) (blkOk_by (by rfl)) (tg_pair (by simp) (by simp)) (fun _ _ _ _ _ => pg_tup rfl (pgs_cons (pgn 2 C.nd) (pgs_cons (pgn 3 C.nd) pgs_nil))) (fun z6 _ _ _ _ _ => (ets_one (eb_val (call C.blk K_do_meet ar2 (el_cons (vv 3) (el_cons (vv 1) el_nil)))))) (fun z6 _ _ _ _ _ => (vv 2))) el_nil))
theorem ok_does_explain (B : Bn mg) (c_ALARM : ∃ t, mg "ALARM" = some (.str "alarm" t)) (c_UNSEEN : ∃ t, mg "UNSEEN" = some (.str "unseen" t)) (K_alarms_of : Cal P w K mg base 3 "alarms_of" ["net", "broken"] (spF K mg false 2 (fn2 f_alarms_of))) (FA : FunAt K mg "does_explain" s_does_explain) : Cal P w K mg base 4 "does_explain" ["net", "report", "broken"] (spF K mg false 3 (fn3 f_does_explain)) := by
  obtain ⟨_, c_ALARM⟩ := c_ALARM
  obtain ⟨_, c_UNSEEN⟩ := c_UNSEEN
  refine mk_pure (N := ["net", "report", "broken", "alarming", "component", "word"]) (k := 3) FA sc_does_explain rfl (fun _ _ _ _ _ _ us hl => match us, hl with | [_, _, _], _ => rfl) (fun f cdv A outer s H E C ds hn => ?_)
  obtain ⟨a0, a1, a2, rfl⟩ := len3 hn
  refine ⟨D, Out.ret, f_does_explain a0 a1 a2, ?_, out_ret _⟩
  unfold f_does_explain
  change SV _ _ _ [.val a0, .val a1, .val a2, .junk, .junk, .junk] _ _ _
  refine sv_set 3 C.nd (call C K_alarms_of ar2 (el_cons (vv 0) (el_cons (vv 2) el_nil))) (fun v1 => ?_)
  change SV _ _ _ [.val a0, .val a1, .val a2, .val v1, .junk, .junk] _ _ _
  refine sv_forL (dec := dec2) (g := gTup _ 2 (gCons (gName 4) (gCons (gName 5) gNil))) (vs := [4, 5]) (mk := (fun (c9 : Unit) => [.val a0, .val a1, .val a2, .val v1, .junk, .junk])) (c0 := ()) (inj := id) C (ei_enum (by rfl) B.enumerate (el_cons (vv 1) el_nil)) (pg_tup rfl (pgs_cons (pgn 4 C.nd) (pgs_cons (pgn 5 C.nd) pgs_nil))) (fun _ => tg_pair (by simp) (by simp)) (wk (wk (wk (wk (wj (wj wn)))))) (fun _ => rfl) (fun c9 z10 => ?_) (fun c9 => ?_)
  · change SV _ _ _ [.val a0, .val a1, .val a2, .val v1, .val z10.1, .val z10.2] _ _ _
    refine sv_ifR (eb_bool (ew_and (eb_cmp (od_ne C.room) (vv 5) (ev_glob (v := .str "unseen") (by rfl) c_UNSEEN ⟨_, rfl⟩ fun _ => .str _) (nomark _)) (ew_and1 (eb_cmp (od_ne C.room) (ev_cmp (od_eq C.room) (vv 5) (ev_glob (v := .str "alarm") (by rfl) c_ALARM ⟨_, rfl⟩ fun _ => .str _) (nomark _)) (ev_cmp (od_in C.room) (vv 4) (vv 3) (by rfl)) (nomark _))))) ?_ (by repeat first | exact nf_bad | exact nf_raise | exact nf_raiseF | exact nf_ret (fun _ => rfl) | refine nf_bind (fun _ => ?_) | refine nf_unp2 (fun _ _ => ?_) | refine nf_ite ?_ ?_) ?_
    · exact sv_ret (inj := Lp.ret) (fun _ => rfl) ev_bl
    · exact sv_nil rfl (wk (wk (wk (wk (wj (wj wn))))))
  · change SV _ _ _ [.val a0, .val a1, .val a2, .val v1, .junk, .junk] _ _ _
    exact sv_ret (inj := id) (fun _ => rfl) ev_bl
theorem ok_shows_verdict (B : Bn mg) (K_are_rulers : Cal P w K mg base 3 "are_rulers" ["net", "report", "alarm", "quiets"] (spF K mg false 4 (fn4 f_are_rulers))) (K_does_explain : Cal P w K mg base 4 "does_explain" ["net", "report", "broken"] (spF K mg false 3 (fn3 f_does_explain))) (K_is_rising : Cal P w K mg base 2 "is_rising" ["size", "thing"] (spF K mg false 2 (fn2 f_is_rising))) (K_need_report : Cal P w K mg base 5 "need_report" ["net", "thing"] (spF K mg false 2 (fn2 f_need_report))) (FA : FunAt K mg "shows_verdict" s_shows_verdict) : Cal P w K mg base 6 "shows_verdict" ["net", "report", "thing"] (spF K mg false 3 (fn3 f_shows_verdict)) := by
  refine mk_pure (N := ["net", "report", "thing"]) (k := 5) FA sc_shows_verdict rfl (fun _ _ _ _ _ _ us hl => match us, hl with | [_, _, _], _ => rfl) (fun f cdv A outer s H E C ds hn => ?_)
  obtain ⟨a0, a1, a2, rfl⟩ := len3 hn
  refine ⟨D, Out.ret, f_shows_verdict a0 a1 a2, ?_, out_ret _⟩
  unfold f_shows_verdict
  change SV _ _ _ [.val a0, .val a1, .val a2] _ _ _
  refine sv_expr (call C K_need_report ar2 (el_cons (vv 0) (el_cons (vv 1) el_nil))) ?_
  change SV _ _ _ [.val a0, .val a1, .val a2] _ _ _
  refine sv_ifR (eb_bool (ew_or (eb_not (eb_val (ev_isi (T := "tuple") (by decide) (vv 2) (by rfl) B.isinstance (by rfl) B.tuple (by decide +kernel)))) (ew_or (eb_cmp od_lt (ev_callB cd_len (by rfl) B.len PySem.boot_len (el_cons (vv 2) el_nil)) ev_int (nomark _)) (ew_or1 (eb_not (eb_val (ev_isi (T := "str") (by decide) (ev_ix (vv 2) ev_int (fun _ _ => rfl)) (by rfl) B.isinstance (by rfl) B.str (by decide +kernel)))))))) ?_ (by repeat first | exact nf_bad | exact nf_raise | exact nf_raiseF | exact nf_ret (fun _ => rfl) | refine nf_bind (fun _ => ?_) | refine nf_unp2 (fun _ _ => ?_) | refine nf_ite ?_ ?_) ?_
  · exact sv_ret (inj := id) (fun _ => rfl) ev_bl
  · refine sv_match C (el_cons (ev_ix (vv 2) ev_int (fun _ _ => rfl)) (el_cons (ev_callB cd_len (by rfl) B.len PySem.boot_len (el_cons (vv 2) el_nil)) el_nil)) (.cons ?_ (by repeat first | exact nf_bad | exact nf_raise | exact nf_raiseF | exact nf_ret (fun _ => rfl) | refine nf_bind (fun _ => ?_) | refine nf_unp2 (fun _ _ => ?_) | refine nf_ite ?_ ?_) (.cons ?_ (by repeat first | exact nf_bad | exact nf_raise | exact nf_raiseF | exact nf_ret (fun _ => rfl) | refine nf_bind (fun _ => ?_) | refine nf_unp2 (fun _ _ => ?_) | refine nf_ite ?_ ?_) .nil)) ?_
    · exact sv_ret (inj := id) (fun _ => rfl) (ev_and (call C K_is_rising ar2 (el_cons (ev_callB cd_len (by rfl) B.len PySem.boot_len (el_cons (vv 0) el_nil)) (el_cons (ev_ix (vv 2) ev_int (fun _ _ => rfl)) el_nil))) (ev_one (call C K_does_explain ar3 (el_cons (vv 0) (el_cons (vv 1) (el_cons (ev_ix (vv 2) ev_int (fun _ _ => rfl)) el_nil))))))
    · exact sv_ret (inj := id) (fun _ => rfl) (call C K_are_rulers ar4 (el_cons (vv 0) (el_cons (vv 1) (el_cons (ev_ix (vv 2) ev_int (fun _ _ => rfl)) (el_cons (ev_ix (vv 2) ev_int (fun _ _ => rfl)) el_nil)))))
    · exact sv_ret (inj := id) (fun _ => rfl) ev_bl
theorem ok_is_explained (B : Bn mg) (K_needed_of : Cal P w K mg base 4 "needed_of" ["net", "report"] (spF K mg false 2 (fn2 f_needed_of))) (FA : FunAt K mg "is_explained" s_is_explained) : Cal P w K mg base 5 "is_explained" ["net", "report"] (spF K mg false 2 (fn2 f_is_explained)) := by
  refine mk_pure (N := ["net", "report"]) (k := 4) FA sc_is_explained rfl (fun _ _ _ _ _ _ us hl => match us, hl with | [_, _], _ => rfl) (fun f cdv A outer s H E C ds hn => ?_)
  obtain ⟨a0, a1, rfl⟩ := len2 hn
  refine ⟨D, Out.ret, f_is_explained a0 a1, ?_, out_ret _⟩
  unfold f_is_explained
  change SV _ _ _ [.val a0, .val a1] _ _ _
  exact sv_ret (inj := id) (fun _ => rfl) (ev_cmp (od_notIn C.room) (ev_tup el_nil) (call C K_needed_of ar2 (el_cons (vv 0) (el_cons (vv 1) el_nil))) (by rfl))
theorem ok_ruled_out (B : Bn mg) (c_ALARM : ∃ t, mg "ALARM" = some (.str "alarm" t)) (K_candidates_of : Cal P w K mg base 3 "candidates_of" ["net", "report"] (spF K mg false 2 (fn2 f_candidates_of))) (K_do_meet : Cal P w K mg base 1 "do_meet" ["one", "other"] (spF K mg false 2 (fn2 f_do_meet))) (K_reach_of : Cal P w K mg base 1 "reach_of" ["net", "component"] (spF K mg false 2 (fn2 f_reach_of))) (K_rulers_of : Cal P w K mg base 2 "rulers_of" ["net", "report", "component"] (spF K mg false 3 (fn3 f_rulers_of))) (K_with_word : Cal P w K mg base 1 "with_word" ["report", "word"] (spF K mg false 2 (fn2 f_with_word))) (FA : FunAt K mg "ruled_out" s_ruled_out) : Cal P w K mg base 4 "ruled_out" ["net", "report"] (spF K mg false 2 (fn2 f_ruled_out)) := by
  obtain ⟨_, c_ALARM⟩ := c_ALARM
  refine mk_pure (N := ["net", "report", "some", "alarm", "one"]) (k := 3) FA sc_ruled_out rfl (fun _ _ _ _ _ _ us hl => match us, hl with | [_, _], _ => rfl) (fun f cdv A outer s H E C ds hn => ?_)
  obtain ⟨a0, a1, rfl⟩ := len2 hn
  refine ⟨D, Out.ret, f_ruled_out a0 a1, ?_, out_ret _⟩
  unfold f_ruled_out
  change SV _ _ _ [.val a0, .val a1, .junk, .junk, .junk] _ _ _
  refine sv_set 2 C.nd (call C K_candidates_of ar2 (el_cons (vv 0) (el_cons (vv 1) el_nil))) (fun v1 => ?_)
  change SV _ _ _ [.val a0, .val a1, .val v1, .junk, .junk] _ _ _
  refine sv_set 3 C.nd (ev_ix (ev_lc (own := [(("one" : Str), 4)]) (dec := dec1) (g := gName 4) (Γz := fun z13 => [.val a0, .val a1, .val v1, .junk, .val z13]) C (ei_seq (call C K_with_word ar2 (el_cons (vv 1) (el_cons (ev_glob (v := .str "alarm") (by rfl) c_ALARM ⟨_, rfl⟩ fun _ => .str _) el_nil)))) (blkOk_by (by rfl)) (tg_name (by simp)) (fun _ _ _ _ _ => pgn 4 C.nd) (fun z13 _ _ _ _ _ => (ets_one (eb_not (eb_val (call C.blk K_do_meet ar2 (el_cons (call C.blk K_reach_of ar2 (el_cons (vv 0) (el_cons (vv 4) el_nil))) (el_cons (vv 2) el_nil))))))) (fun z13 _ _ _ _ _ => (vv 4))) ev_int (fun _ _ => rfl)) (fun v7 => ?_)
  change SV _ _ _ [.val a0, .val a1, .val v1, .val v7, .junk] _ _ _
  exact sv_ret (inj := id) (fun _ => rfl) (ev_tup (el_cons (vv 3) (el_cons (ev_callTy cd_tuple (by rfl) B.tuple (by decide +kernel) (el_cons (ev_lc (own := [(("one" : Str), 4)]) (dec := dec1) (g := gName 4) (Γz := fun z34 => [.val a0, .val a1, .val v1, .val v7, .val z34]) C (ei_seq (call C K_reach_of ar2 (el_cons (vv 0) (el_cons (vv 3) el_nil)))) (blkOk_by (by rfl)) (tg_name (by simp)) (fun _ _ _ _ _ => pgn 4 C.nd) (fun z34 _ _ _ _ _ => ets_nil) (fun z34 _ _ _ _ _ => (ev_ix (call C.blk K_rulers_of ar3 (el_cons (vv 0) (el_cons (vv 1) (el_cons (vv 4) el_nil)))) ev_int (fun _ _ => rfl)))) el_nil)) el_nil)))
theorem ok_verdict_of (B : Bn mg) (c_BROKEN : ∃ t, mg "BROKEN" = some (.str "broken" t)) (c_NONE : ∃ t, mg "NONE" = some (.str "none" t)) (K_candidates_of : Cal P w K mg base 3 "candidates_of" ["net", "report"] (spF K mg false 2 (fn2 f_candidates_of))) (K_is_explained : Cal P w K mg base 5 "is_explained" ["net", "report"] (spF K mg false 2 (fn2 f_is_explained))) (K_ruled_out : Cal P w K mg base 4 "ruled_out" ["net", "report"] (spF K mg false 2 (fn2 f_ruled_out))) (FA : FunAt K mg "verdict_of" s_verdict_of) : Cal P w K mg base 6 "verdict_of" ["net", "report"] (spF K mg false 2 (fn2 f_verdict_of)) := by
  obtain ⟨_, c_BROKEN⟩ := c_BROKEN
  obtain ⟨_, c_NONE⟩ := c_NONE
  refine mk_pure (N := ["net", "report", "alarm", "quiets"]) (k := 5) FA sc_verdict_of rfl (fun _ _ _ _ _ _ us hl => match us, hl with | [_, _], _ => rfl) (fun f cdv A outer s H E C ds hn => ?_)
  obtain ⟨a0, a1, rfl⟩ := len2 hn
  refine ⟨D, Out.ret, f_verdict_of a0 a1, ?_, out_ret _⟩
  unfold f_verdict_of
  change SV _ _ _ [.val a0, .val a1, .junk, .junk] _ _ _
  refine sv_ifR (eb_val (call C K_is_explained ar2 (el_cons (vv 0) (el_cons (vv 1) el_nil)))) ?_ (by repeat first | exact nf_bad | exact nf_raise | exact nf_raiseF | exact nf_ret (fun _ => rfl) | refine nf_bind (fun _ => ?_) | refine nf_unp2 (fun _ _ => ?_) | refine nf_ite ?_ ?_) ?_
  · exact sv_ret (inj := id) (fun _ => rfl) (ev_tup (el_cons (ev_glob (v := .str "broken") (by rfl) c_BROKEN ⟨_, rfl⟩ fun _ => .str _) (el_cons (call C K_candidates_of ar2 (el_cons (vv 0) (el_cons (vv 1) el_nil))) el_nil)))
  · refine sv_unp 2 3 C (call C K_ruled_out ar2 (el_cons (vv 0) (el_cons (vv 1) el_nil))) (fun v17 v18 => ?_) (pg_tup rfl (pgs_cons (pgn 2 C.nd) (pgs_cons (pgn 3 C.nd) pgs_nil)))
    change SV _ _ _ [.val a0, .val a1, .val v17, .val v18] _ _ _
    exact sv_ret (inj := id) (fun _ => rfl) (ev_tup (el_cons (ev_glob (v := .str "none") (by rfl) c_NONE ⟨_, rfl⟩ fun _ => .str _) (el_cons (vv 2) (el_cons (vv 3) el_nil))))
theorem ok_verdict (B : Bn mg) (K_need_report : Cal P w K mg base 5 "need_report" ["net", "thing"] (spF K mg false 2 (fn2 f_need_report))) (K_verdict_of : Cal P w K mg base 6 "verdict_of" ["net", "report"] (spF K mg false 2 (fn2 f_verdict_of))) (FA : FunAt K mg "verdict" s_verdict) : Cal P w K mg base 7 "verdict" ["net", "report"] (spF K mg false 2 (fn2 f_verdict)) := by
  refine mk_pure (N := ["net", "report"]) (k := 6) FA sc_verdict rfl (fun _ _ _ _ _ _ us hl => match us, hl with | [_, _], _ => rfl) (fun f cdv A outer s H E C ds hn => ?_)
  obtain ⟨a0, a1, rfl⟩ := len2 hn
  refine ⟨D, Out.ret, f_verdict a0 a1, ?_, out_ret _⟩
  unfold f_verdict
  change SV _ _ _ [.val a0, .val a1] _ _ _
  refine sv_expr (call C K_need_report ar2 (el_cons (vv 0) (el_cons (vv 1) el_nil))) ?_
  change SV _ _ _ [.val a0, .val a1] _ _ _
  exact sv_ret (inj := id) (fun _ => rfl) (call C K_verdict_of ar2 (el_cons (vv 0) (el_cons (vv 1) el_nil)))
theorem ok_law_words (B : Bn mg) (NSG : NoStopN K mg ["NetError", "ReportError"]) (S_law_said : SaidC P w K mg base 31 "_law_said" "nothing") (K_candidates : Cal P w K mg base 6 "candidates" ["net", "report"] (spF K mg false 2 (fn2 f_candidates))) (K_explanations : CalG P w K mg base 6 "explanations" ["net", "report"] (spGx K mg 2 (fnL2 f_explanations))) (K_how_many : Cal P w K mg base 6 "how_many" ["net", "report"] (spF K mg false 2 (fn2 f_how_many))) (K_shows_verdict : Cal P w K mg base 6 "shows_verdict" ["net", "report", "thing"] (spF K mg false 3 (fn3 f_shows_verdict))) (K_verdict : Cal P w K mg base 7 "verdict" ["net", "report"] (spF K mg false 2 (fn2 f_verdict))) (FA : FunL K mg base "_law_words" s_law_words) : Cal P w K mg base 34 "_law_words" ["_law_net_here", "_law_report_here", "_law_thing"] (spF K mg false 3 (fn3 f_law_words)) := by
  refine mk_pureL (N := ["_law_net_here", "_law_report_here", "_law_thing", "_law_words_here"]) (k := 33) FA sc_law_words rfl (fun _ _ _ _ _ _ us hl => match us, hl with | [_, _, _], _ => rfl) (fun f cdv A outer s H E C LA ds hn => ?_)
  obtain ⟨a0, a1, a2, rfl⟩ := len3 hn
  refine ⟨D, Out.ret, f_law_words a0 a1 a2, ?_, out_ret _⟩
  unfold f_law_words
  change SV _ _ _ [.val a0, .val a1, .val a2, .junk] _ _ _
  refine sv_setO 3 (ps_o C.nd (eo_lst (el_cons (ev_saidC C S_law_said LA (fun _ _ _ _ _ _ _ Cl => (call Cl K_candidates ar2 (el_cons (vv 0) (el_cons (vv 1) el_nil))))) el_nil))) (fun xs1 => ?_)
  change SV _ _ _ [.val a0, .val a1, .val a2, .own xs1] _ _ _
  refine sv_append 3 (xs := xs1) rfl (ev_saidC C S_law_said LA (fun _ _ _ _ _ _ _ Cl => (call Cl K_verdict ar2 (el_cons (vv 0) (el_cons (vv 1) el_nil))))) (fun d14 => ?_)
  change SV _ _ _ [.val a0, .val a1, .val a2, .own (xs1 ++ [d14])] _ _ _
  refine sv_append 3 (xs := (xs1 ++ [d14])) rfl (ev_saidC C S_law_said LA (fun _ _ _ _ _ _ _ Cl => (call Cl K_shows_verdict ar3 (el_cons (vv 0) (el_cons (vv 1) (el_cons (vv 2) el_nil)))))) (fun d22 => ?_)
  change SV _ _ _ [.val a0, .val a1, .val a2, .own ((xs1 ++ [d14]) ++ [d22])] _ _ _
  refine sv_append 3 (xs := ((xs1 ++ [d14]) ++ [d22])) rfl (ev_saidC C S_law_said LA (fun _ _ _ _ _ _ _ Cl => (ev_listGX Cl K_explanations arL2 (fun _ _ _ _ _ h => h) NSG (by rfl) B.list (by decide +kernel) (el_cons (vv 0) (el_cons (vv 1) el_nil))))) (fun d28 => ?_)
  change SV _ _ _ [.val a0, .val a1, .val a2, .own (((xs1 ++ [d14]) ++ [d22]) ++ [d28])] _ _ _
  refine sv_append 3 (xs := (((xs1 ++ [d14]) ++ [d22]) ++ [d28])) rfl (ev_saidC C S_law_said LA (fun _ _ _ _ _ _ _ Cl => (call Cl K_how_many ar2 (el_cons (vv 0) (el_cons (vv 1) el_nil))))) (fun d34 => ?_)
  change SV _ _ _ [.val a0, .val a1, .val a2, .own ((((xs1 ++ [d14]) ++ [d22]) ++ [d28]) ++ [d34])] _ _ _
  refine sv_pub 3 (xs := ((((xs1 ++ [d14]) ++ [d22]) ++ [d28]) ++ [d34])) rfl ?_
  change SV _ _ _ [.val a0, .val a1, .val a2, .val (D.lst ((((xs1 ++ [d14]) ++ [d22]) ++ [d28]) ++ [d34]))] _ _ _
  exact sv_ret (inj := id) (fun _ => rfl) (vv 3)
theorem ok_law {f : Addr} {fd : FuncData} (B : Bn mg) (K_law_cell_at : Cal P w K mg base 1 "_law_cell_at" ["_law_script", "_law_k"] (spS K mg 1 (fun ns => fn1 (f_law_cell_at ns)))) (K_law_draw : Cal P w K mg base 1 "_law_draw" ["_law_pen_here", "_law_many"] (spF K mg true 1 (fn1 f_law_draw))) (K_law_long : Cal P w K mg base 1 "_law_long" [] (spF K mg false 0 (fn0 f_law_long))) (K_law_net : Cal P w K mg base 3 "_law_net" ["_law_pen_here"] (spF K mg true 0 (fn0 f_law_net))) (K_law_no_nets : Cal P w K mg base 6 "_law_no_nets" [] (spF K mg false 0 (fn0 f_law_no_nets))) (K_law_no_reports : Cal P w K mg base 6 "_law_no_reports" ["_law_size", "_law_at"] (spF K mg false 2 (fn2 f_law_no_reports))) (K_law_odd : Cal P w K mg base 6 "_law_odd" ["_law_pen_here"] (spF K mg true 0 (fn0 f_law_odd))) (K_law_pen : Cal P w K mg base 1 "_law_pen" ["_law_cell"] (spM K mg 1 (mfn1 f_law_pen))) (K_law_report : Cal P w K mg base 4 "_law_report" ["_law_pen_here", "_law_net_here"] (spF K mg true 1 (fn1 f_law_report))) (K_law_words : Cal P w K mg base 34 "_law_words" ["_law_net_here", "_law_report_here", "_law_thing"] (spF K mg false 3 (fn3 f_law_words))) (FU : Fun K "law" "law" s_law f fd) : FnG P w K mg base 35 f fd ["_law_script"] (spS K mg 0 (fun ns => fn0 (f_law ns))) := by
  refine fn_scr (N := ["_law_script", "_law_bad", "_law_words_here", "_law_k", "_law_pen_here", "_law_lap", "_law_net_here", "_law_at", "_law_report_here", "_law_thing", "_law_word"]) (n := 0) FU sc_law rfl (fun cdv A outer s H E C ns ds hn => ?_)
  obtain rfl := len0 hn
  refine ⟨D, Out.ret, f_law ns, ?_, out_ret _⟩
  unfold f_law
  change SV _ _ _ [.scr ns, .junk, .junk, .junk, .junk, .junk, .junk, .junk, .junk, .junk, .junk] _ _ _
  refine sv_forL (dec := dec1) (g := gName 1) (vs := [1]) (mk := (fun (c3 : Unit) => [.scr ns, .junk, .junk, .junk, .junk, .junk, .junk, .junk, .junk, .junk, .junk])) (c0 := ()) (inj := id) C (ei_seq (ev_op od_add (callN C K_law_no_nets ar0) (callN C K_law_long ar0))) (pgn 1 C.nd) (fun _ => tg_name (by simp)) (wk (wj (wj (wj (wj (wj (wj (wj (wj (wj (wj wn))))))))))) (fun _ => rfl) (fun c3 z4 => ?_) (fun c3 => ?_)
  · change SV _ _ _ [.scr ns, .val z4, .junk, .junk, .junk, .junk, .junk, .junk, .junk, .junk, .junk] _ _ _
    refine sv_set 2 C.nd (ev_op od_add (call C K_law_words ar3 (el_cons (vv 1) (el_cons ev_non (el_cons ev_non el_nil)))) (call C K_law_words ar3 (el_cons (vv 1) (el_cons (ev_tup (el_cons ev_str el_nil)) (el_cons (vv 1) el_nil))))) (fun v6 => ?_)
    change SV _ _ _ [.scr ns, .val z4, .val v6, .junk, .junk, .junk, .junk, .junk, .junk, .junk, .junk] _ _ _
    refine sv_ifR (eb_cmp (od_ne C.room) (vv 2) (ev_op od_mulL (ev_lst (el_cons ev_str el_nil)) ev_int) (nomark _)) ?_ (by repeat first | exact nf_bad | exact nf_raise | exact nf_raiseF | exact nf_ret (fun _ => rfl) | refine nf_bind (fun _ => ?_) | refine nf_unp2 (fun _ _ => ?_) | refine nf_ite ?_ ?_) ?_
    · exact sv_ret (inj := Lp.ret) (fun _ => rfl) ev_bl
    · exact sv_nil rfl (wk (wj (wj (wj (wj (wj (wj (wj (wj (wj (wj wn)))))))))))
  · change SV _ _ _ [.scr ns, .junk, .junk, .junk, .junk, .junk, .junk, .junk, .junk, .junk, .junk] _ _ _
    refine sv_forL (dec := dec1) (g := gName 3) (vs := [3]) (mk := (fun (c43 : Unit) => [.scr ns, .junk, .junk, .junk, .junk, .junk, .junk, .junk, .junk, .junk, .junk])) (c0 := ()) (inj := id) C (ei_range1 (by rfl) B.range (el_cons (ev_callB (cd_max C.calm) (by rfl) B.max (by decide +kernel) (el_cons ev_int (el_cons (ev_callB (cd_min C.calm) (by rfl) B.min (by decide +kernel) (el_cons (slen 0 B.len) (el_cons ev_int el_nil))) el_nil))) el_nil)) (pgn 3 C.nd) (fun _ => tg_name (by simp)) (wk (wj (wj (wj (wj (wj (wj (wj (wj (wj (wj wn))))))))))) (fun _ => rfl) (fun c43 z44 => ?_) (fun c43 => ?_)
    · change SV _ _ _ [.scr ns, .junk, .junk, .val z44, .junk, .junk, .junk, .junk, .junk, .junk, .junk] _ _ _
      refine sv_new 4 C K_law_pen mar1 (el_cons (callS 0 C K_law_cell_at (fun _ => ar1) (el_cons (vv 3) el_nil)) el_nil) (fun a => by cases a <;> first | rfl | trivial) (fun q53 => ?_)
      change SV _ _ _ [.scr ns, .junk, .junk, .val z44, .pen, .junk, .junk, .junk, .junk, .junk, .junk] _ _ _
      refine sv_forL (dec := dec1) (g := gName 5) (vs := [5]) (mk := (fun (c56 : Unit) => [.scr ns, .junk, .junk, .val z44, .pen, .junk, .junk, .junk, .junk, .junk, .junk])) (c0 := ()) (inj := Lp.ret) C (ei_range1 (by rfl) B.range (el_cons ev_int el_nil)) (pgn 5 C.nd) (fun _ => tg_name (by simp)) (wk (wj (wj (wk (wk (wj (wj (wj (wj (wj (wj wn))))))))))) (fun _ => rfl) (fun c56 z57 => ?_) (fun c56 => ?_)
      · change SV _ _ _ [.scr ns, .junk, .junk, .val z44, .pen, .val z57, .junk, .junk, .junk, .junk, .junk] _ _ _
        refine sv_set 6 C.nd (callP 4 C K_law_net ar0 el_nil) (fun v59 => ?_)
        change SV _ _ _ [.scr ns, .junk, .junk, .val z44, .pen, .val z57, .val v59, .junk, .junk, .junk, .junk] _ _ _
        refine sv_set 7 C.nd (callP 4 C K_law_draw ar1 (el_cons (ev_callB cd_len (by rfl) B.len PySem.boot_len (el_cons (vv 6) el_nil)) el_nil)) (fun v60 => ?_)
        change SV _ _ _ [.scr ns, .junk, .junk, .val z44, .pen, .val z57, .val v59, .val v60, .junk, .junk, .junk] _ _ _
        refine sv_forL (dec := dec1) (g := gName 1) (vs := [1]) (mk := (fun (c80 : Unit) => [.scr ns, .junk, .junk, .val z44, .pen, .val z57, .val v59, .val v60, .junk, .junk, .junk])) (c0 := ()) (inj := Lp.ret) C (ei_seq (ev_op od_add (call C K_law_no_reports ar2 (el_cons (ev_callB cd_len (by rfl) B.len PySem.boot_len (el_cons (vv 6) el_nil)) (el_cons (vv 7) el_nil))) (ev_op od_mulL (callN C K_law_long ar0) (ev_callTy cd_int (by rfl) B.int (by decide +kernel) (el_cons (ev_cmp (od_eq C.room) (vv 5) ev_int (nomark _)) el_nil))))) (pgn 1 C.nd) (fun _ => tg_name (by simp)) (wk (wj (wj (wk (wk (wk (wk (wk (wj (wj (wj wn))))))))))) (fun _ => rfl) (fun c80 z81 => ?_) (fun c80 => ?_)
        · change SV _ _ _ [.scr ns, .val z81, .junk, .val z44, .pen, .val z57, .val v59, .val v60, .junk, .junk, .junk] _ _ _
          refine sv_ifR (eb_cmp (od_ne C.room) (call C K_law_words ar3 (el_cons (vv 6) (el_cons (vv 1) (el_cons (ev_tup (el_cons ev_str (el_cons (ev_tup el_nil) el_nil))) el_nil)))) (ev_op od_mulL (ev_lst (el_cons ev_str el_nil)) ev_int) (nomark _)) ?_ (by repeat first | exact nf_bad | exact nf_raise | exact nf_raiseF | exact nf_ret (fun _ => rfl) | refine nf_bind (fun _ => ?_) | refine nf_unp2 (fun _ _ => ?_) | refine nf_ite ?_ ?_) ?_
          · exact sv_ret (inj := Lp.ret) (fun _ => rfl) ev_bl
          · exact sv_nil rfl (wk (wj (wj (wk (wk (wk (wk (wk (wj (wj (wj wn)))))))))))
        · change SV _ _ _ [.scr ns, .junk, .junk, .val z44, .pen, .val z57, .val v59, .val v60, .junk, .junk, .junk] _ _ _
          refine sv_set 8 C.nd (callP 4 C K_law_report ar1 (el_cons (vv 6) el_nil)) (fun v102 => ?_)
          change SV _ _ _ [.scr ns, .junk, .junk, .val z44, .pen, .val z57, .val v59, .val v60, .val v102, .junk, .junk] _ _ _
          refine sv_forL (dec := dec1) (g := gName 9) (vs := [9]) (mk := (fun (c131 : Unit) => [.scr ns, .junk, .junk, .val z44, .pen, .val z57, .val v59, .val v60, .val v102, .junk, .junk])) (c0 := ()) (inj := Lp.ret) C (ei_seq (ev_lst (el_cons ev_non (el_cons ev_int (el_cons (vv 6) (el_cons (ev_tup el_nil) (el_cons (ev_lst (el_cons (ev_tup el_nil) el_nil)) (el_cons (ev_tup (el_cons ev_str el_nil)) (el_cons (ev_tup (el_cons ev_str (el_cons ev_int el_nil))) (el_cons (callP 4 C K_law_odd ar0 el_nil) (el_cons (callP 4 C K_law_odd ar0 el_nil) el_nil))))))))))) (pgn 9 C.nd) (fun _ => tg_name (by simp)) (wk (wj (wj (wk (wk (wk (wk (wk (wk (wj (wj wn))))))))))) (fun _ => rfl) (fun c131 z132 => ?_) (fun c131 => ?_)
          · change SV _ _ _ [.scr ns, .junk, .junk, .val z44, .pen, .val z57, .val v59, .val v60, .val v102, .val z132, .junk] _ _ _
            refine sv_set 2 C.nd (call C K_law_words ar3 (el_cons (vv 6) (el_cons (vv 8) (el_cons (vv 9) el_nil)))) (fun v134 => ?_)
            change SV _ _ _ [.scr ns, .junk, .val v134, .val z44, .pen, .val z57, .val v59, .val v60, .val v102, .val z132, .junk] _ _ _
            refine sv_ifR (eb_bool (ew_or (eb_cmp (od_ne C.room) (ev_lc (own := [(("_law_word" : Str), 10)]) (dec := dec1) (g := gName 10) (Γz := fun z142 => [.scr ns, .junk, .val v134, .val z44, .pen, .val z57, .val v59, .val v60, .val v102, .val z132, .val z142]) C (ei_seq (vv 2)) (blkOk_by (by rfl)) (tg_name (by simp)) (fun _ _ _ _ _ => pgn 10 C.nd) (fun z142 _ _ _ _ _ => (ets_one (eb_cmp (od_eq C.blk.room) (ev_slice (vv 10) eo_none (eo_some ev_int)) ev_str (nomark _)))) (fun z142 _ _ _ _ _ => (vv 10))) (ev_lst el_nil) (nomark _)) (ew_or1 (eb_cmp (od_notIn C.room) (ev_ix (vv 2) ev_int (fun _ _ => rfl)) (ev_tup (el_cons ev_str (el_cons ev_str el_nil))) (by rfl))))) ?_ (by repeat first | exact nf_bad | exact nf_raise | exact nf_raiseF | exact nf_ret (fun _ => rfl) | refine nf_bind (fun _ => ?_) | refine nf_unp2 (fun _ _ => ?_) | refine nf_ite ?_ ?_) ?_
            · exact sv_ret (inj := Lp.ret) (fun _ => rfl) ev_bl
            · exact sv_nil rfl (wk (wj (wj (wk (wk (wk (wk (wk (wk (wj (wj wn)))))))))))
          · change SV _ _ _ [.scr ns, .junk, .junk, .val z44, .pen, .val z57, .val v59, .val v60, .val v102, .junk, .junk] _ _ _
            exact sv_nil rfl (wk (wj (wj (wk (wk (wj (wj (wj (wj (wj (wj wn)))))))))))
      · change SV _ _ _ [.scr ns, .junk, .junk, .val z44, .pen, .junk, .junk, .junk, .junk, .junk, .junk] _ _ _
        exact sv_nil rfl (wk (wj (wj (wj (wj (wj (wj (wj (wj (wj (wj wn)))))))))))
    · change SV _ _ _ [.scr ns, .junk, .junk, .junk, .junk, .junk, .junk, .junk, .junk, .junk, .junk] _ _ _
      exact sv_ret (inj := id) (fun _ => rfl) ev_bl
end
section
variable {P : Program} {w : World} {K : PySem.W.Frag} {mg : Str → Option Value} {base : Heap}
theorem end_law {f : Addr} {fd : FuncData} (B : Bn mg) (c_ALARM : ∃ t, mg "ALARM" = some (.str "alarm" t)) (c_BROKEN : ∃ t, mg "BROKEN" = some (.str "broken" t)) (c_MOST_COMPONENTS : ∃ t, mg "MOST_COMPONENTS" = some (.int 8 t)) (c_NONE : ∃ t, mg "NONE" = some (.str "none" t)) (c_QUIET : ∃ t, mg "QUIET" = some (.str "quiet" t)) (c_UNSEEN : ∃ t, mg "UNSEEN" = some (.str "unseen" t)) (c_WORDS : CT K mg "WORDS" d_WORDS) (A_law_cell_at : FunAt K mg "_law_cell_at" s_law_cell_at) (A_law_draw : FunAt K mg "_law_draw" s_law_draw) (A_law_long : FunAt K mg "_law_long" s_law_long) (A_law_pick : FunAt K mg "_law_pick" s_law_pick) (A_law_net : FunAt K mg "_law_net" s_law_net) (A_is_between : FunAt K mg "is_between" s_is_between) (A_is_rising : FunAt K mg "is_rising" s_is_rising) (A_is_net : FunAt K mg "is_net" s_is_net) (A_is_word : FunAt K mg "is_word" s_is_word) (A_is_report : FunAt K mg "is_report" s_is_report) (A_need_start : FunAt K mg "need_start" s_need_start) (A_law_no_nets : FunAt K mg "_law_no_nets" s_law_no_nets) (A_law_no_reports : FunAt K mg "_law_no_reports" s_law_no_reports) (A_law_odd : FunAt K mg "_law_odd" s_law_odd) (A_law_pen : FunAt K mg "_law_pen" s_law_pen) (A_law_have : FunAt K mg "_law_have" s_law_have) (A_law_reach : FunAt K mg "_law_reach" s_law_reach) (A_law_alarming : FunAt K mg "_law_alarming" s_law_alarming) (A_law_seen : FunAt K mg "_law_seen" s_law_seen) (A_law_set : FunAt K mg "_law_set" s_law_set) (A_law_report : FunAt K mg "_law_report" s_law_report) (A_reach_of : FunAt K mg "reach_of" s_reach_of) (A_all_reaches : FunAt K mg "all_reaches" s_all_reaches) (A_with_word : FunAt K mg "with_word" s_with_word) (A_candidates_of : FunAt K mg "candidates_of" s_candidates_of) (A_need_net : FunAt K mg "need_net" s_need_net) (A_need_report : FunAt K mg "need_report" s_need_report) (A_candidates : FunAt K mg "candidates" s_candidates) (A_do_meet : FunAt K mg "do_meet" s_do_meet) (A_needed_of : FunAt K mg "needed_of" s_needed_of) (A_subsets_of : FunAt K mg "subsets_of" s_subsets_of) (A_explanations_of : FunAt K mg "explanations_of" s_explanations_of) (A_explanations : FunAt K mg "explanations" s_explanations) (A_how_many : FunAt K mg "how_many" s_how_many) (A_rulers_of : FunAt K mg "rulers_of" s_rulers_of) (A_are_rulers : FunAt K mg "are_rulers" s_are_rulers) (A_alarms_of : FunAt K mg "alarms_of" s_alarms_of) (A_does_explain : FunAt K mg "does_explain" s_does_explain) (A_shows_verdict : FunAt K mg "shows_verdict" s_shows_verdict) (A_is_explained : FunAt K mg "is_explained" s_is_explained) (A_ruled_out : FunAt K mg "ruled_out" s_ruled_out) (A_verdict_of : FunAt K mg "verdict_of" s_verdict_of) (A_verdict : FunAt K mg "verdict" s_verdict) (A_law_words : FunL K mg base "_law_words" s_law_words) (E_NetError : ErrC K mg "NetError") (E_ReportError : ErrC K mg "ReportError") (NA_Net_own_needs : NoAttr K cNet "own_needs") (NA_Watch_kept : NoAttr K cWatch "kept") (NA_Watch_own_net : NoAttr K cWatch "own_net") (NA_Watch_past : NoAttr K cWatch "past") (I_Net : IsCl K mg "Net" tab_Net) (OC_Net : ObjC K cNet) (CA_Net : ClsAt K mg "Net" cNet "Net.__init__" s_Net_init []) (OC_Watch : ObjC K cWatch) (CA_Watch : ClsAt K mg "Watch" cWatch "Watch.__init__" s_Watch_init [.non]) (NSG : NoStopN K mg ["NetError", "ReportError"]) (MA : MethAt K cWatch "need_fit" "Watch.need_fit" s_fit) {CA : Addr} (hV : mg "ValueError" = none) (hA : mg "AlarmError" = some (.ref CA)) (hEr : ∀ j y, errsL[j]? = some y → ∃ D, mg y = some (.ref D) ∧ ErrJ K mg CA D j) (A_law_said : FunAt K mg "_law_said" s_law_said) (A_law_kind : FunAt K mg "_law_kind" s_law_kind) (FU : Fun K "law" "law" s_law f fd) : FnG P w K mg base 35 f fd ["_law_script"] (spS K mg 0 (fun ns => fn0 (f_law ns))) := by
  have S_law_said := c_said (P := P) (w := w) (base := base) B hV hA hEr A_law_said A_law_kind
  have FIT : FitC P w K mg base 1 cWatch "need_fit" := EV.fit_of (k := 0) MA sc_fit (fun fd f F => F.binds (fun _ _ _ _ _ _ us hl => match us, hl with | [_, _], _ => rfl)) rfl
  have K_law_cell_at := ok_law_cell_at (P := P) (w := w) (base := base) B A_law_cell_at
  have K_law_draw := ok_law_draw (P := P) (w := w) (base := base) B A_law_draw
  have K_law_long := ok_law_long (P := P) (w := w) (base := base) B A_law_long
  have K_law_pick := ok_law_pick (P := P) (w := w) (base := base) B K_law_draw A_law_pick
  have K_law_net := ok_law_net (P := P) (w := w) (base := base) B K_law_draw K_law_pick A_law_net
  have K_is_between := ok_is_between (P := P) (w := w) (base := base) B A_is_between
  have K_is_rising := ok_is_rising (P := P) (w := w) (base := base) B K_is_between A_is_rising
  have K_is_net := ok_is_net (P := P) (w := w) (base := base) B c_MOST_COMPONENTS K_is_rising A_is_net
  have K_Net_init := ok_Net_init (P := P) (w := w) (base := base) B E_NetError NA_Net_own_needs OC_Net K_is_net CA_Net
  have K_is_word := ok_is_word (P := P) (w := w) (base := base) B c_WORDS A_is_word
  have K_is_report := ok_is_report (P := P) (w := w) (base := base) B K_is_word A_is_report
  have K_need_start := ok_need_start (P := P) (w := w) (base := base) B E_NetError E_ReportError NA_Net_own_needs I_Net K_is_report A_need_start
  have K_Watch_init := ok_Watch_init (P := P) (w := w) (base := base) B c_UNSEEN NA_Net_own_needs NA_Watch_kept NA_Watch_own_net NA_Watch_past OC_Watch FIT K_need_start CA_Watch
  have K_law_no_nets := ok_law_no_nets (P := P) (w := w) (base := base) B K_Net_init K_Watch_init A_law_no_nets
  have K_law_no_reports := ok_law_no_reports (P := P) (w := w) (base := base) B K_Net_init K_Watch_init A_law_no_reports
  have K_law_odd := ok_law_odd (P := P) (w := w) (base := base) B K_Net_init K_Watch_init K_law_pick A_law_odd
  have K_law_pen := ok_law_pen (P := P) (w := w) (base := base) B A_law_pen
  have K_law_have := ok_law_have (P := P) (w := w) (base := base) B A_law_have
  have K_law_reach := ok_law_reach (P := P) (w := w) (base := base) B A_law_reach
  have K_law_alarming := ok_law_alarming (P := P) (w := w) (base := base) B K_law_have K_law_reach A_law_alarming
  have K_law_seen := ok_law_seen (P := P) (w := w) (base := base) B K_law_alarming A_law_seen
  have K_law_set := ok_law_set (P := P) (w := w) (base := base) B K_law_draw A_law_set
  have K_law_report := ok_law_report (P := P) (w := w) (base := base) B K_law_draw K_law_pick K_law_seen K_law_set A_law_report
  have K_reach_of := ok_reach_of (P := P) (w := w) (base := base) B A_reach_of
  have K_all_reaches := ok_all_reaches (P := P) (w := w) (base := base) B K_reach_of A_all_reaches
  have K_with_word := ok_with_word (P := P) (w := w) (base := base) B A_with_word
  have K_candidates_of := ok_candidates_of (P := P) (w := w) (base := base) B c_QUIET K_all_reaches K_with_word A_candidates_of
  have K_need_net := ok_need_net (P := P) (w := w) (base := base) B E_NetError K_is_net A_need_net
  have K_need_report := ok_need_report (P := P) (w := w) (base := base) B E_ReportError K_is_report K_need_net A_need_report
  have K_candidates := ok_candidates (P := P) (w := w) (base := base) B K_candidates_of K_need_report A_candidates
  have K_do_meet := ok_do_meet (P := P) (w := w) (base := base) B A_do_meet
  have K_needed_of := ok_needed_of (P := P) (w := w) (base := base) B c_ALARM K_candidates_of K_reach_of K_with_word A_needed_of
  have K_subsets_of := ok_subsets_of (P := P) (w := w) (base := base) B A_subsets_of
  have K_explanations_of := ok_explanations_of (P := P) (w := w) (base := base) B K_candidates_of K_do_meet K_needed_of K_subsets_of A_explanations_of
  have K_explanations := ok_explanations (P := P) (w := w) (base := base) B K_explanations_of K_need_report A_explanations
  have K_how_many := ok_how_many (P := P) (w := w) (base := base) B K_explanations_of K_need_report A_how_many
  have K_rulers_of := ok_rulers_of (P := P) (w := w) (base := base) B c_QUIET K_reach_of K_with_word A_rulers_of
  have K_are_rulers := ok_are_rulers (P := P) (w := w) (base := base) B c_ALARM K_is_between K_reach_of K_rulers_of A_are_rulers
  have K_alarms_of := ok_alarms_of (P := P) (w := w) (base := base) B K_all_reaches K_do_meet A_alarms_of
  have K_does_explain := ok_does_explain (P := P) (w := w) (base := base) B c_ALARM c_UNSEEN K_alarms_of A_does_explain
  have K_shows_verdict := ok_shows_verdict (P := P) (w := w) (base := base) B K_are_rulers K_does_explain K_is_rising K_need_report A_shows_verdict
  have K_is_explained := ok_is_explained (P := P) (w := w) (base := base) B K_needed_of A_is_explained
  have K_ruled_out := ok_ruled_out (P := P) (w := w) (base := base) B c_ALARM K_candidates_of K_do_meet K_reach_of K_rulers_of K_with_word A_ruled_out
  have K_verdict_of := ok_verdict_of (P := P) (w := w) (base := base) B c_BROKEN c_NONE K_candidates_of K_is_explained K_ruled_out A_verdict_of
  have K_verdict := ok_verdict (P := P) (w := w) (base := base) B K_need_report K_verdict_of A_verdict
  have K_law_words := ok_law_words (P := P) (w := w) (base := base) B NSG S_law_said K_candidates K_explanations K_how_many K_shows_verdict K_verdict A_law_words
  exact ok_law B K_law_cell_at K_law_draw K_law_long K_law_net K_law_no_nets K_law_no_reports K_law_odd K_law_pen K_law_report K_law_words FU
end
end Lw
end
open PySem PySem.W PyProof.Rows
theorem EV.x_na {K : Frag} {h : Heap} {C : Addr} {x : Str} (_ : K.In h) (r : findIn K (.ref C) x = some none) : L2.NoAttr K C x := r
theorem EV.x_oc {K : Frag} {h : Heap} {C : Addr} (_ : K.In h) (h1 : plainGet K C Str.empty = true) (h2 : hasDictIn K C = true) (h3 : plainOver K C = true) (h4 : findIn K (.ref C) "__setattr__" = some (some (.builtin "object.__setattr__"))) (h5 : findIn K (.ref C) "__class__" = some (some (.builtin "object.__class__"))) (h6 : specialIn K (.builtin "object.__class__") "__get__" = some (some (.builtin "getset_descriptor.__get__"))) (h7 : takesIn K (.builtin "object.__class__") = some true) (h8 : mroIn K C (.type "object") = some true) (h9 : EV.btB K C = true) : EV.ObjC K C := EV.objC_mk h1 h2 h3 h4 h5 h6 h7 h8 h9
def EV.kOf {K : Frag} {h : Heap} (_ : K.In h) : Frag := K
set_option maxHeartbeats 0 in
theorem PySem.Challenge.cw_rootalarms_k13_reports_refused_holds : PySem.Challenge.rw_rootalarms_k13_reports_refused.Holds := by
  refine EV.top ?_
  k_fill
  refine EV.law_end (l := PySem.Challenge.rw_rootalarms_k13_reports_refused) (n := 63) (k := 35) (x := "_law_script") (F := fun ns => EV.fn0 (Lw.f_law ns)) [(790, 786)] rfl (by decide) (by kernel_rfl) ⟨rfl, by decide, by decide⟩ (fun w h Y => EV.kTab_in Y) (fun w h Y p hp => by
    refine EV.kTab_tabs Y p.2 ?_ ?_ <;> simp only [List.mem_cons, List.not_mem_nil, or_false] at hp <;> rcases hp with rfl <;> first | simp; done | kernel_rfl) (fun w h X => (List.forall_mem_cons.mpr ⟨PySem.W.codeHd_of_K (c := 790) (P := 786) X (by kernel_rfl), (fun _ h => nomatch h)⟩)) (fun w => (List.forall_mem_cons.mpr ⟨(by kernel_rfl), (fun _ h => nomatch h)⟩)) (fun w P n => EV.need_of (by kernel_rfl) P n) ?F Lw.law_true
  intro w mg fa h KX G hmg
  replace hmg := EV.hmg_of (b := "law") hmg (by kernel_rfl)
  have B : EV.Bn mg := ⟨PySem.W.mg_none_of KX G (by k_is), PySem.W.mg_none_of KX G (by k_is), PySem.W.mg_none_of KX G (by k_is), PySem.W.mg_none_of KX G (by k_is), PySem.W.mg_none_of KX G (by k_is), PySem.W.mg_none_of KX G (by k_is), PySem.W.mg_none_of KX G (by k_is), PySem.W.mg_none_of KX G (by k_is), PySem.W.mg_none_of KX G (by k_is), PySem.W.mg_none_of KX G (by k_is), PySem.W.mg_none_of KX G (by k_is), PySem.W.mg_none_of KX G (by k_is), PySem.W.mg_none_of KX G (by k_is), PySem.W.mg_none_of KX G (by k_is), PySem.W.mg_none_of KX G (by k_is), PySem.W.mg_none_of KX G (by k_is), PySem.W.mg_none_of KX G (by k_is), PySem.W.mg_none_of KX G (by k_is)⟩
  have c_ALARM : ∃ t, mg "ALARM" = some (.str "alarm" t) := by
    refine' EV.cstS KX G ?a
    case a => k_is
  have c_BROKEN : ∃ t, mg "BROKEN" = some (.str "broken" t) := by
    refine' EV.cstS KX G ?a
    case a => k_is
  have c_MOST_COMPONENTS : ∃ t, mg "MOST_COMPONENTS" = some (.int 8 t) := by
    refine' EV.cstI KX G ?a
    case a => k_is
  have c_NONE : ∃ t, mg "NONE" = some (.str "none" t) := by
    refine' EV.cstS KX G ?a
    case a => k_is
  have c_QUIET : ∃ t, mg "QUIET" = some (.str "quiet" t) := by
    refine' EV.cstS KX G ?a
    case a => k_is
  have c_UNSEEN : ∃ t, mg "UNSEEN" = some (.str "unseen" t) := by
    refine' EV.cstS KX G ?a
    case a => k_is
  have c_WORDS : EV.CT _ mg "WORDS" Lw.d_WORDS := EV.DefC.at KX G (by refine' EV.defC ?e ?l ?v; (case e => k_is); (case l => k_is); (case v => decide +kernel))
  have A_law_cell_at : EV.FunAt _ mg "_law_cell_at" Lw.s_law_cell_at := EV.DefF.at KX G (by refine' EV.defF ?a ?l ?c ?k; (case a => k_is); (case l => k_is); (case c => k_is); (case k => k_is))
  have A_law_draw : EV.FunAt _ mg "_law_draw" Lw.s_law_draw := EV.DefF.at KX G (by refine' EV.defF ?a ?l ?c ?k; (case a => k_is); (case l => k_is); (case c => k_is); (case k => k_is))
  have A_law_long : EV.FunAt _ mg "_law_long" Lw.s_law_long := EV.DefF.at KX G (by refine' EV.defF ?a ?l ?c ?k; (case a => k_is); (case l => k_is); (case c => k_is); (case k => k_is))
  have A_law_pick : EV.FunAt _ mg "_law_pick" Lw.s_law_pick := EV.DefF.at KX G (by refine' EV.defF ?a ?l ?c ?k; (case a => k_is); (case l => k_is); (case c => k_is); (case k => k_is))
  have A_law_net : EV.FunAt _ mg "_law_net" Lw.s_law_net := EV.DefF.at KX G (by refine' EV.defF ?a ?l ?c ?k; (case a => k_is); (case l => k_is); (case c => k_is); (case k => k_is))
  have A_is_between : EV.FunAt _ mg "is_between" Lw.s_is_between := EV.DefF.at KX G (by refine' EV.defF ?a ?l ?c ?k; (case a => k_is); (case l => k_is); (case c => k_is); (case k => k_is))
  have A_is_rising : EV.FunAt _ mg "is_rising" Lw.s_is_rising := EV.DefF.at KX G (by refine' EV.defF ?a ?l ?c ?k; (case a => k_is); (case l => k_is); (case c => k_is); (case k => k_is))
  have A_is_net : EV.FunAt _ mg "is_net" Lw.s_is_net := EV.DefF.at KX G (by refine' EV.defF ?a ?l ?c ?k; (case a => k_is); (case l => k_is); (case c => k_is); (case k => k_is))
  have A_is_word : EV.FunAt _ mg "is_word" Lw.s_is_word := EV.DefF.at KX G (by refine' EV.defF ?a ?l ?c ?k; (case a => k_is); (case l => k_is); (case c => k_is); (case k => k_is))
  have A_is_report : EV.FunAt _ mg "is_report" Lw.s_is_report := EV.DefF.at KX G (by refine' EV.defF ?a ?l ?c ?k; (case a => k_is); (case l => k_is); (case c => k_is); (case k => k_is))
  have A_need_start : EV.FunAt _ mg "need_start" Lw.s_need_start := EV.DefF.at KX G (by refine' EV.defF ?a ?l ?c ?k; (case a => k_is); (case l => k_is); (case c => k_is); (case k => k_is))
  have A_law_no_nets : EV.FunAt _ mg "_law_no_nets" Lw.s_law_no_nets := EV.DefF.at KX G (by refine' EV.defF ?a ?l ?c ?k; (case a => k_is); (case l => k_is); (case c => k_is); (case k => k_is))
  have A_law_no_reports : EV.FunAt _ mg "_law_no_reports" Lw.s_law_no_reports := EV.DefF.at KX G (by refine' EV.defF ?a ?l ?c ?k; (case a => k_is); (case l => k_is); (case c => k_is); (case k => k_is))
  have A_law_odd : EV.FunAt _ mg "_law_odd" Lw.s_law_odd := EV.DefF.at KX G (by refine' EV.defF ?a ?l ?c ?k; (case a => k_is); (case l => k_is); (case c => k_is); (case k => k_is))
  have A_law_pen : EV.FunAt _ mg "_law_pen" Lw.s_law_pen := EV.DefF.at KX G (by refine' EV.defF ?a ?l ?c ?k; (case a => k_is); (case l => k_is); (case c => k_is); (case k => k_is))
  have A_law_have : EV.FunAt _ mg "_law_have" Lw.s_law_have := EV.DefF.at KX G (by refine' EV.defF ?a ?l ?c ?k; (case a => k_is); (case l => k_is); (case c => k_is); (case k => k_is))
  have A_law_reach : EV.FunAt _ mg "_law_reach" Lw.s_law_reach := EV.DefF.at KX G (by refine' EV.defF ?a ?l ?c ?k; (case a => k_is); (case l => k_is); (case c => k_is); (case k => k_is))
  have A_law_alarming : EV.FunAt _ mg "_law_alarming" Lw.s_law_alarming := EV.DefF.at KX G (by refine' EV.defF ?a ?l ?c ?k; (case a => k_is); (case l => k_is); (case c => k_is); (case k => k_is))
  have A_law_seen : EV.FunAt _ mg "_law_seen" Lw.s_law_seen := EV.DefF.at KX G (by refine' EV.defF ?a ?l ?c ?k; (case a => k_is); (case l => k_is); (case c => k_is); (case k => k_is))
  have A_law_set : EV.FunAt _ mg "_law_set" Lw.s_law_set := EV.DefF.at KX G (by refine' EV.defF ?a ?l ?c ?k; (case a => k_is); (case l => k_is); (case c => k_is); (case k => k_is))
  have A_law_report : EV.FunAt _ mg "_law_report" Lw.s_law_report := EV.DefF.at KX G (by refine' EV.defF ?a ?l ?c ?k; (case a => k_is); (case l => k_is); (case c => k_is); (case k => k_is))
  have A_reach_of : EV.FunAt _ mg "reach_of" Lw.s_reach_of := EV.DefF.at KX G (by refine' EV.defF ?a ?l ?c ?k; (case a => k_is); (case l => k_is); (case c => k_is); (case k => k_is))
  have A_all_reaches : EV.FunAt _ mg "all_reaches" Lw.s_all_reaches := EV.DefF.at KX G (by refine' EV.defF ?a ?l ?c ?k; (case a => k_is); (case l => k_is); (case c => k_is); (case k => k_is))
  have A_with_word : EV.FunAt _ mg "with_word" Lw.s_with_word := EV.DefF.at KX G (by refine' EV.defF ?a ?l ?c ?k; (case a => k_is); (case l => k_is); (case c => k_is); (case k => k_is))
  have A_candidates_of : EV.FunAt _ mg "candidates_of" Lw.s_candidates_of := EV.DefF.at KX G (by refine' EV.defF ?a ?l ?c ?k; (case a => k_is); (case l => k_is); (case c => k_is); (case k => k_is))
  have A_need_net : EV.FunAt _ mg "need_net" Lw.s_need_net := EV.DefF.at KX G (by refine' EV.defF ?a ?l ?c ?k; (case a => k_is); (case l => k_is); (case c => k_is); (case k => k_is))
  have A_need_report : EV.FunAt _ mg "need_report" Lw.s_need_report := EV.DefF.at KX G (by refine' EV.defF ?a ?l ?c ?k; (case a => k_is); (case l => k_is); (case c => k_is); (case k => k_is))
  have A_candidates : EV.FunAt _ mg "candidates" Lw.s_candidates := EV.DefF.at KX G (by refine' EV.defF ?a ?l ?c ?k; (case a => k_is); (case l => k_is); (case c => k_is); (case k => k_is))
  have A_do_meet : EV.FunAt _ mg "do_meet" Lw.s_do_meet := EV.DefF.at KX G (by refine' EV.defF ?a ?l ?c ?k; (case a => k_is); (case l => k_is); (case c => k_is); (case k => k_is))
  have A_needed_of : EV.FunAt _ mg "needed_of" Lw.s_needed_of := EV.DefF.at KX G (by refine' EV.defF ?a ?l ?c ?k; (case a => k_is); (case l => k_is); (case c => k_is); (case k => k_is))
  have A_subsets_of : EV.FunAt _ mg "subsets_of" Lw.s_subsets_of := EV.DefF.at KX G (by refine' EV.defF ?a ?l ?c ?k; (case a => k_is); (case l => k_is); (case c => k_is); (case k => k_is))
  have A_explanations_of : EV.FunAt _ mg "explanations_of" Lw.s_explanations_of := EV.DefF.at KX G (by refine' EV.defF ?a ?l ?c ?k; (case a => k_is); (case l => k_is); (case c => k_is); (case k => k_is))
  have A_explanations : EV.FunAt _ mg "explanations" Lw.s_explanations := EV.DefF.at KX G (by refine' EV.defF ?a ?l ?c ?k; (case a => k_is); (case l => k_is); (case c => k_is); (case k => k_is))
  have A_how_many : EV.FunAt _ mg "how_many" Lw.s_how_many := EV.DefF.at KX G (by refine' EV.defF ?a ?l ?c ?k; (case a => k_is); (case l => k_is); (case c => k_is); (case k => k_is))
  have A_rulers_of : EV.FunAt _ mg "rulers_of" Lw.s_rulers_of := EV.DefF.at KX G (by refine' EV.defF ?a ?l ?c ?k; (case a => k_is); (case l => k_is); (case c => k_is); (case k => k_is))
  have A_are_rulers : EV.FunAt _ mg "are_rulers" Lw.s_are_rulers := EV.DefF.at KX G (by refine' EV.defF ?a ?l ?c ?k; (case a => k_is); (case l => k_is); (case c => k_is); (case k => k_is))
  have A_alarms_of : EV.FunAt _ mg "alarms_of" Lw.s_alarms_of := EV.DefF.at KX G (by refine' EV.defF ?a ?l ?c ?k; (case a => k_is); (case l => k_is); (case c => k_is); (case k => k_is))
  have A_does_explain : EV.FunAt _ mg "does_explain" Lw.s_does_explain := EV.DefF.at KX G (by refine' EV.defF ?a ?l ?c ?k; (case a => k_is); (case l => k_is); (case c => k_is); (case k => k_is))
  have A_shows_verdict : EV.FunAt _ mg "shows_verdict" Lw.s_shows_verdict := EV.DefF.at KX G (by refine' EV.defF ?a ?l ?c ?k; (case a => k_is); (case l => k_is); (case c => k_is); (case k => k_is))
  have A_is_explained : EV.FunAt _ mg "is_explained" Lw.s_is_explained := EV.DefF.at KX G (by refine' EV.defF ?a ?l ?c ?k; (case a => k_is); (case l => k_is); (case c => k_is); (case k => k_is))
  have A_ruled_out : EV.FunAt _ mg "ruled_out" Lw.s_ruled_out := EV.DefF.at KX G (by refine' EV.defF ?a ?l ?c ?k; (case a => k_is); (case l => k_is); (case c => k_is); (case k => k_is))
  have A_verdict_of : EV.FunAt _ mg "verdict_of" Lw.s_verdict_of := EV.DefF.at KX G (by refine' EV.defF ?a ?l ?c ?k; (case a => k_is); (case l => k_is); (case c => k_is); (case k => k_is))
  have A_verdict : EV.FunAt _ mg "verdict" Lw.s_verdict := EV.DefF.at KX G (by refine' EV.defF ?a ?l ?c ?k; (case a => k_is); (case l => k_is); (case c => k_is); (case k => k_is))
  have A_law : EV.FunAt _ mg "law" Lw.s_law := EV.DefF.at KX G (by refine' EV.defF ?a ?l ?c ?k; (case a => k_is); (case l => k_is); (case c => k_is); (case k => k_is))
  have A_law_said : EV.FunAt _ mg "_law_said" Lw.s_law_said := EV.DefF.at KX G (by refine' EV.defF ?a ?l ?c ?k; (case a => k_is); (case l => k_is); (case c => k_is); (case k => k_is))
  have A_law_kind : EV.FunAt _ mg "_law_kind" Lw.s_law_kind := EV.DefF.at KX G (by refine' EV.defF ?a ?l ?c ?k; (case a => k_is); (case l => k_is); (case c => k_is); (case k => k_is))
  have hV : mg "ValueError" = none := PySem.W.mg_none_of KX G (by k_is)
  have hA : mg "AlarmError" = some (.ref 31) := PySem.W.mg_of KX G (by k_is)
  have hEr : ∀ j y, EV.errsL[j]? = some y → ∃ D, mg y = some (.ref D) ∧ EV.ErrJ _ mg 31 D j := EV.errs_of (Ds := [44, 56, 68, 80, 92, 104, 116, 128, 149, 170]) KX G rfl (by kernel_rfl) (by kernel_rfl) (by kernel_rfl)
  have NSG0 : EV.NoStopN (EV.kOf KX) mg [] := EV.NoStopN.nil
  have NSG1 := EV.NoStopN.cons (n := "ReportError") (C := 80) KX G (by k_is) (by kernel_rfl) NSG0
  have NSG2 := EV.NoStopN.cons (n := "NetError") (C := 44) KX G (by k_is) (by kernel_rfl) NSG1
  have NSG := NSG2
  have E_NetError : EV.ErrC _ mg "NetError" := EV.errC_of (C := 44) KX G (by k_is) (by kernel_rfl)
  have E_ReportError : EV.ErrC _ mg "ReportError" := EV.errC_of (C := 80) KX G (by k_is) (by kernel_rfl)
  have NA_Net_own_needs := EV.x_na (C := EV.cNet) (x := "own_needs") KX (by kernel_rfl)
  have NA_Watch_kept := EV.x_na (C := EV.cWatch) (x := "kept") KX (by kernel_rfl)
  have NA_Watch_own_net := EV.x_na (C := EV.cWatch) (x := "own_net") KX (by kernel_rfl)
  have NA_Watch_past := EV.x_na (C := EV.cWatch) (x := "past") KX (by kernel_rfl)
  have I_Net : EV.IsCl _ mg "Net" EV.tab_Net := EV.isCl_mk (C := 484) KX G (by k_is) (.own _) (by kernel_rfl) (by kernel_rfl)
  have OC_Net := EV.x_oc (C := EV.cNet) KX (by kernel_rfl) (by kernel_rfl) (by kernel_rfl) (by kernel_rfl) (by kernel_rfl) (by kernel_rfl) (by kernel_rfl) (by kernel_rfl) (by kernel_rfl)
  have CA_Net : EV.ClsAt (EV.kOf KX) mg "Net" EV.cNet "Net.__init__" Lw.s_Net_init [] := by
    delta EV.kOf
    refine' EV.clsAt0 (Cl := 484) KX G ?a OC_Net ?m1 ?m2 ?m3 ?m4 ?l ?c ?k; (case a => k_is); (case m1 => k_is); (case m2 => k_is); (case m3 => k_is); (case m4 => k_is); (case l => k_is); (case c => k_is); (case k => k_is)
  have OC_Watch := EV.x_oc (C := EV.cWatch) KX (by kernel_rfl) (by kernel_rfl) (by kernel_rfl) (by kernel_rfl) (by kernel_rfl) (by kernel_rfl) (by kernel_rfl) (by kernel_rfl) (by kernel_rfl)
  have CA_Watch : EV.ClsAt (EV.kOf KX) mg "Watch" EV.cWatch "Watch.__init__" Lw.s_Watch_init [.non] := by
    delta EV.kOf
    refine' EV.clsAt1 (Cl := 680) KX G ?a OC_Watch ?m1 ?m2 ?m3 ?m4 ?l ?c ?k ?lT; (case a => k_is); (case m1 => k_is); (case m2 => k_is); (case m3 => k_is); (case m4 => k_is); (case l => k_is); (case c => k_is); (case k => k_is); (case lT => k_is)
  have MA : EV.MethAt (EV.kOf KX) EV.cWatch "need_fit" "Watch.need_fit" Lw.s_fit := by
    delta EV.kOf
    refine' EV.methAt ?a ?m3 ?l ?c ?k; (case a => k_is); (case m3 => k_is); (case l => k_is); (case c => k_is); (case k => k_is)
  obtain ⟨f, fd, FU, hm⟩ := A_law.ex
  have ef := hmg.symm.trans hm
  cases ef
  have bb := FU.binds (ps := ["_law_script"]) (fun _ _ _ _ _ _ us hl => match us, hl with | [_], _ => rfl)
  refine ⟨fd, fun s u => ?_, fun base hK hns hTB => ?_⟩
  · obtain ⟨_, _, _, _, _, _, _, _, _, rfl, _, _⟩ := FU.ex
    exact .of_eq rfl
  · have A_law_words : EV.FunL (EV.kOf KX) mg base "_law_words" Lw.s_law_words := by
      delta EV.kOf
      refine' EV.funL (T := 786) KX G (hTB (790, 786) (by decide)) ?a ?l ?c ?k ?lb ?u ?m; (case a => k_is); (case l => k_is); (case c => k_is); (case k => k_is); (case lb => kernel_rfl); (case u => kernel_rfl); (case m => decide +kernel)
    exact Lw.end_law B c_ALARM c_BROKEN c_MOST_COMPONENTS c_NONE c_QUIET c_UNSEEN c_WORDS A_law_cell_at A_law_draw A_law_long A_law_pick A_law_net A_is_between A_is_rising A_is_net A_is_word A_is_report A_need_start A_law_no_nets A_law_no_reports A_law_odd A_law_pen A_law_have A_law_reach A_law_alarming A_law_seen A_law_set A_law_report A_reach_of A_all_reaches A_with_word A_candidates_of A_need_net A_need_report A_candidates A_do_meet A_needed_of A_subsets_of A_explanations_of A_explanations A_how_many A_rulers_of A_are_rulers A_alarms_of A_does_explain A_shows_verdict A_is_explained A_ruled_out A_verdict_of A_verdict A_law_words E_NetError E_ReportError NA_Net_own_needs NA_Watch_kept NA_Watch_own_net NA_Watch_past I_Net OC_Net CA_Net OC_Watch CA_Watch NSG MA hV hA hEr A_law_said A_law_kind FU
