import PyProof.Rows.All
import KE.OsRunLaw
import Wide.All
import OpenK.AllK
import Wide.FinOn
import HandS.Base
import HandS.Call
import HandS.Lambda
import PyProof.TupleKey
import HandS.Words
import HandS.Ends
import HandS.NoneIn
import HandS.Comp
import HandS.List
import HandS.Wide
import HandS.TupAny
import HandS.TupSets
import HandS.IsInst
import HandS.Style
import PyProof.SeqIndex
import KE.GoesMore
import HandS.Zip
import PyProof.Conv_int
import KE.IntTextText
import KE.KIntText
import HandS.Text
import HandS.Dict
import HandS.Sort
import PyProof.ReprRoads
import PyProof.CallFns
import HandS.SetFor
import HandS.Strs
import HandS.Deep
import HandS.Conv
import HandS.Iter
import HandS.More
import HandS.Defaults
import PyProof.DictRoadsH
import KE.KDictDisplayH
import HandS.TupLen
import HandS.DictComp
import KE.KDictPairs
import HandS.DictTup
import HandS.SortOrd
import PyProof.TupleOfSeq
import HandS.SortRule
import KE.KDictItemsList
import HandS.Exc
import HandS.ExcOwn
import HandS.ExcInit
import HandS.TryOnly
import HandS.WordsExc
import HandS.ClsMeth
import KE.KExcIs
import HandS.ExcField
import HandS.ExcIs
import KE.KNestM
import HandS.SortInts
import HandS.Star
import HandS.Property
import PyProof.CollectIter
import PyProof.WalksMore
import PyProof.ListRange
import HandS.TupMul
import KE.KDictCopyH
import KE.KDictSum
import KE.KEqDict
import PyProof.MaxThree
import KE.KEqNest
import PyProof.NeKinds
import PyProof.Rows.IntBool
import OpenK.KOps
import HandS.Small
import HandS.GenList
import PyProof.StrLawsRepr
import PySem.Challenge.RW_wholering_k61_systems_and_scripts_as_tex
set_option Elab.async false
set_option linter.all false
set_option maxRecDepth 100000
open PySem PySem.W PyProof.Rows in
local macro_rules | `(tactic| k_head) => `(tactic| k_headL)
set_option maxHeartbeats 0 in
open PySem PySem.W PyProof.Rows in
open_top T0head for PySem.Challenge.rw_wholering_k61_systems_and_scripts_as_tex
/-! T0: dicts whose keys are nested tuples of ints, as one thing of the heap. -/
namespace T
open PySem L2
/-- keys: ints, tuples nested at most n deep -/
def HK : Nat → Type
  | 0 => Int
  | n + 1 => Sum Int (List (HK n))
instance HK.dec : (n : Nat) → DecidableEq (HK n)
  | 0 => inferInstanceAs (DecidableEq Int)
  | n + 1 => have := HK.dec n; inferInstanceAs (DecidableEq (Sum Int (List (HK n))))
/-- a tuple of such keys -/
abbrev Stt := List (HK 3)
def hkHash (w : World) : (n : Nat) → HK n → Int
  | 0, i => keyH w (.inl i)
  | _ + 1, .inl i => keyH w (.inl i)
  | n + 1, .inr l => reduceHash (Builtin.Tuple.tupleHashOf (l.map (hkHash w n)))
def sttHash (w : World) (x : Stt) : Int := reduceHash (Builtin.Tuple.tupleHashOf (x.map (hkHash w 3)))
theorem hkHash_any {w w' : World} : ∀ {n : Nat} (x : HK n), hkHash w n x = hkHash w' n x
  | 0, _ => rfl
  | _ + 1, .inl _ => rfl
  | n + 1, .inr l => by
    show reduceHash _ = reduceHash _
    rw [List.map_congr_left fun y _ => hkHash_any (n := n) y]
theorem sttHash_any {w w' : World} {x : Stt} : sttHash w x = sttHash w' x := by
  unfold sttHash
  rw [List.map_congr_left fun y _ => hkHash_any y]
/-- what a dict of such keys holds -/
abbrev SRow := Stt × Addr × V
def SttD (d : Addr) (xs : List SRow) : HO := .ext fun h => (d == sysModules) = false ∧ xs.length ≤ sizeLine ∧ ∃ (o : Obj) (es : Array DictEntry) (ep : Nat) (us : List (Stt × Addr × Value)),
  h.get? d = some o ∧ o.ExactDict ∧ o.data = .dict es ep ∧ (∀ w : World, es.toList = us.map fun u => ⟨sttHash w u.1, .ref u.2.1, u.2.2⟩) ∧ Paired (fun (x : SRow) (u : Stt × Addr × Value) => x.1 = u.1 ∧ x.2.1 = u.2.1 ∧ L2.RelV x.2.2 u.2.2) xs us
end T

/-! T1: plain data D, how it lies in the heap (Rp), the frame of a def by plain data (SR). -/
namespace T
open PySem L2

/-- plain data -/
inductive D where
  | non | bl (b : Bool) | int (i : Int) | str (x : Str)
  | tup (xs : List D) | lst (xs : List D) | scr (xs : List D)
  /-- a tuple of which less is known -/
  | tpw (xs : List D)
  | obj (c : Str) (ns : List Str) (ds : List D)
  | dic (ks : List Key) (ds : List D)
  /-- a dict whose keys are states -/
  | dit (ks : List Stt) (ds : List D)
  | ty (n : String)
  /-- an exception that was caught: its class, its fields -/
  | exc (c : Str) (ns : List Str) (ds : List D)
  /-- a lambda: the function at f; vs what it captured, ds the data of it -/
  | lam (f : Addr) (vs : List V) (ds : List D)
  /-- an object of which some fields (boxes) are its own things -/
  | obx (c : Str) (ns : List Str) (ds : List D)
  /-- a dict of which some values (boxes) are its own things -/
  | dix (ks : List Key) (ds : List D)
  /-- a thing of which it is known where it stands -/
  | stn (a : Addr) (d : D)
  /-- a field's own thing -/
  | box (d : D)
/-- a field's data, however it is held -/
def D.unbox : D → D
  | .box d => d
  | d => d

/-- a nested key as data -/
def hkD : (n : Nat) → HK n → D
  | 0, i => .int i
  | _ + 1, .inl i => .int i
  | n + 1, .inr l => .tup (l.map (hkD n))
def sttD (x : Stt) : D := .tup (x.map (hkD 3))

abbrev Fg := PySem.W.Frag
abbrev Mg := Str → Option Value
abbrev AP := Addr → Prop

/-- a list, a tuple of the written part -/
def KL (K : Fg) (a : Addr) (vs : List V) : Prop := SqL K (fun _ => none) a vs
def KT (K : Fg) (a : Addr) (vs : List V) : Prop := SqT K (fun _ => none) a vs
theorem KL.at {K : Fg} {a : Addr} {vs : List V} (h : KL K a vs) (H : Hp) : SqL K H a vs := by
  rcases h with (h | ⟨o, h⟩) | h
  · cases h
  · cases h
  · exact .inr h
theorem KT.at {K : Fg} {a : Addr} {vs : List V} (h : KT K a vs) (H : Hp) : SqT K H a vs := by
  rcases h with (h | ⟨o, h⟩) | h
  · cases h
  · cases h
  · exact .inr h

/-- no table of code objects -/
def NT (o : HO) : Prop := ∀ ps, o ≠ .tbl ps
theorem nt_stt {d : Addr} {xs : List SRow} : NT (SttD d xs) := fun _ z => by unfold SttD at z; cases z
theorem heap_at (o : Obj) (ho : o.isFreed = false) : ∀ c : Addr, ∃ h : Heap, h.objs.size = c + 1 ∧ h.get? c = some o
  | 0 => ⟨({} : Heap).push o, rfl, Heap.get?_push_size _ ho⟩
  | c + 1 => by
    obtain ⟨h, h1, _⟩ := heap_at o ho c
    exact ⟨h.push o, by rw [Heap.size_push, h1], by rw [← h1]; exact Heap.get?_push_size _ ho⟩
theorem stt_code {c : Addr} {xs : List SRow} {q : Str} : SttD c xs ≠ LamX.CodeO c q := by
  intro e
  unfold SttD LamX.CodeO at e
  have e := HO.ext.inj e
  obtain ⟨h, _, hc⟩ := heap_at { cls := .none, data := .fields #[.none, .str q 0] } rfl c
  have e2 := congrFun e h
  obtain ⟨_, _, o, es, ep, us, h1, h2, h3, _⟩ := e2.mpr ⟨_, _, 0, hc, rfl, rfl⟩
  rw [hc] at h1
  cases h1
  cases h3
/-- at a: an exception of the class cls that was caught, its dict at d -/
def CaO (cls : Value) (d : Option Addr) (a : Addr) : HO := .ext fun h => ∃ (oe : Obj) (vs : Array Value), h.get? a = some oe ∧ Zc cls d oe ∧ oe.data = .fields vs
theorem nt_ca {cls : Value} {d : Option Addr} {a : Addr} : NT (CaO cls d a) := fun _ z => by unfold CaO at z; cases z
/-- the fields of an exception -/
def ExF (H : Hp) (O : AP) (d : Option Addr) (fs : List (Str × V)) : Prop := (d = none ∧ fs = []) ∨ ∃ x, d = some x ∧ H x = some (.xd fs) ∧ ¬ O x
theorem ExF.stepN {O O' : AP} {H H' : Hp} {d : Option Addr} {fs : List (Str × V)} (hk : ∀ a o, ¬ O a → H a = some o → NT o → H' a = some o) (ho : ∀ a o, O' a → H a = some o → NT o → O a) (h : ExF H O d fs) : ExF H' O' d fs := by
  rcases h with h | ⟨x, e, h, n⟩
  · exact .inl h
  · have nx : NT (.xd fs) := fun _ z => by cases z
    exact .inr ⟨x, e, hk _ _ n h nx, fun z => n (ho _ _ z h nx)⟩
/-- what stands in R stands in H; tables may have grown -/
structure Kept (R H : Hp) : Prop where
  nt : ∀ a o, R a = some o → NT o → H a = some o
  tb : ∀ a ps, R a = some (.tbl ps) → ∃ ps', H a = some (.tbl ps')
theorem Kept.of {R H : Hp} (h : ∀ a o, R a = some o → H a = some o) : Kept R H := ⟨fun a o e _ => h a o e, fun a ps e => ⟨ps, h a _ e⟩⟩
theorem Kept.trans {R H H' : Hp} (h : Kept R H) (h' : Kept H H') : Kept R H' :=
  ⟨fun a o e n => h'.nt a o (h.nt a o e n) n, fun a ps e => by obtain ⟨ps', e'⟩ := h.tb a ps e; exact h'.tb a ps' e'⟩
theorem nt_or (o : HO) : NT o ∨ ∃ ps, o = .tbl ps := by
  by_cases c : ∃ ps, o = .tbl ps
  · exact .inr c
  · exact .inl fun ps z => c ⟨ps, z⟩
theorem Kept.some {R H : Hp} (h : Kept R H) {a : Addr} {o : HO} (e : R a = some o) : ∃ o', H a = some o' := by
  rcases nt_or o with n | ⟨ps, rfl⟩
  · exact ⟨o, h.nt a o e n⟩
  · obtain ⟨ps', e'⟩ := h.tb a ps e; exact ⟨_, e'⟩
theorem Kept.put {R H : Hp} (h : Kept R H) {a : Addr} {o : HO} (hR : R a = none) : Kept R (upd H a o) := by
  have ne : ∀ {b u}, R b = Option.some u → b ≠ a := fun {b u} e z => by rw [z, hR] at e; cases e
  exact ⟨fun b u e n => by rw [upd_ne (ne e)]; exact h.nt b u e n, fun b ps e => by rw [upd_ne (ne e)]; exact h.tb b ps e⟩
/-- the defs whose lambdas are made -/
def lamNames : List Str := []
/-- the name of the def whose code object's table lies at P -/
def nameP (K : Fg) (P : Addr) : Option Str := K.findSome? fun (p : Addr × Obj) => match p.2.data with
  | .fields vs => (match vs[11]? with
    | some (Value.ref Q) => if Q = P then (match vs[1]? with | some (Value.str n _) => some n | _ => none) else none
    | _ => none)
  | _ => none
def NameP (K : Fg) (P : Addr) (q : Str) : Prop := ∃ n, nameP K P = some n ∧ n ∈ lamNames ∧ q = n ++ ".<locals>." ++ "<lambda>"
theorem NameP.uniq {K : Fg} {P : Addr} {q q' : Str} (h : NameP K P q) (h' : NameP K P q') : q = q' := by
  obtain ⟨n, e, _, rfl⟩ := h
  obtain ⟨n', e', _, rfl⟩ := h'
  rw [e] at e'
  cases e'
  rfl
def TabAll (K : Fg) (H : Hp) : Prop := ∀ P q, NameP K P q → LamX.TabS H P q
theorem TabAll.ext {K : Fg} {H H' : Hp} (t : TabAll K H) (e : ∀ b o, H b = some o → H' b = some o) : TabAll K H' := fun P q n => (t P q n).ext e
theorem TabAll.put {K : Fg} {H : Hp} (t : TabAll K H) {a : Addr} {o : HO} (hn : ∀ u, H a = some u → NT u ∧ ∀ q, u ≠ LamX.CodeO a q) : TabAll K (upd H a o) := fun P q n => by
  obtain ⟨ps, h1, h2, h3⟩ := t P q n
  refine ⟨ps, by rw [upd_ne (fun z => (hn _ (by rw [← z]; exact h1)).1 ps rfl)]; exact h1, h2, fun pos cv hcv => ?_⟩
  obtain ⟨c, e1, e2⟩ := h3 pos cv hcv
  exact ⟨c, e1, by rw [upd_ne (fun z => (hn (LamX.CodeO c q) (by rw [← z]; exact e2)).2 q (by rw [z]))]; exact e2⟩

mutual
/-- v lies in H as the data d; no list, tuple, object of it stands where O says -/
inductive Rp (K : Fg) (mg : Mg) (O : AP) (H : Hp) : D → V → Prop
  | non : Rp K mg O H .non .non
  | bl (b : Bool) : Rp K mg O H (.bl b) (.bl b)
  | int (i : Int) : Rp K mg O H (.int i) (.int i)
  | str (x : Str) : Rp K mg O H (.str x) (.str x)
  | ty (n : String) : Rp K mg O H (.ty n) (.ty n)
  | tup {a : Addr} {o : Obj} {vs : List V} {ds : List D} : H a = some (.frz o (.tup vs)) ∧ ¬ O a → o.dict = none → Rps K mg O H ds vs → Rp K mg O H (.tup ds) (.ref a)
  | tpw {a : Addr} {vs : List V} {ds : List D} : (H a = some (.tup vs) ∧ ¬ O a) ∨ KT K a vs → Rps K mg O H ds vs → Rp K mg O H (.tpw ds) (.ref a)
  | lst {a : Addr} {vs : List V} {ds : List D} : H a = some (.lst vs) ∧ ¬ O a → Rps K mg O H ds vs → Rp K mg O H (.lst ds) (.ref a)
  | scr {a : Addr} {vs : List V} {ds : List D} : (Rd H a (.lst vs) ∧ ¬ O a) ∨ KL K a vs → Rps K mg O H ds vs → Rp K mg O H (.scr ds) (.ref a)
  | obj {a C dx : Addr} {c : Str} {fs : List (Str × V)} {ns : List Str} {ds : List D} {vs : List V} : ¬ O a → mg c = some (.ref C) → H a = some (.ins C dx fs) → fs.map (·.1) = ns → fs.map (·.2) = vs → Rps K mg O H ds vs → Rp K mg O H (.obj c ns ds) (.ref a)
  | dic {a : Addr} {kvs : List (Key × V)} {ks : List Key} {ds : List D} {vs : List V} : Rd H a (.dK kvs) ∧ ¬ O a → kvs.map (·.1) = ks → kvs.map (·.2) = vs → Rps K mg O H ds vs → Rp K mg O H (.dic ks ds) (.ref a)
  | dit {a : Addr} {xs : List SRow} {ks : List Stt} {ds : List D} : H a = some (SttD a xs) ∧ ¬ O a → xs.map (·.1) = ks → Rps K mg O H (ks.map sttD) (xs.map fun x => .ref x.2.1) → Rps K mg O H ds (xs.map (·.2.2)) → Rp K mg O H (.dit ks ds) (.ref a)
  | exc {a C : Addr} {d : Option Addr} {c : Str} {fs : List (Str × V)} {ns : List Str} {ds : List D} {vs : List V} : H a = some (CaO (.ref C) d a) ∧ ¬ O a → mg c = some (.ref C) → ExF H O d fs → fs.map (·.1) = ns → fs.map (·.2) = vs → Rps K mg O H ds vs → Rp K mg O H (.exc c ns ds) (.ref a)
  | lam {f : Addr} {ds : List D} {vs : List V} : Rps K mg O H ds vs → Rp K mg O H (.lam f vs ds) (.ref f)
  | obx {a C dx : Addr} {c : Str} {fs : List (Str × V)} {ns : List Str} {ds : List D} {vs : List V} : ¬ O a → mg c = some (.ref C) → H a = some (.ins C dx fs) → fs.map (·.1) = ns → fs.map (·.2) = vs → Rps K mg O H (ds.map D.unbox) vs → Rp K mg O H (.obx c ns ds) (.ref a)
  | dix {a : Addr} {kvs : List (Key × V)} {ks : List Key} {ds : List D} {vs : List V} : Rd H a (.dK kvs) ∧ ¬ O a → kvs.map (·.1) = ks → kvs.map (·.2) = vs → Rps K mg O H (ds.map D.unbox) vs → Rp K mg O H (.dix ks ds) (.ref a)
  | stn {a : Addr} {d : D} : Rp K mg O H d (.ref a) → Rp K mg O H (.stn a d) (.ref a)
inductive Rps (K : Fg) (mg : Mg) (O : AP) (H : Hp) : List D → List V → Prop
  | nil : Rps K mg O H [] []
  | cons {d : D} {v : V} {ds : List D} {vs : List V} : Rp K mg O H d v → Rps K mg O H ds vs → Rps K mg O H (d :: ds) (v :: vs)
end

section
variable {K : Fg} {mg : Mg} {O O' : AP} {H H' : Hp}
theorem rd_stepN {a : Addr} {u : HO} (hk : ∀ a o, ¬ O a → H a = some o → NT o → H' a = some o) (ho : ∀ a o, O' a → H a = some o → NT o → O a) (h : Rd H a u ∧ ¬ O a) (hu : NT u := by first | assumption | exact fun _ z => by cases z) : Rd H' a u ∧ ¬ O' a := by
  obtain ⟨h, n⟩ := h
  rcases h with h | ⟨o, h⟩
  · exact ⟨.inl (hk _ _ n h hu), fun z => n (ho _ _ z h hu)⟩
  · exact ⟨.inr ⟨o, hk _ _ n h (by first | assumption | exact fun _ z => by cases z)⟩, fun z => n (ho _ _ z h (by first | assumption | exact fun _ z => by cases z))⟩
theorem at_stepN {a : Addr} {u : HO} (hk : ∀ a o, ¬ O a → H a = some o → NT o → H' a = some o) (ho : ∀ a o, O' a → H a = some o → NT o → O a) (h : H a = some u ∧ ¬ O a) (hu : NT u := by first | assumption | exact fun _ z => by cases z) : H' a = some u ∧ ¬ O' a := ⟨hk _ _ h.2 h.1 hu, fun z => h.2 (ho _ _ z h.1 hu)⟩
mutual
theorem Rp.stepN (hk : ∀ a o, ¬ O a → H a = some o → NT o → H' a = some o) (ho : ∀ a o, O' a → H a = some o → NT o → O a) : ∀ {d : D} {v : V}, Rp K mg O H d v → Rp K mg O' H' d v
  | _, _, .non => .non
  | _, _, .bl b => .bl b
  | _, _, .int i => .int i
  | _, _, .str x => .str x
  | _, _, .ty n => .ty n
  | _, _, .tup h e r => .tup (at_stepN hk ho h) e (Rps.stepN hk ho r)
  | _, _, .tpw h r => .tpw (h.imp (fun z => at_stepN hk ho z) id) (Rps.stepN hk ho r)
  | _, _, .lst h r => .lst (at_stepN hk ho h) (Rps.stepN hk ho r)
  | _, _, .scr h r => .scr (h.imp (fun z => rd_stepN hk ho z) id) (Rps.stepN hk ho r)
  | _, _, .obj n m h e e2 r => .obj (fun z => n (ho _ _ z h (by first | assumption | exact fun _ z => by cases z))) m (hk _ _ n h (by first | assumption | exact fun _ z => by cases z)) e e2 (Rps.stepN hk ho r)
  | _, _, .dic h e e2 r => .dic (rd_stepN hk ho h) e e2 (Rps.stepN hk ho r)
  | _, _, .dit h e e2 r => .dit (at_stepN hk ho h nt_stt) e (Rps.stepN hk ho e2) (Rps.stepN hk ho r)
  | _, _, .exc h m f e e2 r => .exc (at_stepN hk ho h nt_ca) m (f.stepN hk ho) e e2 (Rps.stepN hk ho r)
  | _, _, .lam r => .lam (Rps.stepN hk ho r)
  | _, _, .obx n m h e e2 r => .obx (fun z => n (ho _ _ z h (by first | assumption | exact fun _ z => by cases z))) m (hk _ _ n h (by first | assumption | exact fun _ z => by cases z)) e e2 (Rps.stepN hk ho r)
  | _, _, .dix h e e2 r => .dix (rd_stepN hk ho h) e e2 (Rps.stepN hk ho r)
  | _, _, .stn r => .stn (Rp.stepN hk ho r)
theorem Rps.stepN (hk : ∀ a o, ¬ O a → H a = some o → NT o → H' a = some o) (ho : ∀ a o, O' a → H a = some o → NT o → O a) : ∀ {ds : List D} {vs : List V}, Rps K mg O H ds vs → Rps K mg O' H' ds vs
  | _, _, .nil => .nil
  | _, _, .cons h r => .cons (Rp.stepN hk ho h) (Rps.stepN hk ho r)
end
theorem Rp.step (hk : ∀ a o, ¬ O a → H a = some o → H' a = some o) (ho : ∀ a o, O' a → H a = some o → O a) {d : D} {v : V} (h : Rp K mg O H d v) : Rp K mg O' H' d v := h.stepN (fun a o n e _ => hk a o n e) fun a o z e _ => ho a o z e
theorem Rps.step (hk : ∀ a o, ¬ O a → H a = some o → H' a = some o) (ho : ∀ a o, O' a → H a = some o → O a) {d : List D} {v : List V} (h : Rps K mg O H d v) : Rps K mg O' H' d v := h.stepN (fun a o n e _ => hk a o n e) fun a o z e _ => ho a o z e
theorem Rp.sub (ho : ∀ a, O' a → O a) {d : D} {v : V} (h : Rp K mg O H d v) : Rp K mg O' H d v := h.step (fun _ _ _ e => e) fun a _ z _ => ho a z
theorem Rps.sub (ho : ∀ a, O' a → O a) {ds : List D} {vs : List V} (h : Rps K mg O H ds vs) : Rps K mg O' H ds vs := h.step (fun _ _ _ e => e) fun a _ z _ => ho a z
theorem Rps.len : ∀ {ds : List D} {vs : List V}, Rps K mg O H ds vs → ds.length = vs.length
  | _, _, .nil => rfl
  | _, _, .cons _ r => congrArg (· + 1) r.len
theorem Rps.get : ∀ {ds : List D} {vs : List V} {i : Nat} {d : D}, Rps K mg O H ds vs → ds[i]? = some d → ∃ v, vs[i]? = some v ∧ Rp K mg O H d v
  | _, _, _, _, .nil, e => by simp at e
  | _, _, 0, _, .cons h _, e => by simp at e; subst e; exact ⟨_, rfl, h⟩
  | _, _, i + 1, _, .cons _ r, e => by
    obtain ⟨v, h1, h2⟩ := r.get (i := i) (by simpa using e)
    exact ⟨v, by simpa using h1, h2⟩
theorem Rps.app : ∀ {ds es : List D} {vs us : List V}, Rps K mg O H ds vs → Rps K mg O H es us → Rps K mg O H (ds ++ es) (vs ++ us)
  | _, _, _, _, .nil, s => s
  | _, _, _, _, .cons h r, s => .cons h (r.app s)
theorem Rps.set {d : D} {v : V} (h : Rp K mg O H d v) : ∀ {ds : List D} {vs : List V} (i : Nat), Rps K mg O H ds vs → Rps K mg O H (ds.set i d) (vs.set i v)
  | _, _, _, .nil => .nil
  | _, _, 0, .cons _ r => .cons h r
  | _, _, i + 1, .cons q r => .cons q (Rps.set h i r)
theorem Rps.take : ∀ {ds : List D} {vs : List V} (n : Nat), Rps K mg O H ds vs → Rps K mg O H (ds.take n) (vs.take n)
  | _, _, 0, _ => .nil
  | _, _, _ + 1, .nil => .nil
  | _, _, n + 1, .cons h r => .cons h (r.take n)
theorem Rps.drop : ∀ {ds : List D} {vs : List V} (n : Nat), Rps K mg O H ds vs → Rps K mg O H (ds.drop n) (vs.drop n)
  | _, _, 0, r => r
  | _, _, _ + 1, .nil => .nil
  | _, _, n + 1, .cons _ r => r.drop n
theorem Rps.one {d : D} {v : V} (h : Rp K mg O H d v) : Rps K mg O H [d] [v] := .cons h .nil
theorem Rp.tupAt {ds : List D} {v : V} (h : Rp K mg O H (.tup ds) v) : ∃ a vs, v = .ref a ∧ SqT K H a vs ∧ Rps K mg O H ds vs := by
  cases h with
  | tup h _ r => exact ⟨_, _, rfl, .inl (.inr ⟨_, h.1⟩), r⟩
theorem Rp.tpwAt {ds : List D} {v : V} (h : Rp K mg O H (.tpw ds) v) : ∃ a vs, v = .ref a ∧ SqT K H a vs ∧ Rps K mg O H ds vs := by
  cases h with
  | tpw h r =>
    rcases h with h | h
    · exact ⟨_, _, rfl, .inl (.inl h.1), r⟩
    · exact ⟨_, _, rfl, h.at H, r⟩
theorem Rp.lstAt {ds : List D} {v : V} (h : Rp K mg O H (.lst ds) v) : ∃ a vs, v = .ref a ∧ H a = some (.lst vs) ∧ Rps K mg O H ds vs := by
  cases h with
  | lst h r => exact ⟨_, _, rfl, h.1, r⟩
/-- a list in the wide sense: one of the program's, or the script -/
def D.items : D → Option (List D)
  | .lst ds => some ds
  | .scr ds => some ds
  | _ => none
theorem Rp.itemsAt {d : D} {ds : List D} {v : V} (h : Rp K mg O H d v) (e : d.items = some ds) : ∃ a vs, v = .ref a ∧ SqL K H a vs ∧ Rps K mg O H ds vs := by
  cases h with
  | lst h r => cases e; exact ⟨_, _, rfl, .inl (.inl h.1), r⟩
  | scr h r =>
    cases e
    rcases h with h | h
    · exact ⟨_, _, rfl, .inl h.1, r⟩
    · exact ⟨_, _, rfl, h.at H, r⟩
  | _ => cases e
end

/-! ### what a thing is made of -/
theorem D.unbox_ne {d : D} (h : ∀ e, d ≠ .box e) : d.unbox = d := by cases d <;> first | rfl | exact absurd rfl (h _)
mutual
/-- c is a part of the thing d at a that is written with it -/
inductive Foot (H : Hp) : D → Addr → Addr → Prop
  | top {d : D} {a : Addr} : Foot H d a a
  | inn {C dx a b : Addr} {c : Str} {fs : List (Str × V)} {ns : List Str} {ds : List D} : H a = some (.ins C dx fs) → Foots H ds (fs.map (·.2)) b → Foot H (.obx c ns ds) a b
  | ind {a b : Addr} {kvs : List (Key × V)} {ks : List Key} {ds : List D} : H a = some (.dK kvs) → Foots H ds (kvs.map (·.2)) b → Foot H (.dix ks ds) a b
  | stn {a b : Addr} {d : D} : Foot H d a b → Foot H (.stn a d) a b
inductive Foots (H : Hp) : List D → List V → Addr → Prop
  | hd {e : D} {b c : Addr} {ds : List D} {vs : List V} : Foot H e b c → Foots H (.box e :: ds) (.ref b :: vs) c
  | tl {d : D} {v : V} {c : Addr} {ds : List D} {vs : List V} : Foots H ds vs c → Foots H (d :: ds) (v :: vs) c
end
def D.flat : D → Bool
  | .obx _ _ _ => false
  | .dix _ _ => false
  | .stn _ _ => false
  | _ => true
theorem Foot.one {H : Hp} {d : D} {a b : Addr} (hd : d.flat = true) (h : Foot H d a b) : b = a := by
  cases h with
  | top => rfl
  | inn _ _ => cases hd
  | ind _ _ => cases hd
  | stn _ => cases hd
theorem Foot.fl {H : Hp} {d : D} {a : Addr} (hd : d.flat = true) : Foot H d a = fun b => b = a := by
  funext b
  exact propext ⟨Foot.one hd, fun e => by rw [e]; exact .top⟩
mutual
theorem Foot.up {H H' : Hp} : ∀ {d : D} {a c : Addr}, (∀ b, Foot H d a b → ∀ o, H b = some o → NT o → H' b = some o) → Foot H d a c → Foot H' d a c
  | _, _, _, _, .top => .top
  | _, _, _, ha, .inn h r => .inn (ha _ .top _ h (fun _ z => by cases z)) (Foots.up (fun b z => ha b (.inn h z)) r)
  | _, _, _, ha, .ind h r => .ind (ha _ .top _ h (fun _ z => by cases z)) (Foots.up (fun b z => ha b (.ind h z)) r)
  | _, _, _, ha, .stn f => .stn (Foot.up (fun b z => ha b (.stn z)) f)
theorem Foots.up {H H' : Hp} : ∀ {ds : List D} {vs : List V} {c : Addr}, (∀ b, Foots H ds vs b → ∀ o, H b = some o → NT o → H' b = some o) → Foots H ds vs c → Foots H' ds vs c
  | _, _, _, ha, .hd r => .hd (Foot.up (fun b z => ha b (.hd z)) r)
  | _, _, _, ha, .tl r => .tl (Foots.up (fun b z => ha b (.tl z)) r)
end
mutual
/-- a list, an object that stands at a and may be written: nobody else holds it -/
inductive Own (K : Fg) (mg : Mg) (O : AP) (H : Hp) : D → Addr → Prop
  | lst {a : Addr} {ds : List D} (vs : List V) : H a = some (.lst vs) → Rps K mg O H ds vs → Own K mg O H (.lst ds) a
  | obj {a : Addr} {c : Str} {ns : List Str} {ds : List D} (C dx : Addr) (fs : List (Str × V)) (vs : List V) : mg c = some (.ref C) → H a = some (.ins C dx fs) → fs.map (·.1) = ns → fs.map (·.2) = vs → Rps K mg O H ds vs → Own K mg O H (.obj c ns ds) a
  | dic {a : Addr} {ks : List Key} {ds : List D} (kvs : List (Key × V)) (vs : List V) : H a = some (.dK kvs) → kvs.map (·.1) = ks → kvs.map (·.2) = vs → Rps K mg O H ds vs → Own K mg O H (.dic ks ds) a
  | dit {a : Addr} {ks : List Stt} {ds : List D} (xs : List SRow) : H a = some (SttD a xs) → xs.map (·.1) = ks → Rps K mg O H (ks.map sttD) (xs.map fun x => .ref x.2.1) → Rps K mg O H ds (xs.map (·.2.2)) → Own K mg O H (.dit ks ds) a
  | obx {a : Addr} {c : Str} {ns : List Str} {ds : List D} (C dx : Addr) (fs : List (Str × V)) : mg c = some (.ref C) → H a = some (.ins C dx fs) → fs.map (·.1) = ns → Flds K mg O H ds (fs.map (·.2)) → ¬ Foots H ds (fs.map (·.2)) a → Own K mg O H (.obx c ns ds) a
  | dix {a : Addr} {ks : List Key} {ds : List D} (kvs : List (Key × V)) : H a = some (.dK kvs) → kvs.map (·.1) = ks → Flds K mg O H ds (kvs.map (·.2)) → ¬ Foots H ds (kvs.map (·.2)) a → Own K mg O H (.dix ks ds) a
  | stn {a : Addr} {d : D} : Own K mg O H d a → Own K mg O H (.stn a d) a
/-- the fields of an object: shared data; things of its own -/
inductive Flds (K : Fg) (mg : Mg) (O : AP) (H : Hp) : List D → List V → Prop
  | nil : Flds K mg O H [] []
  | sh {d : D} {v : V} {ds : List D} {vs : List V} : (∀ e, d ≠ .box e) → Rp K mg O H d v → Flds K mg O H ds vs → Flds K mg O H (d :: ds) (v :: vs)
  | bx {d : D} {b : Addr} {ds : List D} {vs : List V} : Own K mg O H d b → (∀ c, Foot H d b c → ¬ Foots H ds vs c) → Flds K mg O H ds vs → Flds K mg O H (.box d :: ds) (.ref b :: vs)
end
section
variable {K : Fg} {mg : Mg} {O O' : AP} {H H' : Hp} {d : D} {a : Addr}
mutual
/-- each part of an own thing is an own thing -/
theorem Own.part : ∀ {d : D} {a c : Addr}, Own K mg O H d a → Foot H d a c → ∃ e, Own K mg O H e c
  | _, _, _, h, .top => ⟨_, h⟩
  | _, _, _, .obx _ _ _ _ e _ r _, .inn h f => by rw [e] at h; cases h; exact Flds.part r f
  | _, _, _, .dix _ e _ r _, .ind h f => by rw [e] at h; cases h; exact Flds.part r f
  | _, _, _, .stn o, .stn f => Own.part o f
theorem Flds.part : ∀ {ds : List D} {vs : List V} {c : Addr}, Flds K mg O H ds vs → Foots H ds vs c → ∃ e, Own K mg O H e c
  | _, _, _, .bx o _ _, .hd f => Own.part o f
  | _, _, _, .bx _ _ r, .tl f => Flds.part r f
  | _, _, _, .sh n _ _, .hd _ => absurd rfl (n _)
  | _, _, _, .sh _ _ r, .tl f => Flds.part r f
end
theorem Own.ditE {ks : List Stt} {ds : List D} (h : Own K mg O H (.dit ks ds) a) : ∃ xs : List SRow, H a = some (SttD a xs) ∧ xs.map (·.1) = ks ∧ Rps K mg O H (ks.map sttD) (xs.map fun x => .ref x.2.1) ∧ Rps K mg O H ds (xs.map (·.2.2)) := by
  cases h with
  | dit xs h e r r2 => exact ⟨xs, h, e, r, r2⟩
theorem Own.obxE {c : Str} {ns : List Str} {ds : List D} (h : Own K mg O H (.obx c ns ds) a) : ∃ (C dx : Addr) (fs : List (Str × V)), mg c = some (.ref C) ∧ H a = some (.ins C dx fs) ∧ fs.map (·.1) = ns ∧ Flds K mg O H ds (fs.map (·.2)) ∧ ¬ Foots H ds (fs.map (·.2)) a := by
  cases h with
  | obx C dx fs m h e r n => exact ⟨C, dx, fs, m, h, e, r, n⟩
theorem Own.nt : ∀ {d : D} {a : Addr}, Own K mg O H d a → ∃ o, H a = some o ∧ NT o
  | _, _, .lst vs h r => ⟨_, h, (by first | assumption | exact fun _ z => by cases z)⟩
  | _, _, .obj C dx fs vs m h e e2 r => ⟨_, h, (by first | assumption | exact fun _ z => by cases z)⟩
  | _, _, .dic kvs vs h e e2 r => ⟨_, h, (by first | assumption | exact fun _ z => by cases z)⟩
  | _, _, .dit xs h e e2 r => ⟨_, h, nt_stt⟩
  | _, _, .obx C dx fs m h e r n => ⟨_, h, (by first | assumption | exact fun _ z => by cases z)⟩
  | _, _, .dix kvs h e r n => ⟨_, h, (by first | assumption | exact fun _ z => by cases z)⟩
  | _, _, .stn o => Own.nt o
theorem Own.tr (h : Own K mg O H d a) : ∃ o, H a = some o := let ⟨o, e, _⟩ := h.nt; ⟨o, e⟩
theorem Own.ftr {c : Addr} (h : Own K mg O H d a) (f : Foot H d a c) : ∃ o, H c = some o ∧ NT o := let ⟨_, o⟩ := h.part f; o.nt
mutual
theorem Own.foot {H' : Hp} : ∀ {d : D} {a c : Addr}, (∀ b, Foot H d a b → ∀ o, H b = some o → NT o → H' b = some o) → Own K mg O H d a → Foot H' d a c → Foot H d a c
  | _, _, _, _, _, .top => .top
  | _, _, _, ha, .obx _ _ _ _ e _ r _, .inn h f => by
    have q := ha _ .top _ e (fun _ z => by cases z)
    rw [q] at h
    cases h
    exact .inn e (Flds.foot (fun b z => ha b (.inn e z)) r f)
  | _, _, _, ha, .dix _ e _ r _, .ind h f => by
    have q := ha _ .top _ e (fun _ z => by cases z)
    rw [q] at h
    cases h
    exact .ind e (Flds.foot (fun b z => ha b (.ind e z)) r f)
  | _, _, _, ha, .stn o, .stn f => .stn (Own.foot (fun b z => ha b (.stn z)) o f)
theorem Flds.foot {H' : Hp} : ∀ {ds : List D} {vs : List V} {c : Addr}, (∀ b, Foots H ds vs b → ∀ o, H b = some o → NT o → H' b = some o) → Flds K mg O H ds vs → Foots H' ds vs c → Foots H ds vs c
  | _, _, _, ha, .bx o _ _, .hd f => .hd (Own.foot (fun b z => ha b (.hd z)) o f)
  | _, _, _, ha, .bx _ _ r, .tl f => .tl (Flds.foot (fun b z => ha b (.tl z)) r f)
  | _, _, _, _, .sh n _ _, .hd _ => absurd rfl (n _)
  | _, _, _, ha, .sh _ _ r, .tl f => .tl (Flds.foot (fun b z => ha b (.tl z)) r f)
end
mutual
theorem Own.stepN (hk : ∀ a o, ¬ O a → H a = some o → NT o → H' a = some o) (ho : ∀ a o, O' a → H a = some o → O a) : ∀ {d : D} {a : Addr}, (∀ b, Foot H d a b → ∀ o, H b = some o → NT o → H' b = some o) → Own K mg O H d a → Own K mg O' H' d a
  | _, _, ha, .lst vs h r => .lst vs (ha _ .top _ h (by first | assumption | exact fun _ z => by cases z)) (r.stepN hk fun a o z e _ => ho a o z e)
  | _, _, ha, .obj C dx fs vs m h e e2 r => .obj C dx fs vs m (ha _ .top _ h (by first | assumption | exact fun _ z => by cases z)) e e2 (r.stepN hk fun a o z e _ => ho a o z e)
  | _, _, ha, .dic kvs vs h e e2 r => .dic kvs vs (ha _ .top _ h (by first | assumption | exact fun _ z => by cases z)) e e2 (r.stepN hk fun a o z e _ => ho a o z e)
  | _, _, ha, .dit xs h e e2 r => .dit xs (ha _ .top _ h nt_stt) e (e2.stepN hk (fun a o z e _ => ho a o z e)) (r.stepN hk fun a o z e _ => ho a o z e)
  | _, _, ha, .obx C dx fs m h e r n => .obx C dx fs m (ha _ .top _ h (by first | assumption | exact fun _ z => by cases z)) e (Flds.stepN hk ho (fun b z => ha b (.inn h z)) r) (fun z => n (Flds.foot (fun b z => ha b (.inn h z)) r z))
  | _, _, ha, .dix kvs h e r n => .dix kvs (ha _ .top _ h (by first | assumption | exact fun _ z => by cases z)) e (Flds.stepN hk ho (fun b z => ha b (.ind h z)) r) (fun z => n (Flds.foot (fun b z => ha b (.ind h z)) r z))
  | _, _, ha, .stn o => .stn (Own.stepN hk ho (fun b z => ha b (.stn z)) o)
theorem Flds.stepN (hk : ∀ a o, ¬ O a → H a = some o → NT o → H' a = some o) (ho : ∀ a o, O' a → H a = some o → O a) : ∀ {ds : List D} {vs : List V}, (∀ b, Foots H ds vs b → ∀ o, H b = some o → NT o → H' b = some o) → Flds K mg O H ds vs → Flds K mg O' H' ds vs
  | _, _, _, .nil => .nil
  | _, _, ha, .sh n h r => .sh n (h.stepN hk fun a o z e _ => ho a o z e) (Flds.stepN hk ho (fun b z => ha b (.tl z)) r)
  | _, _, ha, .bx o n r => .bx (Own.stepN hk ho (fun b z => ha b (.hd z)) o) (fun c z q => n c (Own.foot (fun b z => ha b (.hd z)) o z) (Flds.foot (fun b z => ha b (.tl z)) r q)) (Flds.stepN hk ho (fun b z => ha b (.tl z)) r)
end
theorem Own.step (hk : ∀ a o, ¬ O a → H a = some o → H' a = some o) (ho : ∀ a o, O' a → H a = some o → O a) (ha : ∀ b, Foot H d a b → ∀ o, H b = some o → H' b = some o) (h : Own K mg O H d a) : Own K mg O' H' d a :=
  h.stepN (fun a o n e _ => hk a o n e) ho fun b f o e _ => ha b f o e
theorem Own.noC (q : Str) : ∀ {d : D} {a : Addr}, Own K mg O H d a → H a ≠ some (LamX.CodeO a q)
  | _, _, .lst vs h r => fun z => by rw [h] at z; unfold LamX.CodeO at z; cases z
  | _, _, .obj C dx fs vs m h e e2 r => fun z => by rw [h] at z; unfold LamX.CodeO at z; cases z
  | _, _, .dic kvs vs h e e2 r => fun z => by rw [h] at z; unfold LamX.CodeO at z; cases z
  | _, _, .dit xs h e e2 r => fun z => by rw [h] at z; exact stt_code (Option.some.inj z)
  | _, _, .obx C dx fs m h e r n => fun z => by rw [h] at z; unfold LamX.CodeO at z; cases z
  | _, _, .dix kvs h e r n => fun z => by rw [h] at z; unfold LamX.CodeO at z; cases z
  | _, _, .stn o => Own.noC q o
theorem Own.sub (ho : ∀ a, O' a → O a) (h : Own K mg O H d a) : Own K mg O' H d a := h.step (fun _ _ _ e => e) (fun a _ z _ => ho a z) fun _ _ _ e => e
theorem Flds.sub {ds : List D} {vs : List V} (ho : ∀ a, O' a → O a) (h : Flds K mg O H ds vs) : Flds K mg O' H ds vs := h.stepN (fun _ _ _ e _ => e) (fun a _ z _ => ho a z) fun _ _ _ e _ => e
mutual
/-- from now on nobody writes it -/
theorem Own.shared (ho : ∀ b, O' b → O b) : ∀ {d : D} {a : Addr}, (∀ b, Foot H d a b → ¬ O' b) → Own K mg O H d a → Rp K mg O' H d (.ref a)
  | _, _, n, .lst _ h r => .lst ⟨h, n _ .top⟩ (r.sub ho)
  | _, _, n, .obj _ _ _ _ m h e e2 r => .obj (n _ .top) m h e e2 (r.sub ho)
  | _, _, n, .dic _ _ h e e2 r => .dic ⟨.inl h, n _ .top⟩ e e2 (r.sub ho)
  | _, _, n, .dit _ h e e2 r => .dit ⟨h, n _ .top⟩ e (e2.sub ho) (r.sub ho)
  | _, _, n, .obx _ _ _ m h e r _ => .obx (n _ .top) m h e rfl (Flds.shared ho (fun b z => n b (.inn h z)) r)
  | _, _, n, .dix _ h e r _ => .dix ⟨.inl h, n _ .top⟩ e rfl (Flds.shared ho (fun b z => n b (.ind h z)) r)
  | _, _, n, .stn o => .stn (Own.shared ho (fun b z => n b (.stn z)) o)
theorem Flds.shared (ho : ∀ b, O' b → O b) : ∀ {ds : List D} {vs : List V}, (∀ b, Foots H ds vs b → ¬ O' b) → Flds K mg O H ds vs → Rps K mg O' H (ds.map D.unbox) vs
  | _, _, _, .nil => .nil
  | d :: _, _, n, .sh m h r => .cons (by rw [D.unbox_ne m]; exact h.sub ho) (Flds.shared ho (fun b z => n b (.tl z)) r)
  | _, _, n, .bx o _ r => .cons (Own.shared ho (fun b z => n b (.hd z)) o) (Flds.shared ho (fun b z => n b (.tl z)) r)
end
end

/-- a slot of the frame: nothing is known; shared data; data of its own, made here; data of the caller's that may be written -/
inductive Sl where
  | no | sh (d : D) | ow (d : D) | io (d : D)
abbrev Ev := List Sl

def Sl.own : Sl → Option D
  | .ow d => some d
  | .io d => some d
  | _ => none
/-- what the frame's slots own -/
def Ownd (ρ : Ev) (σ : St) (H : Hp) (a : Addr) : Prop := ∃ (i : Nat) (s : Sl) (d : D) (b : Addr), ρ[i]? = some s ∧ s.own = some d ∧ σ[i]? = some (some (.ref b)) ∧ Foot H d b a
theorem Ownd.top {ρ : Ev} {σ : St} {H : Hp} {a : Addr} {i : Nat} {s : Sl} {d : D} (h1 : ρ[i]? = some s) (h2 : s.own = some d) (h3 : σ[i]? = some (some (.ref a))) : Ownd ρ σ H a := ⟨i, s, d, a, h1, h2, h3, .top⟩
def Ex (E : AP) (ρ : Ev) (σ : St) (H : Hp) (a : Addr) : Prop := E a ∨ Ownd ρ σ H a

/-- the world around a def: R what stays as it is, E what is reserved, N what was not there at the entry, B the arguments, M what the things at the arguments were made of -/
structure Wd where
  R : Hp
  E : AP
  N : AP
  B : St
  M : Addr → AP
def Wd.plus (w : Wd) (F : AP) : Wd := { w with E := fun a => w.E a ∨ F a }
abbrev Wd.plus1 (w : Wd) (p : Addr) : Wd := w.plus fun a => a = p

def SlotR (K : Fg) (mg : Mg) (w : Wd) (O : AP) (H : Hp) (s : Sl) (v : Option V) : Prop := match s with
  | .no => True
  | .sh d => ∃ x, v = some x ∧ Rp K mg O H d x
  | .ow d => ∃ a, v = some (.ref a) ∧ (∀ b, Foot H d a b → w.R b = none) ∧ (∀ b, Foot H d a b → w.N b) ∧ Own K mg O H d a
  | .io d => ∃ a, v = some (.ref a) ∧ (∀ b, Foot H d a b → w.R b = none ∧ (w.N b ∨ w.M a b)) ∧ Own K mg O H d a

structure SR (K : Fg) (mg : Mg) (w : Wd) (ρ : Ev) (σ : St) (H : Hp) : Prop where
  len : ρ.length = σ.length
  slot : ∀ (i : Nat) (s : Sl) (v : Option V), ρ[i]? = some s → σ[i]? = some v → SlotR K mg w (Ex w.E ρ σ H) H s v
  injF : ∀ (i j : Nat) (s t : Sl) (d e : D) (b c a : Addr), ρ[i]? = some s → s.own = some d → ρ[j]? = some t → t.own = some e → σ[i]? = some (some (.ref b)) → σ[j]? = some (some (.ref c)) → Foot H d b a → Foot H e c a → i = j
  exo : ∀ a, Ownd ρ σ H a → ¬ w.E a
  kp : Kept w.R H
  tabs : TabAll K H
  fresh : ∀ a, H a = none → w.N a
  etr : ∀ a, w.E a → ∃ o, H a = some o
  iob : ∀ (i : Nat) (d : D), ρ[i]? = some (.io d) → σ[i]? = w.B[i]?

section
variable {K : Fg} {mg : Mg} {w : Wd} {ρ ρ' : Ev} {σ σ' : St} {H H' : Hp} {a p : Addr} {d : D} {v : V} {i : Nat} {F : AP}
theorem SR.inj (S : SR K mg w ρ σ H) (i j : Nat) (s t : Sl) (d e : D) (a : Addr) (h1 : ρ[i]? = some s) (h2 : s.own = some d) (h3 : ρ[j]? = some t) (h4 : t.own = some e) (h5 : σ[i]? = some (some (.ref a))) (h6 : σ[j]? = some (some (.ref a))) : i = j := S.injF i j s t d e a a a h1 h2 h3 h4 h5 h6 .top .top
theorem SR.keep (S : SR K mg w ρ σ H) (a : Addr) (o : HO) (h : w.R a = some o) (n : NT o := by first | assumption | exact fun _ z => by cases z) : H a = some o := S.kp.nt a o h n
theorem SR.at (S : SR K mg w ρ σ H) {s : Sl} (h : ρ[i]? = some s) : ∃ v, σ[i]? = some v ∧ SlotR K mg w (Ex w.E ρ σ H) H s v := by
  have hl : i < σ.length := by rw [← S.len]; exact (List.getElem?_eq_some_iff.mp h).1
  exact ⟨σ[i], List.getElem?_eq_getElem hl, S.slot i s _ h (List.getElem?_eq_getElem hl)⟩
theorem SR.sh (S : SR K mg w ρ σ H) (h : ρ[i]? = some (.sh d)) : ∃ v, σ[i]? = some (some v) ∧ Rp K mg (Ex w.E ρ σ H) H d v := by
  obtain ⟨v, e, x, rfl, r⟩ := S.at h
  exact ⟨x, e, r⟩
theorem SR.owF (S : SR K mg w ρ σ H) {s : Sl} (h : ρ[i]? = some s) (hs : s.own = some d) : ∃ a, σ[i]? = some (some (.ref a)) ∧ (∀ b, Foot H d a b → w.R b = none) ∧ Own K mg (Ex w.E ρ σ H) H d a := by
  obtain ⟨v, e, r⟩ := S.at h
  cases s with
  | ow d' => cases hs; obtain ⟨a, rfl, h1, h2, h3⟩ := r; exact ⟨a, e, h1, h3⟩
  | io d' => cases hs; obtain ⟨a, rfl, h1, h3⟩ := r; exact ⟨a, e, fun b f => (h1 b f).1, h3⟩
  | no => cases hs
  | sh d' => cases hs
theorem SR.ow (S : SR K mg w ρ σ H) {s : Sl} (h : ρ[i]? = some s) (hs : s.own = some d) : ∃ a, σ[i]? = some (some (.ref a)) ∧ w.R a = none ∧ Own K mg (Ex w.E ρ σ H) H d a := by
  obtain ⟨a, h1, h2, h3⟩ := S.owF h hs
  exact ⟨a, h1, h2 _ .top, h3⟩
theorem SR.ownd (S : SR K mg w ρ σ H) (h : Ownd ρ σ H a) : w.R a = none ∧ ∃ o, H a = some o := by
  obtain ⟨i, s, d, b, h1, h2, h3, f⟩ := h
  obtain ⟨c, e, r, o⟩ := S.owF h1 h2
  rw [h3] at e
  cases e
  obtain ⟨u, hu, _⟩ := o.ftr f
  exact ⟨r _ f, u, hu⟩
theorem SR.ex_tr (S : SR K mg w ρ σ H) (h : Ex w.E ρ σ H a) : ∃ o, H a = some o := by
  rcases h with h | h
  · exact S.etr a h
  · exact (S.ownd h).2
theorem SR.not_ex (S : SR K mg w ρ σ H) (h : H a = none) : ¬ Ex w.E ρ σ H a := fun z => by
  obtain ⟨o, e⟩ := S.ex_tr z
  rw [h] at e
  cases e
theorem SR.r_none (S : SR K mg w ρ σ H) (h : H a = none) : w.R a = none := by
  cases e : w.R a with
  | none => rfl
  | some o => obtain ⟨o', q⟩ := S.kp.some e; rw [q] at h; cases h
/-- what the slots own is the same as long as it is kept -/
theorem SR.od (S : SR K mg w ρ σ H) (up : ∀ b o, Ownd ρ σ H b → H b = some o → NT o → H' b = some o) : (∀ a, Ownd ρ σ H' a → Ownd ρ σ H a) ∧ ∀ a, Ownd ρ σ H a → Ownd ρ σ H' a := by
  refine ⟨fun a ⟨i, s, d, b, h1, h2, h3, f⟩ => ?_, fun a ⟨i, s, d, b, h1, h2, h3, f⟩ => ⟨i, s, d, b, h1, h2, h3, f.up fun c z o e n => up c o ⟨i, s, d, b, h1, h2, h3, z⟩ e n⟩⟩
  obtain ⟨c, e, r, o⟩ := S.owF h1 h2
  rw [h3] at e
  cases e
  exact ⟨i, s, d, b, h1, h2, h3, o.foot (fun c z o e n => up c o ⟨i, s, d, b, h1, h2, h3, z⟩ e n) f⟩

open Classical in
/-- all that stands but what the frame owns -/
noncomputable def full (ρ : Ev) (σ : St) (H : Hp) : Hp := fun a => if Ownd ρ σ H a then none else H a
theorem full_of {o : HO} (n : ¬ Ownd ρ σ H a) (h : H a = some o) : full ρ σ H a = some o := by unfold full; rw [if_neg n]; exact h
theorem full_own (n : Ownd ρ σ H a) : full ρ σ H a = none := by unfold full; rw [if_pos n]
theorem of_full {o : HO} (h : full ρ σ H a = some o) : ¬ Ownd ρ σ H a ∧ H a = some o := by
  unfold full at h
  split at h
  · cases h
  · rename_i n; exact ⟨n, h⟩
noncomputable def Wd.fill (w : Wd) (ρ : Ev) (σ : St) (H : Hp) : Wd := { w with R := full ρ σ H }
theorem SlotR.world {O : AP} {s : Sl} {x : Option V} {w' : Wd} (hR : ∀ a d b, x = some (.ref a) → s.own = some d → Foot H d a b → w.R b = none → w'.R b = none) (hN : ∀ a, w.N a → w'.N a) (h : SlotR K mg w O H s x) (hM : ∀ a b, w.M a b → w'.M a b := by exact fun _ _ z => z) : SlotR K mg w' O H s x := by
  cases s with
  | no => trivial
  | sh d => exact h
  | ow d => obtain ⟨a, e, h1, h2, h3⟩ := h; exact ⟨a, e, fun b f => hR a d b e rfl f (h1 b f), fun b f => hN b (h2 b f), h3⟩
  | io d => obtain ⟨a, e, h1, h3⟩ := h; exact ⟨a, e, fun b f => ⟨hR a d b e rfl f (h1 b f).1, (h1 b f).2.imp (hN b) (hM a b)⟩, h3⟩
theorem SlotR.stepN {O O' : AP} {s : Sl} {x : Option V} (hk : ∀ a o, ¬ O a → H a = some o → NT o → H' a = some o) (ho : ∀ a o, O' a → H a = some o → O a) (ha : ∀ a d b o, x = some (.ref a) → s.own = some d → Foot H d a b → H b = some o → NT o → H' b = some o)
    (h : SlotR K mg w O H s x) : SlotR K mg w O' H' s x := by
  cases s with
  | no => trivial
  | sh d => obtain ⟨y, e, r⟩ := h; exact ⟨y, e, r.stepN hk fun a o z e _ => ho a o z e⟩
  | ow d =>
    obtain ⟨a, e, h1, h2, h3⟩ := h
    have ha' : ∀ b, Foot H d a b → ∀ o, H b = some o → NT o → H' b = some o := fun b f o => ha a d b o e rfl f
    exact ⟨a, e, fun b f => h1 b (h3.foot ha' f), fun b f => h2 b (h3.foot ha' f), h3.stepN hk ho ha'⟩
  | io d =>
    obtain ⟨a, e, h1, h3⟩ := h
    have ha' : ∀ b, Foot H d a b → ∀ o, H b = some o → NT o → H' b = some o := fun b f o => ha a d b o e rfl f
    exact ⟨a, e, fun b f => h1 b (h3.foot ha' f), h3.stepN hk ho ha'⟩
theorem SlotR.step {O O' : AP} {s : Sl} {x : Option V} (hk : ∀ a o, ¬ O a → H a = some o → H' a = some o) (ho : ∀ a o, O' a → H a = some o → O a) (ha : ∀ a d b o, x = some (.ref a) → s.own = some d → Foot H d a b → H b = some o → H' b = some o)
    (h : SlotR K mg w O H s x) : SlotR K mg w O' H' s x := h.stepN (fun a o n e _ => hk a o n e) ho fun a d b o e1 e2 f e3 _ => ha a d b o e1 e2 f e3
theorem SlotR.sub {O O' : AP} {s : Sl} {x : Option V} (ho : ∀ a, O' a → O a) (h : SlotR K mg w O H s x) : SlotR K mg w O' H s x := h.step (fun _ _ _ e => e) (fun a _ z _ => ho a z) fun _ _ _ _ _ _ _ e => e
/-- what stands is kept from here on -/
theorem SR.fill (S : SR K mg w ρ σ H) : SR K mg (w.fill ρ σ H) ρ σ H :=
  ⟨S.len, fun i s v h1 h2 => SlotR.world (w := w) (w' := w.fill ρ σ H) (fun a d b e ho f _ => full_own ⟨i, s, d, a, h1, ho, by rw [h2, e], f⟩) (fun _ z => z) (S.slot i s v h1 h2), S.injF, S.exo, .of fun a o h => (of_full h).2, S.tabs, S.fresh, S.etr, S.iob⟩
theorem SR.ntC (S : SR K mg w ρ σ H) (h : Ownd ρ σ H a) : ∀ u, H a = some u → NT u ∧ ∀ q, u ≠ LamX.CodeO a q := fun u e => by
  obtain ⟨i, s, d, b, h1, h2, h3, f⟩ := h
  obtain ⟨b, eb, r, o⟩ := S.owF h1 h2
  rw [h3] at eb
  cases eb
  obtain ⟨d', o⟩ := o.part f
  obtain ⟨u', e', n⟩ := o.nt
  rw [e] at e'
  cases e'
  exact ⟨n, fun q z => o.noC q (by rw [e, z])⟩
theorem SR.noC (S : SR K mg w ρ σ H) (h : Ownd ρ σ H a) (q : Str) : H a ≠ some (LamX.CodeO a q) := fun z => (S.ntC h _ z).2 q rfl
theorem SR.in_fullC {H0 : Hp} (S : SR K mg w ρ σ H) (k : Kept H H0) (sub : ∀ a, Ownd ρ' σ' H0 a → Ownd ρ σ H a) : Kept w.R (full ρ' σ' H0) := by
  have no : ∀ {b u}, w.R b = some u → ¬ Ownd ρ' σ' H0 b := fun {b u} e z => by rw [(S.ownd (sub _ z)).1] at e; cases e
  refine ⟨fun b u e n => full_of (no e) (k.nt b u (S.kp.nt b u e n) n), fun b ps e => ?_⟩
  obtain ⟨ps', e'⟩ := S.kp.tb b ps e
  obtain ⟨ps2, e2⟩ := k.tb b ps' e'
  exact ⟨ps2, full_of (no e) e2⟩
theorem SR.in_full (S : SR K mg w ρ σ H) : Kept w.R (full ρ σ H) := S.in_fullC (.of fun _ _ e => e) fun _ z => z
theorem SR.thin {w' : Wd} (S : SR K mg w' ρ σ H) (hE : w'.E = w.E) (hN : w'.N = w.N) (hB : w'.B = w.B) (hR : Kept w.R w'.R) (hM : w'.M = w.M := by rfl) : SR K mg w ρ σ H := by
  obtain ⟨R, E, N, B, M⟩ := w
  obtain ⟨R', E', N', B', M'⟩ := w'
  cases hE; cases hN; cases hB; cases hM
  exact ⟨S.len, fun i s v h1 h2 => SlotR.world (w := ⟨R', E, N, B, M⟩) (w' := ⟨R, E, N, B, M⟩) (fun a d b _ _ _ h => by
      show R b = none
      cases e : R b with
      | none => rfl
      | some o =>
        have h' : R' b = none := h
        obtain ⟨o', q⟩ := hR.some e
        rw [show R' b = some o' from q] at h'; cases h') (fun _ z => z) (S.slot i s v h1 h2), S.injF, S.exo, hR.trans S.kp, S.tabs, S.fresh, S.etr, S.iob⟩
/-- back from the fuller world -/
theorem SR.back (S : SR K mg w ρ σ H) (S2 : SR K mg (w.fill ρ σ H) ρ' σ' H') : SR K mg w ρ' σ' H' := S2.thin rfl rfl rfl S.in_full
/-- what was known of data is known still -/
theorem SR.keeps (S : SR K mg w ρ σ H) {w2 : Wd} (S2 : SR K mg w2 ρ' σ' H') (hR : w2.R = full ρ σ H) (hE : ∀ a o, w2.E a → H a = some o → Ex w.E ρ σ H a) : (∀ a o, ¬ Ex w.E ρ σ H a → H a = some o → NT o → H' a = some o) ∧ (∀ a o, Ex w2.E ρ' σ' H' a → H a = some o → Ex w.E ρ σ H a) := by
  refine ⟨fun a o n h nn => S2.keep a o ?_, fun a o z h => ?_⟩
  · rw [hR]; exact full_of (fun q => n (.inr q)) h
  · rcases z with z | z
    · exact hE a o z h
    · have q := (S2.ownd z).1
      rw [hR] at q
      by_cases c : Ownd ρ σ H a
      · exact .inr c
      · rw [full_of c h] at q; cases q
theorem SR.carry (S : SR K mg w ρ σ H) (S2 : SR K mg (w.fill ρ σ H) ρ' σ' H') (h : Rp K mg (Ex w.E ρ σ H) H d v) : Rp K mg (Ex w.E ρ' σ' H') H' d v :=
  let q := S.keeps S2 rfl fun _ _ z _ => .inl z
  h.stepN q.1 fun a o z e _ => q.2 a o z e
theorem SR.carrys {ds : List D} {vs : List V} (S : SR K mg w ρ σ H) (S2 : SR K mg (w.fill ρ σ H) ρ' σ' H') (h : Rps K mg (Ex w.E ρ σ H) H ds vs) : Rps K mg (Ex w.E ρ' σ' H') H' ds vs :=
  let q := S.keeps S2 rfl fun _ _ z _ => .inl z
  h.stepN q.1 fun a o z e _ => q.2 a o z e

/-! ### values -/
def VR (K : Fg) (mg : Mg) (w : Wd) (ρ : Ev) (σ : St) (H : Hp) (s : Sl) (v : V) : Prop := match s with
  | .sh d => SR K mg w ρ σ H ∧ Rp K mg (Ex w.E ρ σ H) H d v
  | .ow d => ∃ p, v = .ref p ∧ (∀ b, Foot H d p b → w.R b = none) ∧ (∀ b, Foot H d p b → w.N b) ∧ (∀ b, Foot H d p b → ¬ w.E b) ∧ (∀ b, Foot H d p b → ¬ Ownd ρ σ H b) ∧ SR K mg (w.plus (Foot H d p)) ρ σ H ∧ Own K mg (Ex (w.plus (Foot H d p)).E ρ σ H) H d p
  | _ => False
/-- the data of a value -/
def vl : Sl → Option D
  | .sh d => some d
  | .ow d => some d
  | _ => none
theorem VR.mk1 (h1 : w.R p = none) (h2 : w.N p) (h3 : ¬ w.E p) (h4 : ¬ Ownd ρ σ H p) (S : SR K mg (w.plus1 p) ρ σ H) (o : Own K mg (Ex (w.plus1 p).E ρ σ H) H d p) (hd : d.flat = true := by rfl) : VR K mg w ρ σ H (.ow d) (.ref p) := by
  refine ⟨p, rfl, fun b f => ?_, fun b f => ?_, fun b f => ?_, fun b f => ?_, ?_, ?_⟩
  · rw [f.one hd]; exact h1
  · rw [f.one hd]; exact h2
  · rw [f.one hd]; exact h3
  · rw [f.one hd]; exact h4
  · rw [Foot.fl hd]; exact S
  · rw [Foot.fl hd]; exact o
theorem SR.minus (S : SR K mg (w.plus F) ρ σ H) : SR K mg w ρ σ H := by
  have ex : ∀ a, Ex w.E ρ σ H a → Ex (w.plus F).E ρ σ H a := fun a z => z.imp .inl id
  exact ⟨S.len, fun i s v h1 h2 => ((S.slot i s v h1 h2).sub ex).world (fun _ _ _ _ _ _ e => e) fun _ e => e, S.injF, fun a z e => S.exo a z (.inl e), S.kp, S.tabs, S.fresh, fun a e => S.etr a (.inl e), S.iob⟩
theorem VR.sh {s : Sl} (h : VR K mg w ρ σ H s v) (hd : vl s = some d) : SR K mg w ρ σ H ∧ Rp K mg (Ex w.E ρ σ H) H d v := by
  cases s with
  | sh d' => cases hd; exact h
  | ow d' =>
    cases hd
    obtain ⟨p, rfl, _, _, n1, n2, S, o⟩ := h
    exact ⟨S.minus, o.shared (fun a z => z.imp .inl id) fun b f z => z.elim (n1 b f) (n2 b f)⟩
  | no => cases hd
  | io d' => cases hd
/-- a new thing -/
theorem SR.pushF {o : HO} (S : SR K mg w ρ σ H) (hp : H p = none) : (∀ a, Ownd ρ σ (upd H p o) a → Ownd ρ σ H a) ∧ ∀ a, Ownd ρ σ H a → Ownd ρ σ (upd H p o) a :=
  S.od fun b u _ e _ => by rw [upd_ne (fun z => by rw [z, hp] at e; cases e)]; exact e
theorem SR.push {o : HO} (S : SR K mg w ρ σ H) (hp : H p = none) : SR K mg (w.plus1 p) ρ σ (upd H p o) := by
  have np : ∀ {a o}, H a = some o → a ≠ p := fun {a o} e z => by rw [z, hp] at e; cases e
  have up : ∀ a o', H a = some o' → upd H p o a = some o' := fun a o' e => by rw [upd_ne (np e)]; exact e
  have od := S.pushF (o := o) hp
  have ex : ∀ a o', Ex (w.plus1 p).E ρ σ (upd H p o) a → H a = some o' → Ex w.E ρ σ H a := fun a o' z e => by
    rcases z with (z | z) | z
    · exact .inl z
    · exact absurd z (np e)
    · exact .inr (od.1 a z)
  refine ⟨S.len, fun i s v h1 h2 => ((S.slot i s v h1 h2).step (fun a o' _ e => up a o' e) ex fun a d b o' _ _ _ e => up b o' e).world (fun _ _ _ _ _ _ e => e) fun _ e => e, fun i j s t d e b c a h1 h2 h3 h4 h5 h6 f1 f2 => ?_, fun a z e => ?_, S.kp.trans (.of up), S.tabs.ext up, fun a e => S.fresh a ?_, fun a e => ?_, S.iob⟩
  · have back : ∀ {i : Nat} {s : Sl} {d : D} {b : Addr}, ρ[i]? = some s → s.own = some d → σ[i]? = some (some (.ref b)) → Foot (upd H p o) d b a → Foot H d b a := fun {i s d b} h1 h2 h3 f => by
      obtain ⟨c, e, r, q⟩ := S.owF h1 h2
      rw [h3] at e
      cases e
      exact q.foot (fun b _ o e _ => up b o e) f
    exact S.injF i j s t d e b c a h1 h2 h3 h4 h5 h6 (back h1 h2 h5 f1) (back h3 h4 h6 f2)
  · rcases e with e | e
    · exact S.exo a (od.1 a z) e
    · obtain ⟨_, o', h⟩ := S.ownd (od.1 a z)
      exact np h e
  · cases q : H a with
    | none => rfl
    | some o' => rw [up a o' q] at e; cases e
  · rcases e with e | e
    · obtain ⟨o', h⟩ := S.etr a e
      exact ⟨o', up a o' h⟩
    · exact ⟨o, by rw [e, upd_same]⟩
theorem Rps.push {o : HO} {ds : List D} {vs : List V} (S : SR K mg w ρ σ H) (hp : H p = none) (h : Rps K mg (Ex w.E ρ σ H) H ds vs) : Rps K mg (Ex (w.plus1 p).E ρ σ (upd H p o)) (upd H p o) ds vs := by
  have np : ∀ {a o}, H a = some o → a ≠ p := fun {a o} e z => by rw [z, hp] at e; cases e
  refine h.step (fun a o' _ e => by rw [upd_ne (np e)]; exact e) fun a o' z e => ?_
  rcases z with (z | z) | z
  · exact .inl z
  · exact absurd z (np e)
  · exact .inr ((S.pushF hp).1 a z)
theorem Rp.push {o : HO} (S : SR K mg w ρ σ H) (hp : H p = none) (h : Rp K mg (Ex w.E ρ σ H) H d v) : Rp K mg (Ex (w.plus1 p).E ρ σ (upd H p o)) (upd H p o) d v := by
  have q := Rps.push (o := o) S hp (.one h)
  cases q with
  | cons h _ => exact h
theorem SR.not_exP {o : HO} (S : SR K mg w ρ σ H) (hp : H p = none) : ¬ Ex w.E ρ σ (upd H p o) p := fun z => by
  rcases z with z | z
  · exact S.not_ex hp (.inl z)
  · exact S.not_ex hp (.inr ((S.pushF hp).1 p z))
theorem VR.newL {ds : List D} {vs : List V} (S : SR K mg w ρ σ H) (hp : H p = none) (h : Rps K mg (Ex w.E ρ σ H) H ds vs) : VR K mg w ρ σ (upd H p (.lst vs)) (.ow (.lst ds)) (.ref p) :=
  have n := S.not_exP (o := .lst vs) hp
  VR.mk1 (S.r_none hp) (S.fresh p hp) (fun z => n (.inl z)) (fun z => n (.inr z)) (S.push hp) (.lst vs upd_same (h.push S hp))
theorem VR.newT {ds : List D} {vs : List V} {o : Obj} (ho : o.dict = none) (S : SR K mg w ρ σ H) (hp : H p = none) (h : Rps K mg (Ex w.E ρ σ H) H ds vs) : VR K mg w ρ σ (upd H p (.frz o (.tup vs))) (.sh (.tup ds)) (.ref p) :=
  ⟨(S.push hp).minus, .tup ⟨upd_same, S.not_exP hp⟩ ho ((h.push S hp).sub fun a z => z.imp .inl id)⟩
theorem VR.newTw {ds : List D} {vs : List V} (S : SR K mg w ρ σ H) (hp : H p = none) (h : Rps K mg (Ex w.E ρ σ H) H ds vs) : VR K mg w ρ σ (upd H p (.tup vs)) (.sh (.tpw ds)) (.ref p) :=
  ⟨(S.push hp).minus, .tpw (.inl ⟨upd_same, S.not_exP hp⟩) ((h.push S hp).sub fun a z => z.imp .inl id)⟩

/-! ### slots stored -/
theorem own_set {s : Sl} {x : Option V} (h : Ownd (ρ.set i s) (σ.set i x) H a) : (∃ d b, s.own = some d ∧ x = some (.ref b) ∧ Foot H d b a ∧ i < ρ.length) ∨ ∃ (j : Nat) (t : Sl) (d : D) (b : Addr), j ≠ i ∧ ρ[j]? = some t ∧ t.own = some d ∧ σ[j]? = some (some (.ref b)) ∧ Foot H d b a := by
  obtain ⟨j, t, d, b, h1, h2, h3, f⟩ := h
  by_cases hj : j = i
  · subst hj
    have hl : j < ρ.length := by simpa using (List.getElem?_eq_some_iff.mp h1).1
    have hl2 : j < σ.length := by simpa using (List.getElem?_eq_some_iff.mp h3).1
    rw [List.getElem?_set_self hl] at h1
    rw [List.getElem?_set_self hl2] at h3
    cases h1
    exact .inl ⟨d, b, h2, Option.some.inj h3, f, hl⟩
  · rw [List.getElem?_set_ne (Ne.symm hj)] at h1 h3
    exact .inr ⟨j, t, d, b, hj, h1, h2, h3, f⟩
theorem SR.setSh (S : SR K mg w ρ σ H) (h : Rp K mg (Ex w.E ρ σ H) H d v) : SR K mg w (ρ.set i (.sh d)) (σ.set i (some v)) H := by
  have ow : ∀ a, Ownd (ρ.set i (.sh d)) (σ.set i (some v)) H a → Ownd ρ σ H a := fun a z => by
    rcases own_set z with ⟨_, _, z, _⟩ | ⟨j, t, d, b, _, h1, h2, h3, f⟩
    · cases z
    · exact ⟨j, t, d, b, h1, h2, h3, f⟩
  have ex : ∀ a, Ex w.E (ρ.set i (.sh d)) (σ.set i (some v)) H a → Ex w.E ρ σ H a := fun a z => z.imp id (ow a)
  refine ⟨by simpa using S.len, fun j s x h1 h2 => ?_, fun j k s t d e b c a h1 h2 h3 h4 h5 h6 f1 f2 => ?_, fun a z => S.exo a (ow a z), S.kp, S.tabs, S.fresh, S.etr, fun j d' h => ?_⟩
  · by_cases hj : j = i
    · subst hj
      have hl : j < ρ.length := by simpa using (List.getElem?_eq_some_iff.mp h1).1
      rw [List.getElem?_set_self hl] at h1
      rw [List.getElem?_set_self (by rw [← S.len]; exact hl)] at h2
      cases h1; cases h2
      exact ⟨v, rfl, h.sub ex⟩
    · rw [List.getElem?_set_ne (Ne.symm hj)] at h1 h2
      exact (S.slot j s x h1 h2).sub ex
  · by_cases hj : j = i
    · subst hj
      have hl : j < ρ.length := by simpa using (List.getElem?_eq_some_iff.mp h1).1
      rw [List.getElem?_set_self hl] at h1
      cases h1; cases h2
    · by_cases hk : k = i
      · subst hk
        have hl : k < ρ.length := by simpa using (List.getElem?_eq_some_iff.mp h3).1
        rw [List.getElem?_set_self hl] at h3
        cases h3; cases h4
      · rw [List.getElem?_set_ne (Ne.symm hj)] at h1 h5
        rw [List.getElem?_set_ne (Ne.symm hk)] at h3 h6
        exact S.injF j k s t d e b c a h1 h2 h3 h4 h5 h6 f1 f2
  · by_cases hj : j = i
    · subst hj
      have hl : j < ρ.length := by simpa using (List.getElem?_eq_some_iff.mp h).1
      rw [List.getElem?_set_self hl] at h
      cases h
    · rw [List.getElem?_set_ne (Ne.symm hj)] at h ⊢
      exact S.iob j d' h
/-- the slot takes the new thing over -/
theorem SR.setOw (S : SR K mg (w.plus (Foot H d p)) ρ σ H) (h1 : ∀ b, Foot H d p b → w.R b = none) (h2 : ∀ b, Foot H d p b → w.N b) (h3 : ∀ b, Foot H d p b → ¬ w.E b) (h4 : ∀ b, Foot H d p b → ¬ Ownd ρ σ H b) (h : Own K mg (Ex (w.plus (Foot H d p)).E ρ σ H) H d p) : SR K mg w (ρ.set i (.ow d)) (σ.set i (some (.ref p))) H := by
  have ow : ∀ a, Ownd (ρ.set i (.ow d)) (σ.set i (some (.ref p))) H a → (Foot H d p a ∧ i < ρ.length) ∨ Ownd ρ σ H a := fun a z => by
    rcases own_set z with ⟨d', b, e, z, f, l⟩ | ⟨j, t, d, b, _, h1, h2, h3, f⟩
    · cases e; cases z; exact .inl ⟨f, l⟩
    · exact .inr ⟨j, t, d, b, h1, h2, h3, f⟩
  have ex : ∀ a, Ex w.E (ρ.set i (.ow d)) (σ.set i (some (.ref p))) H a → Ex (w.plus (Foot H d p)).E ρ σ H a := fun a z => by
    rcases z with z | z
    · exact .inl (.inl z)
    · rcases ow a z with z | z
      · exact .inl (.inr z.1)
      · exact .inr z
  refine ⟨by simpa using S.len, fun j s x e1 e2 => ?_, fun j k s t d' e b c a e1 e2 e3 e4 e5 e6 f1 f2 => ?_, fun a z => ?_, S.kp, S.tabs, S.fresh, fun a z => S.etr a (.inl z), fun j d' e => ?_⟩
  · by_cases hj : j = i
    · subst hj
      have hl : j < ρ.length := by simpa using (List.getElem?_eq_some_iff.mp e1).1
      rw [List.getElem?_set_self hl] at e1
      rw [List.getElem?_set_self (by rw [← S.len]; exact hl)] at e2
      cases e1; cases e2
      exact ⟨p, rfl, h1, h2, h.sub ex⟩
    · rw [List.getElem?_set_ne (Ne.symm hj)] at e1 e2
      exact ((S.slot j s x e1 e2).sub ex).world (fun _ _ _ _ _ _ e => e) fun _ e => e
  · have hn : ∀ m (u : Sl) (g : D) (b : Addr), m ≠ i → (ρ.set i (.ow d))[m]? = some u → u.own = some g → (σ.set i (some (V.ref p)))[m]? = some (some (V.ref b)) → Foot H g b a → ¬ Foot H d p a := fun m u g b hm q1 q2 q3 f z => by
      rw [List.getElem?_set_ne (Ne.symm hm)] at q1 q3
      exact h4 a z ⟨m, u, g, b, q1, q2, q3, f⟩
    have hs : ∀ {m : Nat} {u : Sl} {g : D} {b : Addr}, m = i → (ρ.set i (.ow d))[m]? = some u → u.own = some g → (σ.set i (some (V.ref p)))[m]? = some (some (V.ref b)) → b = p ∧ g = d := fun {m u g b} hm q1 q2 q => by
      subst hm
      have hl : m < σ.length := by simpa using (List.getElem?_eq_some_iff.mp q).1
      have hl' : m < ρ.length := by simpa using (List.getElem?_eq_some_iff.mp q1).1
      rw [List.getElem?_set_self hl] at q
      rw [List.getElem?_set_self hl'] at q1
      cases q; cases q1; cases q2
      exact ⟨rfl, rfl⟩
    by_cases hj : j = i
    · by_cases hk : k = i
      · rw [hj, hk]
      · obtain ⟨q, q'⟩ := hs hj e1 e2 e5
        subst q; subst q'
        exact (hn k t e c hk e3 e4 e6 f2 f1).elim
    · by_cases hk : k = i
      · obtain ⟨q, q'⟩ := hs hk e3 e4 e6
        subst q; subst q'
        exact (hn j s d' b hj e1 e2 e5 f1 f2).elim
      · rw [List.getElem?_set_ne (Ne.symm hj)] at e1 e5
        rw [List.getElem?_set_ne (Ne.symm hk)] at e3 e6
        exact S.injF j k s t d' e b c a e1 e2 e3 e4 e5 e6 f1 f2
  · rcases ow a z with ⟨z, _⟩ | z
    · exact h3 a z
    · exact fun e => S.exo a z (.inl e)
  · by_cases hj : j = i
    · subst hj
      have hl : j < ρ.length := by simpa using (List.getElem?_eq_some_iff.mp e).1
      rw [List.getElem?_set_self hl] at e
      cases e
    · rw [List.getElem?_set_ne (Ne.symm hj)] at e ⊢
      exact S.iob j d' e
/-- a slot is forgotten -/
theorem SR.setNo (S : SR K mg w ρ σ H) : SR K mg w (ρ.set i .no) σ H := by
  have sub : ∀ {j : Nat} {s : Sl}, (ρ.set i .no)[j]? = some s → s = .no ∨ ρ[j]? = some s := fun {j s} h => by
    by_cases hj : j = i
    · subst hj
      have hl : j < ρ.length := by simpa using (List.getElem?_eq_some_iff.mp h).1
      rw [List.getElem?_set_self hl] at h
      exact .inl (Option.some.inj h).symm
    · rw [List.getElem?_set_ne (Ne.symm hj)] at h
      exact .inr h
  have sub' : ∀ {j : Nat} {s : Sl} {e : D}, (ρ.set i .no)[j]? = some s → s.own = some e → ρ[j]? = some s := fun {j s e} h q => by
    rcases sub h with rfl | h
    · cases q
    · exact h
  have ow : ∀ a, Ownd (ρ.set i .no) σ H a → Ownd ρ σ H a := fun a ⟨j, s, d, b, h1, h2, h3, f⟩ => ⟨j, s, d, b, sub' h1 h2, h2, h3, f⟩
  refine ⟨by simpa using S.len, fun j s x h1 h2 => ?_, fun j k s t d e b c a h1 h2 h3 h4 h5 h6 f1 f2 => S.injF j k s t d e b c a (sub' h1 h2) h2 (sub' h3 h4) h4 h5 h6 f1 f2, fun a z => S.exo a (ow a z), S.kp, S.tabs, S.fresh, S.etr, fun j d' h => ?_⟩
  · rcases sub h1 with rfl | h1
    · trivial
    · exact (S.slot j s x h1 h2).sub fun a z => z.imp id (ow a)
  · rcases sub h with h | h
    · cases h
    · exact S.iob j d' h
/-- a slot's own thing, handed out -/
theorem SR.out (S : SR K mg w ρ σ H) (h : ρ[i]? = some (.ow d)) : ∃ a, σ[i]? = some (some (.ref a)) ∧ VR K mg w (ρ.set i .no) σ H (.ow d) (.ref a) := by
  obtain ⟨v, e, a, rfl, h1, h2, h3⟩ := S.at h
  have ho : ∀ c, Foot H d a c → Ownd ρ σ H c := fun c f => ⟨i, _, d, a, h, rfl, e, f⟩
  have sub : ∀ {j : Nat} {s : Sl} {e : D}, (ρ.set i .no)[j]? = some s → s.own = some e → j ≠ i ∧ ρ[j]? = some s := fun {j s e'} q1 q2 => by
    by_cases hj : j = i
    · subst hj
      have hl : j < ρ.length := by simpa using (List.getElem?_eq_some_iff.mp q1).1
      rw [List.getElem?_set_self hl] at q1
      cases q1; cases q2
    · rw [List.getElem?_set_ne (Ne.symm hj)] at q1
      exact ⟨hj, q1⟩
  have hn : ∀ c, Foot H d a c → ¬ Ownd (ρ.set i .no) σ H c := fun c f ⟨j, s, d', b, q1, q2, q3, f'⟩ => by
    obtain ⟨hj, q1⟩ := sub q1 q2
    exact hj (S.injF j i s _ d' d b a c q1 q2 h rfl q3 e f' f)
  have ow : ∀ b, Ownd (ρ.set i .no) σ H b → Ownd ρ σ H b := fun b ⟨j, s, d', c, q1, q2, q3, f⟩ => ⟨j, s, d', c, (sub q1 q2).2, q2, q3, f⟩
  have ex : ∀ b, Ex (w.plus (Foot H d a)).E (ρ.set i .no) σ H b → Ex w.E ρ σ H b := fun b z => by
    rcases z with (z | z) | z
    · exact .inl z
    · exact .inr (ho b z)
    · exact .inr (ow b z)
  have S0 := S.setNo (i := i)
  refine ⟨a, e, a, rfl, h1, h2, fun c f => S.exo c (ho c f), hn, ⟨S0.len, fun j s x q1 q2 => ?_, S0.injF, fun b z q => ?_, S.kp, S.tabs, S.fresh, fun b z => ?_, S0.iob⟩, h3.sub ex⟩
  · by_cases hj : j = i
    · subst hj
      have hl : j < ρ.length := by simpa using (List.getElem?_eq_some_iff.mp q1).1
      rw [List.getElem?_set_self hl] at q1
      cases q1; trivial
    · rw [List.getElem?_set_ne (Ne.symm hj)] at q1
      exact ((S.slot j s x q1 q2).sub ex).world (fun _ _ _ _ _ _ e => e) fun _ e => e
  · rcases q with q | q
    · exact S.exo b (ow b z) q
    · exact hn b q z
  · rcases z with z | z
    · exact S.etr b z
    · exact (S.ownd (ho b z)).2
/-- the own thing of a slot is shared from here on -/
theorem SR.share (S : SR K mg w ρ σ H) (h : ρ[i]? = some (.ow d)) : ∃ v, σ[i]? = some (some v) ∧ SR K mg w (ρ.set i (.sh d)) σ H ∧ Rp K mg (Ex w.E (ρ.set i (.sh d)) σ H) H d v := by
  obtain ⟨a, e, q⟩ := S.out h
  obtain ⟨S1, r⟩ := VR.sh q rfl
  have hi : i < ρ.length := (List.getElem?_eq_some_iff.mp h).1
  have es : σ.set i (some (.ref a)) = σ := by
    refine List.ext_getElem? fun j => ?_
    by_cases hj : i = j
    · subst hj
      rw [List.getElem?_set_self (by rw [← S.len]; exact hi), e]
    · rw [List.getElem?_set_ne hj]
  have S2 := S1.setSh (i := i) r
  rw [List.set_set, es] at S2
  obtain ⟨v, e2, r2⟩ := S2.sh (i := i) (List.getElem?_set_self hi)
  rw [e] at e2
  cases e2
  exact ⟨.ref a, e, S2, r2⟩
/-- a part of a slot's thing is written; the thing may take F over -/
theorem SR.writeX {s s' : Sl} {d' : D} {o : HO} {c : Addr} (S : SR K mg (w.plus F) ρ σ H) (h : ρ[i]? = some s) (hs : s.own = some d) (hs' : (s = .ow d ∧ s' = .ow d') ∨ (s = .io d ∧ s' = .io d')) (hv : σ[i]? = some (some (.ref a))) (hc : Foot H d a c)
    (hF : ∀ b, F b → w.R b = none ∧ w.N b ∧ ¬ w.E b ∧ ¬ Ownd ρ σ H b) (hn : Own K mg (Ex (w.plus F).E ρ σ H) (upd H c o) d' a) (hf : ∀ b, Foot (upd H c o) d' a b → Foot H d a b ∨ F b) : SR K mg w (ρ.set i s') σ (upd H c o) := by
  have hi : i < ρ.length := (List.getElem?_eq_some_iff.mp h).1
  have ho : ∀ b, Foot H d a b → Ownd ρ σ H b := fun b f => ⟨i, s, d, a, h, hs, hv, f⟩
  have hs2 : s'.own = some d' := by rcases hs' with ⟨_, rfl⟩ | ⟨_, rfl⟩ <;> rfl
  have up : ∀ b o', b ≠ c → H b = some o' → upd H c o b = some o' := fun b o' n e => by rw [upd_ne n]; exact e
  -- the other slots' things
  have oth : ∀ {j : Nat} {t : Sl} {e : D} {b : Addr}, j ≠ i → ρ[j]? = some t → t.own = some e → σ[j]? = some (some (.ref b)) → (∀ x, Foot H e b x → x ≠ c) ∧ ∀ x, Foot (upd H c o) e b x → Foot H e b x := fun {j t e b} hj q1 q2 q3 => by
    have ne : ∀ x, Foot H e b x → x ≠ c := fun x f z => hj (S.injF j i t s e d b a x q1 q2 h hs q3 hv f (by rw [z]; exact hc))
    obtain ⟨b', eb, _, oo⟩ := S.owF q1 q2
    rw [q3] at eb
    cases eb
    exact ⟨ne, fun x f => oo.foot (fun y f o' e' _ => up y o' (ne y f) e') f⟩
  have owd : ∀ b, Ownd (ρ.set i s') σ (upd H c o) b → Foot (upd H c o) d' a b ∨ ∃ (j : Nat) (t : Sl) (e : D) (x : Addr), j ≠ i ∧ ρ[j]? = some t ∧ t.own = some e ∧ σ[j]? = some (some (.ref x)) ∧ Foot H e x b := fun b ⟨j, t, e, x, q1, q2, q3, f⟩ => by
    by_cases hj : j = i
    · subst hj
      rw [List.getElem?_set_self hi] at q1
      cases q1
      rw [hs2] at q2
      cases q2
      rw [hv] at q3
      cases q3
      exact .inl f
    · rw [List.getElem?_set_ne (Ne.symm hj)] at q1
      exact .inr ⟨j, t, e, x, hj, q1, q2, q3, (oth hj q1 q2 q3).2 b f⟩
  have ow : ∀ b, Ownd (ρ.set i s') σ (upd H c o) b → Ownd ρ σ H b ∨ F b := fun b z => by
    rcases owd b z with z | ⟨j, t, e, x, _, q1, q2, q3, f⟩
    · exact (hf b z).imp (ho b) id
    · exact .inl ⟨j, t, e, x, q1, q2, q3, f⟩
  have ex : ∀ b, Ex w.E (ρ.set i s') σ (upd H c o) b → Ex (w.plus F).E ρ σ H b := fun b z => by
    rcases z with z | z
    · exact .inl (.inl z)
    · rcases ow b z with z | z
      · exact .inr z
      · exact .inl (.inr z)
  have rN : ∀ b, Foot (upd H c o) d' a b → w.R b = none := fun b f => by
    rcases hf b f with z | z
    · exact (S.ownd (ho b z)).1
    · exact (hF b z).1
  refine ⟨by simpa using S.len, fun j t x q1 q2 => ?_, fun j k t u e1 e2 b b' y q1 q2 q3 q4 q5 q6 f1 f2 => ?_, fun b z => ?_, S.kp.put (S.ownd (ho c hc)).1, S.tabs.put (S.ntC (ho c hc)), fun b e => S.fresh b ?_, fun b e => ?_, fun j e q => ?_⟩
  · by_cases hj : j = i
    · subst hj
      rw [List.getElem?_set_self hi] at q1
      cases q1
      rw [hv] at q2
      cases q2
      have hO := hn.sub ex
      have q := S.slot j s _ h hv
      rcases hs' with ⟨rfl, rfl⟩ | ⟨rfl, rfl⟩
      · obtain ⟨b, e, g1, g2, _⟩ := q
        cases e
        refine ⟨a, rfl, rN, fun b f => ?_, hO⟩
        rcases hf b f with z | z
        · exact g2 b z
        · exact (hF b z).2.1
      · obtain ⟨b, e, g1, _⟩ := q
        cases e
        refine ⟨a, rfl, fun b f => ⟨rN b f, ?_⟩, hO⟩
        rcases hf b f with z | z
        · exact (g1 b z).2
        · exact .inl (hF b z).2.1
    · rw [List.getElem?_set_ne (Ne.symm hj)] at q1
      refine ((S.slot j t x q1 q2).step (fun b o' n e => up b o' (fun z => n (by rw [z]; exact .inr (ho c hc))) e) (fun b _ z _ => ex b z) fun b e y o' e1 e2 f e3 => up y o' ?_ e3).world (fun _ _ _ _ _ _ e => e) fun _ e => e
      rw [e1] at q2
      exact (oth hj q1 e2 q2).1 y f
  · have cls : ∀ {m : Nat} {t : Sl} {e : D} {b : Addr}, (ρ.set i s')[m]? = some t → t.own = some e → σ[m]? = some (some (V.ref b)) → Foot (upd H c o) e b y → (m = i ∧ (Foot H d a y ∨ F y)) ∨ (m ≠ i ∧ ρ[m]? = some t ∧ Foot H e b y) := fun {m t e b} r1 r2 r3 f => by
      by_cases hm : m = i
      · subst hm
        rw [List.getElem?_set_self hi] at r1
        cases r1
        rw [hs2] at r2
        cases r2
        rw [hv] at r3
        cases r3
        exact .inl ⟨rfl, hf y f⟩
      · rw [List.getElem?_set_ne (Ne.symm hm)] at r1
        exact .inr ⟨hm, r1, (oth hm r1 r2 r3).2 y f⟩
    rcases cls q1 q2 q5 f1 with ⟨a1, a2⟩ | ⟨a1, a2, a3⟩
    · rcases cls q3 q4 q6 f2 with ⟨b1, b2⟩ | ⟨b1, b2, b3⟩
      · rw [a1, b1]
      · rcases a2 with a2 | a2
        · rw [a1]
          exact S.injF i k s u d e2 a b' y h hs b2 q4 hv q6 a2 b3
        · exact absurd ⟨k, u, e2, b', b2, q4, q6, b3⟩ (hF y a2).2.2.2
    · rcases cls q3 q4 q6 f2 with ⟨b1, b2⟩ | ⟨b1, b2, b3⟩
      · rcases b2 with b2 | b2
        · rw [b1]
          exact S.injF j i t s e1 d b a y a2 q2 h hs q5 hv a3 b2
        · exact absurd ⟨j, t, e1, b, a2, q2, q5, a3⟩ (hF y b2).2.2.2
      · exact S.injF j k t u e1 e2 b b' y a2 q2 b2 q4 q5 q6 a3 b3
  · rcases ow b z with z | z
    · exact fun e => S.exo b z (.inl e)
    · exact (hF b z).2.2.1
  · by_cases hb : b = c
    · rw [hb, upd_same] at e; cases e
    · rw [upd_ne hb] at e; exact e
  · obtain ⟨o', h'⟩ := S.etr b (.inl e)
    exact ⟨o', up b o' (fun z => S.exo c (ho c hc) (by rw [← z]; exact .inl e)) h'⟩
  · by_cases hj : j = i
    · subst hj
      rw [List.getElem?_set_self hi] at q
      rcases hs' with ⟨rfl, rfl⟩ | ⟨rfl, rfl⟩
      · cases q
      · exact S.iob j d h
    · rw [List.getElem?_set_ne (Ne.symm hj)] at q
      exact S.iob j e q
/-- a slot's thing is made of what it was made of -/
theorem SR.same (S : SR K mg w ρ σ H) (up : ∀ b o, Ownd ρ σ H b → H b = some o → NT o → H' b = some o) {i : Nat} {s : Sl} {d : D} {b x : Addr} (h1 : ρ[i]? = some s) (h2 : s.own = some d) (h3 : σ[i]? = some (some (.ref b))) (f : Foot H' d b x) : Foot H d b x := by
  obtain ⟨c, e, _, oo⟩ := S.owF h1 h2
  rw [h3] at e
  cases e
  exact oo.foot (fun y z u e n => up y u ⟨i, s, d, b, h1, h2, h3, z⟩ e n) f
theorem SR.plus0 (S : SR K mg w ρ σ H) : SR K mg (w.plus fun _ => False) ρ σ H := by
  have e : (w.plus fun _ => False) = w := by
    obtain ⟨R, E, N, B, M⟩ := w
    show Wd.mk R (fun a => E a ∨ False) N B M = _
    congr 1
    funext a
    simp
  rw [e]; exact S
/-- the thing of a slot is written -/
theorem SR.write {s s' : Sl} {d' : D} {o : HO} (S : SR K mg w ρ σ H) (h : ρ[i]? = some s) (hs : s.own = some d) (hs' : (s = .ow d ∧ s' = .ow d') ∨ (s = .io d ∧ s' = .io d')) (hv : σ[i]? = some (some (.ref a)))
    (hn : ∀ H2, (∀ b o', b ≠ a → H b = some o' → H2 b = some o') → H2 a = some o → Own K mg (Ex w.E ρ σ H) H2 d' a) (hd' : d'.flat = true := by rfl) : SR K mg w (ρ.set i s') σ (upd H a o) := by
  refine S.plus0.writeX h hs hs' hv .top (fun b z => z.elim) ((hn (upd H a o) (fun b o' n e => by rw [upd_ne n]; exact e) upd_same).sub fun b z => ?_) fun b f => .inl (by rw [f.one hd']; exact .top)
  rcases z with (z | z) | z
  · exact .inl z
  · exact z.elim
  · exact .inr z
end
end T

/-! T2: promises of defs, with the guards of repr known (FnG), and promises over plain data (spT). -/
namespace T
open PySem PySem.Spec PyProof.Rows L2

structure RoomG (k : Nat) (A : Around) : Prop where
  rm : Room k A
  gd : A.guards = some []
theorem RoomG.mono {j k : Nat} {A : Around} (r : RoomG k A) (h : j ≤ k) : RoomG j A := ⟨r.rm.mono h, r.gd⟩
theorem RoomG.deeper {k : Nat} {A : Around} (r : RoomG (k + 1) A) (env : Env) : RoomG k (A.deeper env) := ⟨r.rm.deeper env, r.gd⟩
structure FnG (P : Program) (w : World) (K : Fg) (mg : Mg) (base : Heap) (CX : CXT) (k : Nat) (f : Addr) (fd : FuncData) (ps : List Str) (sp : Sp) : Prop where
  len : ∀ vs H Q E, sp vs H Q E → vs.length = ps.length
  run : ∀ (A : Around) (outer : List Env) (s : Shared) (H : Hp) (args : Args) (us : List Value) (vs : List V) (Q : VK) (E : XK), RoomG k A → Env0 P w K mg base A outer s H →
    BindsTo s fd args (ps.zip us) → Vals vs us → sp vs H Q E → codeAny (model P w) A (.call (.ref f) args) (CR CX outer P w H s Q E) s
theorem FnG.of {P : Program} {w : World} {K : Fg} {mg : Mg} {base : Heap} {CX : CXT} {k : Nat} {f : Addr} {fd : FuncData} {ps : List Str} {sp : Sp} (F : FnOk P w K mg base CX k f fd ps sp) : FnG P w K mg base CX k f fd ps sp :=
  ⟨F.len, fun A outer s H args us vs Q E hr => F.run A outer s H args us vs Q E hr.rm⟩
theorem FnG.mono {P : Program} {w : World} {K : Fg} {mg : Mg} {base : Heap} {CX : CXT} {j k : Nat} {f : Addr} {fd : FuncData} {ps : List Str} {sp : Sp} (F : FnG P w K mg base CX j f fd ps sp) (h : j ≤ k) : FnG P w K mg base CX k f fd ps sp :=
  ⟨F.len, fun A outer s H args us vs Q E hr => F.run A outer s H args us vs Q E (hr.mono h)⟩
theorem FnG.imp {P : Program} {w : World} {K : Fg} {mg : Mg} {base : Heap} {CX : CXT} {k : Nat} {f : Addr} {fd : FuncData} {ps : List Str} {sp sp' : Sp} (F : FnG P w K mg base CX k f fd ps sp)
    (h : ∀ vs H Q E, sp' vs H Q E → sp vs H Q E) : FnG P w K mg base CX k f fd ps sp' :=
  ⟨fun vs H Q E q => F.len vs H Q E (h _ _ _ _ q), fun A outer s H args us vs Q E hr he hb hv hs => F.run A outer s H args us vs Q E hr he hb hv (h _ _ _ _ hs)⟩

/-- a def of the text keeps its promise, by its body -/
theorem Fun.okG {P : Program} {w : World} {K : Fg} {mg : Mg} {base : Heap} {CX : CXT} {x qual : Str} {st : Stmt} {f : Addr} {fd : FuncData} {N ps : List Str} {k : Nat} {sp : Sp} (F : Fun K x qual st f fd) (S : FnScope N ps (defScope st))
    (len : ∀ vs H Q E, sp vs H Q E → vs.length = ps.length)
    (hbody : ∀ (cdv : Value) (A : Around) (outer : List Env) (s : Shared) (H : Hp) (vs : List V) (Q : VK) (E : XK), RoomG k (A.deeper (envOfC qual (defScope st) s.heap.objs.size f cdv)) → sp vs H Q E →
      ∃ t, PSs (cxOf CX P w K mg base N qual (defScope st) f cdv A outer s H E) (defBody st) t ∧ t { nx := fun _ H' => Q .non H', rt := Q } (start N vs) H) : FnG P w K mg base CX (k + 1) f fd ps sp := by
  obtain ⟨oc, od, kV, doc, pm, an, cdv, ct, osl, rfl, lk, hcd⟩ := F.ex
  refine ⟨len, fun A outer s H args us vs Q E hr e0 hb r hsp => ?_⟩
  have kin : K.In s.heap := e0.mod.kin.keeps fun b o e => (e0.bs b o e).1
  have nol : s.heap.NoLimit := e0.mod.nolimit.keeps fun b o e => (e0.bs b o e).1
  have kinds : ∀ y ∈ ps.zip us, (defScope st).names.lookup y.1 = some .local ∨ ((defScope st).names.lookup y.1 = some .cell ∧ ((cellsFrom (s.heap.objs.size + 1) (defScope st).names []).lookup y.1).isSome = true) := fun y hy =>
    (S.par y.1 (List.of_mem_zip hy).1).imp id fun q => ⟨q, PySem.W.cellsFrom_some _ _ _ (.inl q)⟩
  refine codeAny_call_function hr.rm.depth (kin _ _ lk) rfl S.co S.gen rfl (PySem.W.codeRec_of kin hcd) (hb _ _ _ _ ?_)
  refine wpAny_newFunctionEnv_cells S.kind kinds fun env he s1 ic => ?_
  subst he
  refine ⟨nol.keeps ic.toInCall.keep, codeAny_func ?_⟩
  obtain ⟨t, ht, hq⟩ := hbody cdv A outer s H vs Q E (hr.deeper _) hsp
  have I := inv_start (CX := CX) (P := P) (w := w) (E := E) S hr.rm.hd e0 (len _ _ _ _ hsp) r ic
  refine wpAny_mono (ht.run [] s1 (start N vs) H _ I hq) (fun fl s' hs => ?_) fun e s' hs => hs
  cases fl with
  | ret u =>
    obtain ⟨v, σ', H', J, rv, q⟩ := hs
    exact ⟨v, H', J.os, J.bare, J.base, J.hok, rv, q⟩
  | next =>
    obtain ⟨σ', H', J, q⟩ := hs
    exact ⟨V.non, H', J.os, J.bare, J.base, J.hok, rfl, q⟩
  | brk => obtain ⟨_, _, _, q⟩ := hs; exact q.elim
  | cont => obtain ⟨_, _, _, q⟩ := hs; exact q.elim

section
variable {X : Cx} {CX : CXT} {k : Nat} {f C : Addr} {fd : FuncData} {ps ks : List Str} {sp : Sp} {dvs : List V} {ds : List Value} {E : XK} {x m : Str} {p pos apos : Pos} {e o : Expr} {es : List Expr} {ta : TE} {t tk : TA}
abbrev FnX (X : Cx) (CX : CXT) (k : Nat) (f : Addr) (fd : FuncData) (ps : List Str) (sp : Sp) : Prop := FnG X.prog X.w X.K X.mg X.base CX k f fd ps sp
theorem ended {pins : List (Addr × Obj)} {σ : L2.St} {H : Hp} {s : Shared} {Q : VK} (hx : Passes CX X E) (I : Inv X pins σ H s) {r : Result} {s' : Shared} (h : CR CX X.stack X.prog X.w H s Q E r s') :
    match r with | .ok (.ret u) => EP X pins σ Q u s' | .ok _ => False | .error e => X.xe e s' := by
  cases r with
  | error e => exact hx pins σ H s e s' I h
  | ok fl =>
    cases fl with
    | ret u => exact I.after h
    | next => exact h.elim
    | brk => exact h.elim
    | cont => exact h.elim
theorem goG {pins : List (Addr × Obj)} {σ : L2.St} {H : Hp} {s : Shared} {Q : VK} {us : List Value} {vs : List V} (F : FnX X CX k f fd ps sp) (hr : RoomG k X.A) (hb : Binds X.K fd ps ds) (hd : Vals dvs ds) (hx : Passes CX X E)
    (I : Inv X pins σ H s) (r : Vals vs us) (h : sp (vs ++ dvs) H Q E) : wpAny (model X.prog X.w) X.A (call (.ref f) us) (EP X pins σ Q) X.xe s := by
  have r2 : Vals (vs ++ dvs) (us ++ ds) := r.append hd
  have hl : (us ++ ds).length = ps.length := r2.length.symm.trans (F.len _ _ _ _ h)
  refine wpAny_call (codeAny_mono (F.run X.A X.stack s H ⟨us, []⟩ _ _ Q E hr I.env0 (hb s us I.kIn hl) r2 h) fun r s' hq => ?_)
  have z := ended hx I hq
  cases r with
  | error e => exact z
  | ok fl => cases fl <;> exact z
/-- f(..) -/
theorem peG_call (F : FnX X CX k f fd ps sp) (hr : RoomG k X.A) (hg : Gl X x) (hm : X.mg x = some (.ref f)) (hk : PySem.W.keepIn X.K (.ref f) = true) (hb : Binds X.K fd ps ds) (hd : Vals dvs ds) (hx : Passes CX X E)
    (ha : PA X (e :: es) t) (hdb : (x == ("__debug__" : Str)) = false := by decide) (he : starEach (e :: es) X.env = (false, eval e X.env) :: starEach es X.env := by rfl) (hpl : (backTo pos (starEach es X.env)).any (·.1) = false := by rfl) :
    PE X (.Call (.Name x p) (e :: es) [] pos) (tCall sp dvs E t) := by
  refine ⟨fun pins s σ H Q I h => wpAny_Call_Name_kw (ld_glob I hg hm ?_ hdb)⟩
  refine PySem.W.callWith_K (h₀ := X.base) I.ok.mod.kin hk (thn (ha.run pos pins s σ H _ I h) fun us s1 hh => ?_) he hpl
  obtain ⟨vs, H1, I1, r, q⟩ := hh
  exact ⟨I1.kIn, goG F hr hb hd hx I1 r q⟩
end
end T

/-! T3: what expressions, arguments, calls are worth over plain data. -/
namespace T
open PySem L2

abbrev FE := Ev → Option (Sl × Ev)
abbrev FT := Ev → Option (Bool × Ev)
/-- a def by plain data: the arguments; its answer, the arguments behind it -/
abbrev FF := List Sl → Option (Sl × List Sl)

def denE (K : Fg) (mg : Mg) (f : FE) : TE := fun σ H Q => ∃ (w : Wd) (ρ : Ev), SR K mg w ρ σ H ∧ ∃ (s : Sl) (ρ' : Ev), f ρ = some (s, ρ') ∧ ∀ v H', VR K mg w ρ' σ H' s v → Q v H'
def denT (K : Fg) (mg : Mg) (f : FT) : TT := fun σ H Q => ∃ (w : Wd) (ρ : Ev), SR K mg w ρ σ H ∧ ∃ (b : Bool) (ρ' : Ev), f ρ = some (b, ρ') ∧ ∀ H', SR K mg w ρ' σ H' → Q b H'
abbrev EX (X : Cx) (e : Expr) (f : FE) : Prop := PE X e (denE X.K X.mg f)
abbrev TX (X : Cx) (e : Expr) (f : FT) : Prop := PT X e (denT X.K X.mg f)
theorem pe_imp {X : Cx} {e : Expr} {t u : TE} (h : PE X e t) (k : ∀ σ H Q, u σ H Q → t σ H Q) : PE X e u := ⟨fun pins s σ H Q I q => h.run pins s σ H Q I (k σ H Q q)⟩
theorem pt_imp {X : Cx} {e : Expr} {t u : TT} (h : PT X e t) (k : ∀ σ H Q, u σ H Q → t σ H Q) : PT X e u := ⟨fun pins s σ H Q I q => h.run pins s σ H Q I (k σ H Q q)⟩
theorem pa_imp {X : Cx} {es : List Expr} {t u : TA} (h : PA X es t) (k : ∀ σ H Q, u σ H Q → t σ H Q) : PA X es u := ⟨fun pos pins s σ H Q I q => h.run pos pins s σ H Q I (k σ H Q q)⟩

section
variable {K : Fg} {mg : Mg} {w : Wd} {ρ ρ1 ρ2 : Ev} {σ : L2.St} {H : Hp} {f g : FE} {s1 s2 : Sl} {d1 d2 : D}
/-- one value, shared -/
theorem one {R : V → Hp → Prop} (S : SR K mg w ρ σ H) (hf : f ρ = some (s1, ρ1)) (hd : vl s1 = some d1) (k : ∀ v H1, SR K mg w ρ1 σ H1 → Rp K mg (Ex w.E ρ1 σ H1) H1 d1 v → R v H1) : denE K mg f σ H R :=
  ⟨w, ρ, S, s1, ρ1, hf, fun v H1 h => let q := VR.sh h hd; k v H1 q.1 q.2⟩
theorem two {R : V → V → Hp → Prop} (S : SR K mg w ρ σ H) (hf : f ρ = some (s1, ρ1)) (hd : vl s1 = some d1) (hg : g ρ1 = some (s2, ρ2)) (hd2 : vl s2 = some d2)
    (k : ∀ v1 v2 H2, SR K mg w ρ2 σ H2 → Rp K mg (Ex w.E ρ2 σ H2) H2 d1 v1 → Rp K mg (Ex w.E ρ2 σ H2) H2 d2 v2 → R v1 v2 H2) : denE K mg f σ H fun v1 H1 => denE K mg g σ H1 fun v2 H2 => R v1 v2 H2 :=
  one S hf hd fun v1 H1 S1 r1 => one S1.fill hg hd2 fun v2 H2 S2 r2 => k v1 v2 H2 (S1.back S2) (S1.carry S2 r1) r2
end

/-! ### arguments -/
abbrev AV := Sum D Nat
inductive Ag where
  | e (f : FE) | o (i : Nat)
def Sl.some? : Sl → Bool
  | .no => false
  | _ => true
def evg : List Ag → Ev → Option (List AV × Ev)
  | [], ρ => some ([], ρ)
  | .e f :: r, ρ => (f ρ).bind fun p => (vl p.1).bind fun d => (evg r p.2).map fun q => (.inl d :: q.1, q.2)
  | .o i :: r, ρ => (ρ[i]?).bind fun s => if s.some? then (evg r ρ).map fun q => (.inr i :: q.1, q.2) else none
inductive AVs (K : Fg) (mg : Mg) (O : AP) (σ : L2.St) (H : Hp) : List AV → List V → Prop
  | nil : AVs K mg O σ H [] []
  | inl {d : D} {v : V} {r : List AV} {vs : List V} : Rp K mg O H d v → AVs K mg O σ H r vs → AVs K mg O σ H (.inl d :: r) (v :: vs)
  | inr {i : Nat} {v : V} {r : List AV} {vs : List V} : σ[i]? = some (some v) → AVs K mg O σ H r vs → AVs K mg O σ H (.inr i :: r) (v :: vs)
def denG (K : Fg) (mg : Mg) (as : List Ag) : TA := fun σ H Q => ∃ (w : Wd) (ρ : Ev), SR K mg w ρ σ H ∧ ∃ (avs : List AV) (ρ' : Ev), evg as ρ = some (avs, ρ') ∧ ∀ vs H', SR K mg w ρ' σ H' → AVs K mg (Ex w.E ρ' σ H') σ H' avs vs → Q vs H'
abbrev GX (X : Cx) (es : List Expr) (as : List Ag) : Prop := PA X es (denG X.K X.mg as)
section
variable {X : Cx} {e : Expr} {es : List Expr} {f : FE} {as : List Ag} {x : Str} {pos : Pos}
theorem ga_nil : GX X [] [] := pa_imp pa_nil fun σ H Q h => by
  obtain ⟨w, ρ, S, avs, ρ', hf, k⟩ := h
  cases hf
  exact k [] H S .nil
theorem ga_e (ha : EX X e f) (hr : GX X es as) (hs : starEach (e :: es) X.env = (false, eval e X.env) :: starEach es X.env := by rfl) : GX X (e :: es) (.e f :: as) := pa_imp (pa_cons ha hr hs) fun σ H Q h => by
  obtain ⟨w, ρ, S, avs, ρ', hf, k⟩ := h
  unfold evg at hf
  obtain ⟨⟨s1, ρ1⟩, h1, hf⟩ := Option.bind_eq_some_iff.mp hf
  obtain ⟨d, hd, hf⟩ := Option.bind_eq_some_iff.mp hf
  obtain ⟨⟨r, ρ2⟩, h2, e2⟩ := Option.map_eq_some_iff.mp hf
  cases e2
  refine one S h1 hd fun v H1 S1 r1 => ⟨_, ρ1, S1.fill, r, ρ2, h2, fun vs H2 S2 r2 => k (v :: vs) H2 (S1.back S2) ?_⟩
  exact .inl (S1.carry S2 r1) r2
theorem ga_o (i : Nat) (hr : GX X es as) (hN : X.N[i]? = some x := by rfl) (hv : Vis X.env.scope x := by first | exact Or.inl rfl | exact Or.inr (Or.inl rfl) | exact Or.inr (Or.inr rfl)) (hd : (x == ("__debug__" : Str)) = false := by decide)
    (hcd : (x == ("__classdict__" : Str)) = false := by decide) (hs : starEach (.Name x pos :: es) X.env = (false, eval (.Name x pos) X.env) :: starEach es X.env := by rfl) : GX X (.Name x pos :: es) (.o i :: as) :=
  pa_imp (pa_cons (pe_var hN hv hd hcd) hr hs) fun σ H Q h => by
  obtain ⟨w, ρ, S, avs, ρ', hf, k⟩ := h
  unfold evg at hf
  obtain ⟨s, h1, hf⟩ := Option.bind_eq_some_iff.mp hf
  split at hf
  · rename_i hs
    obtain ⟨⟨r, ρ2⟩, h2, e2⟩ := Option.map_eq_some_iff.mp hf
    cases e2
    obtain ⟨v, hv, q⟩ := S.at h1
    obtain ⟨x, rfl⟩ : ∃ x, v = some x := by
      cases s with
      | no => cases hs
      | sh d => obtain ⟨x, e, _⟩ := q; exact ⟨x, e⟩
      | ow d => obtain ⟨a, e, _⟩ := q; exact ⟨_, e⟩
      | io d => obtain ⟨a, e, _⟩ := q; exact ⟨_, e⟩
    exact ⟨x, hv, w, ρ, S, r, ρ2, h2, fun vs H2 S2 r2 => k (x :: vs) H2 S2 (.inr hv r2)⟩
  · cases hf
end

/-! ### the call of a def -/
def spT (K : Fg) (mg : Mg) (F : FF) : Sp := fun vs H Q _ => ∃ (w : Wd) (sls : List Sl), SR K mg w sls (vs.map some) H ∧ w.B = vs.map some ∧ ∃ (s : Sl) (outs : List Sl), F sls = some (s, outs) ∧ ∀ v H', VR K mg w outs (vs.map some) H' s v → Q v H'
def slOf (ρ : Ev) : AV → Sl
  | .inl d => .sh d
  | .inr i => match ρ[i]? with
    | some (.sh d) => .sh d
    | some (.ow d) => .io d
    | some (.io d) => .io d
    | _ => .no
def outSl (s o : Sl) : Sl := match s, o with
  | .ow _, .io d => .ow d
  | .io _, .io d => .io d
  | .sh d, _ => .sh d
  | _, _ => .no
def upd1 (ρ : Ev) (p : AV × Sl) : Ev := match p.1 with
  | .inl _ => ρ
  | .inr i => match ρ[i]? with
    | some s => ρ.set i (outSl s p.2)
    | none => ρ
def updA (ρ : Ev) (avs : List AV) (outs : List Sl) : Ev := (avs.zip outs).foldl upd1 ρ
def ownIx : List AV → List Nat
  | [] => []
  | .inl _ :: r => ownIx r
  | .inr i :: r => i :: ownIx r
/-- what behind the call stands for slot j -/
def pick (j : Nat) : List AV → List Sl → Option Sl
  | .inr i :: r, o :: os => if i = j then some o else pick j r os
  | .inl _ :: r, _ :: os => pick j r os
  | _, _ => none
theorem ownIx_mem : ∀ {avs : List AV} {k i : Nat}, avs[k]? = some (.inr i) → i ∈ ownIx avs
  | [], _, _, h => by simp at h
  | .inl _ :: r, 0, i, h => by simp at h
  | .inr j :: r, 0, i, h => by
    have e : j = i := by simpa using h
    rw [e]; exact List.mem_cons_self
  | .inl _ :: r, k + 1, i, h => ownIx_mem (avs := r) (k := k) (by simpa using h)
  | .inr j :: r, k + 1, i, h => List.mem_cons_of_mem _ (ownIx_mem (avs := r) (k := k) (by simpa using h))
theorem ownIx_inj : ∀ {avs : List AV} {k l i : Nat}, (ownIx avs).Nodup → avs[k]? = some (.inr i) → avs[l]? = some (.inr i) → k = l
  | [], _, _, _, _, h, _ => by simp at h
  | .inl _ :: r, 0, _, _, _, h, _ => by simp at h
  | .inl _ :: r, k + 1, 0, _, _, _, h => by simp at h
  | .inl _ :: r, k + 1, l + 1, i, n, h, h' => congrArg (· + 1) (ownIx_inj (avs := r) n (by simpa using h) (by simpa using h'))
  | .inr j :: r, 0, 0, _, _, _, _ => rfl
  | .inr j :: r, 0, l + 1, i, n, h, h' => by
    have e : j = i := by simpa using h
    have q := ownIx_mem (avs := r) (k := l) (i := i) (by simpa using h')
    rw [e] at n
    exact absurd q (List.nodup_cons.mp n).1
  | .inr j :: r, k + 1, 0, i, n, h, h' => by
    have e : j = i := by simpa using h'
    have q := ownIx_mem (avs := r) (k := k) (i := i) (by simpa using h)
    rw [e] at n
    exact absurd q (List.nodup_cons.mp n).1
  | .inr j :: r, k + 1, l + 1, i, n, h, h' => congrArg (· + 1) (ownIx_inj (avs := r) (List.nodup_cons.mp n).2 (by simpa using h) (by simpa using h'))
theorem pick_none {j : Nat} : ∀ {avs : List AV} {outs : List Sl}, j ∉ ownIx avs → pick j avs outs = none
  | [], _, _ => by simp [pick]
  | .inl _ :: r, [], _ => rfl
  | .inr _ :: r, [], _ => rfl
  | .inl _ :: r, o :: os, h => pick_none (avs := r) h
  | .inr i :: r, o :: os, h => by
    have h' : ¬ (j = i ∨ j ∈ ownIx r) := fun z => h (List.mem_cons.mpr z)
    show (if i = j then some o else pick j r os) = none
    rw [if_neg fun e => h' (.inl e.symm)]
    exact pick_none (avs := r) fun z => h' (.inr z)
theorem pick_at {j : Nat} {o : Sl} : ∀ {avs : List AV} {outs : List Sl}, pick j avs outs = some o → ∃ k : Nat, avs[k]? = some (Sum.inr j) ∧ outs[k]? = some o
  | [], _, h => by simp [pick] at h
  | .inl _ :: r, [], h => by cases h
  | .inr _ :: r, [], h => by cases h
  | .inl _ :: r, p :: os, h => by
    obtain ⟨k, h1, h2⟩ := pick_at (avs := r) h
    exact ⟨k + 1, by simpa using h1, by simpa using h2⟩
  | .inr i :: r, p :: os, h => by
    have h' : (if i = j then some p else pick j r os) = some o := h
    split at h'
    · rename_i e
      rw [e]
      exact ⟨0, rfl, by simpa using h'⟩
    · obtain ⟨k, h1, h2⟩ := pick_at (avs := r) h'
      exact ⟨k + 1, by simpa using h1, by simpa using h2⟩
theorem pick_some {j : Nat} : ∀ {avs : List AV} {outs : List Sl} {k : Nat}, avs.length ≤ outs.length → avs[k]? = some (.inr j) → ∃ o, pick j avs outs = some o
  | [], _, _, _, h => by simp at h
  | .inl _ :: r, [], _, l, _ => by simp at l
  | .inr _ :: r, [], _, l, _ => by simp at l
  | .inl _ :: r, p :: os, 0, _, h => by simp at h
  | .inl _ :: r, p :: os, k + 1, l, h => pick_some (avs := r) (outs := os) (k := k) (by simpa using l) (by simpa using h)
  | .inr i :: r, p :: os, 0, _, h => by
    have e : i = j := by simpa using h
    exact ⟨p, if_pos e⟩
  | .inr i :: r, p :: os, k + 1, l, h => by
    show ∃ o, (if i = j then some p else pick j r os) = some o
    split
    · exact ⟨p, rfl⟩
    · exact pick_some (avs := r) (outs := os) (k := k) (by simpa using l) (by simpa using h)
theorem upd1_get (ρ : Ev) (i j : Nat) (o : Sl) : (upd1 ρ (.inr i, o))[j]? = if i = j then (ρ[j]?).map fun s => outSl s o else ρ[j]? := by
  unfold upd1
  cases h : ρ[i]? with
  | none =>
    simp only [h]
    split
    · rename_i e; subst e; rw [h]; rfl
    · rfl
  | some s =>
    simp only [h]
    by_cases e : i = j
    · subst e
      rw [List.getElem?_set_self (List.getElem?_eq_some_iff.mp h).1, if_pos rfl, h]
      rfl
    · rw [List.getElem?_set_ne e, if_neg e]
theorem updA_get {j : Nat} : ∀ {avs : List AV} {outs : List Sl} {ρ : Ev}, (ownIx avs).Nodup → (updA ρ avs outs)[j]? = match pick j avs outs with | some o => (ρ[j]?).map fun s => outSl s o | none => ρ[j]?
  | [], _, ρ, _ => by simp [updA, pick]
  | .inl _ :: r, [], ρ, _ => by simp [updA, pick]
  | .inr _ :: r, [], ρ, _ => by simp [updA, pick]
  | .inl _ :: r, o :: os, ρ, n => by
    have q := updA_get (j := j) (avs := r) (outs := os) (ρ := ρ) n
    exact q
  | .inr i :: r, o :: os, ρ, n => by
    have q := updA_get (j := j) (avs := r) (outs := os) (ρ := upd1 ρ (.inr i, o)) (List.nodup_cons.mp n).2
    show (updA (upd1 ρ (.inr i, o)) r os)[j]? = match (if i = j then some o else pick j r os) with | some o => (ρ[j]?).map fun s => outSl s o | none => ρ[j]?
    rw [q, upd1_get]
    by_cases e : i = j
    · subst e
      rw [if_pos rfl, if_pos rfl, pick_none (List.nodup_cons.mp n).1]
    · rw [if_neg e, if_neg e]
theorem upd1_len (ρ : Ev) (p : AV × Sl) : (upd1 ρ p).length = ρ.length := by
  unfold upd1
  split
  · rfl
  · split
    · simp
    · rfl
theorem updA_len (ρ : Ev) (avs : List AV) (outs : List Sl) : (updA ρ avs outs).length = ρ.length := by
  unfold updA
  generalize avs.zip outs = l
  induction l generalizing ρ with
  | nil => rfl
  | cons p l ih => rw [List.foldl_cons, ih, upd1_len]
theorem outSl_own {s o : Sl} {d : D} (h : (outSl s o).own = some d) : (∃ e, s.own = some e) ∧ o = .io d ∧ ((∃ e, s = .ow e) ∧ outSl s o = .ow d ∨ (∃ e, s = .io e) ∧ outSl s o = .io d) := by
  match s, o, h with
  | .no, _, h => cases h
  | .sh _, _, h => cases h
  | .ow _, .no, h => cases h
  | .ow _, .sh _, h => cases h
  | .ow _, .ow _, h => cases h
  | .ow e, .io g, h => cases h; exact ⟨⟨_, rfl⟩, rfl, .inl ⟨⟨_, rfl⟩, rfl⟩⟩
  | .io _, .no, h => cases h
  | .io _, .sh _, h => cases h
  | .io _, .ow _, h => cases h
  | .io e, .io g, h => cases h; exact ⟨⟨_, rfl⟩, rfl, .inr ⟨⟨_, rfl⟩, rfl⟩⟩

section
variable {K : Fg} {mg : Mg} {w : Wd} {ρ : Ev} {σ : L2.St} {H H2 : Hp} {avs : List AV} {vs : List V}
theorem AVs.len {O : AP} : ∀ {avs : List AV} {vs : List V}, AVs K mg O σ H avs vs → avs.length = vs.length
  | _, _, .nil => rfl
  | _, _, .inl _ r => congrArg (· + 1) r.len
  | _, _, .inr _ r => congrArg (· + 1) r.len
theorem AVs.at {O : AP} : ∀ {avs : List AV} {vs : List V} {k : Nat} {a : AV}, AVs K mg O σ H avs vs → avs[k]? = some a → ∃ v, vs[k]? = some v ∧ match a with | .inl d => Rp K mg O H d v | .inr i => σ[i]? = some (some v)
  | _, _, _, _, .nil, h => by simp at h
  | _, _, 0, _, .inl r _, h => by
    simp at h; subst h; exact ⟨_, rfl, r⟩
  | _, _, 0, _, .inr r _, h => by
    simp at h; subst h; exact ⟨_, rfl, r⟩
  | _, _, k + 1, a, .inl _ r, h => by
    obtain ⟨v, h1, h2⟩ := r.at (k := k) (a := a) (by simpa using h)
    exact ⟨v, by simpa using h1, h2⟩
  | _, _, k + 1, a, .inr _ r, h => by
    obtain ⟨v, h1, h2⟩ := r.at (k := k) (a := a) (by simpa using h)
    exact ⟨v, by simpa using h1, h2⟩

/-- the callee's world -/
noncomputable def calleeW (w : Wd) (ρ : Ev) (σ : L2.St) (H : Hp) (sls : List Sl) (vs : List V) : Wd :=
  { R := full sls (vs.map some) H, E := fun a => Ex w.E ρ σ H a ∧ ¬ Ownd sls (vs.map some) H a, N := fun a => H a = none, B := vs.map some,
    M := fun a b => ∃ (k : Nat) (s : Sl) (d : D), sls[k]? = some s ∧ s.own = some d ∧ (vs.map some)[k]? = some (some (.ref a)) ∧ Foot H d a b }
/-- what an own argument is -/
theorem argAt (A : AVs K mg (Ex w.E ρ σ H) σ H avs vs) {k : Nat} {s : Sl} {d : D} {b : Addr} (h1 : (avs.map (slOf ρ))[k]? = some s) (h2 : s.own = some d) (h3 : (vs.map some)[k]? = some (some (V.ref b))) :
    s = .io d ∧ ∃ (i : Nat) (t : Sl), avs[k]? = some (.inr i) ∧ vs[k]? = some (.ref b) ∧ σ[i]? = some (some (.ref b)) ∧ ρ[i]? = some t ∧ t.own = some d := by
  rw [List.getElem?_map] at h1 h3
  obtain ⟨x, hx, e⟩ := Option.map_eq_some_iff.mp h1
  obtain ⟨v, hv, e3⟩ := Option.map_eq_some_iff.mp h3
  cases e3
  obtain ⟨v', hv', q⟩ := A.at hx
  rw [hv] at hv'; cases hv'
  cases x with
  | inl d' => subst e; cases h2
  | inr i =>
    have e' : (match ρ[i]? with | some (.sh d) => Sl.sh d | some (.ow d) => .io d | some (.io d) => .io d | _ => .no) = s := e
    cases hr : ρ[i]? with
    | none => rw [hr] at e'; subst e'; cases h2
    | some t =>
      rw [hr] at e'
      cases t with
      | no => subst e'; cases h2
      | sh d' => subst e'; cases h2
      | ow d' => subst e'; cases h2; exact ⟨rfl, i, _, hx, hv, q, hr, rfl⟩
      | io d' => subst e'; cases h2; exact ⟨rfl, i, _, hx, hv, q, hr, rfl⟩
theorem passed (A : AVs K mg (Ex w.E ρ σ H) σ H avs vs) {a : Addr} (h : Ownd (avs.map (slOf ρ)) (vs.map some) H a) :
    ∃ (k i : Nat) (s : Sl) (d : D) (b : Addr), avs[k]? = some (.inr i) ∧ vs[k]? = some (.ref b) ∧ σ[i]? = some (some (.ref b)) ∧ ρ[i]? = some s ∧ s.own = some d ∧ Foot H d b a := by
  obtain ⟨k, s, d, b, h1, h2, h3, f⟩ := h
  obtain ⟨_, i, t, q1, q2, q3, q4, q5⟩ := argAt A h1 h2 h3
  exact ⟨k, i, t, d, b, q1, q2, q3, q4, q5, f⟩
theorem passed_ownd (A : AVs K mg (Ex w.E ρ σ H) σ H avs vs) {a : Addr} (h : Ownd (avs.map (slOf ρ)) (vs.map some) H a) : Ownd ρ σ H a := by
  obtain ⟨k, i, s, d, b, _, _, h1, h2, h3, f⟩ := passed A h
  exact ⟨i, s, d, b, h2, h3, h1, f⟩
theorem callee_start (S : SR K mg w ρ σ H) (A : AVs K mg (Ex w.E ρ σ H) σ H avs vs) (n : (ownIx avs).Nodup) : SR K mg (calleeW w ρ σ H (avs.map (slOf ρ)) vs) (avs.map (slOf ρ)) (vs.map some) H := by
  have ex : ∀ a, Ex (calleeW w ρ σ H (avs.map (slOf ρ)) vs).E (avs.map (slOf ρ)) (vs.map some) H a → Ex w.E ρ σ H a := fun a z => by
    rcases z with z | z
    · exact z.1
    · exact .inr (passed_ownd A z)
  refine ⟨by simp [A.len], fun k s v h1 h2 => ?_, fun k l s t d e b c a h1 h2 h3 h4 h5 h6 f1 f2 => ?_, fun a z q => q.2 z, .of fun a o h => (of_full h).2, S.tabs, fun a h => h, fun a z => S.ex_tr z.1, fun _ _ _ => rfl⟩
  · have g1 := h1
    rw [List.getElem?_map] at h1
    obtain ⟨x, hx, e⟩ := Option.map_eq_some_iff.mp h1
    have g2 := h2
    rw [List.getElem?_map] at h2
    obtain ⟨v', hv, e2⟩ := Option.map_eq_some_iff.mp h2
    cases e2
    obtain ⟨v2, hv2, q⟩ := A.at hx
    rw [hv] at hv2; cases hv2
    cases x with
    | inl d => subst e; exact ⟨v', rfl, Rp.sub ex q⟩
    | inr i =>
      cases hr : ρ[i]? with
      | none =>
        have e' : Sl.no = s := by rw [← e]; show Sl.no = match ρ[i]? with | some (.sh d) => Sl.sh d | some (.ow d) => .io d | some (.io d) => .io d | _ => .no; rw [hr]
        subst e'; trivial
      | some t =>
        have e' : (match some t with | some (.sh d) => Sl.sh d | some (.ow d) => .io d | some (.io d) => .io d | _ => .no) = s := by rw [← hr]; exact e
        have q2 := S.slot i t (some v') hr q
        cases t with
        | no => subst e'; trivial
        | sh d => subst e'; obtain ⟨y, ey, r⟩ := q2; cases ey; exact ⟨v', rfl, r.sub ex⟩
        | ow d =>
          subst e'
          obtain ⟨a, ea, _, _, o⟩ := q2
          cases ea
          exact ⟨a, rfl, fun b f => ⟨full_own ⟨k, _, d, a, g1, rfl, g2, f⟩, .inr ⟨k, _, d, g1, rfl, g2, f⟩⟩, o.sub ex⟩
        | io d =>
          subst e'
          obtain ⟨a, ea, _, o⟩ := q2
          cases ea
          exact ⟨a, rfl, fun b f => ⟨full_own ⟨k, _, d, a, g1, rfl, g2, f⟩, .inr ⟨k, _, d, g1, rfl, g2, f⟩⟩, o.sub ex⟩
  · obtain ⟨_, i, s1, a1, _, a2, a3, a4⟩ := argAt A h1 h2 h5
    obtain ⟨_, j, s2, b1, _, b2, b3, b4⟩ := argAt A h3 h4 h6
    have ij := S.injF i j s1 s2 d e b c a a3 a4 b3 b4 a2 b2 f1 f2
    subst ij
    exact ownIx_inj n a1 b1
/-- behind the call -/
theorem callee_end {outs : List Sl} {wE cE : Wd} {E2 : AP} (S : SR K mg w ρ σ H) (A : AVs K mg (Ex w.E ρ σ H) σ H avs vs) (n : (ownIx avs).Nodup) (hl : avs.length = outs.length)
    (e1 : wE.R = w.R) (e2 : wE.N = w.N) (e3 : wE.B = w.B) (e4 : ∀ a, wE.E a ↔ w.E a ∨ E2 a)
    (c1 : cE.R = full (avs.map (slOf ρ)) (vs.map some) H) (c2 : cE.N = fun a => H a = none) (c4 : ∀ a, cE.E a ↔ (Ex w.E ρ σ H a ∧ ¬ Ownd (avs.map (slOf ρ)) (vs.map some) H a) ∨ E2 a)
    (hE : ∀ a, E2 a → H a = none) (C : SR K mg cE outs (vs.map some) H2) (e5 : wE.M = w.M := by rfl)
    (c5 : cE.M = fun a b => ∃ (k : Nat) (s : Sl) (d : D), (avs.map (slOf ρ))[k]? = some s ∧ s.own = some d ∧ (vs.map some)[k]? = some (some (.ref a)) ∧ Foot H d a b := by rfl) :
    SR K mg wE (updA ρ avs outs) σ H2 ∧ ∀ a, Ex wE.E (updA ρ avs outs) σ H2 a → Ex cE.E outs (vs.map some) H2 a := by
  have kp : ∀ a o, H a = some o → ¬ Ownd (avs.map (slOf ρ)) (vs.map some) H a → NT o → H2 a = some o := fun a o h q n => C.keep a o (by rw [c1]; exact full_of q h) n
  have kpS : ∀ a o, H a = some o → ¬ Ownd (avs.map (slOf ρ)) (vs.map some) H a → ∃ o', H2 a = some o' := fun a o h q => C.kp.some (by rw [c1]; exact full_of q h)
  have nE : ∀ {a o}, H a = some o → ¬ E2 a := fun {a o} h z => by rw [hE a z] at h; cases h
  -- slot j is not handed over: nobody else handed its thing over
  have alone : ∀ {j : Nat} {s : Sl} {d : D} {b a : Addr}, ρ[j]? = some s → s.own = some d → σ[j]? = some (some (.ref b)) → Foot H d b a → pick j avs outs = none → ¬ Ownd (avs.map (slOf ρ)) (vs.map some) H a := fun {j s d b a} h1 h2 h3 f hp z => by
    obtain ⟨k, i, t, e, c, q1, _, q3, q4, q5, f'⟩ := passed A z
    have ij := S.injF i j t s e d c b a q4 q5 h1 h2 q3 h3 f' f
    subst ij
    obtain ⟨o, ho⟩ := pick_some (outs := outs) (Nat.le_of_eq hl) q1
    rw [hp] at ho; cases ho
  -- such a slot's thing is made of what it was made of
  have stay : ∀ {j : Nat} {s : Sl} {d : D} {b : Addr}, ρ[j]? = some s → s.own = some d → σ[j]? = some (some (.ref b)) → pick j avs outs = none → ∀ a, Foot H2 d b a → Foot H d b a := fun {j s d b} h1 h2 h3 hp a f => by
    obtain ⟨b', eb, _, o⟩ := S.owF h1 h2
    rw [h3] at eb
    cases eb
    exact o.foot (fun x z o e n => kp x o e (alone h1 h2 h3 z hp) n) f
  -- an owned slot behind the call
  have back : ∀ {j : Nat} {s : Sl} {d : D}, (updA ρ avs outs)[j]? = some s → s.own = some d → (ρ[j]? = some s ∧ pick j avs outs = none) ∨ ∃ (t : Sl) (e : D) (k : Nat), ρ[j]? = some t ∧ t.own = some e ∧ avs[k]? = some (.inr j) ∧ outs[k]? = some (.io d) ∧ ((∃ e, t = .ow e) ∧ s = .ow d ∨ (∃ e, t = .io e) ∧ s = .io d) := fun {j s d} h1 h2 => by
    rw [updA_get n] at h1
    cases hp : pick j avs outs with
    | none => rw [hp] at h1; exact .inl ⟨h1, rfl⟩
    | some o =>
      rw [hp] at h1
      obtain ⟨t, ht, e⟩ := Option.map_eq_some_iff.mp h1
      subst e
      obtain ⟨⟨e, he⟩, ho, hc⟩ := outSl_own h2
      obtain ⟨k, k1, k2⟩ := pick_at hp
      exact .inr ⟨t, e, k, ht, he, k1, by rw [k2, ho], hc⟩
  have vsAt : ∀ {k j : Nat} {v : V}, avs[k]? = some (.inr j) → σ[j]? = some (some v) → vs[k]? = some v := fun {k j v} h1 h2 => by
    obtain ⟨v', h3, h4⟩ := A.at h1
    have h4 : σ[j]? = some (some v') := h4
    rw [h2] at h4; cases h4
    exact h3
  -- an owned slot's parts behind the call
  have parts : ∀ {j : Nat} {s : Sl} {d : D} {b : Addr}, (updA ρ avs outs)[j]? = some s → s.own = some d → σ[j]? = some (some (.ref b)) → ∀ a, Foot H2 d b a →
      (ρ[j]? = some s ∧ pick j avs outs = none ∧ Foot H d b a) ∨ ∃ (t : Sl) (e : D) (k : Nat), ρ[j]? = some t ∧ t.own = some e ∧ avs[k]? = some (.inr j) ∧ outs[k]? = some (.io d) ∧ (vs.map some)[k]? = some (some (.ref b)) ∧ Ownd outs (vs.map some) H2 a ∧ (H a = none ∨ Foot H e b a) := fun {j s d b} h1 h2 h3 a f => by
    rcases back h1 h2 with ⟨q, hp⟩ | ⟨t, e, k, q1, q2, q3, q4, _⟩
    · exact .inl ⟨q, hp, stay q h2 h3 hp a f⟩
    · have hv : (vs.map some)[k]? = some (some (V.ref b)) := by rw [List.getElem?_map, vsAt q3 h3]; rfl
      refine .inr ⟨t, e, k, q1, q2, q3, q4, hv, ⟨k, _, d, b, q4, rfl, hv, f⟩, ?_⟩
      obtain ⟨b', eb, m, _⟩ := C.slot k _ _ q4 hv
      cases eb
      rcases (m a f).2 with z | z
      · rw [c2] at z; exact .inl z
      · rw [c5] at z
        obtain ⟨k', s', d', z1, z2, z3, z4⟩ := z
        obtain ⟨_, i, t', y1, _, y3, y4, y5⟩ := argAt A z1 z2 z3
        have ij := S.inj i j t' t d' e b y4 y5 q1 q2 y3 h3
        subst ij
        rw [q1] at y4
        cases y4
        rw [q2] at y5
        cases y5
        exact .inr z4
  have ownB : ∀ a, Ownd (updA ρ avs outs) σ H2 a → Ownd ρ σ H a ∨ H a = none := fun a ⟨j, s, d, b, h1, h2, h3, f⟩ => by
    rcases parts h1 h2 h3 a f with ⟨q, _, f⟩ | ⟨t, e, k, q1, q2, _, _, _, _, z⟩
    · exact .inl ⟨j, s, d, b, q, h2, h3, f⟩
    · rcases z with z | z
      · exact .inr z
      · exact .inl ⟨j, t, e, b, q1, q2, h3, z⟩
  have exB : ∀ a, Ex wE.E (updA ρ avs outs) σ H2 a → Ex cE.E outs (vs.map some) H2 a := fun a z => by
    rcases z with z | z
    · rcases (e4 a).mp z with z | z
      · exact .inl ((c4 a).mpr (.inl ⟨.inl z, fun q => S.exo a (passed_ownd A q) z⟩))
      · exact .inl ((c4 a).mpr (.inr z))
    · obtain ⟨j, s, d, b, h1, h2, h3, f⟩ := z
      rcases parts h1 h2 h3 a f with ⟨q, hp, f⟩ | ⟨_, _, _, _, _, _, _, _, o, _⟩
      · exact .inl ((c4 a).mpr (.inl ⟨.inr ⟨j, s, d, b, q, h2, h3, f⟩, alone q h2 h3 f hp⟩))
      · exact .inr o
  have hk : ∀ a o, ¬ Ex w.E ρ σ H a → H a = some o → NT o → H2 a = some o := fun a o q h n => kp a o h (fun z => q (.inr (passed_ownd A z))) n
  have ho : ∀ a o, Ex wE.E (updA ρ avs outs) σ H2 a → H a = some o → Ex w.E ρ σ H a := fun a o z h => by
    rcases z with z | z
    · rcases (e4 a).mp z with z | z
      · exact .inl z
      · exact absurd z (nE h)
    · rcases ownB a z with z | z
      · exact .inr z
      · rw [h] at z; cases z
  refine ⟨⟨(updA_len ρ avs outs).trans S.len, fun j s v h1 h2 => ?_, fun i j s t d e b c a h1 h2 h3 h4 h5 h6 f1 f2 => ?_, fun a z q => ?_, by rw [e1]; exact (S.in_fullC (.of fun _ _ e => e) fun a z => passed_ownd A z).trans (by rw [← c1]; exact C.kp), C.tabs, fun a h => ?_, fun a z => ?_, fun j d h => ?_⟩, exB⟩
  · have h1' := h1
    rw [updA_get n] at h1
    have keepIt : ∀ {t : Sl}, ρ[j]? = some t → (t.own.isSome = true → pick j avs outs = none) → SlotR K mg wE (Ex wE.E (updA ρ avs outs) σ H2) H2 t v := fun {t} ht hq => by
      have q := (S.slot j t v ht h2).stepN hk ho fun a d b o ea eo f h n => kp b o h ?_ n
      · exact q.world (fun a _ _ _ _ _ h => by rw [e1]; exact h) (fun a h => by rw [e2]; exact h) fun a b h => by rw [e5]; exact h
      · exact alone ht eo (by rw [h2, ea]) f (hq (by rw [eo]; rfl))
    cases hp : pick j avs outs with
    | none => rw [hp] at h1; exact keepIt h1 fun _ => hp
    | some o =>
      rw [hp] at h1
      obtain ⟨t, ht, e⟩ := Option.map_eq_some_iff.mp h1
      subst e
      cases hso : (outSl t o).own with
      | some d =>
        obtain ⟨⟨g, hg⟩, eo, hc⟩ := outSl_own hso
        obtain ⟨k, k1, k2⟩ := pick_at hp
        obtain ⟨a, ha, r0, o0⟩ := S.owF ht hg
        rw [h2] at ha; cases ha
        have hv := vsAt k1 h2
        rw [eo] at k2
        have q := C.slot k _ (some (V.ref a)) k2 (by rw [List.getElem?_map, hv]; rfl)
        obtain ⟨b, eb, _, ob⟩ := q
        cases eb
        have ob2 : Own K mg (Ex wE.E (updA ρ avs outs) σ H2) H2 d a := ob.sub exB
        have q0 := S.slot j t _ ht h2
        have pr := parts h1' hso h2
        have old : ∀ b, Foot H2 d a b → H b = none ∨ Foot H g a b := fun b f => by
          rcases pr b f with ⟨_, hn, _⟩ | ⟨t', e', _, y1, y2, _, _, _, _, z⟩
          · rw [hp] at hn; cases hn
          · rw [ht] at y1; cases y1
            rw [hg] at y2; cases y2
            exact z
        have rr : ∀ b, Foot H2 d a b → wE.R b = none := fun b f => by
          rw [e1]
          rcases old b f with z | z
          · exact S.r_none z
          · exact r0 b z
        rcases hc with ⟨⟨g', rfl⟩, hc⟩ | ⟨⟨g', rfl⟩, hc⟩
        · rw [hc]
          obtain ⟨b, eb, _, nb, _⟩ := q0
          cases eb
          cases hg
          refine ⟨a, rfl, rr, fun b f => ?_, ob2⟩
          rw [e2]
          rcases old b f with z | z
          · exact S.fresh b z
          · exact nb b z
        · rw [hc]
          obtain ⟨b, eb, nb, _⟩ := q0
          cases eb
          cases hg
          refine ⟨a, rfl, fun b f => ⟨rr b f, ?_⟩, ob2⟩
          rw [e2, e5]
          rcases old b f with z | z
          · exact .inl (S.fresh b z)
          · exact (nb b z).2
      | none =>
        cases t with
        | sh d => exact keepIt ht fun z => by cases z
        | no => trivial
        | ow d => cases o <;> first | trivial | cases hso
        | io d => cases o <;> first | trivial | cases hso
  · rcases parts h1 h2 h5 a f1 with ⟨a1, a2, a3⟩ | ⟨t1, d1, k1, a1, a2, a3, a4, a5, a6, a7⟩
    · rcases parts h3 h4 h6 a f2 with ⟨b1, b2, b3⟩ | ⟨t2, d2, k2, b1, b2, b3, b4, b5, b6, b7⟩
      · exact S.injF i j s t d e b c a a1 h2 b1 h4 h5 h6 a3 b3
      · refine absurd ((c4 a).mpr (.inl ⟨.inr ⟨i, s, d, b, a1, h2, h5, a3⟩, alone a1 h2 h5 a3 a2⟩)) (C.exo a b6)
    · rcases parts h3 h4 h6 a f2 with ⟨b1, b2, b3⟩ | ⟨t2, d2, k2, b1, b2, b3, b4, b5, b6, b7⟩
      · refine absurd ((c4 a).mpr (.inl ⟨.inr ⟨j, t, e, c, b1, h4, h6, b3⟩, alone b1 h4 h6 b3 b2⟩)) (C.exo a a6)
      · have kk := C.injF k1 k2 _ _ d e b c a a4 rfl b4 rfl a5 b5 f1 f2
        subst kk
        rw [a3] at b3
        cases b3
        rfl
  · obtain ⟨j, s, d, b, h1, h2, h3, f⟩ := z
    have oo := ownB a ⟨j, s, d, b, h1, h2, h3, f⟩
    rcases (e4 a).mp q with q | q
    · rcases oo with z | z
      · exact S.exo a z q
      · obtain ⟨o, h⟩ := S.etr a q
        rw [h] at z; cases z
    · rcases parts h1 h2 h3 a f with ⟨a1, a2, a3⟩ | ⟨_, _, _, _, _, _, _, _, a6, _⟩
      · obtain ⟨_, o, h⟩ := S.ownd ⟨j, s, d, b, a1, h2, h3, a3⟩
        exact nE h q
      · exact C.exo a a6 ((c4 a).mpr (.inr q))
  · have q := C.fresh a h
    rw [c2] at q
    rw [e2]
    exact S.fresh a q
  · rcases (e4 a).mp z with z | z
    · obtain ⟨o, h⟩ := S.etr a z
      exact kpS a o h fun q => S.exo a (passed_ownd A q) z
    · exact C.etr a ((c4 a).mpr (.inr z))
  · rw [e3]
    rw [updA_get n] at h
    cases hp : pick j avs outs with
    | none => rw [hp] at h; exact S.iob j d h
    | some o =>
      rw [hp] at h
      obtain ⟨t, ht, e⟩ := Option.map_eq_some_iff.mp h
      obtain ⟨_, _, hc⟩ := outSl_own (s := t) (o := o) (d := d) (by rw [e]; rfl)
      rw [e] at hc
      rcases hc with ⟨_, hc⟩ | ⟨⟨g, rfl⟩, _⟩
      · cases hc
      · exact S.iob j g ht
theorem call_T {F : FF} {s : Sl} {outs : List Sl} {Q : VK} {E : XK} (S : SR K mg w ρ σ H) (A : AVs K mg (Ex w.E ρ σ H) σ H avs vs) (n : (ownIx avs).Nodup) (hF : F (avs.map (slOf ρ)) = some (s, outs)) (hl : avs.length = outs.length)
    (k : ∀ v H', VR K mg w (updA ρ avs outs) σ H' s v → Q v H') : spT K mg F vs H Q E := by
  refine ⟨_, avs.map (slOf ρ), callee_start S A n, rfl, s, outs, hF, fun v H2 h => k v H2 ?_⟩
  cases s with
  | sh d =>
    obtain ⟨C, r⟩ := h
    obtain ⟨S2, ex⟩ := callee_end (E2 := fun _ => False) (wE := w) S A n hl rfl rfl rfl (fun a => by simp) rfl rfl (fun a => by simp [calleeW]) (fun _ z => z.elim) C
    exact ⟨S2, r.sub ex⟩
  | ow d =>
    obtain ⟨p, rfl, h1, h2, h3, h4, C, o⟩ := h
    have hp : ∀ b, Foot H2 d p b → H b = none := h2
    obtain ⟨S2, ex⟩ := callee_end (E2 := Foot H2 d p) (wE := w.plus (Foot H2 d p)) S A n hl rfl rfl rfl (fun a => Iff.rfl) rfl rfl (fun a => Iff.rfl) hp C
    exact ⟨p, rfl, fun b f => S.r_none (hp b f), fun b f => S.fresh b (hp b f), fun b f z => S.not_ex (hp b f) (.inl z), fun b f z => S2.exo b z (.inr f), S2, o.sub ex⟩
  | no => exact h.elim
  | io d => exact h.elim
end
end T

/-! T4: statements over plain data, the body of a def. -/
namespace T
open PySem L2

inductive Rs where
  | nx (ρ : Ev) | bk (ρ : Ev) | ct (ρ : Ev) | rt (s : Sl) (ρ : Ev)
abbrev FS := Ev → Option Rs
def Fin (K : Fg) (mg : Mg) (w : Wd) (r : Rs) (D : Ends) : Prop := match r with
  | .nx ρ => ∀ σ H, SR K mg w ρ σ H → D.nx σ H
  | .bk ρ => ∀ σ H, SR K mg w ρ σ H → D.bk σ H
  | .ct ρ => ∀ σ H, SR K mg w ρ σ H → D.ct σ H
  | .rt s ρ => ∀ v σ H, VR K mg w ρ σ H s v → D.rt v H
def denS (K : Fg) (mg : Mg) (f : FS) : TS := fun D σ H => ∃ (w : Wd) (ρ : Ev), SR K mg w ρ σ H ∧ ∃ r : Rs, f ρ = some r ∧ Fin K mg w r D
abbrev SX (X : Cx) (st : Stmt) (f : FS) : Prop := PS X st (denS X.K X.mg f)
abbrev BX (X : Cx) (st : List Stmt) (f : FS) : Prop := PSs X st (denS X.K X.mg f)
theorem ps_imp {X : Cx} {st : Stmt} {t u : TS} (h : PS X st t) (k : ∀ D σ H, u D σ H → t D σ H) : PS X st u := ⟨fun pins s σ H D I q => h.run pins s σ H D I (k D σ H q)⟩
theorem pss_imp {X : Cx} {st : List Stmt} {t u : TS} (h : PSs X st t) (k : ∀ D σ H, u D σ H → t D σ H) : PSs X st u := ⟨fun pins s σ H D I q => h.run pins s σ H D I (k D σ H q)⟩

/-! ### blocks, if, return -/
def sNil : FS := fun ρ => some (.nx ρ)
def sSeq (f g : FS) : FS := fun ρ => (f ρ).bind fun r => match r with
  | .nx ρ' => g ρ'
  | r => some r
def sIf (c : FT) (f g : FS) : FS := fun ρ => (c ρ).bind fun p => if p.1 = true then f p.2 else g p.2
def sRet (f : FE) : FS := fun ρ => (f ρ).map fun p => .rt p.1 p.2
def sRetO (i : Nat) : FS := fun ρ => match ρ[i]? with
  | some (.ow d) => some (.rt (.ow d) (ρ.set i .no))
  | some (.sh d) => some (.rt (.sh d) ρ)
  | _ => none
section
variable {X : Cx} {st : Stmt} {rest : List Stmt} {f g : FS} {c : FT} {e : Expr} {fe : FE} {pos : Pos}
theorem Fin.nx {K : Fg} {mg : Mg} {w : Wd} {r : Rs} {D D' : Ends} (h : Fin K mg w r D) (h1 : ∀ ρ, r = .nx ρ → Fin K mg w r D') (h2 : D'.bk = D.bk) (h3 : D'.ct = D.ct) (h4 : D'.rt = D.rt) : Fin K mg w r D' := by
  cases r with
  | nx ρ => exact h1 ρ rfl
  | bk ρ => intro σ H S; rw [h2]; exact h σ H S
  | ct ρ => intro σ H S; rw [h3]; exact h σ H S
  | rt s ρ => intro v σ H S; rw [h4]; exact h v σ H S
theorem b_nil : BX X [] sNil := pss_imp pss_nil fun D σ H h => by
  obtain ⟨w, ρ, S, r, hf, k⟩ := h
  cases hf
  exact k σ H S
theorem b_one (h : SX X st f) : BX X [st] f := pss_one h
theorem b_cons (h : SX X st f) (hr : BX X rest g) : BX X (st :: rest) (sSeq f g) := pss_imp (pss_cons h hr) fun D σ H h => by
  obtain ⟨w, ρ, S, r, hf, k⟩ := h
  obtain ⟨r1, h1, hf⟩ := Option.bind_eq_some_iff.mp hf
  refine ⟨w, ρ, S, r1, h1, ?_⟩
  cases r1 with
  | nx ρ1 => exact fun σ1 H1 S1 => ⟨w, ρ1, S1, r, hf, k⟩
  | bk ρ1 => cases hf; exact k
  | ct ρ1 => cases hf; exact k
  | rt s ρ1 => cases hf; exact k
theorem s_if {a b : List Stmt} (hc : TX X e c) (ha : BX X a f) (hb : BX X b g) : SX X (.If e a b pos) (sIf c f g) := ps_imp (ps_if hc ha hb) fun D σ H h => by
  obtain ⟨w, ρ, S, r, hf, k⟩ := h
  obtain ⟨⟨b, ρ1⟩, h1, hf⟩ := Option.bind_eq_some_iff.mp hf
  refine ⟨w, ρ, S, b, ρ1, h1, fun H1 S1 => ?_⟩
  cases b with
  | true => exact ⟨w, ρ1, S1, r, hf, k⟩
  | false => exact ⟨w, ρ1, S1, r, hf, k⟩
theorem s_ret (he : EX X e fe) : SX X (.Return (some e) pos) (sRet fe) := ps_imp (ps_ret he) fun D σ H h => by
  obtain ⟨w, ρ, S, r, hf, k⟩ := h
  obtain ⟨⟨s, ρ1⟩, h1, e1⟩ := Option.map_eq_some_iff.mp hf
  subst e1
  exact ⟨w, ρ, S, s, ρ1, h1, fun v H1 hv => k v σ H1 hv⟩
theorem s_retO (i : Nat) {x : Str} {p : Pos} (hN : X.N[i]? = some x := by rfl) (hv : Vis X.env.scope x := by first | exact Or.inl rfl | exact Or.inr (Or.inl rfl) | exact Or.inr (Or.inr rfl)) (hd : (x == ("__debug__" : Str)) = false := by decide)
    (hcd : (x == ("__classdict__" : Str)) = false := by decide) : SX X (.Return (some (.Name x p)) pos) (sRetO i) := ps_imp (ps_ret (pe_var hN hv hd hcd)) fun D σ H h => by
  obtain ⟨w, ρ, S, r, hf, k⟩ := h
  unfold sRetO at hf
  split at hf
  · rename_i d hs
    cases hf
    obtain ⟨a, e, q⟩ := S.out hs
    exact ⟨.ref a, e, k (.ref a) σ H q⟩
  · rename_i d hs
    cases hf
    obtain ⟨v, e, q⟩ := S.sh hs
    exact ⟨v, e, k v σ H ⟨S, q⟩⟩
  · cases hf
theorem VR.S {K : Fg} {mg : Mg} {w : Wd} {ρ : Ev} {σ : L2.St} {H : Hp} {s : Sl} {v : V} (h : VR K mg w ρ σ H s v) : SR K mg w ρ σ H := by
  cases s with
  | sh d => exact h.1
  | ow d => exact (VR.sh h rfl).1
  | no => exact h.elim
  | io d => exact h.elim
end

/-! ### targets -/
inductive Tg where
  | n (i : Nat) | t (ts : List Tg)
mutual
def asg : Tg → D → Ev → Option Ev
  | .n i, d, ρ => some (ρ.set i (.sh d))
  | .t ts, .tup ds, ρ => asgs ts ds ρ
  | .t ts, .tpw ds, ρ => asgs ts ds ρ
  | .t ts, .lst ds, ρ => asgs ts ds ρ
  | .t _, _, _ => none
def asgs : List Tg → List D → Ev → Option Ev
  | [], [], ρ => some ρ
  | t :: ts, d :: ds, ρ => (asg t d ρ).bind (asgs ts ds)
  | _, _, _ => none
end
mutual
def Tg.ixs : Tg → List Nat
  | .n i => [i]
  | .t ts => Tg.ixss ts
def Tg.ixss : List Tg → List Nat
  | [] => []
  | u :: us => u.ixs ++ Tg.ixss us
end
def wiped (is : List Nat) (σ σ' : L2.St) : Prop := ∀ vs : List Nat, (∀ i ∈ is, i ∈ vs) → wipe σ' vs = wipe σ vs
structure Asgd (is : List Nat) (ρ ρ' : Ev) (σ σ' : L2.St) : Prop where
  wip : wiped is σ σ'
  sub : ∀ (H : Hp) (a : Addr), Ownd ρ' σ' H a → Ownd ρ σ H a
def denP (K : Fg) (mg : Mg) (t : Tg) : TG := fun v σ H Q => ∃ (w : Wd) (ρ : Ev) (d : D), SR K mg w ρ σ H ∧ Rp K mg (Ex w.E ρ σ H) H d v ∧ ∃ ρ', asg t d ρ = some ρ' ∧ ∀ σ', SR K mg w ρ' σ' H → Asgd t.ixs ρ ρ' σ σ' → Q σ' H
def denPs (K : Fg) (mg : Mg) (ts : List Tg) : TGs := fun vs σ H Q => ∃ (w : Wd) (ρ : Ev) (ds : List D), SR K mg w ρ σ H ∧ Rps K mg (Ex w.E ρ σ H) H ds vs ∧ ∃ ρ', asgs ts ds ρ = some ρ' ∧ ∀ σ', SR K mg w ρ' σ' H → Asgd (Tg.ixss ts) ρ ρ' σ σ' → Q σ' H
abbrev GXt (X : Cx) (e : Expr) (t : Tg) : Prop := PG X e (denP X.K X.mg t)
abbrev GXs (X : Cx) (es : List Expr) (ts : List Tg) : Prop := PGs X es (denPs X.K X.mg ts)
theorem pg_imp {X : Cx} {e : Expr} {t u : TG} (h : PG X e t) (k : ∀ v σ H Q, u v σ H Q → t v σ H Q) : PG X e u := ⟨fun pins s σ H v v' Q I r q => h.run pins s σ H v v' Q I r (k v σ H Q q)⟩
theorem pgs_imp {X : Cx} {es : List Expr} {t u : TGs} (h : PGs X es t) (k : ∀ v σ H Q, u v σ H Q → t v σ H Q) : PGs X es u := ⟨fun pins s σ H vs us Q I r q => h.run pins s σ H vs us Q I r (k vs σ H Q q)⟩
theorem wipe_set {i : Nat} {x : Option V} : ∀ {vs : List Nat} {σ : L2.St}, i ∈ vs → wipe (σ.set i x) vs = wipe σ vs
  | [], _, h => by cases h
  | j :: vs, σ, h => by
    by_cases e : i ∈ vs
    · show (wipe (σ.set i x) vs).set j none = (wipe σ vs).set j none
      rw [wipe_set e]
    · have ej : j = i := by
        rcases List.mem_cons.mp h with h | h
        · exact h.symm
        · exact absurd h e
      subst ej
      show (wipe (σ.set j x) vs).set j none = (wipe σ vs).set j none
      refine List.ext_getElem? fun k => ?_
      have key : ∀ {vs : List Nat} {σ : L2.St}, j ∉ vs → ∀ k, k ≠ j → (wipe (σ.set j x) vs)[k]? = (wipe σ vs)[k]? := by
        intro vs
        induction vs with
        | nil => intro σ _ k hk; exact List.getElem?_set_ne (Ne.symm hk)
        | cons m vs ih =>
          intro σ hm k hk
          show ((wipe (σ.set j x) vs).set m none)[k]? = ((wipe σ vs).set m none)[k]?
          have hv : j ∉ vs := fun z => hm (List.mem_cons_of_mem _ z)
          by_cases hkm : m = k
          · subst hkm
            rw [List.getElem?_set, List.getElem?_set, wipe_length, wipe_length]
            simp
          · rw [List.getElem?_set_ne hkm, List.getElem?_set_ne hkm]
            exact ih hv k hk
      by_cases hk : k = j
      · subst hk
        rw [List.getElem?_set, List.getElem?_set, wipe_length, wipe_length]
        simp
      · rw [List.getElem?_set_ne (Ne.symm hk), List.getElem?_set_ne (Ne.symm hk)]
        exact key e k hk
section
variable {X : Cx} {e : Expr} {es : List Expr} {t : Tg} {ts : List Tg} {pos : Pos}
theorem t_n (i : Nat) {x : Str} (hN : X.N.Nodup) (hi : X.N[i]? = some x := by rfl) (hx : Loc X.env.scope x := by first | exact Or.inl rfl | exact Or.inr rfl) (hf : X.fn x = true ∨ X.env.scope.names.lookup x = some .local := by first | exact .inl rfl | exact .inr rfl | assumption) :
    GXt X (.Name x pos) (.n i) := pg_imp (pg_name hN hi hx hf) fun v σ H Q h => by
  obtain ⟨w, ρ, d, S, r, ρ', ha, k⟩ := h
  cases ha
  refine k _ (S.setSh r) ⟨fun vs hv => wipe_set (hv i (by simp [Tg.ixs])), fun H a z => ?_⟩
  rcases own_set z with ⟨_, _, z, _⟩ | ⟨j, s, d, b, _, h1, h2, h3, f⟩
  · cases z
  · exact ⟨j, s, d, b, h1, h2, h3, f⟩
theorem ts_nil : GXs X [] [] := pgs_imp pgs_nil fun v σ H Q h => by
  obtain ⟨w, ρ, ds, S, r, ρ', ha, k⟩ := h
  cases r with
  | nil => cases ha; exact ⟨rfl, k σ S ⟨fun _ _ => rfl, fun _ _ z => z⟩⟩
  | cons _ _ => cases ha
theorem ts_cons (h : GXt X e t) (hr : GXs X es ts) (hs : (assignEach (e :: es) X.env).map (·.2) = assign e X.env :: (assignEach es X.env).map (·.2) := by rfl) : GXs X (e :: es) (t :: ts) := pgs_imp (pgs_cons h hr hs) fun v σ H Q h => by
  obtain ⟨w, ρ, ds, S, r, ρ', ha, k⟩ := h
  cases r with
  | nil => cases ha
  | cons r1 r2 =>
    unfold asgs at ha
    obtain ⟨ρ1, h1, h2⟩ := Option.bind_eq_some_iff.mp ha
    refine ⟨_, _, rfl, w, ρ, _, S, r1, ρ1, h1, fun σ1 S1 a1 => ⟨w, ρ1, _, S1, r2.sub fun a z => z.imp id (a1.sub _ a), ρ', h2, fun σ2 S2 a2 => k σ2 S2 ⟨fun vs hv => ?_, fun H a z => a1.sub H a (a2.sub H a z)⟩⟩⟩
    rw [a2.wip vs fun i hi => hv i (List.mem_append_right _ hi)]
    exact a1.wip vs fun i hi => hv i (List.mem_append_left _ hi)
theorem asgs_len : ∀ {ts : List Tg} {ds : List D} {ρ ρ' : Ev}, asgs ts ds ρ = some ρ' → ds.length = ts.length
  | [], [], _, _, _ => rfl
  | [], _ :: _, _, _, h => by cases h
  | _ :: _, [], _, _, h => by cases h
  | t :: ts, d :: ds, ρ, ρ', h => by
    unfold asgs at h
    obtain ⟨ρ1, _, h2⟩ := Option.bind_eq_some_iff.mp h
    exact congrArg (· + 1) (asgs_len h2)
theorem pg_or {t u : TG} (h1 : PG X e t) (h2 : PG X e u) : PG X e (fun v σ H Q => t v σ H Q ∨ u v σ H Q) := ⟨fun pins s σ H v v' Q I r q => q.elim (h1.run pins s σ H v v' Q I r) (h2.run pins s σ H v v' Q I r)⟩
theorem t_t {k : Nat} (hc : X.calm = true) (h : GXs X es ts) (hn : (assignEach es X.env).length = ts.length := by rfl) (hst : (assignEach es X.env).findIdx? (·.1) = none := by rfl) : GXt X (.Tuple es k pos) (.t ts) :=
  pg_imp (pg_or (pg_tup hc h hn hst) (pg_unl hc h hn hst)) fun v σ H Q h => by
  obtain ⟨w, ρ, d, S, r, ρ', ha, k⟩ := h
  cases d with
  | tup ds =>
    obtain ⟨a, vs, e, hq, rr⟩ := r.tupAt
    exact .inl ⟨a, vs, e, hq, rr.len.symm.trans (asgs_len ha), w, ρ, ds, S, rr, ρ', ha, k⟩
  | tpw ds =>
    obtain ⟨a, vs, e, hq, rr⟩ := r.tpwAt
    exact .inl ⟨a, vs, e, hq, rr.len.symm.trans (asgs_len ha), w, ρ, ds, S, rr, ρ', ha, k⟩
  | lst ds =>
    obtain ⟨a, vs, e, hq, rr⟩ := r.itemsAt rfl
    exact .inr ⟨a, vs, e, hq, rr.len.symm.trans (asgs_len ha), w, ρ, ds, S, rr, ρ', ha, k⟩
  | _ => cases ha
end

/-! ### assignments -/
def sSet (i : Nat) (f : FE) : FS := fun ρ => (f ρ).map fun p => .nx (p.2.set i p.1)
def sAsg (t : Tg) (f : FE) : FS := fun ρ => (f ρ).bind fun p => (vl p.1).bind fun d => (asg t d p.2).map .nx
def opt2 (f g : FE) (ρ : Ev) : Option (D × D × Ev) := (f ρ).bind fun p => (vl p.1).bind fun x => (g p.2).bind fun q => (vl q.1).map fun y => (x, y, q.2)
/-- a, b = x, y -/
def sPar (i j : Nat) (f g : FE) : FS := fun ρ => (f ρ).bind fun p => (g p.2).map fun q => .nx ((q.2.set i p.1).set j q.1)
section
variable {X : Cx} {st : Stmt} {f g : FE} {e : Expr} {pos pos' : Pos} {x y : Str}
theorem VR.set {K : Fg} {mg : Mg} {w : Wd} {ρ : Ev} {σ : L2.St} {H : Hp} {s : Sl} {v : V} (i : Nat) (h : VR K mg w ρ σ H s v) : SR K mg w (ρ.set i s) (σ.set i (some v)) H := by
  cases s with
  | sh d => exact h.1.setSh h.2
  | ow d =>
    obtain ⟨p, rfl, h1, h2, h3, h4, S, o⟩ := h
    exact S.setOw h1 h2 h3 h4 o
  | no => exact h.elim
  | io d => exact h.elim
theorem s_set (i : Nat) (hN : X.N.Nodup) (he : EX X e f) (hi : X.N[i]? = some x := by rfl) (hx : Loc X.env.scope x := by first | exact Or.inl rfl | exact Or.inr rfl) (hs : swapsWith e (some (.Name x pos')) pos.line X.env = pure false := by rfl)
    (hf : X.fn x = true ∨ X.env.scope.names.lookup x = some .local := by first | exact .inl rfl | exact .inr rfl | assumption) : SX X (.Assign [.Name x pos'] e pos) (sSet i f) := ps_imp (ps_set hN hi hx he hs hf) fun D σ H h => by
  obtain ⟨w, ρ, S, r, hf, k⟩ := h
  obtain ⟨⟨s, ρ1⟩, h1, e1⟩ := Option.map_eq_some_iff.mp hf
  subst e1
  exact ⟨w, ρ, S, s, ρ1, h1, fun v H1 hv => k _ H1 (hv.set i)⟩
theorem s_asg {tg : Expr} {t : Tg} (he : EX X e f) (hg : GXt X tg t) (hs : swapsWithSole [tg] e pos.line X.env = pure false := by rfl) (hw : swappedStores [tg] e X.env = pure none := by rfl)
    (h1 : (assignEach [tg] X.env).map (·.2) = [assign tg X.env] := by rfl) : SX X (.Assign [tg] e pos) (sAsg t f) := ps_imp (ps_asg he hg hs hw h1) fun D σ H h => by
  obtain ⟨w, ρ, S, r, hf, k⟩ := h
  obtain ⟨⟨s, ρ1⟩, h1, hf⟩ := Option.bind_eq_some_iff.mp hf
  obtain ⟨d, hd, hf⟩ := Option.bind_eq_some_iff.mp hf
  obtain ⟨ρ2, h2, e2⟩ := Option.map_eq_some_iff.mp hf
  subst e2
  exact one S h1 hd fun v H1 S1 r1 => ⟨w, ρ1, d, S1, r1, ρ2, h2, fun σ2 S2 _ => k σ2 H1 S2⟩
end

/-! ### the body of a def -/
def outIo : Sl → Sl
  | .io d => .io d
  | _ => .no
def takeN : Nat → Ev → List Sl
  | 0, _ => []
  | n + 1, [] => .no :: takeN n []
  | n + 1, s :: r => outIo s :: takeN n r
def runDef (n m : Nat) (body : FS) : FF := fun sls => if sls.length = n then (body (sls ++ List.replicate m .no)).bind fun r => match r with
  | .rt s ρ => some (s, takeN n ρ)
  | .nx ρ => some (.sh .non, takeN n ρ)
  | _ => none else none
theorem takeN_len : ∀ (n : Nat) (ρ : Ev), (takeN n ρ).length = n
  | 0, _ => rfl
  | n + 1, [] => congrArg (· + 1) (takeN_len n [])
  | n + 1, _ :: r => congrArg (· + 1) (takeN_len n r)
theorem takeN_io : ∀ {n : Nat} {ρ : Ev} {k : Nat} {s : Sl} {d : D}, (takeN n ρ)[k]? = some s → s ≠ .no → s = .io d ∨ (∃ e, s = .io e) 
  | 0, _, _, _, _, h, _ => by simp [takeN] at h
  | n + 1, [], 0, s, d, h, q => by
    have e : Sl.no = s := by simpa [takeN] using h
    exact absurd e.symm q
  | n + 1, [], k + 1, s, d, h, q => takeN_io (n := n) (ρ := []) (k := k) (by simpa [takeN] using h) q
  | n + 1, t :: r, 0, s, d, h, q => by
    have e : outIo t = s := by simpa [takeN] using h
    cases t with
    | io g => exact .inr ⟨g, e.symm⟩
    | no => exact absurd e.symm q
    | sh g => exact absurd e.symm q
    | ow g => exact absurd e.symm q
  | n + 1, t :: r, k + 1, s, d, h, q => takeN_io (n := n) (ρ := r) (k := k) (by simpa [takeN] using h) q
theorem takeN_at : ∀ {n : Nat} {ρ : Ev} {k : Nat} {d : D}, (takeN n ρ)[k]? = some (.io d) → ρ[k]? = some (.io d) ∧ k < n
  | 0, _, _, _, h => by simp [takeN] at h
  | n + 1, [], 0, d, h => by simp [takeN] at h
  | n + 1, [], k + 1, d, h => by
    have q := takeN_at (n := n) (ρ := []) (k := k) (d := d) (by simpa [takeN] using h)
    simp at q
  | n + 1, t :: r, 0, d, h => by
    have e : outIo t = .io d := by simpa [takeN] using h
    cases t <;> cases e
    exact ⟨rfl, Nat.succ_pos n⟩
  | n + 1, t :: r, k + 1, d, h => by
    have q := takeN_at (n := n) (ρ := r) (k := k) (d := d) (by simpa [takeN] using h)
    exact ⟨by simpa using q.1, Nat.succ_lt_succ q.2⟩
theorem takeN_own {n : Nat} {ρ : Ev} {k : Nat} {s : Sl} {d : D} (h : (takeN n ρ)[k]? = some s) (hd : s.own = some d) : s = .io d ∧ ρ[k]? = some (.io d) ∧ k < n := by
  have q : s = .io d := by
    rcases takeN_io (d := d) h (fun z => by rw [z] at hd; cases hd) with q | ⟨e, q⟩
    · exact q
    · rw [q] at hd ⊢; cases hd; rfl
  subst q
  exact ⟨rfl, takeN_at h⟩

section
variable {K : Fg} {mg : Mg} {w : Wd} {ρ : Ev} {σ : L2.St} {H : Hp} {vs : List V} {sls : List Sl} {s : Sl} {v : V}
theorem SR.ext {m : Nat} (S : SR K mg w sls (vs.map some) H) (hB : w.B = vs.map some) : SR K mg w (sls ++ List.replicate m .no) (vs.map some ++ List.replicate m none) H := by
  have hl : sls.length = vs.length := by simpa using S.len
  have un : ∀ {i : Nat} {s : Sl}, (sls ++ List.replicate m Sl.no)[i]? = some s → (s = .no) ∨ (sls[i]? = some s ∧ i < sls.length) := fun {i s} h => by
    by_cases hi : i < sls.length
    · rw [List.getElem?_append_left hi] at h
      exact .inr ⟨h, hi⟩
    · rw [List.getElem?_append_right (by omega), List.getElem?_replicate] at h
      split at h
      · exact .inl (Option.some.inj h).symm
      · cases h
  have unV : ∀ {i : Nat}, i < sls.length → (vs.map some ++ List.replicate m (none : Option V))[i]? = (vs.map some)[i]? := fun {i} hi => List.getElem?_append_left (by simpa [← hl] using hi)
  have ow : ∀ a, Ownd (sls ++ List.replicate m .no) (vs.map some ++ List.replicate m none) H a → Ownd sls (vs.map some) H a := fun a ⟨i, s, d, b, h1, h2, h3, f⟩ => by
    rcases un h1 with rfl | ⟨h1, hi⟩
    · cases h2
    · rw [unV hi] at h3
      exact ⟨i, s, d, b, h1, h2, h3, f⟩
  refine ⟨by simp [hl], fun i s v h1 h2 => ?_, fun i j s t d e b c a h1 h2 h3 h4 h5 h6 f1 f2 => ?_, fun a z => S.exo a (ow a z), S.kp, S.tabs, S.fresh, S.etr, fun i d h => ?_⟩
  · rcases un h1 with rfl | ⟨h1, hi⟩
    · trivial
    · rw [unV hi] at h2
      exact (S.slot i s v h1 h2).sub fun a z => z.imp id (ow a)
  · rcases un h1 with rfl | ⟨h1, hi⟩
    · cases h2
    · rcases un h3 with rfl | ⟨h3, hj⟩
      · cases h4
      · rw [unV hi] at h5
        rw [unV hj] at h6
        exact S.injF i j s t d e b c a h1 h2 h3 h4 h5 h6 f1 f2
  · rcases un h with h | ⟨h, hi⟩
    · cases h
    · rw [unV hi]
      exact S.iob i d h
theorem SR.cut {wE : Wd} (S : SR K mg wE ρ σ H) (hB : wE.B = vs.map some) : SR K mg wE (takeN vs.length ρ) (vs.map some) H ∧ ∀ a, Ownd (takeN vs.length ρ) (vs.map some) H a → Ownd ρ σ H a := by
  have un : ∀ {k : Nat} {s : Sl} {d : D}, (takeN vs.length ρ)[k]? = some s → s.own = some d → s = .io d ∧ ρ[k]? = some (.io d) ∧ σ[k]? = (vs.map some)[k]? := fun {k s d} h hd => by
    obtain ⟨h1, h2, _⟩ := takeN_own h hd
    exact ⟨h1, h2, (S.iob k d h2).trans (by rw [hB])⟩
  have ow : ∀ a, Ownd (takeN vs.length ρ) (vs.map some) H a → Ownd ρ σ H a := fun a ⟨k, s, d, b, h1, h2, h3, f⟩ => by
    obtain ⟨rfl, g1, g2⟩ := un h1 h2
    exact ⟨k, _, d, b, g1, rfl, by rw [g2]; exact h3, f⟩
  refine ⟨⟨by rw [takeN_len]; simp, fun k s v h1 h2 => ?_, fun i j s t d e b c a h1 h2 h3 h4 h5 h6 f1 f2 => ?_, fun a z => S.exo a (ow a z), S.kp, S.tabs, S.fresh, S.etr, fun k d h => by rw [hB]⟩, ow⟩
  · by_cases hs : s = .no
    · rw [hs]; trivial
    · obtain ⟨e, rfl⟩ : ∃ e, s = .io e := by
        rcases takeN_io (d := .non) h1 hs with q | q
        · exact ⟨_, q⟩
        · exact q
      obtain ⟨_, g1, g2⟩ := un h1 rfl
      exact (S.slot k _ v g1 (by rw [g2]; exact h2)).sub fun a z => z.imp id (ow a)
  · obtain ⟨rfl, g1, g2⟩ := un h1 h2
    obtain ⟨rfl, g3, g4⟩ := un h3 h4
    exact S.injF i j _ _ d e b c a g1 rfl g3 rfl (by rw [g2]; exact h5) (by rw [g4]; exact h6) f1 f2
theorem VR.cut (h : VR K mg w ρ σ H s v) (hB : w.B = vs.map some) : VR K mg w (takeN vs.length ρ) (vs.map some) H s v := by
  cases s with
  | sh d =>
    obtain ⟨S, r⟩ := h
    obtain ⟨S2, ow⟩ := S.cut hB
    exact ⟨S2, r.sub fun a z => z.imp id (ow a)⟩
  | ow d =>
    obtain ⟨p, rfl, h1, h2, h3, h4, S, o⟩ := h
    obtain ⟨S2, ow⟩ := SR.cut (wE := w.plus (Foot H d p)) S hB
    exact ⟨p, rfl, h1, h2, h3, fun b f z => h4 b f (ow b z), S2, o.sub fun a z => z.imp id (ow a)⟩
  | no => exact h.elim
  | io d => exact h.elim
end

theorem runDef_len {n m : Nat} {body : FS} {sls : List Sl} {r : Sl × List Sl} (h : runDef n m body sls = some r) : sls.length = n := by
  unfold runDef at h
  split at h
  · assumption
  · cases h
open PyProof.Rows (envOfC) in
/-- a def of the text that nothing leaves but by its end -/
theorem okT {P : Program} {w : World} {K : Fg} {mg : Mg} {base : Heap} {x qual : Str} {st : Stmt} {f : Addr} {fd : FuncData} {N ps : List Str} {k : Nat} {body : FS} (F : Fun K x qual st f fd) (S : FnScope N ps (defScope st))
    (hbody : ∀ (cdv : Value) (A : Around) (outer : List Env) (s : Shared) (H : Hp) (E : XK), RoomG k (A.deeper (envOfC qual (defScope st) s.heap.objs.size f cdv)) →
      BX (cxOf CX0 P w K mg base N qual (defScope st) f cdv A outer s H E).nox (defBody st) body) : FnG P w K mg base CX0 (k + 1) f fd ps (spT K mg (runDef ps.length (N.length - ps.length) body)) := by
  have hlen : ∀ vs H Q E, spT K mg (runDef ps.length (N.length - ps.length) body) vs H Q E → vs.length = ps.length := fun vs H Q E h => by
    obtain ⟨w, sls, S, hB, s, outs, hF, k⟩ := h
    have e := S.len
    rw [runDef_len hF] at e
    simpa using e.symm
  refine Fun.okG F S hlen fun cdv A outer s H vs Q E hr h => ?_
  have hl := hlen _ _ _ _ h
  obtain ⟨wd, sls, SS, hB, sl, outs, hF, k⟩ := h
  refine ⟨_, (hbody cdv A outer s H E hr).nox, wd, sls ++ List.replicate (N.length - ps.length) .no, ?_, ?_⟩
  · have q := SS.ext (m := N.length - ps.length) hB
    unfold L2.start
    rw [hl]
    exact q
  · unfold runDef at hF
    split at hF
    · obtain ⟨r, h1, h2⟩ := Option.bind_eq_some_iff.mp hF
      refine ⟨r, h1, ?_⟩
      cases r with
      | rt s ρ =>
        cases h2
        intro v σ H hv
        refine k v H ?_
        rw [← hl]
        exact hv.cut hB
      | nx ρ =>
        cases h2
        intro σ H hv
        refine k .non H ?_
        rw [← hl]
        exact VR.cut (s := .sh .non) ⟨hv, .non⟩ hB
      | bk ρ => cases h2
      | ct ρ => cases h2
    · cases hF
end T

/-! T5: what is walked; for, while, comprehensions over plain data. -/
namespace T
open PySem L2

abbrev FI := Ev → Option (List D × Ev)
def Sub (C H : Hp) : Prop := ∀ a o, C a = some o → H a = some o
/-- J yields the data xs as long as C stands -/
structure ItS (K : Fg) (mg : Mg) (C : Hp) (xs : List D) (J : It) : Prop where
  stop : ∀ H, Sub C H → J.stop xs.length H
  go : ∀ i, i < xs.length → ∀ H, Sub C H → J.go i H
  yld : ∀ (i : Nat) (d : D), xs[i]? = some d → ∀ (w : Wd) (ρ : Ev) (σ : L2.St) (H : Hp) (x : V) (H' : Hp), SR K mg w ρ σ H → Sub C w.R → (∀ a o, w.E a → C a = some o → False) → J.yld i H x H' →
    SR K mg w ρ σ H' ∧ Rp K mg (Ex w.E ρ σ H') H' d x ∧ Sub H H'
def denI (K : Fg) (mg : Mg) (f : FI) : TI := fun σ H R => ∃ (w : Wd) (ρ : Ev), SR K mg w ρ σ H ∧ ∃ (xs : List D) (ρ' : Ev), f ρ = some (xs, ρ') ∧
  ∀ (J : It) (H' C : Hp), SR K mg w ρ' σ H' → (∀ a o, C a = some o → H' a = some o ∧ ¬ Ex w.E ρ' σ H' a ∧ NT o) → ItS K mg C xs J → R J H'
abbrev IX (X : Cx) (tg e : Expr) (f : FI) : Prop := PI X tg e (denI X.K X.mg f)
theorem pi_imp {X : Cx} {tg e : Expr} {t u : TI} (h : PI X tg e t) (k : ∀ σ H R, u σ H R → t σ H R) : PI X tg e u := ⟨fun pins s σ H R I q => h.run pins s σ H R I (k σ H R q)⟩

def rangeD (lo : Int) (n : Nat) : List D := (List.range n).map fun i => .int (lo + (i : Nat))
def iRg1 (f : FE) : FI := fun ρ => (f ρ).bind fun p => match vl p.1 with
  | some (.int n) => if -(2 ^ 62) ≤ n ∧ n < 2 ^ 62 then some (rangeD 0 n.toNat, p.2) else none
  | _ => none
open Classical in
/-- what of H the walk leans on -/
noncomputable def solid (O : AP) (H : Hp) : Hp := fun a => if O a ∨ ∃ ps, H a = some (.tbl ps) then none else H a
theorem of_solid {O : AP} {H : Hp} {a : Addr} {o : HO} (h : solid O H a = some o) : H a = some o ∧ ¬ O a ∧ NT o := by
  unfold solid at h
  split at h
  · cases h
  · rename_i n; exact ⟨h, fun z => n (.inl z), fun ps z => n (.inr ⟨ps, by rw [h, z]⟩)⟩
theorem solid_of {O : AP} {H : Hp} {a : Addr} {o : HO} (n : ¬ O a) (h : H a = some o) (nn : NT o := by first | assumption | exact fun _ z => by cases z) : solid O H a = some o := by
  unfold solid
  rw [if_neg (fun z => z.elim n fun ⟨ps, e⟩ => nn ps (by rw [h] at e; exact Option.some.inj e))]
  exact h
section
variable {K : Fg} {mg : Mg} {w w' : Wd} {ρ ρ' : Ev} {σ σ' : L2.St} {H H' : Hp} {O : AP} {d : D} {x : V}
theorem Rp.keepSolid (h : Rp K mg O H d x) (S : SR K mg w ρ σ H') (hC : Sub (solid O H) w.R) (hE : ∀ a o, w.E a → solid O H a = some o → False) : Rp K mg (Ex w.E ρ σ H') H' d x := by
  refine h.stepN (fun a o n e nn => S.keep a o (hC a o (solid_of n e))) fun a o z e nn => ?_
  by_cases n : O a
  · exact n
  · have q := solid_of n e
    rcases z with z | z
    · exact (hE a o z q).elim
    · have r := hC a o q
      rw [(S.ownd z).1] at r; cases r
theorem Rp.itl {d : D} {ds : List D} {a : Addr} (h : Rp K mg O H d (.ref a)) (e : d.items = some ds) : ItS K mg (solid O H) ds (Itl K a) := by
  obtain ⟨vs, hs, r⟩ : ∃ vs, (∀ H', Sub (T.solid O H) H' → SqL K H' a vs) ∧ Rps K mg O H ds vs := by
    cases h with
    | lst h r => cases e; exact ⟨_, fun H' hC => .inl (.inl (hC _ _ (solid_of h.2 h.1))), r⟩
    | scr h r =>
      cases e
      refine ⟨_, fun H' hC => ?_, r⟩
      rcases h with ⟨h, n⟩ | h
      · rcases h with h | ⟨o, h⟩
        · exact .inl (.inl (hC _ _ (solid_of n h)))
        · exact .inl (.inr ⟨o, hC _ _ (solid_of n h)⟩)
      · exact h.at H'
    | _ => cases e
  refine ⟨fun H' hC => ⟨vs, hs H' hC, Nat.le_of_eq r.len.symm⟩, fun i hi H' hC => ?_, fun i d hd w ρ σ H1 x H2 S hC hE hy => ?_⟩
  · obtain ⟨v, hv, _⟩ := r.get (List.getElem?_eq_getElem hi)
    exact ⟨vs, v, hs H' hC, hv⟩
  · obtain ⟨e, hv⟩ := hy
    subst e
    obtain ⟨v, h1, h2⟩ := r.get hd
    have q := hv vs (hs _ fun a o e => S.keep a o (hC a o e) (of_solid e).2.2)
    rw [h1] at q; cases q
    exact ⟨S, Rp.keepSolid h2 S hC hE, fun _ _ e => e⟩
theorem Rp.itt {ds : List D} {a : Addr} (h : Rp K mg O H (.tup ds) (.ref a)) : ItS K mg (solid O H) ds (Itt K a) := by
  obtain ⟨vs, hs, r⟩ : ∃ vs, (∀ H', Sub (T.solid O H) H' → SqT K H' a vs) ∧ Rps K mg O H ds vs := by
    cases h with
    | tup h _ r => exact ⟨_, fun H' hC => .inl (.inr ⟨_, hC _ _ (solid_of h.2 h.1)⟩), r⟩
  refine ⟨fun H' hC => ⟨vs, hs H' hC, Nat.le_of_eq r.len.symm⟩, fun i hi H' hC => ?_, fun i d hd w ρ σ H1 x H2 S hC hE hy => ?_⟩
  · obtain ⟨v, hv, _⟩ := r.get (List.getElem?_eq_getElem hi)
    exact ⟨vs, v, hs H' hC, hv⟩
  · obtain ⟨e, hv⟩ := hy
    subst e
    obtain ⟨v, h1, h2⟩ := r.get hd
    have q := hv vs (hs _ fun a o e => S.keep a o (hC a o e) (of_solid e).2.2)
    rw [h1] at q; cases q
    exact ⟨S, Rp.keepSolid h2 S hC hE, fun _ _ e => e⟩
theorem rangeD_get {lo : Int} {n i : Nat} {d : D} (h : (rangeD lo n)[i]? = some d) : i < n ∧ d = .int (lo + (i : Nat)) := by
  unfold rangeD at h
  rw [List.getElem?_map] at h
  obtain ⟨j, hj, e⟩ := Option.map_eq_some_iff.mp h
  obtain ⟨h1, h2⟩ := List.getElem?_eq_some_iff.mp hj
  rw [List.getElem_range] at h2
  subst h2
  exact ⟨by simpa using h1, e.symm⟩
theorem its_range (lo : Int) (n : Nat) : ItS K mg (fun _ => none) (rangeD lo n) (Itr lo n) := by
  have hl : (rangeD lo n).length = n := by simp [rangeD]
  refine ⟨fun H _ => by rw [hl]; exact Nat.le_refl n, fun i hi H _ => by rw [hl] at hi; exact hi, fun i d hd w ρ σ H x H' S _ _ hy => ?_⟩
  obtain ⟨rfl, rfl⟩ := hy
  obtain ⟨_, rfl⟩ := rangeD_get hd
  exact ⟨S, .int _, fun _ _ e => e⟩
end
section
variable {X : Cx} {tg e a b : Expr} {f g : FE} {p pos : Pos}
theorem opt2_some {f g : FE} {ρ ρ2 : Ev} {x y : D} (h : opt2 f g ρ = some (x, y, ρ2)) : ∃ s1 ρ1 s2, f ρ = some (s1, ρ1) ∧ vl s1 = some x ∧ g ρ1 = some (s2, ρ2) ∧ vl s2 = some y := by
  obtain ⟨⟨s1, ρ1⟩, h1, h⟩ := Option.bind_eq_some_iff.mp h
  obtain ⟨x', hx, h⟩ := Option.bind_eq_some_iff.mp h
  obtain ⟨⟨s2, ρ2'⟩, h2, h⟩ := Option.bind_eq_some_iff.mp h
  obtain ⟨y', hy, h⟩ := Option.map_eq_some_iff.mp h
  cases h
  exact ⟨s1, ρ1, s2, h1, hx, h2, hy⟩
theorem i_rg1 (hg : Gl X "range") (hm : X.mg "range" = none) (ha : EX X a f) (hs : starEach [a] X.env = [(false, eval a X.env)] := by rfl) : IX X tg (.Call (.Name "range" p) [a] [] pos) (iRg1 f) :=
  pi_imp (pi_range1 hg hm (pa_cons ha pa_nil (by rw [hs]; rfl)) hs) fun σ H R h => by
  obtain ⟨w, ρ, S, xs, ρ', hf, k⟩ := h
  obtain ⟨⟨s, ρ1⟩, h1, hf⟩ := Option.bind_eq_some_iff.mp hf
  split at hf
  · rename_i n hd
    split at hf
    · rename_i hn
      cases hf
      refine one S h1 hd fun v H1 S1 r1 => ?_
      cases r1
      exact ⟨n, rfl, hn.1, hn.2, k _ H1 _ S1 (fun a o h => by cases h) (its_range 0 n.toNat)⟩
    · cases hf
  · cases hf
end

/-! ### for -/
def loopF (t : Tg) (body : FS) : List D → Ev → Option Rs
  | [], ρ => some (.nx ρ)
  | d :: r, ρ => (asg t d ρ).bind fun ρ1 => (body ρ1).bind fun q => match q with
    | .nx ρ2 => loopF t body r ρ2
    | .ct ρ2 => loopF t body r ρ2
    | .bk ρ2 => some (.nx ρ2)
    | .rt s ρ2 => some (.rt s ρ2)
def sFor (t : Tg) (src : FI) (body : FS) : FS := fun ρ => (src ρ).bind fun p => loopF t body p.1 p.2
theorem VR.back {K : Fg} {mg : Mg} {w : Wd} {ρ ρ' : Ev} {σ σ' : L2.St} {H H' : Hp} {s : Sl} {v : V} (S : SR K mg w ρ σ H) (h : VR K mg (w.fill ρ σ H) ρ' σ' H' s v) : VR K mg w ρ' σ' H' s v := by
  cases s with
  | sh d => exact ⟨S.back h.1, h.2⟩
  | ow d =>
    obtain ⟨p, rfl, h1, h2, h3, h4, S2, o⟩ := h
    refine ⟨p, rfl, fun b f => ?_, h2, h3, h4, S2.thin rfl rfl rfl S.in_full, o⟩
    cases e : w.R b with
    | none => rfl
    | some u =>
      have h1' : full ρ σ H b = none := h1 b f
      obtain ⟨u', q'⟩ := S.in_full.some e
      rw [q'] at h1'; cases h1'
  | no => exact h.elim
  | io d => exact h.elim
theorem Fin.back {K : Fg} {mg : Mg} {w : Wd} {ρ : Ev} {σ : L2.St} {H : Hp} {r : Rs} {D : Ends} (S : SR K mg w ρ σ H) (h : Fin K mg w r D) : Fin K mg (w.fill ρ σ H) r D := by
  cases r with
  | nx ρ => exact fun σ' H' S' => h σ' H' (S.back S')
  | bk ρ => exact fun σ' H' S' => h σ' H' (S.back S')
  | ct ρ => exact fun σ' H' S' => h σ' H' (S.back S')
  | rt s ρ => exact fun v σ' H' S' => h v σ' H' (VR.back S S')
theorem s_for {X : Cx} {tg iter : Expr} {body : List Stmt} {t : Tg} {src : FI} {f : FS} {pos : Pos} (hp : PassesOwn (model X.prog X.w) X.A X.env X.xe) (hc : X.calm = true) (hi : IX X tg iter src) (hg : GXt X tg t) (hb : BX X body f)
    (hs : ∀ x, foldedSetIterable iter X.env x = pure x := by intro _; rfl) : SX X (.For tg iter body [] pos) (sFor t src f) := ps_imp (ps_for hp hc hi hg hb hs) fun D σ H h => by
  obtain ⟨w, ρ, S, r, hf, k⟩ := h
  obtain ⟨⟨xs, ρ1⟩, h1, hf⟩ := Option.bind_eq_some_iff.mp hf
  have hf : loopF t f xs ρ1 = some r := hf
  refine ⟨w, ρ, S, xs, ρ1, h1, fun J H1 C S1 hC I => ?_⟩
  have hCR : Sub C (w.fill ρ1 σ H1).R := fun a o e => full_of (fun z => (hC a o e).2.1 (.inr z)) (hC a o e).1
  have hCE : ∀ a o, (w.fill ρ1 σ H1).E a → C a = some o → False := fun a o z e => (hC a o e).2.1 (.inl z)
  have kb := k.back S1
  refine ⟨fun i m σ' H' => m = xs.length - i ∧ i ≤ xs.length ∧ ∃ ρ', SR X.K X.mg (w.fill ρ1 σ H1) ρ' σ' H' ∧ loopF t f (xs.drop i) ρ' = some r, ⟨_, rfl, Nat.zero_le _, ρ1, S1.fill, hf⟩, ?_⟩
  rintro i m σ' H' ⟨rfl, hi, ρ', S', hl⟩
  have hS : Sub C H' := fun a o e => S'.keep a o (hCR a o e) (hC a o e).2.2
  by_cases hlt : i < xs.length
  · rw [List.drop_eq_getElem_cons hlt] at hl
    unfold loopF at hl
    obtain ⟨ρ2, h2, hl⟩ := Option.bind_eq_some_iff.mp hl
    obtain ⟨q, h3, hl⟩ := Option.bind_eq_some_iff.mp hl
    refine .inr ⟨I.go i hlt H' hS, fun σ2 H2 => ∃ ρ3, SR X.K X.mg (w.fill ρ1 σ H1) ρ3 σ2 H2 ∧ loopF t f (xs.drop (i + 1)) ρ3 = some r, fun σ2 H2 hN => ⟨xs.length - (i + 1), by omega, rfl, hlt, hN⟩, fun x H2 hy => ?_⟩
    obtain ⟨S2, r2, _⟩ := I.yld i xs[i] (List.getElem?_eq_getElem hlt) _ ρ' σ' H' x H2 S' hCR hCE hy
    refine ⟨_, ρ', xs[i], S2, r2, ρ2, h2, fun σ2 S3 _ => ⟨_, ρ2, S3, q, h3, ?_⟩⟩
    cases q with
    | nx ρ3 => exact fun σ3 H3 S4 => ⟨ρ3, S4, hl⟩
    | ct ρ3 => exact fun σ3 H3 S4 => ⟨ρ3, S4, hl⟩
    | bk ρ3 => cases hl; exact kb
    | rt s ρ3 => cases hl; exact kb
  · have e : i = xs.length := by omega
    subst e
    rw [List.drop_length] at hl
    cases hl
    exact .inl ⟨I.stop H' hS, kb σ' H' S'⟩

/-! ### while -/
/-- turns that no loop here comes to -/
def many : Nat := 2 ^ 4000
/-! ### comprehensions -/
def tTrue : FT := fun ρ => some (true, ρ)
def wipeE (ρ : Ev) : List Nat → Ev
  | [] => ρ
  | i :: vs => (wipeE ρ vs).set i .no
def lcF (vs : List Nat) (t : Tg) (c : FT) (f : FE) : List D → List D → Ev → Option (List D × Ev)
  | [], acc, ρ => some (acc, ρ)
  | d :: r, acc, ρ => (asg t d ρ).bind fun ρ1 => (c ρ1).bind fun p => if p.1 = true then
      (f p.2).bind fun q => (vl q.1).bind fun y => if acc.length < sizeLine then lcF vs t c f r (acc ++ [y]) (wipeE q.2 vs) else none
    else lcF vs t c f r acc (wipeE p.2 vs)
def eLc (vs : List Nat) (t : Tg) (src : FI) (c : FT) (f : FE) : FE := fun ρ => (src ρ).bind fun p => (lcF vs t c f p.1 [] (wipeE p.2 vs)).map fun q => (.ow (.lst q.1), wipeE q.2 vs)
section
variable {K : Fg} {mg : Mg} {w : Wd} {ρ ρ' : Ev} {σ σ' : L2.St} {H : Hp} {p : Addr}
/-- slots of which nothing is known may hold anything -/
theorem SR.swap (S : SR K mg w ρ σ H) (hl : σ'.length = σ.length) (h : ∀ (j : Nat) (s : Sl), ρ[j]? = some s → s ≠ .no → σ'[j]? = σ[j]?) : SR K mg w ρ σ' H := by
  have ho : ∀ {j : Nat} {s : Sl} {d : D}, ρ[j]? = some s → s.own = some d → σ'[j]? = σ[j]? := fun {j s d} h1 h2 => h j s h1 fun z => by rw [z] at h2; cases h2
  have ow : ∀ a, Ownd ρ σ' H a → Ownd ρ σ H a := fun a ⟨j, s, d, b, h1, h2, h3, f⟩ => ⟨j, s, d, b, h1, h2, by rw [← ho h1 h2]; exact h3, f⟩
  refine ⟨S.len.trans hl.symm, fun j s v h1 h2 => ?_, fun i j s t d e b c a h1 h2 h3 h4 h5 h6 f1 f2 => S.injF i j s t d e b c a h1 h2 h3 h4 (by rw [← ho h1 h2]; exact h5) (by rw [← ho h3 h4]; exact h6) f1 f2, fun a z => S.exo a (ow a z), S.kp, S.tabs, S.fresh, S.etr, fun j d e => ?_⟩
  · by_cases hs : s = .no
    · rw [hs]; trivial
    · exact (S.slot j s v h1 (by rw [← h j s h1 hs]; exact h2)).sub fun a z => z.imp id (ow a)
  · rw [h j _ e (fun z => by cases z)]
    exact S.iob j d e
theorem SR.setNo' {i : Nat} {x : Option V} (S : SR K mg w ρ σ H) : SR K mg w (ρ.set i .no) (σ.set i x) H := by
  refine (S.setNo (i := i)).swap (by simp) fun j s h1 h2 => ?_
  by_cases e : i = j
  · subst e
    have hl : i < ρ.length := by simpa using (List.getElem?_eq_some_iff.mp h1).1
    rw [List.getElem?_set_self hl] at h1
    cases h1
    exact absurd rfl h2
  · rw [List.getElem?_set_ne e]
theorem SR.wipes (S : SR K mg w ρ σ H) : ∀ vs : List Nat, SR K mg w (wipeE ρ vs) (wipe σ vs) H
  | [] => S
  | _ :: vs => (S.wipes vs).setNo'
theorem wipeE_no {i : Nat} {s : Sl} : ∀ {vs : List Nat}, (wipeE ρ vs)[i]? = some s → s ≠ .no → i ∉ vs ∧ ρ[i]? = some s
  | [], h, _ => ⟨by simp, h⟩
  | j :: vs, h, hs => by
    have h : ((wipeE ρ vs).set j .no)[i]? = some s := h
    by_cases e : j = i
    · subst e
      have hl : j < (wipeE ρ vs).length := by simpa using (List.getElem?_eq_some_iff.mp h).1
      rw [List.getElem?_set_self hl] at h
      cases h; exact absurd rfl hs
    · rw [List.getElem?_set_ne e] at h
      obtain ⟨h1, h2⟩ := wipeE_no h hs
      exact ⟨fun z => (List.mem_cons.mp z).elim (fun q => e q.symm) h1, h2⟩
theorem wipe_keep {i : Nat} : ∀ {vs : List Nat}, i ∉ vs → (wipe σ vs)[i]? = σ[i]?
  | [], _ => rfl
  | j :: vs, h => by
    show ((wipe σ vs).set j none)[i]? = _
    rw [List.getElem?_set_ne (fun e => h (by rw [e]; exact List.mem_cons_self))]
    exact wipe_keep fun z => h (List.mem_cons_of_mem _ z)
theorem SR.unwipe {vs : List Nat} (S : SR K mg w ρ (wipe σ vs) H) : SR K mg w (wipeE ρ vs) σ H := by
  have S2 : SR K mg w (wipeE ρ vs) (wipe (wipe σ vs) vs) H := S.wipes vs
  refine S2.swap (by rw [wipe_length, wipe_length]) fun j s h1 h2 => ?_
  obtain ⟨n, _⟩ := wipeE_no h1 h2
  rw [wipe_keep n, wipe_keep n]
/-- a reserved thing is written -/
theorem SR.poke {o u : HO} (S : SR K mg w ρ σ H) (hE : w.E p) (hR : w.R p = none) (hu : H p = some u) (hn0 : NT u := by first | assumption | exact fun _ z => by cases z) (hc0 : ∀ q, u ≠ LamX.CodeO p q := by intro q z; unfold LamX.CodeO at z; cases z) : SR K mg w ρ σ (upd H p o) := by
  have no : ¬ Ownd ρ σ H p := fun z => S.exo p z hE
  have hc : ∀ u', H p = some u' → NT u' ∧ ∀ q, u' ≠ LamX.CodeO p q := fun u' z => by rw [hu] at z; cases z; exact ⟨hn0, hc0⟩
  have up : ∀ a o', a ≠ p → H a = some o' → upd H p o a = some o' := fun a o' n e => by rw [upd_ne n]; exact e
  have od := S.od (H' := upd H p o) fun b o' z e _ => up b o' (fun q => no (by rw [← q]; exact z)) e
  have bk : ∀ {i : Nat} {s : Sl} {d : D} {b x : Addr}, ρ[i]? = some s → s.own = some d → σ[i]? = some (some (.ref b)) → Foot (upd H p o) d b x → Foot H d b x := fun {i s d b x} h1 h2 h3 f => by
    obtain ⟨c, e, _, oo⟩ := S.owF h1 h2
    rw [h3] at e
    cases e
    exact oo.foot (fun y z o' e _ => up y o' (fun q => no (by rw [← q]; exact ⟨i, s, d, b, h1, h2, h3, z⟩)) e) f
  refine ⟨S.len, fun i s v h1 h2 => ?_, fun i j s t d e b c a h1 h2 h3 h4 h5 h6 f1 f2 => S.injF i j s t d e b c a h1 h2 h3 h4 h5 h6 (bk h1 h2 h5 f1) (bk h3 h4 h6 f2), fun a z => S.exo a (od.1 a z), S.kp.put hR, S.tabs.put hc, fun a e => S.fresh a ?_, fun a z => ?_, S.iob⟩
  · refine (S.slot i s v h1 h2).step (fun a o' n e => up a o' (fun z => n (by rw [z]; exact .inl hE)) e) (fun a _ z _ => z.imp id (od.1 a)) fun a d b o' ea eo f e => up b o' (fun z => ?_) e
    exact no (by rw [← z]; exact ⟨i, s, d, a, h1, eo, by rw [h2, ea], f⟩)
  · by_cases hb : a = p
    · rw [hb, upd_same] at e; cases e
    · rw [upd_ne hb] at e; exact e
  · by_cases hb : a = p
    · exact ⟨o, by rw [hb, upd_same]⟩
    · obtain ⟨o', h⟩ := S.etr a z
      exact ⟨o', up a o' hb h⟩
theorem SR.poke_ex {o u : HO} (S : SR K mg w ρ σ H) (hE : w.E p) (a : Addr) (z : Ex w.E ρ σ (upd H p o) a) : Ex w.E ρ σ H a :=
  z.imp id ((S.od (H' := upd H p o) fun b o' z e _ => by rw [upd_ne (fun q => S.exo p (by rw [← q]; exact z) hE)]; exact e).1 a)
theorem Rps.poke {o : HO} {O : AP} {ds : List D} {vs : List V} (h : Rps K mg O H ds vs) (hO : O p) : Rps K mg O (upd H p o) ds vs :=
  h.step (fun a o' n e => by rw [upd_ne (fun z => n (by rw [z]; exact hO))]; exact e) fun _ _ z _ => z
end
theorem lc_den {K : Fg} {mg : Mg} {tg : Tg} {src : FI} {c : FT} {f : FE} {vs : List Nat} (hv : ∀ i ∈ tg.ixs, i ∈ vs) {σ : L2.St} {H : Hp} {Q : VK} (h : denE K mg (eLc vs tg src c f) σ H Q) :
    tLc (denI K mg src) (denP K mg tg) (denT K mg c) (denE K mg f) vs σ H Q := by
  obtain ⟨w, ρ, S, sl, ρf, hf, k⟩ := h
  obtain ⟨⟨xs, ρ1⟩, h1, hf⟩ := Option.bind_eq_some_iff.mp hf
  obtain ⟨⟨fin, ρ2⟩, h2, e2⟩ := Option.map_eq_some_iff.mp hf
  cases e2
  refine ⟨w, ρ, S, xs, ρ1, h1, fun J H1 C S1 hC I p hp => ?_⟩
  have nE := S1.not_ex hp
  -- the base world: all that stood is kept, the new list is reserved
  let wb : Wd := (w.fill ρ1 σ H1).plus1 p
  have hwR : wb.R p = none := by
    show full ρ1 σ H1 p = none
    unfold full
    split
    · rfl
    · exact hp
  have Sb : SR K mg wb ρ1 σ (upd H1 p (.lst [])) := (S1.fill).push hp
  have hCR : Sub C wb.R := fun a o e => full_of (fun z => (hC a o e).2.1 (.inr z)) (hC a o e).1
  have hCE : ∀ a o, wb.E a → C a = some o → False := fun a o z e => by
    rcases z with z | z
    · exact (hC a o e).2.1 (.inl z)
    · rw [z] at e
      have q := (hC p o e).1
      rw [hp] at q; cases q
  refine ⟨fun i m H' => m = xs.length - i ∧ i ≤ xs.length ∧ ∃ (ρ' : Ev) (acc : List D) (us : List V), SR K mg wb ρ' (wipe σ vs) H' ∧ H' p = some (.lst us) ∧ Rps K mg (Ex wb.E ρ' (wipe σ vs) H') H' acc us ∧ lcF vs tg c f (xs.drop i) acc ρ' = some (fin, ρ2),
    ⟨_, rfl, Nat.zero_le _, _, [], [], Sb.wipes vs, upd_same, .nil, h2⟩, ?_⟩
  rintro i m H' ⟨rfl, hi, ρ', acc, us, S', hpu, ra, hl⟩
  have hS : Sub C H' := fun a o e => S'.keep a o (hCR a o e) (hC a o e).2.2
  by_cases hlt : i < xs.length
  · rw [List.drop_eq_getElem_cons hlt] at hl
    unfold lcF at hl
    obtain ⟨ρ3, h3, hl⟩ := Option.bind_eq_some_iff.mp hl
    obtain ⟨⟨b, ρ4⟩, h4, hl⟩ := Option.bind_eq_some_iff.mp hl
    refine .inr ⟨I.go i hlt H' hS, fun H2 => ∃ (ρ' : Ev) (acc : List D) (us : List V), SR K mg wb ρ' (wipe σ vs) H2 ∧ H2 p = some (.lst us) ∧ Rps K mg (Ex wb.E ρ' (wipe σ vs) H2) H2 acc us ∧ lcF vs tg c f (xs.drop (i + 1)) acc ρ' = some (fin, ρ2),
      fun H2 hN => ⟨xs.length - (i + 1), by omega, rfl, hlt, hN⟩, fun x H2 hy => ?_⟩
    -- this turn's world: what stands now is kept
    have St := S'.fill
    have hin : Kept wb.R (wb.fill ρ' (wipe σ vs) H').R := S'.in_full
    obtain ⟨S2, r2, kp⟩ := I.yld i xs[i] (List.getElem?_eq_getElem hlt) (wb.fill ρ' (wipe σ vs) H') ρ' (wipe σ vs) H' x H2 St (fun a o e => hin.nt a o (hCR a o e) (hC a o e).2.2) hCE hy
    have npo : ¬ Ownd ρ' (wipe σ vs) H' p := fun z => S'.exo p z (.inr rfl)
    have pin : (wb.fill ρ' (wipe σ vs) H').R p = some (.lst us) := full_of npo hpu
    refine ⟨_, ρ', xs[i], S2, r2, ρ3, h3, fun σ3 S3 a3 => ?_⟩
    have ew : wipe σ3 vs = wipe (wipe σ vs) vs := a3.wip vs hv
    have ww : wipe (wipe σ vs) vs = wipe σ vs := by
      refine List.ext_getElem? fun j => ?_
      by_cases hj : j ∈ vs
      · have key : ∀ (l : List Nat) (τ : L2.St), j ∈ l → (wipe τ l)[j]? = if j < τ.length then some none else none := by
          intro l
          induction l with
          | nil => intro τ h; cases h
          | cons m l ih =>
            intro τ h
            show ((wipe τ l).set m none)[j]? = _
            by_cases e : m = j
            · subst e
              rw [List.getElem?_set, wipe_length]
              simp
            · rw [List.getElem?_set_ne e]
              exact ih τ ((List.mem_cons.mp h).elim (fun q => absurd q.symm e) id)
        rw [key vs _ hj, key vs _ hj, wipe_length]
      · rw [wipe_keep hj]
    refine ⟨ew.trans ww, _, ρ3, S3, b, ρ4, h4, fun H3 S4 => ?_⟩
    have Sback : ∀ {ρ5 : Ev} {H5 : Hp}, SR K mg (wb.fill ρ' (wipe σ vs) H') ρ5 σ3 H5 → SR K mg (wb.fill ρ' (wipe σ vs) H') (wipeE ρ5 vs) (wipe σ vs) H5 := fun {ρ5 H5} q => by
      have q2 := q.wipes vs
      rw [ew, ww] at q2
      exact q2
    cases b with
    | false =>
      have hl : lcF vs tg c f (xs.drop (i + 1)) acc (wipeE ρ4 vs) = some (fin, ρ2) := hl
      have S5 := Sback S4
      exact ⟨_, acc, us, S'.back S5, S5.keep p _ pin, S'.carrys S5 ra, hl⟩
    | true =>
      have hl : ((f ρ4).bind fun q => (vl q.1).bind fun y => if acc.length < sizeLine then lcF vs tg c f (xs.drop (i + 1)) (acc ++ [y]) (wipeE q.2 vs) else none) = some (fin, ρ2) := hl
      obtain ⟨⟨s5, ρ5⟩, h5, hl⟩ := Option.bind_eq_some_iff.mp hl
      obtain ⟨y, hy5, hl⟩ := Option.bind_eq_some_iff.mp hl
      split at hl
      · rename_i hz
        show denE K mg f σ3 H3 _
        refine one S4 h5 hy5 fun v H5 S5 r5 => ?_
        have S6 := Sback S5
        have r6 : Rp K mg (Ex wb.E (wipeE ρ5 vs) (wipe σ vs) H5) H5 y v := by
          refine r5.sub fun a z => ?_
          rcases z with z | ⟨j, s, d, b', z1, z2, z3, z5⟩
          · exact .inl z
          · obtain ⟨n, z4⟩ := wipeE_no z1 (fun q => by rw [q] at z2; cases z2)
            refine .inr ⟨j, s, d, b', z4, z2, ?_, z5⟩
            rw [← ww, ← ew, wipe_keep n] at z3
            exact z3
        have ra6 := S'.carrys S6 ra
        have S7 := S'.back S6
        have e7 : acc.length = us.length := ra.len
        refine ⟨us, S6.keep p _ pin, by rw [← e7]; exact hz, wipeE ρ5 vs, acc ++ [y], us ++ [v], S7.poke (.inr rfl) hwR (S6.keep p _ pin), upd_same, ?_, hl⟩
        exact ((ra6.app (.one r6)).poke (.inl (.inr rfl))).sub fun a z => S7.poke_ex (u := .lst us) (.inr rfl) a z
      · cases hl
  · have e : i = xs.length := by omega
    subst e
    rw [List.drop_length] at hl
    cases hl
    refine .inl ⟨I.stop H' hS, k (.ref p) H' ?_⟩
    have S8 : SR K mg (w.plus1 p) (wipeE _ vs) σ H' := SR.thin (w' := wb) (SR.unwipe S') rfl rfl rfl S1.in_full
    refine VR.mk1 (S1.r_none hp) (S1.fresh p hp) (fun z => nE (.inl z)) (fun z => S8.exo p z (.inr rfl)) S8 (.lst us hpu (ra.sub fun a z => ?_))
    rcases z with z | ⟨j, s, d, b, z1, z2, z3, z5⟩
    · exact .inl z
    · obtain ⟨n, z4⟩ := wipeE_no z1 (fun q => by rw [q] at z2; cases z2)
      exact .inr ⟨j, s, d, b, z4, z2, by rw [wipe_keep n]; exact z3, z5⟩
end T

/-! T6: expressions over plain data. -/
namespace T
open PySem L2

/-! ### names, constants -/
def eVar (i : Nat) : FE := fun ρ => match ρ[i]? with
  | some (.sh d) => some (.sh d, ρ)
  | some (.ow d) => some (.sh d, ρ.set i (.sh d))
  | _ => none
def eC (d : D) : FE := fun ρ => some (.sh d, ρ)
section
variable {X : Cx} {x : Str} {pos : Pos}
theorem e_var (i : Nat) (hN : X.N[i]? = some x := by rfl) (hv : Vis X.env.scope x := by first | exact Or.inl rfl | exact Or.inr (Or.inl rfl) | exact Or.inr (Or.inr rfl)) (hd : (x == ("__debug__" : Str)) = false := by decide)
    (hcd : (x == ("__classdict__" : Str)) = false := by decide) : EX X (.Name x pos) (eVar i) := pe_imp (pe_var hN hv hd hcd) fun σ H Q h => by
  obtain ⟨w, ρ, S, s, ρ', hf, k⟩ := h
  unfold eVar at hf
  split at hf
  · rename_i d hs
    cases hf
    obtain ⟨v, e, r⟩ := S.sh hs
    exact ⟨v, e, k v H ⟨S, r⟩⟩
  · rename_i d hs
    cases hf
    obtain ⟨v, e, S2, r⟩ := S.share hs
    exact ⟨v, e, k v H ⟨S2, r⟩⟩
  · cases hf
theorem e_c {e : Expr} {d : D} {v : V} (h : PE X e (tC v)) (hd : ∀ O H, Rp X.K X.mg O H d v) : EX X e (eC d) := pe_imp h fun σ H Q h => by
  obtain ⟨w, ρ, S, s, ρ', hf, k⟩ := h
  cases hf
  exact k v H ⟨S, hd _ _⟩
theorem e_int {i j pos} : EX X (.Constant (.int i) j pos) (eC (.int i)) := e_c pe_int fun _ _ => .int i
theorem e_bl {b j pos} : EX X (.Constant (.bool b) j pos) (eC (.bl b)) := e_c pe_bl fun _ _ => .bl b
theorem e_non {j pos} : EX X (.Constant .none j pos) (eC .non) := e_c pe_non fun _ _ => .non
theorem e_str {x j pos} : EX X (.Constant (.str x) j pos) (eC (.str x)) := e_c pe_str fun _ _ => .str x
theorem e_gint {i : Int} (hg : Gl X x) (hm : ∃ t, X.mg x = some (.int i t)) (hd : (x == ("__debug__" : Str)) = false := by decide) : EX X (.Name x pos) (eC (.int i)) := e_c (let ⟨t, h⟩ := hm; pe_glob (v := .int i) hg h ⟨t, rfl⟩ hd) fun _ _ => .int i
theorem e_gstr {y : Str} (hg : Gl X x) (hm : ∃ t, X.mg x = some (.str y t)) (hd : (x == ("__debug__" : Str)) = false := by decide) : EX X (.Name x pos) (eC (.str y)) := e_c (let ⟨t, h⟩ := hm; pe_glob (v := .str y) hg h ⟨t, rfl⟩ hd) fun _ _ => .str y
end

/-! ### operators of two places, by values -/
abbrev O2 := D → D → Option Sl
def eBin (op : O2) (f g : FE) : FE := fun ρ => (opt2 f g ρ).bind fun q => (op q.1 q.2.1).map fun s => (s, q.2.2)
structure OpS (X : Cx) (r : R2) (op : O2) : Prop where
  ok : ∀ (w : Wd) (ρ : Ev) (σ : L2.St) (H : Hp) (x y : V) (dx dy : D) (s : Sl) (Q : VK), SR X.K X.mg w ρ σ H → Rp X.K X.mg (Ex w.E ρ σ H) H dx x → Rp X.K X.mg (Ex w.E ρ σ H) H dy y → op dx dy = some s → (∀ v H', VR X.K X.mg w ρ σ H' s v → Q v H') → r x y H Q
/-- one after the other -/
def O2.or (o p : O2) : O2 := fun x y => match o x y with
  | some s => some s
  | none => p x y
section
variable {X : Cx} {a b : Expr} {f g : FE} {pos : Pos} {o p : O2} {r r' : R2}
theorem OpS.or (h : OpS X r o) (h' : OpS X r' p) : OpS X (fun x y H Q => r x y H Q ∨ r' x y H Q) (O2.or o p) := ⟨fun w ρ σ H x y dx dy s Q S rx ry e k => by
  unfold O2.or at e
  split at e
  · rename_i s' e'
    cases e
    exact .inl (h.ok w ρ σ H x y dx dy _ Q S rx ry e' k)
  · exact .inr (h'.ok w ρ σ H x y dx dy _ Q S rx ry e k)⟩
theorem opt2_run {σ : L2.St} {H : Hp} {K : Fg} {mg : Mg} {w : Wd} {ρ ρ' : Ev} {dx dy : D} {R : V → V → Hp → Prop} (S : SR K mg w ρ σ H) (h : opt2 f g ρ = some (dx, dy, ρ'))
    (k : ∀ v1 v2 H2, SR K mg w ρ' σ H2 → Rp K mg (Ex w.E ρ' σ H2) H2 dx v1 → Rp K mg (Ex w.E ρ' σ H2) H2 dy v2 → R v1 v2 H2) : denE K mg f σ H fun v1 H1 => denE K mg g σ H1 fun v2 H2 => R v1 v2 H2 := by
  obtain ⟨s1, ρ1, s2, h1, h2, h3, h4⟩ := opt2_some h
  exact two S h1 h2 h3 h4 k
theorem eBin_run {σ : L2.St} {H : Hp} {Q : VK} (hs : OpS X r o) (h : denE X.K X.mg (eBin o f g) σ H Q) : tOp r (denE X.K X.mg f) (denE X.K X.mg g) σ H Q := by
  obtain ⟨w, ρ, S, s, ρ', hf, k⟩ := h
  obtain ⟨⟨dx, dy, ρ2⟩, h1, hf⟩ := Option.bind_eq_some_iff.mp hf
  obtain ⟨s', h2, e2⟩ := Option.map_eq_some_iff.mp hf
  cases e2
  exact opt2_run S h1 fun v1 v2 H2 S2 r1 r2 => hs.ok w _ σ H2 v1 v2 dx dy _ Q S2 r1 r2 h2 k
theorem e_bin {op : Operator} (ho : OpR X (binaryOp op) r) (hs : OpS X r o) (ha : EX X a f) (hb : EX X b g) : EX X (.BinOp a op b pos) (eBin o f g) := pe_imp (pe_op ho ha hb) fun _ _ _ h => eBin_run hs h
theorem e_cmp {op : CmpOp} (ho : OpR X (compareOp op) r) (hs : OpS X r o) (ha : EX X a f) (hb : EX X b g) (hm : behindInMarks op b = false) : EX X (.Compare a [op] [b] pos) (eBin o f g) := pe_imp (pe_cmpR ho ha hb hm) fun _ _ _ h => eBin_run hs h
/-- a value that is True or False, as a test -/
def tOf (f : FE) : FT := fun ρ => (f ρ).bind fun p => match p.1 with
  | .sh (.bl b) => some (b, p.2)
  | _ => none
theorem tOf_some {f : FE} {ρ ρ' : Ev} {b : Bool} (h : tOf f ρ = some (b, ρ')) : f ρ = some (.sh (.bl b), ρ') := by
  obtain ⟨⟨s, ρ1⟩, h1, hf⟩ := Option.bind_eq_some_iff.mp h
  match s, h1, hf with
  | .sh (.bl b'), h1, hf => cases hf; exact h1
  | .sh .non, _, hf => cases hf
  | .sh (.int _), _, hf => cases hf
  | .sh (.str _), _, hf => cases hf
  | .sh (.tup _), _, hf => cases hf
  | .sh (.lst _), _, hf => cases hf
  | .sh (.scr _), _, hf => cases hf
  | .sh (.obj _ _ _), _, hf => cases hf
  | .sh (.dic _ _), _, hf => cases hf
  | .sh (.dit _ _), _, hf => cases hf
  | .sh (.exc _ _ _), _, hf => cases hf
  | .sh (.lam _ _ _), _, hf => cases hf
  | .sh (.ty _), _, hf => cases hf
  | .no, _, hf => cases hf
  | .ow _, _, hf => cases hf
  | .io _, _, hf => cases hf
theorem tOf_run {K : Fg} {mg : Mg} {f : FE} {σ : L2.St} {H : Hp} {Q : Bool → Hp → Prop} (h : denT K mg (tOf f) σ H Q) : denE K mg f σ H fun x H' => ∃ k, x = .bl k ∧ Q k H' := by
  obtain ⟨w, ρ, S, b, ρ', hf, k⟩ := h
  refine ⟨w, ρ, S, _, ρ', tOf_some hf, fun v H1 hv => ?_⟩
  obtain ⟨S1, r1⟩ := hv
  cases r1
  exact ⟨b, rfl, k H1 S1⟩
theorem t_cmp {op : CmpOp} (ho : OpR X (compareOp op) r) (hs : OpS X r o) (ha : EX X a f) (hb : EX X b g) (hm : behindInMarks op b = false) : TX X (.Compare a [op] [b] pos) (tOf (eBin o f g)) := pt_imp (pt_cmpR ho ha hb hm) fun σ H Q h => eBin_run hs (tOf_run h)
theorem t_val {e : Expr} (h : EX X e f) (he : ∀ whole, isTrue e X.env whole = (do let v ← whole; standAt e.pos; holding [v] (truthy v)) := by intro _; rfl) : TX X e (tOf f) := pt_imp (pt_val h he) fun σ H Q h => tOf_run h
end

/-! ### chains, and, or, not, if -/
def eChain (o p : O2) (f g h : FE) : FE := fun ρ => (opt2 f g ρ).bind fun q => (o q.1 q.2.1).bind fun s => match s with
  | .sh (.bl true) => (h q.2.2).bind fun t => (vl t.1).bind fun z => (p q.2.1 z).map fun u => (u, t.2)
  | .sh (.bl false) => some (.sh (.bl false), q.2.2)
  | _ => none
def tAnd' (c d : FT) : FT := fun ρ => (c ρ).bind fun p => if p.1 = true then d p.2 else some (false, p.2)
def tOr' (c d : FT) : FT := fun ρ => (c ρ).bind fun p => if p.1 = true then some (true, p.2) else d p.2
def tNot' (c : FT) : FT := fun ρ => (c ρ).map fun p => (!p.1, p.2)
def eIf (c : FT) (f g : FE) : FE := fun ρ => (c ρ).bind fun p => if p.1 = true then f p.2 else g p.2
/-- and, or of truth values -/
def eAnd (f g : FE) : FE := fun ρ => (tOf f ρ).bind fun p => if p.1 = true then g p.2 else some (.sh (.bl false), p.2)
def eOr (f g : FE) : FE := fun ρ => (tOf f ρ).bind fun p => if p.1 = true then some (.sh (.bl true), p.2) else g p.2
section
variable {X : Cx} {a b c e : Expr} {rest : List Expr} {f g h : FE} {t u : FT} {pos : Pos} {o p : O2} {r r' : R2}
abbrev WX (X : Cx) (e : Expr) (f : FT) : Prop := PW X e (denT X.K X.mg f)
theorem pw_imp {t u : TT} (h : PW X e t) (k : ∀ σ H Q, u σ H Q → t σ H Q) : PW X e u := ⟨fun wh pins s σ H Q I q => h.run wh pins s σ H Q I (k σ H Q q)⟩
theorem chain_run {σ : L2.St} {H : Hp} {Q : VK} (hs : OpS X r o) (hs' : OpS X r' p) (q : denE X.K X.mg (eChain o p f g h) σ H Q) : tChain r r' (denE X.K X.mg f) (denE X.K X.mg g) (denE X.K X.mg h) σ H Q := by
  obtain ⟨w, ρ, S, s, ρ', hf, k⟩ := q
  obtain ⟨⟨dx, dy, ρ2⟩, h1, hf⟩ := Option.bind_eq_some_iff.mp hf
  obtain ⟨s1, h2, hf⟩ := Option.bind_eq_some_iff.mp hf
  refine opt2_run S h1 fun v1 v2 H2 S2 r1 r2 => hs.ok (w.fill _ σ H2) _ σ H2 v1 v2 dx dy s1 _ S2.fill r1 r2 h2 fun z H3 hz => ?_
  split at hf
  · obtain ⟨S3, rz⟩ := hz
    cases rz
    obtain ⟨⟨t1, ρ3⟩, h3, hf⟩ := Option.bind_eq_some_iff.mp hf
    obtain ⟨dz, h4, hf⟩ := Option.bind_eq_some_iff.mp hf
    obtain ⟨u1, h5, e5⟩ := Option.map_eq_some_iff.mp hf
    cases e5
    refine ⟨true, rfl, ?_⟩
    rw [if_pos rfl]
    refine one S3 h3 h4 fun v3 H4 S4 r3 => ?_
    exact hs'.ok w _ σ H4 v2 v3 dy dz _ Q (S2.back S4) (S2.carry S4 r2) r3 h5 k
  · cases hf
    obtain ⟨S3, rz⟩ := hz
    cases rz
    refine ⟨false, rfl, ?_⟩
    rw [if_neg (by decide)]
    exact k _ _ ⟨S2.back S3, .bl false⟩
  · cases hf
theorem t_chain {op op' : CmpOp} (ho : OpR X (compareOp op) r) (ho' : OpR X (compareOp op') r') (hs : OpS X r o) (hs' : OpS X r' p) (ha : EX X a f) (hb : EX X b g) (hc : EX X c h)
    (hm : lastMarks [op, op'] [b, c] = false := by with_unfolding_all rfl) : TX X (.Compare a [op, op'] [b, c] pos) (tOf (eChain o p f g h)) := pt_imp (pt_chain ho ho' ha hb hc hm) fun σ H Q q => chain_run hs hs' (tOf_run q)
theorem w_and1 (ha : TX X a t) : WX X (.BoolOp .And [a] pos) t := pw_and1 ha
theorem w_or1 (ha : TX X a t) : WX X (.BoolOp .Or [a] pos) t := pw_or1 ha
theorem w_and (ha : TX X a t) (hb : WX X (.BoolOp .And (b :: rest) pos) u) : WX X (.BoolOp .And (a :: b :: rest) pos) (tAnd' t u) := pw_imp (pw_and ha hb) fun σ H Q h => by
  obtain ⟨w, ρ, S, c, ρ', hf, k⟩ := h
  obtain ⟨⟨c1, ρ1⟩, h1, hf⟩ := Option.bind_eq_some_iff.mp hf
  refine ⟨w, ρ, S, c1, ρ1, h1, fun H1 S1 => ?_⟩
  cases c1 with
  | true => exact ⟨w, ρ1, S1, c, ρ', hf, k⟩
  | false => cases hf; exact k H1 S1
theorem w_or (ha : TX X a t) (hb : WX X (.BoolOp .Or (b :: rest) pos) u) : WX X (.BoolOp .Or (a :: b :: rest) pos) (tOr' t u) := pw_imp (pw_or ha hb) fun σ H Q h => by
  obtain ⟨w, ρ, S, c, ρ', hf, k⟩ := h
  obtain ⟨⟨c1, ρ1⟩, h1, hf⟩ := Option.bind_eq_some_iff.mp hf
  refine ⟨w, ρ, S, c1, ρ1, h1, fun H1 S1 => ?_⟩
  cases c1 with
  | false => exact ⟨w, ρ1, S1, c, ρ', hf, k⟩
  | true => cases hf; exact k H1 S1
theorem t_w (h : WX X a t) : TX X a t := h.pt
theorem t_not (ha : TX X a t) : TX X (.UnaryOp .Not a pos) (tNot' t) := pt_imp (pt_not ha) fun σ H Q h => by
  obtain ⟨w, ρ, S, c, ρ', hf, k⟩ := h
  obtain ⟨⟨c1, ρ1⟩, h1, e1⟩ := Option.map_eq_some_iff.mp hf
  cases e1
  exact ⟨w, ρ, S, c1, ρ1, h1, k⟩
theorem e_if (hc : TX X c t) (ha : EX X a f) (hb : EX X b g) : EX X (.IfExp c a b pos) (eIf t f g) := pe_imp (pe_ifExp hc ha hb) fun σ H Q h => by
  obtain ⟨w, ρ, S, s, ρ', hf, k⟩ := h
  obtain ⟨⟨c1, ρ1⟩, h1, hf⟩ := Option.bind_eq_some_iff.mp hf
  refine ⟨w, ρ, S, c1, ρ1, h1, fun H1 S1 => ?_⟩
  cases c1 with
  | true => exact ⟨w, ρ1, S1, s, ρ', hf, k⟩
  | false => exact ⟨w, ρ1, S1, s, ρ', hf, k⟩
theorem e_one {op : BoolOp} (ha : EX X a f) : EX X (.BoolOp op [a] pos) f := pe_one ha
theorem e_and (ha : EX X a f) (hb : EX X (.BoolOp .And (b :: rest) pos) g) : EX X (.BoolOp .And (a :: b :: rest) pos) (eAnd f g) := pe_imp (pe_and ha hb) fun σ H Q h => by
  obtain ⟨w, ρ, S, s, ρ', hf, k⟩ := h
  obtain ⟨⟨c1, ρ1⟩, h1, hf⟩ := Option.bind_eq_some_iff.mp hf
  refine tOf_run ⟨w, ρ, S, c1, ρ1, h1, fun H1 S1 => ?_⟩
  cases c1 with
  | true => exact ⟨w, ρ1, S1, s, ρ', hf, k⟩
  | false => cases hf; exact k _ H1 ⟨S1, .bl false⟩
theorem e_or (ha : EX X a f) (hb : EX X (.BoolOp .Or (b :: rest) pos) g) : EX X (.BoolOp .Or (a :: b :: rest) pos) (eOr f g) := pe_imp (pe_or ha hb) fun σ H Q h => by
  obtain ⟨w, ρ, S, s, ρ', hf, k⟩ := h
  obtain ⟨⟨c1, ρ1⟩, h1, hf⟩ := Option.bind_eq_some_iff.mp hf
  refine tOf_run ⟨w, ρ, S, c1, ρ1, h1, fun H1 S1 => ?_⟩
  cases c1 with
  | false => exact ⟨w, ρ1, S1, s, ρ', hf, k⟩
  | true => cases hf; exact k _ H1 ⟨S1, .bl true⟩
end

/-! ### numbers -/
def oI (g : Int → Int → D) : O2 := fun x y => match x, y with
  | .int i, .int j => some (.sh (g i j))
  | _, _ => none
def oIc (C : Int → Int → Prop) [∀ i j, Decidable (C i j)] (g : Int → Int → D) : O2 := fun x y => match x, y with
  | .int i, .int j => if C i j then some (.sh (g i j)) else none
  | _, _ => none
/-- data that needs no heap -/
inductive Fl (K : Fg) (mg : Mg) : D → V → Prop where
  | int (i : Int) : Fl K mg (.int i) (.int i)
  | bl (b : Bool) : Fl K mg (.bl b) (.bl b)
  | str (x : Str) : Fl K mg (.str x) (.str x)
  | non : Fl K mg .non .non
theorem Fl.rp {K : Fg} {mg : Mg} {d : D} {v : V} (h : Fl K mg d v) (O : AP) (H : Hp) : Rp K mg O H d v := by
  cases h with
  | int i => exact .int i
  | bl b => exact .bl b
  | str x => exact .str x
  | non => exact .non
section
variable {X : Cx}
theorem s_rI0 {g : Int → Int → V} {g' : Int → Int → D} (hg : ∀ i j, Fl X.K X.mg (g' i j) (g i j)) : OpS X (rI0 g) (oI g') := ⟨fun w ρ σ H x y dx dy s Q S rx ry e k => by
  unfold oI at e
  split at e
  · cases e
    cases rx; cases ry
    exact ⟨_, _, rfl, rfl, k _ _ ⟨S, (hg _ _).rp _ _⟩⟩
  · cases e⟩
theorem s_rI {C : Int → Int → Prop} {C' : Int → Int → Prop} [∀ i j, Decidable (C' i j)] {g : Int → Int → V} {g' : Int → Int → D} (hc : ∀ i j, C' i j → C i j) (hg : ∀ i j, Fl X.K X.mg (g' i j) (g i j)) : OpS X (rI C g) (oIc C' g') := ⟨fun w ρ σ H x y dx dy s Q S rx ry e k => by
  unfold oIc at e
  split at e
  · split at e
    · rename_i h
      cases e
      cases rx; cases ry
      exact ⟨_, _, rfl, rfl, hc _ _ h, k _ _ ⟨S, (hg _ _).rp _ _⟩⟩
    · cases e
  · cases e⟩
/-- a way of computing y from x with a bound that is seen at once: sizes of numbers -/
structure small (i : Int) : Prop where
  lo : -(2 ^ 4000) < i
  hi : i < 2 ^ 4000
noncomputable instance (i : Int) : Decidable (small i) := Classical.propDecidable _
theorem small_log {i : Int} (h : small i) : i.natAbs.log2 < 4001 := by
  have h1 : i.natAbs < 2 ^ 4000 := by
    have e : ((2 : Int) ^ 4000) = ((2 ^ 4000 : Nat) : Int) := by rw [Int.natCast_pow]; rfl
    obtain ⟨a, b⟩ := h
    rw [e] at a b
    generalize (2 ^ 4000 : Nat) = n at a b ⊢
    omega
  have := PySem.Flt.log2_lt_of (by decide : 0 < 4000) h1
  omega
def subO : O2 := oI fun i j => .int (i - j)
noncomputable def mulO : O2 := oIc (fun i j => small i ∧ small j) fun i j => .int (i * j)
noncomputable def divO : O2 := oIc (fun i j => 0 < j ∧ small j) fun i j => .int (i / j)
def modO : O2 := oIc (fun _ j => 0 < j) fun i j => .int (i % j)
theorem x_sub : OpS X (rI0 fun i j => .int (i - j)) subO := s_rI0 fun _ _ => .int _
theorem x_mul : OpS X (rI CMulW fun i j => .int (i * j)) mulO := s_rI (fun i j h => by
  have h1 := small_log h.1
  have h2 := small_log h.2
  show _ + _ < 1000000
  omega) fun _ _ => .int _
theorem x_div : OpS X (rI CDivW fun i j => .int (i / j)) divO := s_rI (fun i j h => ⟨h.1, by have := small_log h.2; omega⟩) fun _ _ => .int _
theorem x_mod : OpS X (rI (fun _ j => 0 < j) fun i j => .int (i % j)) modO := s_rI (fun _ _ h => h) fun _ _ => .int _
def powO : O2 := oIc (fun i j => 0 ≤ j ∧ j ≤ 1000000 ∧ i.natAbs < 2 ^ 64) fun i j => .int (i ^ j.toNat)
theorem x_pow : OpS X (rI CPow fun i j => .int (i ^ j.toNat)) powO := s_rI (fun _ _ h => h) fun _ _ => .int _
def ltO : O2 := oI fun i j => .bl (decide (i < j))
def leO : O2 := oI fun i j => .bl (decide (i ≤ j))
def gtO : O2 := oI fun i j => .bl (decide (j < i))
def geO : O2 := oI fun i j => .bl (decide (j ≤ i))
theorem x_lt : OpS X (rI0 fun i j => .bl (decide (i < j))) ltO := s_rI0 fun _ _ => .bl _
theorem x_le : OpS X (rI0 fun i j => .bl (decide (i ≤ j))) leO := s_rI0 fun _ _ => .bl _
theorem x_gt : OpS X (rI0 fun i j => .bl (decide (j < i))) gtO := s_rI0 fun _ _ => .bl _
theorem x_ge : OpS X (rI0 fun i j => .bl (decide (j ≤ i))) geO := s_rI0 fun _ _ => .bl _
end

/-! ### equality -/
mutual
def D.py : D → Option PyData
  | .non => some .none
  | .bl b => some (.bool b)
  | .int i => some (.int i)
  | .str x => some (.str x)
  | .tup ds => (D.pys ds).map .tuple
  | .tpw ds => (D.pys ds).map .tuple
  | .lst ds => (D.pys ds).map .list
  | .scr ds => (D.pys ds).map .list
  | .obj _ _ _ => none
  | .dic _ _ => none
  | .dit _ _ => none
  | .exc _ _ _ => none
  | .lam _ _ _ => none
  | .obx _ _ _ => none
  | .dix _ _ => none
  | .stn _ _ => none
  | .box _ => none
  | .ty _ => none
def D.pys : List D → Option (List PyData)
  | [] => some []
  | d :: ds => d.py.bind fun p => (D.pys ds).map fun ps => p :: ps
end
section
variable {K : Fg} {mg : Mg} {O : AP} {H : Hp}
mutual
theorem Rp.dp : ∀ {d : D} {v : V} {p : PyData}, Rp K mg O H d v → d.py = some p → Dp K H v p
  | _, _, _, .non, e => by cases e; exact .non
  | _, _, _, .bl b, e => by cases e; exact .bl b
  | _, _, _, .int i, e => by cases e; exact .int i
  | _, _, _, .str x, e => by cases e; exact .str x
  | _, _, _, .tup h _ r, e => by
    obtain ⟨ps, hp, e2⟩ := Option.map_eq_some_iff.mp e
    cases e2
    exact .tup (.inl (.inr ⟨_, h.1⟩)) (Rps.dps r hp)
  | _, _, _, .tpw h r, e => by
    obtain ⟨ps, hp, e2⟩ := Option.map_eq_some_iff.mp e
    cases e2
    exact .tup (h.elim (fun z => .inl (.inl z.1)) fun z => z.at H) (Rps.dps r hp)
  | _, _, _, .lst h r, e => by
    obtain ⟨ps, hp, e2⟩ := Option.map_eq_some_iff.mp e
    cases e2
    exact .lst (.inl (.inl h.1)) (Rps.dps r hp)
  | _, _, _, .scr h r, e => by
    obtain ⟨ps, hp, e2⟩ := Option.map_eq_some_iff.mp e
    cases e2
    exact .lst (h.elim (fun z => .inl z.1) fun z => z.at H) (Rps.dps r hp)
  | _, _, _, .obj _ _ _ _ _ _, e => by cases e
  | _, _, _, .dic _ _ _ _, e => by cases e
  | _, _, _, .dit _ _ _ _, e => by cases e
  | _, _, _, .exc _ _ _ _ _ _, e => by cases e
  | _, _, _, .lam _, e => by cases e
  | _, _, _, .obx _ _ _ _ _ _, e => by cases e
  | _, _, _, .dix _ _ _ _, e => by cases e
  | _, _, _, .stn _, e => by cases e
  | _, _, _, .ty _, e => by cases e
theorem Rps.dps : ∀ {ds : List D} {vs : List V} {ps : List PyData}, Rps K mg O H ds vs → D.pys ds = some ps → DpAll K H vs ps
  | _, _, _, .nil, e => by cases e; exact .nil
  | _, _, _, .cons h r, e => by
    obtain ⟨p, hp, e⟩ := Option.bind_eq_some_iff.mp e
    obtain ⟨ps, hps, e2⟩ := Option.map_eq_some_iff.mp e
    cases e2
    exact .cons (Rp.dp h hp) (Rps.dps r hps)
end
end
/-- are they equal, as far as it is told -/
def deq (x y : D) : Option Bool := match x, y with
  | .int i, .int j => some (i == j)
  | .bl i, .bl j => some (i == j)
  | .str i, .str j => some (i == j)
  | .non, .non => some true
  | .non, .int _ => some false
  | .int _, .non => some false
  | .non, .bl _ => some false
  | .bl _, .non => some false
  | .non, .str _ => some false
  | .str _, .non => some false
  | x, y => x.py.bind fun p => y.py.bind fun q => if SeqAt.shaped p = true ∧ SeqAt.shaped q = true then some (PyData.eqv p q) else none
def eqO : O2 := fun x y => (deq x y).map fun b => .sh (.bl b)
def neO : O2 := fun x y => (deq x y).map fun b => .sh (.bl (!b))
def rEqA (K : Fg) : R2 := fun x y H Q => rEq x y H Q ∨ rEqD K x y H Q
def rNeA (K : Fg) : R2 := fun x y H Q => rNe x y H Q ∨ rNeD K x y H Q
section
variable {X : Cx}
theorem op_eqA (hu : X.A.units + 64 < cLine) : OpR X (compareOp .Eq) (rEqA X.K) := op_eq.or (op_eqD hu)
theorem op_neA (hu : X.A.units + 64 < cLine) : OpR X (compareOp .NotEq) (rNeA X.K) := op_ne.or (op_neD hu)
theorem deq_ok {O O' : AP} {H : Hp} {x y : V} {dx dy : D} {b : Bool} (rx : Rp X.K X.mg O H dx x) (ry : Rp X.K X.mg O' H dy y) (h : deq dx dy = some b) :
    (scal x y = true ∧ decide (x = y) = b) ∨ ∃ d e, Dp X.K H x d ∧ Dp X.K H y e ∧ SeqAt.shaped d = true ∧ SeqAt.shaped e = true ∧ PyData.eqv d e = b := by
  unfold deq at h
  split at h
  · cases h; cases rx; cases ry; exact .inl ⟨rfl, dec_int⟩
  · cases h; cases rx; cases ry; exact .inl ⟨rfl, dec_bl⟩
  · cases h; cases rx; cases ry; exact .inl ⟨rfl, dec_str⟩
  · cases h; cases rx; cases ry; exact .inl ⟨rfl, by simp⟩
  · cases h; cases rx; cases ry; exact .inl ⟨rfl, by simp⟩
  · cases h; cases rx; cases ry; exact .inl ⟨rfl, by simp⟩
  · cases h; cases rx; cases ry; exact .inl ⟨rfl, by simp⟩
  · cases h; cases rx; cases ry; exact .inl ⟨rfl, by simp⟩
  · cases h; cases rx; cases ry; exact .inl ⟨rfl, by simp⟩
  · cases h; cases rx; cases ry; exact .inl ⟨rfl, by simp⟩
  · obtain ⟨p, hp, h⟩ := Option.bind_eq_some_iff.mp h
    obtain ⟨q, hq, h⟩ := Option.bind_eq_some_iff.mp h
    split at h
    · rename_i hs
      cases h
      exact .inr ⟨p, q, rx.dp hp, ry.dp hq, hs.1, hs.2, rfl⟩
    · cases h
theorem x_eq : OpS X (rEqA X.K) eqO := ⟨fun w ρ σ H x y dx dy s Q S rx ry e k => by
  obtain ⟨b, hb, e2⟩ := Option.map_eq_some_iff.mp e
  subst e2
  rcases deq_ok rx ry hb with ⟨h1, h2⟩ | ⟨d, e, h1, h2, h3, h4, h5⟩
  · exact .inl ⟨h1, by rw [h2]; exact k _ _ ⟨S, .bl b⟩⟩
  · exact .inr ⟨d, e, h1, h2, h3, h4, by rw [h5]; exact k _ _ ⟨S, .bl b⟩⟩⟩
theorem x_ne : OpS X (rNeA X.K) neO := ⟨fun w ρ σ H x y dx dy s Q S rx ry e k => by
  obtain ⟨b, hb, e2⟩ := Option.map_eq_some_iff.mp e
  subst e2
  rcases deq_ok rx ry hb with ⟨h1, h2⟩ | ⟨d, e, h1, h2, h3, h4, h5⟩
  · exact .inl ⟨h1, by rw [h2]; exact k _ _ ⟨S, .bl _⟩⟩
  · exact .inr ⟨d, e, h1, h2, h3, h4, by rw [h5]; exact k _ _ ⟨S, .bl _⟩⟩⟩
def D.isNon : D → Bool
  | .non => true
  | _ => false
/-- x is None -/
def isNonO : O2 := fun x y => match y with
  | .non => some (.sh (.bl x.isNon))
  | _ => none
def notNonO : O2 := fun x y => match y with
  | .non => some (.sh (.bl (!x.isNon)))
  | _ => none
theorem rp_non {K : Fg} {mg : Mg} {O : AP} {H : Hp} {d : D} {v : V} (h : Rp K mg O H d v) : decide (v = .non) = d.isNon := by
  cases h <;> simp [D.isNon]
theorem x_isN : OpS X (fun x y H Q => y = .non ∧ Q (.bl (decide (x = .non))) H) isNonO := ⟨fun w ρ σ H x y dx dy s Q S rx ry e k => by
  unfold isNonO at e
  split at e
  · cases e; cases ry
    refine ⟨rfl, ?_⟩
    rw [rp_non rx]
    exact k _ _ ⟨S, .bl _⟩
  · cases e⟩
theorem x_notN : OpS X (fun x y H Q => y = .non ∧ Q (.bl (!decide (x = .non))) H) notNonO := ⟨fun w ρ σ H x y dx dy s Q S rx ry e k => by
  unfold notNonO at e
  split at e
  · cases e; cases ry
    refine ⟨rfl, ?_⟩
    rw [rp_non rx]
    exact k _ _ ⟨S, .bl _⟩
  · cases e⟩
end

/-! ### subscripts -/
def dIx (x y : D) : Option Sl := match x, y with
  | .lst ds, .int i => (atI ds i).map .sh
  | .scr ds, .int i => (atI ds i).map .sh
  | .tup ds, .int i => (atI ds i).map .sh
  | .str z, .int i => if z.length ≤ sizeLine then (atI z.cps.toList i).map fun c => .sh (.str ⟨#[c]⟩) else none
  | _, _ => none
theorem Rps.atI {K : Fg} {mg : Mg} {O : AP} {H : Hp} {ds : List D} {vs : List V} {i : Int} {d : D} (r : Rps K mg O H ds vs) (h : atI ds i = some d) : ∃ v, L2.atI vs i = some v ∧ Rp K mg O H d v := by
  obtain ⟨j, hj, e⟩ := Option.bind_eq_some_iff.mp h
  obtain ⟨v, hv, q⟩ := r.get e
  rw [r.len] at hj
  exact ⟨v, Option.bind_eq_some_iff.mpr ⟨j, hj, hv⟩, q⟩
section
variable {X : Cx}
theorem x_ix : OpS X (rIx X.K) dIx := ⟨fun w ρ σ H x y dx dy s Q S rx ry e k => by
  have seq : ∀ {d : D} {ds : List D} {i : Int} {v : V}, d.items = some ds → Rp X.K X.mg (Ex w.E ρ σ H) H d v → (atI ds i).map Sl.sh = some s → y = .int i → rIx X.K v y H Q := fun {d ds i v} hd r e ey => by
    obtain ⟨a, vs, rfl, hs, rr⟩ := r.itemsAt hd
    obtain ⟨d', h1, e2⟩ := Option.map_eq_some_iff.mp e
    cases e2
    obtain ⟨v, hv, q⟩ := rr.atI h1
    exact .inl ⟨a, vs, i, v, rfl, ey, hs, hv, k _ _ ⟨S, q⟩⟩
  unfold dIx at e
  split at e
  · cases ry; exact seq rfl rx e rfl
  · cases ry; exact seq rfl rx e rfl
  · cases ry
    obtain ⟨a, vs, rfl, hs, rr⟩ := rx.tupAt
    obtain ⟨d', h1, e2⟩ := Option.map_eq_some_iff.mp e
    cases e2
    obtain ⟨v, hv, q⟩ := rr.atI h1
    exact .inr (.inl ⟨a, vs, _, v, rfl, rfl, hs, hv, k _ _ ⟨S, q⟩⟩)
  · split at e
    · rename_i hz
      cases ry; cases rx
      obtain ⟨c, h1, e2⟩ := Option.map_eq_some_iff.mp e
      cases e2
      exact .inr (.inr ⟨_, _, c, rfl, rfl, hz, h1, k _ _ ⟨S, .str _⟩⟩)
    · cases e
  · cases e⟩
/-- the data in a slot, without sharing it -/
def peek (ρ : Ev) (i : Nat) : Option D := (ρ[i]?).bind fun s => match s with
  | .sh d => some d
  | .ow d => some d
  | .io d => some d
  | .no => none
/-- x[e], x a name: what stands there behind e -/
def eIxV (i : Nat) (f : FE) : FE := fun ρ => (peek ρ i).bind fun _ => (f ρ).bind fun p => (vl p.1).bind fun y => (peek p.2 i).bind fun x => (dIx x y).map fun s => (s, p.2)
theorem peek_list {K : Fg} {mg : Mg} {w : Wd} {ρ : Ev} {σ : L2.St} {H : Hp} {i : Nat} {d : D} (S : SR K mg w ρ σ H) (h : peek ρ i = some d) :
    (∃ v, σ[i]? = some (some v) ∧ Rp K mg (Ex w.E ρ σ H) H d v) ∨ ∃ a, σ[i]? = some (some (.ref a)) ∧ Own K mg (Ex w.E ρ σ H) H d a := by
  obtain ⟨s, hs, h⟩ := Option.bind_eq_some_iff.mp h
  cases s with
  | no => cases h
  | sh d' => cases h; exact .inl (S.sh hs)
  | ow d' => cases h; obtain ⟨a, e, _, o⟩ := S.ow hs rfl; exact .inr ⟨a, e, o⟩
  | io d' => cases h; obtain ⟨a, e, _, o⟩ := S.ow hs rfl; exact .inr ⟨a, e, o⟩
theorem peek_slot {K : Fg} {mg : Mg} {w : Wd} {ρ : Ev} {σ : L2.St} {H : Hp} {i : Nat} {d : D} (S : SR K mg w ρ σ H) (h : peek ρ i = some d) : ∃ v, σ[i]? = some (some v) := by
  rcases peek_list S h with ⟨v, e, _⟩ | ⟨a, e, _⟩
  · exact ⟨v, e⟩
  · exact ⟨_, e⟩
theorem e_ixV (i : Nat) {x : Str} {b : Expr} {f : FE} {pos p : Pos} (hb : EX X b f) (hN : X.N[i]? = some x := by rfl) (hv : Vis X.env.scope x := by first | exact Or.inl rfl | exact Or.inr (Or.inl rfl) | exact Or.inr (Or.inr rfl))
    (hd : (x == ("__debug__" : Str)) = false := by decide) (hcd : (x == ("__classdict__" : Str)) = false := by decide) (hp : PlainIx b := by exact fun _ _ => rfl) : EX X (.Subscript (.Name x p) b pos) (eIxV i f) :=
  pe_imp (pe_ix ix_seq (pe_var hN hv hd hcd) hb hp) fun σ H Q h => by
  obtain ⟨w, ρ, S, s, ρ', hf, k⟩ := h
  obtain ⟨d0, hp0, hf⟩ := Option.bind_eq_some_iff.mp hf
  obtain ⟨⟨s1, ρ1⟩, h1, hf⟩ := Option.bind_eq_some_iff.mp hf
  obtain ⟨y, hy, hf⟩ := Option.bind_eq_some_iff.mp hf
  obtain ⟨d, hpk, hf⟩ := Option.bind_eq_some_iff.mp hf
  obtain ⟨s2, h2, e2⟩ := Option.map_eq_some_iff.mp hf
  cases e2
  obtain ⟨v, ev⟩ := peek_slot S hp0
  refine ⟨v, ev, one S h1 hy fun u H1 S1 r1 => ?_⟩
  rcases peek_list S1 hpk with ⟨v', e, r⟩ | ⟨a, e, o⟩
  · rw [ev] at e; cases e
    exact x_ix.ok w _ σ H1 v u d y _ Q S1 r r1 h2 k
  · rw [ev] at e; cases e
    cases d with
    | lst ds =>
      obtain ⟨vs, hs, rr⟩ := o
      cases y with
      | int j =>
        cases r1
        obtain ⟨d', g1, e2⟩ := Option.map_eq_some_iff.mp h2
        cases e2
        obtain ⟨z, hz, q⟩ := rr.atI g1
        exact .inl ⟨a, vs, j, z, rfl, rfl, .inl (.inl hs), hz, k _ _ ⟨S1, q⟩⟩
      | _ => cases h2
    | obj c ns ds => cases h2
    | dic ks ds => cases h2
    | dit ks ds => cases h2
    | _ => first | cases h2 | exact nomatch o
end
end T

set_option maxHeartbeats 4000000
/-! TB: tuples laid as things that never change, of which the whole object is known (no dict of their own). -/
namespace T
open PySem PySem.Spec PyProof.Rows L2
/-- a new tuple -/
def newT (xs : List V) (H : Hp) (Q : VK) : Prop := ∀ p o, o.dict = none → H p = none → Q (.ref p) (upd H p (.frz o (.tup xs)))
section
variable {X : Cx} {es : List Expr} {t : TA} {pos : Pos}
theorem new_ok {pins : List (Addr × Obj)} {σ : L2.St} {H : Hp} {s : Shared} {h' : Heap} {xs : List V} {its : List Value} {Q : VK} (I : Inv X pins σ H { s with heap := h' }) (hz : xs.length ≤ sizeLine) (r : Vals xs its) (q : newT xs H Q) :
    EP X pins σ Q (.ref h'.objs.size) { s with heap := h'.push { cls := .type "tuple", data := .seq its.toArray } } := by
  refine ⟨.ref h'.objs.size, upd H h'.objs.size (.frz { cls := .type "tuple", data := .seq its.toArray } (.tup xs)), I.laid (t' := s.toks) (fun b u e => Heap.get?_push_of_some _ e) (Nat.le_refl _) ?_, rfl, q _ _ rfl (I.hok.fresh (Nat.le_refl _))⟩
  exact ⟨Heap.get?_push_size _ rfl, hz, its, r, IsTup.new _ _⟩
def tTupB (t : TA) : TE := fun σ H Q => t σ H fun xs H1 => xs.length ≤ sizeLine ∧ newT xs H1 Q
theorem pe_tupB {x1} (h : PA X es t) : PE X (.Tuple es x1 pos) (tTupB t) := by
  refine ⟨fun pins s σ H Q I hq => ?_⟩
  refine wpAny_Tuple_spliced (thn (h.run pos pins s σ H _ I hq) fun us s1 ⟨xs, H1, I1, r, z, q⟩ => ⟨by rw [← r.length]; exact z, new_ok (s := s1) (h' := s1.heap) I1 z r q⟩)
theorem call_tuple_ofB : CallR X (.type "tuple") (fun xs H Q => ∃ p ys, xs = [.ref p] ∧ ((SqL X.K H p ys ∧ newT ys H Q) ∨ (SqT X.K H p ys ∧ Q (.ref p) H))) := by
  intro pins s σ H xs us Q I r h
  obtain ⟨p, ys, rfl, h⟩ := h
  obtain ⟨u, rfl, rx⟩ := vals1 r
  cases rx
  rcases h with ⟨hq, q⟩ | ⟨hq, q⟩
  · obtain ⟨its, r', pl, hz⟩ := I.list hq
    have hlen := r'.length
    refine call_tuple_list pl.isList (fun h' kp => ?_) (by simp only [List.size_toArray] <;> omega)
    have I1 : Inv X pins σ H { s with heap := h' } := I.kept (t' := s.toks) kp
    exact new_ok (s := s) I1 hz r' q
  · obtain ⟨its, r', pl, hz⟩ := I.tuple hq
    exact call_tuple_same pl ⟨.ref p, H, I, rfl, q⟩
def rSlB (K : PySem.W.Frag) : V → Option Int → Option Int → Hp → VK → Prop := fun x lo hi H Q => ∃ a xs, x = .ref a ∧ SqT K H a xs ∧
  (HT.sIx xs.length 0 lo = 0 ∧ HT.sIx xs.length xs.length hi = xs.length → Q (.ref a) H) ∧ (¬ (HT.sIx xs.length 0 lo = 0 ∧ HT.sIx xs.length xs.length hi = xs.length) → newT (cutV xs lo hi) H Q)
theorem sl_tupB : SlR X (rSlB X.K) := by
  intro pins s σ H x v vl vu lo hi sl Q I rx hs pl pu h
  obtain ⟨a, xs, rfl, hx, q1, q2⟩ := h
  by_cases hw : HT.sIx xs.length 0 lo = 0 ∧ HT.sIx xs.length xs.length hi = xs.length
  · exact sl_tupA pins s σ H _ v vl vu lo hi sl Q I rx hs pl pu ⟨a, xs, rfl, hx, q1, fun z => absurd hw z⟩
  · cases rx
    obtain ⟨its, r, ht, hz⟩ := I.tuple hx
    have hlen : its.toArray.size = xs.length := by rw [List.size_toArray]; exact r.length.symm
    refine ⟨"tuple", _, PyProof.Rows.slot_tuple_getitem.lookup, ht.typeIs, ?_⟩
    refine HT.getItem_tuple_cut ht hs pl pu (by rw [hlen]; exact hw) ?_ (by rw [hlen]; exact hz)
    rw [hlen]
    exact new_ok (s := s) (h' := s.heap) I (Nat.le_trans (cutV_length xs lo hi) hz) ((r.drop (HT.sIx xs.length 0 lo)).take (HT.sIx xs.length xs.length hi - HT.sIx xs.length 0 lo)) (q2 hw)
def rCatB (K : PySem.W.Frag) : R2 := fun x y H Q => ∃ a b xs ys, x = .ref a ∧ y = .ref b ∧ SqT K H a xs ∧ SqT K H b ys ∧ xs.length + ys.length ≤ sizeLine ∧
  (xs = [] → Q (.ref b) H) ∧ (xs ≠ [] → ys = [] → Q (.ref a) H) ∧ (xs ≠ [] → ys ≠ [] → newT (xs ++ ys) H Q)
theorem op_catB : OpR X (binaryOp .Add) (rCatB X.K) := by
  intro pins s σ H x y v u Q I rx ry h
  obtain ⟨a, b, xs, ys, rfl, rfl, ha, hb, hz, q0, q1, q2⟩ := h
  by_cases hx : xs = []
  · exact op_catA pins s σ H _ _ v u Q I rx ry ⟨a, b, xs, ys, rfl, rfl, ha, hb, hz, q0, q1, fun z => absurd hx z⟩
  · cases rx
    cases ry
    obtain ⟨its, r1, p1, _⟩ := I.tuple ha
    obtain ⟨its2, r2, p2, _⟩ := I.tuple hb
    refine HT.cat_tup p1 p2 (fun z => hx (r1.nil_iff.mp z)) (fun z => ⟨.ref a, H, I, rfl, q1 hx (r2.nil_iff.mp z)⟩) (fun z => ?_) (by rw [← r1.length, ← r2.length]; exact hz)
    exact new_ok (s := s) (h' := s.heap) I (by rw [List.length_append]; exact hz) (r1.append r2) (q2 hx fun w => z (r2.nil_iff.mpr w))
end
/-! ### methods of tuples -/
section
variable {X : Cx} {o e : Expr} {es : List Expr} {name : Str} {id : String} {r : List PyData → PyData → V → Prop} {to : TE} {t : TA} {apos cpos : Pos}
end
end T

/-! T7: displays, calls, comprehensions as expressions, built-ins. -/
namespace T
open PySem L2

/-! ### lists of expressions -/
def evs : List FE → Ev → Option (List D × Ev)
  | [], ρ => some ([], ρ)
  | f :: r, ρ => (f ρ).bind fun p => (vl p.1).bind fun d => (evs r p.2).map fun q => (d :: q.1, q.2)
def denL (K : Fg) (mg : Mg) (fs : List FE) : TA := fun σ H Q => ∃ (w : Wd) (ρ : Ev), SR K mg w ρ σ H ∧ ∃ (ds : List D) (ρ' : Ev), evs fs ρ = some (ds, ρ') ∧ ∀ vs H', SR K mg w ρ' σ H' → Rps K mg (Ex w.E ρ' σ H') H' ds vs → Q vs H'
abbrev LX (X : Cx) (es : List Expr) (fs : List FE) : Prop := PA X es (denL X.K X.mg fs)
def eTup (fs : List FE) : FE := fun ρ => (evs fs ρ).bind fun p => if p.1.length ≤ sizeLine then some (.sh (.tup p.1), p.2) else none
def eLst (fs : List FE) : FE := fun ρ => (evs fs ρ).bind fun p => if p.1.length ≤ sizeLine then some (.ow (.lst p.1), p.2) else none
section
variable {X : Cx} {e : Expr} {es : List Expr} {f : FE} {fs : List FE} {pos : Pos}
theorem l_nil : LX X [] [] := pa_imp pa_nil fun σ H Q h => by
  obtain ⟨w, ρ, S, ds, ρ', hf, k⟩ := h
  cases hf
  exact k [] H S .nil
theorem l_cons (ha : EX X e f) (hr : LX X es fs) (hs : starEach (e :: es) X.env = (false, eval e X.env) :: starEach es X.env := by rfl) : LX X (e :: es) (f :: fs) := pa_imp (pa_cons ha hr hs) fun σ H Q h => by
  obtain ⟨w, ρ, S, ds, ρ', hf, k⟩ := h
  unfold evs at hf
  obtain ⟨⟨s1, ρ1⟩, h1, hf⟩ := Option.bind_eq_some_iff.mp hf
  obtain ⟨d, hd, hf⟩ := Option.bind_eq_some_iff.mp hf
  obtain ⟨⟨r, ρ2⟩, h2, e2⟩ := Option.map_eq_some_iff.mp hf
  cases e2
  exact one S h1 hd fun v H1 S1 r1 => ⟨_, ρ1, S1.fill, r, ρ2, h2, fun vs H2 S2 r2 => k (v :: vs) H2 (S1.back S2) (.cons (S1.carry S2 r1) r2)⟩
theorem e_tup {j : Nat} (h : LX X es fs) : EX X (.Tuple es j pos) (eTup fs) := pe_imp (pe_tupB h) fun σ H Q h => by
  obtain ⟨w, ρ, S, s, ρ', hf, k⟩ := h
  obtain ⟨⟨ds, ρ1⟩, h1, hf⟩ := Option.bind_eq_some_iff.mp hf
  split at hf
  · rename_i hz
    cases hf
    exact ⟨w, ρ, S, ds, ρ1, h1, fun vs H1 S1 r1 => ⟨by rw [← r1.len]; exact hz, fun p o ho hp => k _ _ (VR.newT ho S1 hp r1)⟩⟩
  · cases hf
theorem e_lst (h : LX X es fs) : EX X (.List es pos) (eLst fs) := pe_imp (pe_lst h) fun σ H Q h => by
  obtain ⟨w, ρ, S, s, ρ', hf, k⟩ := h
  obtain ⟨⟨ds, ρ1⟩, h1, hf⟩ := Option.bind_eq_some_iff.mp hf
  split at hf
  · rename_i hz
    cases hf
    exact ⟨w, ρ, S, ds, ρ1, h1, fun vs H1 S1 r1 => ⟨by rw [← r1.len]; exact hz, fun p hp => k _ _ (VR.newL S1 hp r1)⟩⟩
  · cases hf
end

/-! ### calls of the text's defs -/
def eCall (F : FF) (dfl : List D) (as : List Ag) : FE := fun ρ => (evg as ρ).bind fun p => if (ownIx (p.1 ++ dfl.map Sum.inl)).Nodup then
  (F ((p.1 ++ dfl.map Sum.inl).map (slOf p.2))).bind fun r => if (p.1 ++ dfl.map Sum.inl).length = r.2.length then some (r.1, updA p.2 (p.1 ++ dfl.map Sum.inl) r.2) else none else none
section
variable {X : Cx} {e : Expr} {es : List Expr} {as : List Ag} {F : FF} {dfl : List D} {dvs : List V} {ds : List Value} {k : Nat} {f : Addr} {fd : FuncData} {ps : List Str} {x : Str} {p pos : Pos}
theorem AVs.app {K : Fg} {mg : Mg} {O : AP} {σ : L2.St} {H : Hp} {ds : List D} {us : List V} (r : Rps K mg O H ds us) : ∀ {avs : List AV} {vs : List V}, AVs K mg O σ H avs vs → AVs K mg O σ H (avs ++ ds.map Sum.inl) (vs ++ us)
  | _, _, .nil => by
    induction ds generalizing us with
    | nil => cases r; exact .nil
    | cons d ds ih =>
      cases r with
      | cons h r => exact .inl h (ih r)
  | _, _, .inl h q => .inl h (AVs.app r q)
  | _, _, .inr h q => .inr h (AVs.app r q)
theorem call_run {σ : L2.St} {H : Hp} {Q : VK} {E : XK} (hdf : ∀ O H, Rps X.K X.mg O H dfl dvs) (h : denE X.K X.mg (eCall F dfl as) σ H Q) : tCall (spT X.K X.mg F) dvs E (denG X.K X.mg as) σ H Q := by
  obtain ⟨w, ρ, S, s, ρ', hf, k⟩ := h
  obtain ⟨⟨avs, ρ1⟩, h1, hf⟩ := Option.bind_eq_some_iff.mp hf
  refine ⟨w, ρ, S, avs, ρ1, h1, fun vs H1 S1 A => ?_⟩
  split at hf
  · rename_i hn
    obtain ⟨⟨s1, outs⟩, h2, hf⟩ := Option.bind_eq_some_iff.mp hf
    split at hf
    · rename_i hl
      cases hf
      exact call_T S1 (A.app (hdf _ H1)) hn h2 hl k
    · cases hf
  · cases hf
theorem e_call (G : FnX X CX0 k f fd ps (spT X.K X.mg F)) (hr : RoomG k X.A) (hg : Gl X x) (hm : X.mg x = some (.ref f)) (hk : PySem.W.keepIn X.K (.ref f) = true) (hb : L2.Binds X.K fd ps ds) (hd : Vals dvs ds) (hdf : ∀ O H, Rps X.K X.mg O H dfl dvs)
    (ha : GX X (e :: es) as) (hdb : (x == ("__debug__" : Str)) = false := by decide) (he : starEach (e :: es) X.env = (false, eval e X.env) :: starEach es X.env := by rfl) (hpl : (backTo pos (starEach es X.env)).any (·.1) = false := by rfl) :
    EX X (.Call (.Name x p) (e :: es) [] pos) (eCall F dfl as) := pe_imp (peG_call G hr hg hm hk hb hd pass0 ha hdb he hpl) fun _ _ _ h => call_run hdf h
end

/-! ### built-ins -/
abbrev OL := List D → Option Sl
def eFn (o : OL) (fs : List FE) : FE := fun ρ => (evs fs ρ).bind fun p => (o p.1).map fun s => (s, p.2)
structure CaS (X : Cx) (r : List V → Hp → VK → Prop) (o : OL) : Prop where
  ok : ∀ (w : Wd) (ρ : Ev) (σ : L2.St) (H : Hp) (vs : List V) (ds : List D) (s : Sl) (Q : VK), SR X.K X.mg w ρ σ H → Rps X.K X.mg (Ex w.E ρ σ H) H ds vs → o ds = some s → (∀ v H', VR X.K X.mg w ρ σ H' s v → Q v H') → r vs H Q
/-- as a value lies, its own things too -/
def Rk (K : Fg) (mg : Mg) (O : AP) (H : Hp) (d : D) (v : V) : Prop := Rp K mg O H d v ∨ ∃ a, v = .ref a ∧ Own K mg O H d a
/-- built-ins that look and make nothing -/
structure CaP (X : Cx) (r : List V → Hp → VK → Prop) (o : List D → Option D) : Prop where
  fl : ∀ ds d, o ds = some d → ∃ v, Fl X.K X.mg d v
  ok : ∀ (O : AP) (H : Hp) (vs : List V) (ds : List D) (d : D) (Q : VK), Paired (Rk X.K X.mg O H) ds vs → o ds = some d → (∀ v, Fl X.K X.mg d v → Q v H) → r vs H Q
def shO (o : List D → Option D) : OL := fun ds => (o ds).map .sh
theorem Rps.paired {K : Fg} {mg : Mg} {O : AP} {H : Hp} : ∀ {ds : List D} {vs : List V}, Rps K mg O H ds vs → Paired (Rk K mg O H) ds vs
  | _, _, .nil => .nil
  | _, _, .cons h r => .cons (.inl h) r.paired
theorem CaP.s {X : Cx} {r : List V → Hp → VK → Prop} {o : List D → Option D} (h : CaP X r o) : CaS X r (shO o) := ⟨fun w ρ σ H vs ds s Q S rr e k => by
  obtain ⟨d, hd, e2⟩ := Option.map_eq_some_iff.mp e
  cases e2
  exact h.ok _ H vs ds d Q rr.paired hd fun v hv => k v H ⟨S, hv.rp _ _⟩⟩
/-- a built-in that looks at what a name holds -/
def eFnV (o : List D → Option D) (i : Nat) : FE := fun ρ => (peek ρ i).bind fun d => (o [d]).map fun y => (.sh y, ρ)
section
variable {X : Cx} {e : Expr} {es : List Expr} {fs : List FE} {o : OL} {r : List V → Hp → VK → Prop} {x y : Str} {p p2 pos : Pos} {idn tyn : String}
theorem fn_run {σ : L2.St} {H : Hp} {Q : VK} (hs : CaS X r o) (h : denE X.K X.mg (eFn o fs) σ H Q) : tCB r (denL X.K X.mg fs) σ H Q := by
  obtain ⟨w, ρ, S, s, ρ', hf, k⟩ := h
  obtain ⟨⟨ds, ρ1⟩, h1, hf⟩ := Option.bind_eq_some_iff.mp hf
  obtain ⟨s1, h2, e2⟩ := Option.map_eq_some_iff.mp hf
  cases e2
  exact ⟨w, ρ, S, ds, ρ1, h1, fun vs H1 S1 r1 => hs.ok w _ σ H1 vs ds _ Q S1 r1 h2 k⟩
theorem e_fnB (hc : CallR X (.builtin idn) r) (hs : CaS X r o) (hg : Gl X x) (hm : X.mg x = none) (hv : bootBuiltins x = some (.builtin idn)) (ha : LX X (e :: es) fs) (hn : x ≠ "__name__" := by decide) (hdb : (x == ("__debug__" : Str)) = false := by decide)
    (he : starEach (e :: es) X.env = (false, eval e X.env) :: starEach es X.env := by rfl) (hpl : (backTo pos (starEach es X.env)).any (·.1) = false := by rfl) : EX X (.Call (.Name x p) (e :: es) [] pos) (eFn o fs) :=
  pe_imp (pe_callB hc hg hm hv ha hn hdb he hpl) fun _ _ _ h => fn_run hs h
theorem e_fnT (hc : CallR X (.type tyn) r) (hs : CaS X r o) (hg : Gl X x) (hm : X.mg x = none) (hv : bootBuiltins x = some (.type tyn)) (ha : LX X (e :: es) fs) (hn : x ≠ "__name__" := by decide) (hdb : (x == ("__debug__" : Str)) = false := by decide)
    (he : starEach (e :: es) X.env = (false, eval e X.env) :: starEach es X.env := by rfl) (hpl : (backTo pos (starEach es X.env)).any (·.1) = false := by rfl) : EX X (.Call (.Name x p) (e :: es) [] pos) (eFn o fs) :=
  pe_imp (pe_callTy hc hg hm hv ha hn hdb he hpl) fun _ _ _ h => fn_run hs h
theorem e_fnV (i : Nat) {o : List D → Option D} (hc : CallR X (.builtin idn) r) (hs : CaP X r o) (hg : Gl X x) (hm : X.mg x = none) (hv : bootBuiltins x = some (.builtin idn)) (hN : X.N[i]? = some y := by rfl)
    (hy : Vis X.env.scope y := by first | exact Or.inl rfl | exact Or.inr (Or.inl rfl) | exact Or.inr (Or.inr rfl)) (hd : (y == ("__debug__" : Str)) = false := by decide) (hcd : (y == ("__classdict__" : Str)) = false := by decide)
    (hn : x ≠ "__name__" := by decide) (hdb : (x == ("__debug__" : Str)) = false := by decide)
    (he : starEach [.Name y p2] X.env = (false, eval (.Name y p2) X.env) :: starEach [] X.env := by rfl) (hpl : (backTo pos (starEach [] X.env)).any (·.1) = false := by rfl) : EX X (.Call (.Name x p) [.Name y p2] [] pos) (eFnV o i) :=
  pe_imp (pe_callB hc hg hm hv (pa_cons (pe_var hN hy hd hcd) pa_nil he) hn hdb he hpl) fun σ H Q h => by
  obtain ⟨w, ρ, S, s, ρ', hf, k⟩ := h
  obtain ⟨d, h1, hf⟩ := Option.bind_eq_some_iff.mp hf
  obtain ⟨z, h2, e2⟩ := Option.map_eq_some_iff.mp hf
  cases e2
  rcases peek_list S h1 with ⟨v, ev, r1⟩ | ⟨a, ev, o1⟩
  · exact ⟨v, ev, hs.ok (Ex w.E _ σ H) H [v] [d] z Q (.cons (.inl r1) .nil) h2 fun u hu => k u H ⟨S, hu.rp _ _⟩⟩
  · exact ⟨_, ev, hs.ok (Ex w.E _ σ H) H [.ref a] [d] z Q (.cons (.inr ⟨a, rfl, o1⟩) .nil) h2 fun u hu => k u H ⟨S, hu.rp _ _⟩⟩
end
theorem Rk.items {K : Fg} {mg : Mg} {O : AP} {H : Hp} {d : D} {v : V} {ds : List D} (h : Rk K mg O H d v) (e : d.items = some ds) : ∃ a vs, v = .ref a ∧ SqL K H a vs ∧ Rps K mg O H ds vs := by
  rcases h with h | ⟨a, rfl, o⟩
  · exact h.itemsAt e
  · cases d with
    | lst ds' => cases e; obtain ⟨vs, h1, h2⟩ := o; exact ⟨a, vs, rfl, .inl (.inl h1), h2⟩
    | scr _ => exact nomatch o
    | _ => cases e
theorem Rk.tup {K : Fg} {mg : Mg} {O : AP} {H : Hp} {v : V} {ds : List D} (h : Rk K mg O H (.tup ds) v) : ∃ a vs, v = .ref a ∧ SqT K H a vs ∧ Rps K mg O H ds vs := by
  rcases h with h | ⟨a, rfl, o⟩
  · exact h.tupAt
  · exact nomatch o
theorem Rk.int {K : Fg} {mg : Mg} {O : AP} {H : Hp} {v : V} {i : Int} (h : Rk K mg O H (.int i) v) : v = .int i := by
  rcases h with h | ⟨a, rfl, o⟩
  · cases h; rfl
  · exact nomatch o
theorem Rk.bl {K : Fg} {mg : Mg} {O : AP} {H : Hp} {v : V} {i : Bool} (h : Rk K mg O H (.bl i) v) : v = .bl i := by
  rcases h with h | ⟨a, rfl, o⟩
  · cases h; rfl
  · exact nomatch o
theorem Rk.str {K : Fg} {mg : Mg} {O : AP} {H : Hp} {v : V} {i : Str} (h : Rk K mg O H (.str i) v) : v = .str i := by
  rcases h with h | ⟨a, rfl, o⟩
  · cases h; rfl
  · exact nomatch o
/-- the ints, the truth values of a list of data -/
def intsOf : List D → Option (List Int)
  | [] => some []
  | .int i :: r => (intsOf r).map (i :: ·)
  | _ :: _ => none
def blsOf : List D → Option (List Bool)
  | [] => some []
  | .bl b :: r => (blsOf r).map (b :: ·)
  | _ :: _ => none
theorem intsOf_eq : ∀ {ds : List D} {ns : List Int}, intsOf ds = some ns → ds = ns.map .int
  | [], _, h => by cases h; rfl
  | .int i :: r, _, h => by
    obtain ⟨ns, h1, e⟩ := Option.map_eq_some_iff.mp h
    subst e
    rw [intsOf_eq h1]; rfl
theorem blsOf_eq : ∀ {ds : List D} {ns : List Bool}, blsOf ds = some ns → ds = ns.map .bl
  | [], _, h => by cases h; rfl
  | .bl i :: r, _, h => by
    obtain ⟨ns, h1, e⟩ := Option.map_eq_some_iff.mp h
    subst e
    rw [blsOf_eq h1]; rfl
theorem intsOf_map (ns : List Int) : intsOf (ns.map .int) = some ns := by
  induction ns with
  | nil => rfl
  | cons n r ih => show (intsOf (r.map .int)).map (n :: ·) = _; rw [ih]; rfl
theorem blsOf_map (ns : List Bool) : blsOf (ns.map .bl) = some ns := by
  induction ns with
  | nil => rfl
  | cons n r ih => show (blsOf (r.map .bl)).map (n :: ·) = _; rw [ih]; rfl
theorem Rps.ints {K : Fg} {mg : Mg} {O : AP} {H : Hp} : ∀ {ns : List Int} {vs : List V}, Rps K mg O H (ns.map .int) vs → vs = ns.map .int
  | [], _, .nil => rfl
  | n :: r, _, .cons h q => by cases h; rw [Rps.ints q]; rfl
theorem Rps.bls {K : Fg} {mg : Mg} {O : AP} {H : Hp} : ∀ {ns : List Bool} {vs : List V}, Rps K mg O H (ns.map .bl) vs → vs = ns.map .bl
  | [], _, .nil => rfl
  | n :: r, _, .cons h q => by cases h; rw [Rps.bls q]; rfl
def lenD : List D → Option D
  | [.tup ds] => some (.int ds.length)
  | [.lst ds] => some (.int ds.length)
  | [.scr ds] => some (.int ds.length)
  | [.str x] => if x.length ≤ sizeLine then some (.int x.length) else none
  | _ => none
def maxI : List Int → Int
  | [] => 0
  | [n] => n
  | n :: r => if maxI r ≤ n then n else maxI r
def minI : List Int → Int
  | [] => 0
  | [n] => n
  | n :: r => if n ≤ minI r then n else minI r
theorem maxI_mem : ∀ {ns : List Int}, ns ≠ [] → maxI ns ∈ ns
  | [n], _ => by simp [maxI]
  | n :: m :: r, _ => by
    have ih := maxI_mem (ns := m :: r) (by simp)
    unfold maxI
    split
    · exact List.mem_cons_self
    · exact List.mem_cons_of_mem _ ih
theorem maxI_ge : ∀ {ns : List Int}, ∀ y ∈ ns, y ≤ maxI ns
  | [n], y, h => by
    have e : y = n := by simpa using h
    rw [e]; exact Int.le_refl n
  | n :: m :: r, y, h => by
    have ih := maxI_ge (ns := m :: r)
    unfold maxI
    rcases List.mem_cons.mp h with rfl | h
    · split <;> omega
    · have := ih y h
      split <;> omega
theorem minI_mem : ∀ {ns : List Int}, ns ≠ [] → minI ns ∈ ns
  | [n], _ => by simp [minI]
  | n :: m :: r, _ => by
    have ih := minI_mem (ns := m :: r) (by simp)
    unfold minI
    split
    · exact List.mem_cons_self
    · exact List.mem_cons_of_mem _ ih
theorem minI_le : ∀ {ns : List Int}, ∀ y ∈ ns, minI ns ≤ y
  | [n], y, h => by
    have e : y = n := by simpa using h
    rw [e]; exact Int.le_refl n
  | n :: m :: r, y, h => by
    have ih := minI_le (ns := m :: r)
    unfold minI
    rcases List.mem_cons.mp h with rfl | h
    · split <;> omega
    · have := ih y h
      split <;> omega
theorem maxI_eq {ns : List Int} {m : Int} (h1 : m ∈ ns) (h2 : ∀ y ∈ ns, y ≤ m) : maxI ns = m := by
  have a := maxI_ge m h1
  have b := h2 _ (maxI_mem (List.ne_nil_of_mem h1))
  omega
theorem minI_eq {ns : List Int} {m : Int} (h1 : m ∈ ns) (h2 : ∀ y ∈ ns, m ≤ y) : minI ns = m := by
  have a := minI_le m h1
  have b := h2 _ (minI_mem (List.ne_nil_of_mem h1))
  omega
def maxD : List D → Option D := fun ds => match ds with
  | [.int i, .int j] => some (.int (if j > i then j else i))
  | [.lst ds] => (intsOf ds).bind fun ns => if ns = [] then none else some (.int (maxI ns))
  | _ => none
def minD : List D → Option D := fun ds => match ds with
  | [.int i, .int j] => some (.int (if j < i then j else i))
  | [.lst ds] => (intsOf ds).bind fun ns => if ns = [] then none else some (.int (minI ns))
  | _ => none
def allD : List D → Option D
  | [.lst ds] => (blsOf ds).map fun ns => .bl (ns.all id)
  | _ => none
def absD : List D → Option D
  | [.int i] => some (.int (if i < 0 then -i else i))
  | _ => none
def intD : List D → Option D
  | [.int i] => some (.int i)
  | [.bl b] => some (.int (if b then 1 else 0))
  | _ => none
section
variable {X : Cx}
theorem p_len : CaP X (fun xs H Q => (∃ p ys, xs = [.ref p] ∧ (SqL X.K H p ys ∨ SqT X.K H p ys) ∧ Q (.int ys.length) H) ∨ ∃ z : Str, xs = [.str z] ∧ z.length ≤ sizeLine ∧ Q (.int z.length) H) lenD := by
  refine ⟨fun ds d h => ?_, fun O H vs ds d Q r h k => ?_⟩
  · unfold lenD at h
    split at h
    · cases h; exact ⟨_, .int _⟩
    · cases h; exact ⟨_, .int _⟩
    · cases h; exact ⟨_, .int _⟩
    · split at h
      · cases h; exact ⟨_, .int _⟩
      · cases h
    · cases h
  · unfold lenD at h
    split at h
    · cases h
      cases r with
      | cons h1 h2 =>
        cases h2
        obtain ⟨a, us, rfl, hs, rr⟩ := h1.tup
        exact .inl ⟨a, us, rfl, .inr hs, by rw [← rr.len]; exact k _ (.int _)⟩
    · cases h
      cases r with
      | cons h1 h2 =>
        cases h2
        obtain ⟨a, us, rfl, hs, rr⟩ := h1.items rfl
        exact .inl ⟨a, us, rfl, .inl hs, by rw [← rr.len]; exact k _ (.int _)⟩
    · cases h
      cases r with
      | cons h1 h2 =>
        cases h2
        obtain ⟨a, us, rfl, hs, rr⟩ := h1.items rfl
        exact .inl ⟨a, us, rfl, .inl hs, by rw [← rr.len]; exact k _ (.int _)⟩
    · split at h
      · rename_i hz
        cases h
        cases r with
        | cons h1 h2 =>
          cases h2
          rw [h1.str]
          exact .inr ⟨_, rfl, hz, k _ (.int _)⟩
      · cases h
    · cases h
theorem c_len : CallR X (.builtin "len") (fun xs H Q => (∃ p ys, xs = [.ref p] ∧ (SqL X.K H p ys ∨ SqT X.K H p ys) ∧ Q (.int ys.length) H) ∨ ∃ z : Str, xs = [.str z] ∧ z.length ≤ sizeLine ∧ Q (.int z.length) H) := call_len_seq.or call_len_str
theorem one_paired {G : D → V → Prop} {d : D} {vs : List V} (h : Paired G [d] vs) : ∃ v, vs = [v] ∧ G d v := by
  cases h with
  | cons h1 h2 => cases h2; exact ⟨_, rfl, h1⟩
theorem two_paired {G : D → V → Prop} {d e : D} {vs : List V} (h : Paired G [d, e] vs) : ∃ v u, vs = [v, u] ∧ G d v ∧ G e u := by
  cases h with
  | cons h1 h2 =>
    obtain ⟨u, rfl, h3⟩ := one_paired h2
    exact ⟨_, u, rfl, h1, h3⟩
theorem ints_paired {O : AP} {H : Hp} {ds : List D} {vs : List V} {ns : List Int} (h : Paired (Rk X.K X.mg O H) [.lst ds] vs) (e : intsOf ds = some ns) : ∃ a, vs = [.ref a] ∧ SqL X.K H a (ns.map V.int) := by
  obtain ⟨v, rfl, q⟩ := one_paired h
  obtain ⟨a, us, rfl, hs, r⟩ := q.items rfl
  rw [intsOf_eq e] at r
  rw [r.ints] at hs
  exact ⟨a, rfl, hs⟩
theorem bls_paired {O : AP} {H : Hp} {ds : List D} {vs : List V} {ns : List Bool} (h : Paired (Rk X.K X.mg O H) [.lst ds] vs) (e : blsOf ds = some ns) : ∃ a, vs = [.ref a] ∧ SqL X.K H a (ns.map V.bl) := by
  obtain ⟨v, rfl, q⟩ := one_paired h
  obtain ⟨a, us, rfl, hs, r⟩ := q.items rfl
  rw [blsOf_eq e] at r
  rw [r.bls] at hs
  exact ⟨a, rfl, hs⟩
theorem p_max (hc : X.calm = true) : CallR X (.builtin "max") (fun xs H Q => (∃ i j, xs = [.int i, .int j] ∧ Q (.int (if j > i then j else i)) H) ∨ rMax X.K xs H Q) ∧ CaP X (fun xs H Q => (∃ i j, xs = [.int i, .int j] ∧ Q (.int (if j > i then j else i)) H) ∨ rMax X.K xs H Q) maxD := by
  refine ⟨(call_max2 hc).or (cr_max hc), ⟨fun ds d h => ?_, fun O H vs ds d Q r h k => ?_⟩⟩
  · unfold maxD at h
    split at h
    · cases h; exact ⟨_, .int _⟩
    · obtain ⟨ns, _, h⟩ := Option.bind_eq_some_iff.mp h
      split at h
      · cases h
      · cases h; exact ⟨_, .int _⟩
    · cases h
  · unfold maxD at h
    split at h
    · cases h
      obtain ⟨v, u, rfl, h1, h2⟩ := two_paired r
      rw [h1.int, h2.int]
      exact .inl ⟨_, _, rfl, k _ (.int _)⟩
    · obtain ⟨ns, hn, h⟩ := Option.bind_eq_some_iff.mp h
      split at h
      · cases h
      · rename_i hne
        cases h
        obtain ⟨a, rfl, hs⟩ := ints_paired r hn
        exact .inr ⟨a, ns, rfl, hs, (by cases ns with | nil => exact absurd rfl hne | cons _ _ => exact Nat.succ_pos _), fun m h1 h2 => by rw [← maxI_eq h1 h2]; exact k _ (.int _)⟩
    · cases h
theorem p_min (hc : X.calm = true) : CallR X (.builtin "min") (fun xs H Q => (∃ i j, xs = [.int i, .int j] ∧ Q (.int (if j < i then j else i)) H) ∨ rMin X.K xs H Q) ∧ CaP X (fun xs H Q => (∃ i j, xs = [.int i, .int j] ∧ Q (.int (if j < i then j else i)) H) ∨ rMin X.K xs H Q) minD := by
  refine ⟨(call_min2 hc).or (cr_min hc), ⟨fun ds d h => ?_, fun O H vs ds d Q r h k => ?_⟩⟩
  · unfold minD at h
    split at h
    · cases h; exact ⟨_, .int _⟩
    · obtain ⟨ns, _, h⟩ := Option.bind_eq_some_iff.mp h
      split at h
      · cases h
      · cases h; exact ⟨_, .int _⟩
    · cases h
  · unfold minD at h
    split at h
    · cases h
      obtain ⟨v, u, rfl, h1, h2⟩ := two_paired r
      rw [h1.int, h2.int]
      exact .inl ⟨_, _, rfl, k _ (.int _)⟩
    · obtain ⟨ns, hn, h⟩ := Option.bind_eq_some_iff.mp h
      split at h
      · cases h
      · rename_i hne
        cases h
        obtain ⟨a, rfl, hs⟩ := ints_paired r hn
        exact .inr ⟨a, ns, rfl, hs, (by cases ns with | nil => exact absurd rfl hne | cons _ _ => exact Nat.succ_pos _), fun m h1 h2 => by rw [← minI_eq h1 h2]; exact k _ (.int _)⟩
    · cases h
theorem p_all : CaP X (rAll X.K) allD := by
  refine ⟨fun ds d h => ?_, fun O H vs ds d Q r h k => ?_⟩
  · unfold allD at h
    split at h
    · obtain ⟨ns, _, e⟩ := Option.map_eq_some_iff.mp h; cases e; exact ⟨_, .bl _⟩
    · cases h
  · unfold allD at h
    split at h
    · obtain ⟨ns, hn, e⟩ := Option.map_eq_some_iff.mp h
      cases e
      obtain ⟨a, rfl, hs⟩ := bls_paired r hn
      exact ⟨a, ns, rfl, hs, k _ (.bl _)⟩
    · cases h
theorem p_abs : CaP X (fun xs H Q => ∃ i, xs = [.int i] ∧ Q (.int (if i < 0 then -i else i)) H) absD := by
  refine ⟨fun ds d h => ?_, fun O H vs ds d Q r h k => ?_⟩
  · unfold absD at h
    split at h
    · cases h; exact ⟨_, .int _⟩
    · cases h
  · unfold absD at h
    split at h
    · cases h
      obtain ⟨v, rfl, q⟩ := one_paired r
      rw [q.int]
      exact ⟨_, rfl, k _ (.int _)⟩
    · cases h
theorem p_int : CaP X (fun xs H Q => (∃ i, xs = [.int i] ∧ Q (.int i) H) ∨ ∃ k, xs = [.bl k] ∧ Q (.int (if k then 1 else 0)) H) intD := by
  refine ⟨fun ds d h => ?_, fun O H vs ds d Q r h k => ?_⟩
  · unfold intD at h
    split at h
    · cases h; exact ⟨_, .int _⟩
    · cases h; exact ⟨_, .int _⟩
    · cases h
  · unfold intD at h
    split at h
    · cases h
      obtain ⟨v, rfl, q⟩ := one_paired r
      rw [q.int]
      exact .inl ⟨_, rfl, k _ (.int _)⟩
    · cases h
      obtain ⟨v, rfl, q⟩ := one_paired r
      rw [q.bl]
      exact .inr ⟨_, rfl, k _ (.int _)⟩
    · cases h
/-- tuple(xs), list(xs) -/
def tupleO : OL
  | [.tup ds] => some (.sh (.tup ds))
  | [.lst ds] => some (.sh (.tup ds))
  | _ => none
theorem one_rps {K : Fg} {mg : Mg} {O : AP} {H : Hp} {d : D} {vs : List V} (h : Rps K mg O H [d] vs) : ∃ v, vs = [v] ∧ Rp K mg O H d v := by
  cases h with
  | cons h1 h2 => cases h2; exact ⟨_, rfl, h1⟩
theorem s_tuple : CaS X (fun xs H Q => ∃ p ys, xs = [.ref p] ∧ ((SqL X.K H p ys ∧ newT ys H Q) ∨ (SqT X.K H p ys ∧ Q (.ref p) H))) tupleO := ⟨fun w ρ σ H vs ds s Q S r e k => by
  unfold tupleO at e
  split at e
  · cases e
    obtain ⟨v, rfl, q⟩ := one_rps r
    have q' := q
    obtain ⟨a, us, rfl, hs, rr⟩ := q.tupAt
    exact ⟨a, us, rfl, .inr ⟨hs, k _ _ ⟨S, q'⟩⟩⟩
  · cases e
    obtain ⟨v, rfl, q⟩ := one_rps r
    obtain ⟨a, us, rfl, hs, rr⟩ := q.lstAt
    exact ⟨a, us, rfl, .inl ⟨.inl (.inl hs), fun l o ho hl => k _ _ (VR.newT ho S hl rr)⟩⟩
  · cases e⟩
end
end T

/-! T8: lists written, comprehensions, slices, +, isinstance. -/
namespace T
open PySem L2

/-! ### x.append(e), x[i] = e -/
def ownLst (ρ : Ev) (i : Nat) : Option (List D) := (ρ[i]?).bind fun s => match s.own with
  | some (.lst ds) => some ds
  | _ => none
def putLst (ρ : Ev) (i : Nat) (ds : List D) : Option Ev := (ρ[i]?).bind fun s => match s with
  | .ow (.lst _) => some (ρ.set i (.ow (.lst ds)))
  | .io (.lst _) => some (ρ.set i (.io (.lst ds)))
  | _ => none
def sSub (i : Nat) (fx fv : FE) : FS := fun ρ => (ownLst ρ i).bind fun _ => (opt2 fv fx ρ).bind fun q => match q with
  | (y, .int k, ρ') => (ownLst ρ' i).bind fun ds => (ixN ds.length k).bind fun j => (putLst ρ' i (ds.set j y)).map .nx
  | _ => none
section
variable {K : Fg} {mg : Mg} {w : Wd} {ρ ρ' : Ev} {σ : L2.St} {H : Hp} {i : Nat} {ds : List D}
theorem ownLst_at (S : SR K mg w ρ σ H) (h : ownLst ρ i = some ds) : ∃ s, ρ[i]? = some s ∧ s.own = some (.lst ds) ∧ ∃ a vs, σ[i]? = some (some (.ref a)) ∧ H a = some (.lst vs) ∧ Rps K mg (Ex w.E ρ σ H) H ds vs := by
  obtain ⟨s, hs, h⟩ := Option.bind_eq_some_iff.mp h
  have h' : (match s.own with | some (.lst ds) => some ds | _ => none) = some ds := h
  cases ho : s.own with
  | none => rw [ho] at h'; cases h'
  | some d =>
    rw [ho] at h'
    cases d with
    | lst ds' =>
      cases h'
      obtain ⟨a, e, _, vs, h1, h2⟩ := S.ow hs ho
      exact ⟨s, hs, ho, a, vs, e, h1, h2⟩
    | _ => cases h'
theorem putLst_ok {es : List D} {a : Addr} {us : List V} (S : SR K mg w ρ σ H) (h : putLst ρ i es = some ρ') (hv : σ[i]? = some (some (.ref a))) (hn : ∀ O H2, (∀ b, O b → Ex w.E ρ σ H b) → (∀ b o, ¬ Ex w.E ρ σ H b → H b = some o → H2 b = some o) → Rps K mg O H2 es us) :
    SR K mg w ρ' σ (upd H a (.lst us)) := by
  obtain ⟨s, hs, h⟩ := Option.bind_eq_some_iff.mp h
  have key : ∀ {s s' : Sl} {d : D}, ρ[i]? = some s → s.own = some d → ((s = .ow d ∧ s' = .ow (.lst es)) ∨ (s = .io d ∧ s' = .io (.lst es))) → SR K mg w (ρ.set i s') σ (upd H a (.lst us)) := fun {s s' d} hs ho hc => by
    refine S.write hs ho hc hv fun H2 k1 k2 => .lst us k2 (hn _ H2 (fun _ z => z) fun b o n e => k1 b o (fun z => n ?_) e)
    rw [z]
    exact .inr (.top hs ho hv)
  cases s with
  | ow d =>
    cases d with
    | lst ds' => cases h; exact key hs rfl (.inl ⟨rfl, rfl⟩)
    | _ => cases h
  | io d =>
    cases d with
    | lst ds' => cases h; exact key hs rfl (.inr ⟨rfl, rfl⟩)
    | _ => cases h
  | no => cases h
  | sh d => cases h
end
section
variable {X : Cx} {c e : Expr} {st : Stmt} {f fx fv : FE} {pos : Pos} {i : Nat}
theorem s_sub (h : PS X st (tAsg (denE X.K X.mg fv) (gSub (tVar i) (denE X.K X.mg fx) rSetL))) : SX X st (sSub i fx fv) := ps_imp h fun D σ H q => by
  obtain ⟨w, ρ, S, r, hf, k⟩ := q
  obtain ⟨d0, h0, hf⟩ := Option.bind_eq_some_iff.mp hf
  obtain ⟨⟨y, kx, ρ2⟩, h1, hf⟩ := Option.bind_eq_some_iff.mp hf
  cases kx with
  | int kk =>
    obtain ⟨ds, h2, hf⟩ := Option.bind_eq_some_iff.mp hf
    obtain ⟨j, hj, hf⟩ := Option.bind_eq_some_iff.mp hf
    obtain ⟨ρ3, h3, e2⟩ := Option.map_eq_some_iff.mp hf
    subst e2
    obtain ⟨_, _, _, a, vs, ea, ha, _⟩ := ownLst_at S h0
    obtain ⟨s1, ρ1, s2, g1, g2, g3, g4⟩ := opt2_some h1
    refine one S g1 g2 fun v H1 S1 r1 => ⟨_, ea, ?_⟩
    refine one S1.fill g3 g4 fun u H2 S2 r2 => ?_
    cases r2
    have S2' := S1.back S2
    obtain ⟨_, _, _, b, us, eb, hb, rr⟩ := ownLst_at S2' h2
    rw [ea] at eb; cases eb
    have r1' := S1.carry S2 r1
    refine ⟨a, us, kk, j, rfl, rfl, hb, by rw [← rr.len]; exact hj, k σ _ (putLst_ok S2' h3 ea fun O H3 hO hk => ?_)⟩
    exact Rps.set (r1'.step hk fun b _ z _ => hO b z) j (rr.step hk fun b _ z _ => hO b z)
  | _ => cases hf
/-- a, b = x, y -/
theorem Wd.plus_comm (w : Wd) (P Q : AP) : (w.plus P).plus Q = (w.plus Q).plus P := by
  have e : (fun a => (w.E a ∨ P a) ∨ Q a) = fun a => (w.E a ∨ Q a) ∨ P a := funext fun a => propext ⟨fun h => by rcases h with (h | h) | h <;> simp [h], fun h => by rcases h with (h | h) | h <;> simp [h]⟩
  exact congrArg (fun E => ({ w with E := E } : Wd)) e
theorem in_full_none {K : Fg} {mg : Mg} {w : Wd} {ρ : Ev} {σ : L2.St} {H : Hp} {p : Addr} (S : SR K mg w ρ σ H) (n : full ρ σ H p = none) : w.R p = none := by
  cases e : w.R p with
  | none => rfl
  | some o' =>
    obtain ⟨u', q'⟩ := S.in_full.some e
    rw [q'] at n; cases n
theorem par_two {K : Fg} {mg : Mg} {w : Wd} {ρ1 ρ2 : Ev} {σ : L2.St} {H1 : Hp} {g : FE} {s1 s2 : Sl} {v1 : V} {i j : Nat} {R : V → Hp → Prop} (h : VR K mg w ρ1 σ H1 s1 v1) (hg : g ρ1 = some (s2, ρ2))
    (k : ∀ v2 H2, SR K mg w ((ρ2.set i s1).set j s2) ((σ.set i (some v1)).set j (some v2)) H2 → R v2 H2) : denE K mg g σ H1 R := by
  cases s1 with
  | sh d1 =>
    obtain ⟨S1, r1⟩ := h
    refine ⟨w.fill ρ1 σ H1, ρ1, S1.fill, s2, ρ2, hg, fun v2 H2 hv2 => ?_⟩
    cases s2 with
    | sh d2 =>
      obtain ⟨S2, r2⟩ := hv2
      have S3 := (S1.back S2).setSh (i := i) (S1.carry S2 r1)
      refine k v2 H2 (S3.setSh (i := j) (r2.sub fun a z => z.imp id fun z => ?_))
      rcases own_set z with ⟨_, _, z, _⟩ | ⟨m, t, d, b, _, q1, q2, q3, f⟩
      · cases z
      · exact ⟨m, t, d, b, q1, q2, q3, f⟩
    | ow d2 =>
      obtain ⟨p, rfl, n1, n2, n3, n4, S2, o⟩ := hv2
      have S2' : SR K mg (w.plus (Foot H2 d2 p)) ρ2 σ H2 := S2.thin rfl rfl rfl S1.in_full
      have kk := S1.keeps (w2 := (w.fill ρ1 σ H1).plus (Foot H2 d2 p)) S2 rfl fun a o z e => by
        rcases z with z | z
        · exact .inl z
        · by_cases c : Ownd ρ1 σ H1 a
          · exact .inr c
          · have n1' : full ρ1 σ H1 a = none := n1 a z
            rw [full_of c e] at n1'; cases n1'
      have r1' : Rp K mg (Ex (w.plus (Foot H2 d2 p)).E ρ2 σ H2) H2 d1 v1 := r1.stepN kk.1 fun a o z e _ => kk.2 a o z e
      have ow : ∀ a, Ownd (ρ2.set i (.sh d1)) (σ.set i (some v1)) H2 a → Ownd ρ2 σ H2 a := fun a z => by
        rcases own_set z with ⟨_, _, z, _⟩ | ⟨m, t, d, b, _, q1, q2, q3, f⟩
        · cases z
        · exact ⟨m, t, d, b, q1, q2, q3, f⟩
      have S3 := S2'.setSh (i := i) r1'
      exact k _ H2 (S3.setOw (i := j) (fun b f => in_full_none S1 (n1 b f)) n2 n3 (fun b f z => n4 b f (ow b z)) (o.sub fun a z => z.imp id (ow a)))
    | no => exact hv2.elim
    | io d => exact hv2.elim
  | ow d1 =>
    obtain ⟨p, rfl, m1, m2, m3, m4, S1, o1⟩ := h
    refine ⟨(w.plus (Foot H1 d1 p)).fill ρ1 σ H1, ρ1, S1.fill, s2, ρ2, hg, fun v2 H2 hv2 => ?_⟩
    have same : ∀ (w2 : Wd), SR K mg w2 ρ2 σ H2 → w2.R = full ρ1 σ H1 → (∀ b, Foot H1 d1 p b → ∀ o, H1 b = some o → NT o → H2 b = some o) ∧ Foot H2 d1 p = Foot H1 d1 p := fun w2 S2 e2 => by
      have up : ∀ b, Foot H1 d1 p b → ∀ o, H1 b = some o → NT o → H2 b = some o := fun b f o e n => S2.keep b o (by rw [e2]; exact full_of (m4 b f) e) n
      exact ⟨up, funext fun b => propext ⟨o1.foot up, fun f => f.up up⟩⟩
    cases s2 with
    | sh d2 =>
      obtain ⟨S2, r2⟩ := hv2
      have S2' := S1.back S2
      obtain ⟨up, ef⟩ := same _ S2 rfl
      have kk := S1.keeps S2 rfl fun _ _ z _ => .inl z
      have o1' : Own K mg (Ex (w.plus (Foot H1 d1 p)).E ρ2 σ H2) H2 d1 p := o1.stepN kk.1 kk.2 up
      rw [← ef] at S2' o1' m1 m2 m3
      have S3 := S2'.setOw (i := i) m1 m2 m3 (fun b f z => S2'.exo b z (.inr f)) o1'
      refine k v2 H2 (S3.setSh (i := j) (r2.sub fun a z => ?_))
      rcases z with z | z
      · exact .inl (.inl z)
      · rcases own_set z with ⟨_, _, e, z, f, _⟩ | ⟨m, t, d, b, _, q1, q2, q3, f⟩
        · cases e; cases z; rw [ef] at f; exact .inl (.inr f)
        · exact .inr ⟨m, t, d, b, q1, q2, q3, f⟩
    | ow d2 =>
      obtain ⟨q, rfl, n1, n2, n3, n4, S2, o2⟩ := hv2
      obtain ⟨up, ef⟩ := same _ S2 rfl
      have S2' : SR K mg ((w.plus (Foot H1 d1 p)).plus (Foot H2 d2 q)) ρ2 σ H2 := S2.thin rfl rfl rfl S1.in_full
      have kk := S1.keeps (w2 := ((w.plus (Foot H1 d1 p)).fill ρ1 σ H1).plus (Foot H2 d2 q)) S2 rfl fun a o z e => by
        rcases z with z | z
        · exact .inl z
        · by_cases c : Ownd ρ1 σ H1 a
          · exact .inr c
          · have n1' : full ρ1 σ H1 a = none := n1 a z
            rw [full_of c e] at n1'; cases n1'
      have dis : ∀ b, Foot H2 d2 q b → ¬ Foot H1 d1 p b := fun b f z => n3 b f (.inr z)
      have o1' : Own K mg (Ex ((w.plus (Foot H1 d1 p)).plus (Foot H2 d2 q)).E ρ2 σ H2) H2 d1 p := o1.stepN kk.1 kk.2 up
      have hRq : ∀ b, Foot H2 d2 q b → w.R b = none := fun b f => by
        have z : (w.plus (Foot H1 d1 p)).R b = none := in_full_none S1 (n1 b f)
        exact z
      have S2'' := S2'
      rw [Wd.plus_comm] at S2'' o1'
      rw [← ef] at S2'' o1' m1 m2 m3
      have S3 := S2''.setOw (i := i) (w := w.plus (Foot H2 d2 q)) m1 m2 (fun b f z => z.elim (m3 b f) fun z => dis b z (by rw [← ef]; exact f)) (fun b f z => S2'.exo b z (.inl (.inr (by rw [← ef]; exact f)))) o1'
      have ow : ∀ a, Ownd (ρ2.set i (.ow d1)) (σ.set i (some (.ref p))) H2 a → Foot H1 d1 p a ∨ Ownd ρ2 σ H2 a := fun a z => by
        rcases own_set z with ⟨_, _, e, z, f, _⟩ | ⟨m, t, d, b, _, q1, q2, q3, f⟩
        · cases e; cases z; rw [ef] at f; exact .inl f
        · exact .inr ⟨m, t, d, b, q1, q2, q3, f⟩
      refine k _ H2 (S3.setOw (i := j) hRq n2 (fun b f z => n3 b f (.inl z)) (fun b f z => (ow b z).elim (dis b f) (n4 b f)) (o2.sub fun a z => ?_))
      rcases z with (z | z) | z
      · exact .inl (.inl (.inl z))
      · exact .inl (.inr z)
      · rcases ow a z with z | z
        · exact .inl (.inl (.inr z))
        · exact .inr z
    | no => exact hv2.elim
    | io d => exact hv2.elim
  | no => exact h.elim
  | io d => exact h.elim
theorem s_par {i j : Nat} {g : FE} (h : PS X st (tPar i j (tCons (denE X.K X.mg f) (tCons (denE X.K X.mg g) tNil)))) : SX X st (sPar i j f g) := ps_imp h fun D σ H q => by
  obtain ⟨w, ρ, S, r, hf, k⟩ := q
  obtain ⟨⟨s1, ρ1⟩, h1, hf⟩ := Option.bind_eq_some_iff.mp hf
  obtain ⟨⟨s2, ρ2⟩, h2, e2⟩ := Option.map_eq_some_iff.mp hf
  subst e2
  refine ⟨w, ρ, S, s1, ρ1, h1, fun v1 H1 hv1 => ?_⟩
  exact par_two hv1 h2 fun v2 H2 S2 => ⟨v1, v2, rfl, k _ H2 S2⟩
end
/-! ### comprehensions -/
section
variable {X : Cx} {e : Expr} {st : Stmt} {src : FI} {t : Tg} {c : FT} {f : FE} {vs : List Nat} {i : Nat}
abbrev TsX (X : Cx) (ifs : List Expr) (c : FT) : Prop := PTs X ifs (denT X.K X.mg c)
theorem pts_imp {ifs : List Expr} {t u : TT} (h : PTs X ifs t) (k : ∀ σ H Q, u σ H Q → t σ H Q) : PTs X ifs u := ⟨fun pins s σ H Q I q => h.run pins s σ H Q I (k σ H Q q)⟩
theorem ts_yes : TsX X [] tTrue := pts_imp pts_nil fun σ H Q q => by
  obtain ⟨w, ρ, S, b, ρ', hf, k⟩ := q
  cases hf
  exact k H S
theorem e_lc (hv : ∀ i ∈ t.ixs, i ∈ vs) (h : PE X e (tLc (denI X.K X.mg src) (denP X.K X.mg t) (denT X.K X.mg c) (denE X.K X.mg f) vs)) : EX X e (eLc vs t src c f) := pe_imp h fun _ _ _ q => lc_den hv q
theorem s_setLc (hv : ∀ i ∈ t.ixs, i ∈ vs) (h : PS X st (tAsg (tLc (denI X.K X.mg src) (denP X.K X.mg t) (denT X.K X.mg c) (denE X.K X.mg f) vs) (gName i))) : SX X st (sSet i (eLc vs t src c f)) := ps_imp h fun D σ H q => by
  obtain ⟨w, ρ, S, r, hf, k⟩ := q
  obtain ⟨⟨s, ρ1⟩, h1, e1⟩ := Option.map_eq_some_iff.mp hf
  subst e1
  exact lc_den hv ⟨w, ρ, S, s, ρ1, h1, fun v H1 hv => k _ H1 (hv.set i)⟩
end

/-! ### slices -/
abbrev FO := Ev → Option (Option Int × Ev)
def denO (K : Fg) (mg : Mg) (f : FO) : TO := fun σ H Q => ∃ (w : Wd) (ρ : Ev), SR K mg w ρ σ H ∧ ∃ (o : Option Int) (ρ' : Ev), f ρ = some (o, ρ') ∧ ∀ H', SR K mg w ρ' σ H' → Q o H'
abbrev OX (X : Cx) (e : Option Expr) (f : FO) : Prop := PO X e (denO X.K X.mg f)
theorem po_imp {X : Cx} {e : Option Expr} {t u : TO} (h : PO X e t) (k : ∀ σ H Q, u σ H Q → t σ H Q) : PO X e u := ⟨fun pins s σ H Q I q => h.run pins s σ H Q I (k σ H Q q)⟩
def oNone : FO := fun ρ => some (none, ρ)
def oSome (f : FE) : FO := fun ρ => (f ρ).bind fun p => match vl p.1 with
  | some (.int i) => some (some i, p.2)
  | _ => none
def eSl (o : D → Option Int → Option Int → Option Sl) (f : FE) (lo hi : FO) : FE := fun ρ => (f ρ).bind fun p => (vl p.1).bind fun d => (lo p.2).bind fun l => (hi l.2).bind fun h => (o d l.1 h.1).map fun s => (s, h.2)
def cutD (ds : List D) (lo hi : Option Int) : List D := (ds.drop (HT.sIx ds.length 0 lo)).take (HT.sIx ds.length ds.length hi - HT.sIx ds.length 0 lo)
def sliceO : D → Option Int → Option Int → Option Sl
  | .tup ds, lo, hi => some (.sh (.tup (cutD ds lo hi)))
  | .lst ds, lo, hi => some (.ow (.lst (cutD ds lo hi)))
  | .scr ds, lo, hi => some (.ow (.lst (cutD ds lo hi)))
  | _, _, _ => none
theorem cut_rps {K : Fg} {mg : Mg} {O : AP} {H : Hp} {ds : List D} {vs : List V} {lo hi : Option Int} (r : Rps K mg O H ds vs) : Rps K mg O H (cutD ds lo hi) (cutV vs lo hi) := by
  unfold cutD cutV
  rw [r.len]
  exact (r.drop _).take _
section
variable {X : Cx} {e : Expr} {es : Option Expr} {f : FE} {lo hi : FO}
theorem o_none : OX X none oNone := po_imp po_none fun σ H Q q => by
  obtain ⟨w, ρ, S, o, ρ', hf, k⟩ := q
  cases hf
  exact k H S
theorem o_some (h : EX X e f) : OX X (some e) (oSome f) := po_imp (po_some h) fun σ H Q q => by
  obtain ⟨w, ρ, S, o, ρ', hf, k⟩ := q
  obtain ⟨⟨s, ρ1⟩, h1, hf⟩ := Option.bind_eq_some_iff.mp hf
  split at hf
  · rename_i i hi
    cases hf
    refine one S h1 hi fun v H1 S1 r1 => ?_
    cases r1
    exact ⟨i, rfl, k H1 S1⟩
  · cases hf
def rSlU (K : Fg) : V → Option Int → Option Int → Hp → VK → Prop := fun x lo hi H Q => rSlB K x lo hi H Q ∨ rSlL K x lo hi H Q
theorem sl_U : SlR X (rSlU X.K) := sl_tupB.or sl_list
theorem e_sl (h : PE X e (tSl (rSlU X.K) (denE X.K X.mg f) (denO X.K X.mg lo) (denO X.K X.mg hi))) : EX X e (eSl sliceO f lo hi) := pe_imp h fun σ H Q q => by
  obtain ⟨w, ρ, S, s, ρ', hf, k⟩ := q
  obtain ⟨⟨s1, ρ1⟩, h1, hf⟩ := Option.bind_eq_some_iff.mp hf
  obtain ⟨d, hd, hf⟩ := Option.bind_eq_some_iff.mp hf
  obtain ⟨⟨l, ρ2⟩, h2, hf⟩ := Option.bind_eq_some_iff.mp hf
  obtain ⟨⟨u, ρ3⟩, h3, hf⟩ := Option.bind_eq_some_iff.mp hf
  obtain ⟨s4, h4, e4⟩ := Option.map_eq_some_iff.mp hf
  cases e4
  refine one S h1 hd fun v H1 S1 r1 => ⟨_, ρ1, S1.fill, l, ρ2, h2, fun H2 S2 => ⟨_, ρ2, S2, u, ρ3, h3, fun H3 S3 => ?_⟩⟩
  have r3 := S1.carry S3 r1
  have S3' := S1.back S3
  have lists : ∀ {ds : List D}, d.items = some ds → s = .ow (.lst (cutD ds l u)) → rSlU X.K v l u H3 Q := fun {ds} hi es => by
    obtain ⟨a, vs, rfl, hs, rr⟩ := r3.itemsAt hi
    subst es
    exact .inr ⟨a, vs, rfl, hs, fun p hp => k _ _ (VR.newL S3' hp (cut_rps rr))⟩
  unfold sliceO at h4
  split at h4
  · rename_i ds _ _
    cases h4
    have r4 := r3
    obtain ⟨a, vs, rfl, hs, rr⟩ := r3.tupAt
    refine .inl ⟨a, vs, rfl, hs, fun hw => ?_, fun hw p o ho hp => k _ _ (VR.newT ho S3' hp (cut_rps rr))⟩
    have e : cutD ds l u = ds := by
      unfold cutD
      rw [rr.len, hw.1, hw.2]
      exact List.take_of_length_le (Nat.le_of_eq rr.len)
    rw [e] at k
    exact k _ _ ⟨S3', r4⟩
  · cases h4; exact lists rfl rfl
  · cases h4; exact lists rfl rfl
  · cases h4
end

/-! ### + of anything -/
def catO : O2 := fun x y => match x, y with
  | .tup a, .tup b => if a.length + b.length ≤ sizeLine then some (.sh (.tup (a ++ b))) else none
  | .lst a, .lst b => if a.length + b.length ≤ sizeLine then some (.ow (.lst (a ++ b))) else none
  | .str a, .str b => if a.length + b.length ≤ sizeLine then some (.sh (.str (a ++ b))) else none
  | .int i, .int j => some (.sh (.int (i + j)))
  | _, _ => none
def rPlus (K : Fg) : R2 := fun x y H Q => rCatB K x y H Q ∨ rCat x y H Q ∨ (∃ i j : Str, x = .str i ∧ y = .str j ∧ i.length + j.length ≤ sizeLine ∧ Q (.str (i ++ j)) H) ∨ rI0 (fun i j => .int (i + j)) x y H Q
section
variable {X : Cx}
theorem op_plus : OpR X (binaryOp .Add) (rPlus X.K) := op_catB.or (op_cat.or (op_add_str.or op_add))
theorem x_plus : OpS X (rPlus X.K) catO := ⟨fun w ρ σ H x y dx dy s Q S rx ry e k => by
  unfold catO at e
  split at e
  · split at e
    · rename_i a b hz
      cases e
      have rx' := rx
      have ry' := ry
      obtain ⟨p, vs, rfl, hs, rr⟩ := rx.tupAt
      obtain ⟨q, us, rfl, hs2, rr2⟩ := ry.tupAt
      refine .inl ⟨p, q, vs, us, rfl, rfl, hs, hs2, by rw [← rr.len, ← rr2.len]; exact hz, fun e => ?_, fun _ e => ?_, fun _ _ l o ho hl => k _ _ (VR.newT ho S hl (rr.app rr2))⟩
      · have e1 : a = [] := List.eq_nil_of_length_eq_zero (by rw [rr.len, e]; rfl)
        subst e1
        exact k _ _ ⟨S, ry'⟩
      · have e1 : b = [] := List.eq_nil_of_length_eq_zero (by rw [rr2.len, e]; rfl)
        subst e1
        rw [List.append_nil] at k
        exact k _ _ ⟨S, rx'⟩
    · cases e
  · split at e
    · rename_i a b hz
      cases e
      obtain ⟨p, vs, rfl, hs, rr⟩ := rx.lstAt
      obtain ⟨q, us, rfl, hs2, rr2⟩ := ry.lstAt
      exact .inr (.inl ⟨p, q, vs, us, rfl, rfl, hs, hs2, by rw [← rr.len, ← rr2.len]; exact hz, fun l hl => k _ _ (VR.newL S hl (rr.app rr2))⟩)
    · cases e
  · split at e
    · rename_i a b hz
      cases e
      cases rx; cases ry
      exact .inr (.inr (.inl ⟨_, _, rfl, rfl, hz, k _ _ ⟨S, .str _⟩⟩))
    · cases e
  · cases e
    cases rx; cases ry
    exact .inr (.inr (.inr ⟨_, _, rfl, rfl, k _ _ ⟨S, .int _⟩⟩))
  · cases e⟩
end

/-! ### isinstance of a built-in class -/
def D.tyn : D → Option String
  | .non => some "NoneType"
  | .bl _ => some "bool"
  | .int _ => some "int"
  | .str _ => some "str"
  | .tup _ => some "tuple"
  | .tpw _ => some "tuple"
  | .lst _ => some "list"
  | .scr _ => some "list"
  | .dic _ _ => some "dict"
  | _ => none
def isiD : List D → Option D
  | [x, .ty n] => (x.tyn.bind fun a => kitB a n).map .bl
  | _ => none
section
variable {X : Cx}
theorem tyx_of {O : AP} {H : Hp} {d : D} {v : V} {n : String} (r : Rk X.K X.mg O H d v) (h : d.tyn = some n) : TyX X.K H v (.type n) := by
  rcases r with r | ⟨a, rfl, o⟩
  · cases r with
    | non => cases h; exact .base .non
    | bl b => cases h; exact .base (.bl b)
    | int i => cases h; exact .base (.int i)
    | str x => cases h; exact .base (.str x)
    | ty n => cases h
    | tup h1 _ _ => cases h; exact .fTuple h1.1
    | tpw h1 _ =>
      cases h
      rcases h1 with h1 | (h1 | ⟨_, h1⟩) | ⟨o, its, m, h1, h2, _⟩
      · exact .base (.tup h1.1)
      · cases h1
      · cases h1
      · exact .kTuple h1 h2
    | lst h1 _ => cases h; exact .base (.lst h1.1)
    | scr h1 _ =>
      cases h
      rcases h1 with ⟨h1 | ⟨o, h1⟩, _⟩ | (h1 | ⟨_, h1⟩) | ⟨o, its, m, h1, h2, _⟩
      · exact .base (.lst h1)
      · exact .base (.frz h1)
      · cases h1
      · cases h1
      · exact .kList h1 h2
    | obj _ _ _ _ _ _ => cases h
    | dic h1 _ _ _ =>
      cases h
      rcases h1.1 with h1 | ⟨o, h1⟩
      · exact .base (.dK h1)
      · exact .fDict h1
    | dit h1 _ _ _ => cases h
    | exc _ _ _ _ _ _ => cases h
    | lam _ => cases h
    | obx _ _ _ _ _ _ => cases h
    | dix _ _ _ _ => cases h
    | stn _ => cases h
  · cases d with
    | dic ks ds => cases h; cases o with | dic kvs vs h1 _ _ _ => exact .base (.dK h1)
    | dit ks ds => cases h
    | lst ds => cases h; obtain ⟨vs, h1, _⟩ := o; exact .base (.lst h1)
    | obj _ _ _ => cases h
    | obx _ _ _ => cases h
    | dix _ _ => cases h
    | stn _ _ => cases h
    | _ => exact nomatch o
theorem p_isi : CaP X (rIsi X.K) isiD := by
  refine ⟨fun ds d h => ?_, fun O H vs ds d Q r h k => ?_⟩
  · unfold isiD at h
    split at h
    · obtain ⟨b, _, e⟩ := Option.map_eq_some_iff.mp h; cases e; exact ⟨_, .bl _⟩
    · cases h
  · unfold isiD at h
    split at h
    · obtain ⟨b, hb, e⟩ := Option.map_eq_some_iff.mp h
      cases e
      obtain ⟨a, ha, hk⟩ := Option.bind_eq_some_iff.mp hb
      obtain ⟨v, u, rfl, h1, h2⟩ := two_paired r
      rcases h2 with h2 | ⟨_, _, o⟩
      · cases h2
        exact ⟨v, .ty _, .type a, .type _, b, rfl, .ty _, tyx_of h1 ha, kit_ty hk, k _ (.bl b)⟩
      · exact nomatch o
    · cases h
theorem e_ty {x : Str} {n : String} {pos : Pos} (hg : Gl X x) (hm : X.mg x = none) (hv : bootBuiltins x = some (.type n)) (hn : x ≠ "__name__" := by decide) (hd : (x == ("__debug__" : Str)) = false := by decide) : EX X (.Name x pos) (eC (.ty n)) :=
  e_c (pe_bltn (v := .ty n) hg hm hv rfl hn hd) fun _ _ => .ty n
end
end T

/-! T9: enumerate, zip over plain data. -/
namespace T
open PySem PySem.Spec PyProof.Rows L2

/-! ### over plain data -/
def D.seq : D → Option (List D)
  | .lst ds => some ds
  | .scr ds => some ds
  | .tup ds => some ds
  | _ => none
def pairD : List D → List D → List D
  | a :: r, b :: t => .tpw [a, b] :: pairD r t
  | _, _ => []
/-- both lists, or both tuples -/
def zipO : D → D → Option (List D)
  | .tup a, .tup b => some (pairD a b)
  | .lst a, .lst b => some (pairD a b)
  | .scr a, .lst b => some (pairD a b)
  | .lst a, .scr b => some (pairD a b)
  | .scr a, .scr b => some (pairD a b)
  | _, _ => none
def iZp (f g : FE) : FI := fun ρ => (opt2 f g ρ).bind fun q => (zipO q.1 q.2.1).map fun ds => (ds, q.2.2)
theorem pairD_get : ∀ {as bs : List D} {i : Nat} {d : D}, (pairD as bs)[i]? = some d → ∃ a b, as[i]? = some a ∧ bs[i]? = some b ∧ d = .tpw [a, b]
  | [], _, _, _, h => by simp [pairD] at h
  | _ :: _, [], _, _, h => by simp [pairD] at h
  | a :: r, b :: t, 0, d, h => ⟨a, b, rfl, rfl, by simpa [pairD] using h.symm⟩
  | a :: r, b :: t, i + 1, d, h => pairD_get (as := r) (bs := t) (i := i) (by simpa [pairD] using h)
theorem pairD_len : ∀ {as bs : List D}, (pairD as bs).length = min as.length bs.length
  | [], _ => by simp [pairD]
  | _ :: _, [] => by simp [pairD]
  | a :: r, b :: t => by
    have q := pairD_len (as := r) (bs := t)
    simp only [pairD, List.length_cons, q]
    omega
section
variable {K : Fg} {mg : Mg} {O : AP} {H : Hp} {d e : D} {ds es : List D} {a b : Addr}
theorem Rp.listC (h : Rp K mg O H d (.ref a)) (e : d.items = some ds) : ∃ vs, (∀ H', Sub (solid O H) H' → SqL K H' a vs) ∧ Rps K mg O H ds vs := by
  cases h with
  | lst h r => cases e; exact ⟨_, fun H' hC => .inl (.inl (hC _ _ (solid_of h.2 h.1))), r⟩
  | scr h r =>
    cases e
    refine ⟨_, fun H' hC => ?_, r⟩
    rcases h with ⟨h, n⟩ | h
    · rcases h with h | ⟨o, h⟩
      · exact .inl (.inl (hC _ _ (solid_of n h)))
      · exact .inl (.inr ⟨o, hC _ _ (solid_of n h)⟩)
    · exact h.at H'
  | _ => cases e
theorem Rp.tupC (h : Rp K mg O H (.tup ds) (.ref a)) : ∃ vs, (∀ H', Sub (solid O H) H' → SqT K H' a vs) ∧ Rps K mg O H ds vs := by
  cases h with
  | tup h _ r => exact ⟨_, fun H' hC => .inl (.inr ⟨_, hC _ _ (solid_of h.2 h.1)⟩), r⟩
theorem Sub.upd {C H : Hp} {p : Addr} {o : HO} (h : H p = none) (hs : Sub C H) : Sub C (upd H p o) := fun a q e => by
  rw [upd_ne (fun z => by rw [z] at e; rw [hs _ _ e] at h; cases h)]
  exact hs a q e
theorem sub_new {H : Hp} {p : Addr} {o : HO} (h : H p = none) : Sub H (L2.upd H p o) := Sub.upd h fun _ _ e => e
/-- a walk that pairs -/
theorem its_zip {sa sb : Hp → List V → Prop} {us vs : List V} (J : It) (hg : J.go = fun i H => ∃ (xs ys : List V) (x y : V), sa H xs ∧ sb H ys ∧ xs[i]? = some x ∧ ys[i]? = some y) (hy : J.yld = fun i H v H' => ∃ T x y, v = V.ref T ∧ H T = none ∧ H' = L2.upd H T (.tup [x, y]) ∧ (∀ xs, sa H xs → xs[i]? = some x) ∧ ∀ ys, sb H ys → ys[i]? = some y)
    (hp : J.stop = fun i H => ∃ xs ys : List V, sa H xs ∧ sb H ys ∧ (xs.length ≤ i ∨ ys.length ≤ i)) (ha : ∀ H', Sub (solid O H) H' → sa H' us) (hb : ∀ H', Sub (solid O H) H' → sb H' vs) (r : Rps K mg O H ds us) (r2 : Rps K mg O H es vs) : ItS K mg (solid O H) (pairD ds es) J := by
  refine ⟨fun H' hC => ?_, fun i hi H' hC => ?_, fun i d hd w ρ σ H1 x H2 S hC hE yy => ?_⟩
  · rw [hp, pairD_len]
    refine ⟨us, vs, ha H' hC, hb H' hC, ?_⟩
    have e1 := r.len
    have e2 := r2.len
    omega
  · rw [pairD_len] at hi
    obtain ⟨v, hv, _⟩ := r.get (List.getElem?_eq_getElem (show i < ds.length by omega))
    obtain ⟨u, hu, _⟩ := r2.get (List.getElem?_eq_getElem (show i < es.length by omega))
    rw [hg]; exact ⟨us, vs, v, u, ha H' hC, hb H' hC, hv, hu⟩
  · rw [hy] at yy
    obtain ⟨T, y, z, rfl, hT, rfl, hv, hu⟩ := yy
    obtain ⟨d1, d2, g1, g2, rfl⟩ := pairD_get hd
    obtain ⟨v, h1, h2⟩ := r.get g1
    obtain ⟨u, h3, h4⟩ := r2.get g2
    have q := hv us (ha _ fun a o e => S.keep a o (hC a o e) (of_solid e).2.2)
    rw [h1] at q; cases q
    have q := hu vs (hb _ fun a o e => S.keep a o (hC a o e) (of_solid e).2.2)
    rw [h3] at q; cases q
    have q := VR.newTw (ds := [d1, d2]) (vs := [y, z]) S hT (.cons (Rp.keepSolid h2 S hC hE) (.one (Rp.keepSolid h4 S hC hE)))
    exact ⟨q.1, q.2, sub_new hT⟩
end
section
variable {X : Cx} {e e2 : Expr} {f g : FE} {p pos tpos : Pos} {elts : List Expr} {kk : Nat}
theorem i_zp (hg : Gl X "zip") (hm : X.mg "zip" = none) (he : EX X e f) (he2 : EX X e2 g) (hs : starEach [e, e2] X.env = (false, eval e X.env) :: starEach [e2] X.env := by rfl) (hpl : (backTo pos (starEach [e2] X.env)).any (·.1) = false := by rfl)
    (hs1 : starEach [e2] X.env = (false, eval e2 X.env) :: starEach [] X.env := by rfl) : IX X (.Tuple elts kk tpos) (.Call (.Name "zip" p) [e, e2] [] pos) (iZp f g) :=
  pi_imp (RZ.pi_zipA hg hm (pa_cons he (pa_cons he2 pa_nil hs1) hs) hs hpl) fun σ H R h => by
  obtain ⟨w, ρ, S, xs, ρ', hf, k⟩ := h
  obtain ⟨⟨d1, d2, ρ2⟩, h1, hf⟩ := Option.bind_eq_some_iff.mp hf
  obtain ⟨ds, hz, e2⟩ := Option.map_eq_some_iff.mp hf
  cases e2
  obtain ⟨s1, ρ1, s2, g1, g2, g3, g4⟩ := opt2_some h1
  refine one S g1 g2 fun v H1 S1 r1 => ?_
  refine one S1.fill g3 g4 fun u H2 S2 r2 => ?_
  have S2' := S1.back S2
  have r1' := S1.carry S2 r1
  have r2' : Rp X.K X.mg (Ex w.E ρ2 σ H2) H2 d2 u := r2
  have lists : ∀ {as bs : List D}, d1.items = some as → d2.items = some bs → xs = pairD as bs → ∃ a b xs ys, [v, u] = [V.ref a, V.ref b] ∧ ((SqL X.K H2 a xs ∧ SqL X.K H2 b ys ∧ R (Itz X.K a b) H2) ∨ (SqT X.K H2 a xs ∧ SqT X.K H2 b ys ∧ R (RZ.ItzT X.K a b) H2)) := fun {as bs} i1 i2 ed => by
    subst ed
    obtain ⟨a, vs, rfl, hs, _⟩ := r1'.itemsAt i1
    obtain ⟨b, us, rfl, hs2, _⟩ := r2'.itemsAt i2
    obtain ⟨_, m1, m2⟩ := r1'.listC i1
    obtain ⟨_, m3, m4⟩ := r2'.listC i2
    exact ⟨a, b, vs, us, rfl, .inl ⟨hs, hs2, k _ H2 _ S2' (fun a o h => of_solid h) (its_zip (sa := fun H xs => SqL X.K H a xs) (sb := fun H xs => SqL X.K H b xs) (Itz X.K a b) rfl rfl rfl m1 m3 m2 m4)⟩⟩
  show ∃ a b xs ys, [v, u] = [V.ref a, V.ref b] ∧ _
  have hz' : zipO d1 d2 = some xs := hz
  clear hz hf h1
  unfold zipO at hz'
  split at hz'
  · cases hz'
    obtain ⟨a, vs, rfl, hs, _⟩ := r1'.tupAt
    obtain ⟨b, us, rfl, hs2, _⟩ := r2'.tupAt
    obtain ⟨_, m1, m2⟩ := r1'.tupC
    obtain ⟨_, m3, m4⟩ := r2'.tupC
    exact ⟨a, b, vs, us, rfl, .inr ⟨hs, hs2, k _ H2 _ S2' (fun a o h => of_solid h) (its_zip (sa := fun H xs => SqT X.K H a xs) (sb := fun H xs => SqT X.K H b xs) (RZ.ItzT X.K a b) rfl rfl rfl m1 m3 m2 m4)⟩⟩
  · cases hz'; exact lists rfl rfl rfl
  · cases hz'; exact lists rfl rfl rfl
  · cases hz'; exact lists rfl rfl rfl
  · cases hz'; exact lists rfl rfl rfl
  · cases hz'
end
end T

/-! T10: int(text) of many signs. -/
namespace T
open PySem PySem.Spec PyProof.Rows L2 PySem.NumText

structure Boxed (p : Prop) : Prop where
  out : p
section
variable {X : Cx}
end
end T

/-! T11: int('1' + '0' * n). -/
namespace T
open PySem PySem.Spec PyProof.Rows L2 PySem.NumText

section
variable {X : Cx}
end
end T

/-! T12: sorted(set(xs)), xs a list of tuples of ints. -/
namespace T
open PySem PySem.Spec PyProof.Rows L2

def lexL : List Int → List Int → Prop
  | a :: r, b :: t => a < b ∨ (a = b ∧ lexL r t)
  | _, _ => False
instance lexDec : ∀ x y, Decidable (lexL x y)
  | [], _ => .isFalse fun h => by unfold lexL at h; exact h
  | _ :: _, [] => .isFalse fun h => by unfold lexL at h; exact h
  | a :: r, b :: t => by
    unfold lexL
    haveI := lexDec r t
    exact inferInstance
/-- sorted(set(xs)) -/
def okSet (ls : List (List Int)) : Prop := ls.length < 64 ∧ (∀ l ∈ ls, l.length = (ls.headD []).length ∧ 1 ≤ l.length ∧ ∀ m ∈ l, 0 ≤ m)
instance (ls : List (List Int)) : Decidable (okSet ls) := inferInstanceAs (Decidable (_ ∧ _))
section
variable {K : Fg} {mg : Mg} {O : AP} {H : Hp}
theorem rps_ints : ∀ {l : List Int} {vs : List V}, Rps K mg O H (l.map D.int) vs → vs = l.map V.int
  | [], _, .nil => rfl
  | i :: r, _, .cons h t => by
    cases h
    rw [rps_ints t]; rfl
end
section
variable {X : Cx} {a : Expr} {f : FE} {p p2 q pos : Pos}
end
end T

/-! T13: calls with a fresh list, calls by names, the end of a law. -/
namespace T
open PySem PySem.Spec PyProof.Rows L2

/-! ### a fresh list handed to a def that writes it -/
section
variable {K : Fg} {mg : Mg} {w : Wd} {ρ : Ev} {σ : L2.St} {H : Hp} {t : Sl} {x : Option V} {p : Addr} {d : D} {s : Sl} {v : V}
theorem ownd_app {a : Addr} (hl : ρ.length = σ.length) (h : Ownd ρ σ H a) : Ownd (ρ ++ [t]) (σ ++ [x]) H a := by
  obtain ⟨i, s, d, b, h1, h2, h3, f⟩ := h
  have hi : i < ρ.length := (List.getElem?_eq_some_iff.mp h1).1
  exact ⟨i, s, d, b, by rw [List.getElem?_append_left hi]; exact h1, h2, by rw [List.getElem?_append_left (by omega)]; exact h3, f⟩
theorem SR.pop (hl : ρ.length = σ.length) (S : SR K mg w (ρ ++ [t]) (σ ++ [x]) H) : SR K mg w ρ σ H := by
  have up : ∀ {i : Nat} {s : Sl}, ρ[i]? = some s → (ρ ++ [t])[i]? = some s ∧ (σ ++ [x])[i]? = σ[i]? := fun {i s} h => by
    have hi : i < ρ.length := (List.getElem?_eq_some_iff.mp h).1
    exact ⟨by rw [List.getElem?_append_left hi]; exact h, List.getElem?_append_left (by omega)⟩
  refine ⟨hl, fun i s v h1 h2 => ?_, fun i j s t d e b c a h1 h2 h3 h4 h5 h6 f1 f2 => ?_, fun a z => S.exo a (ownd_app hl z), S.kp, S.tabs, S.fresh, S.etr, fun i d h => ?_⟩
  · obtain ⟨g1, g2⟩ := up h1
    exact (S.slot i s v g1 (by rw [g2]; exact h2)).sub fun a z => z.imp id (ownd_app hl)
  · obtain ⟨g1, g2⟩ := up h1
    obtain ⟨g3, g4⟩ := up h3
    exact S.injF i j s t d e b c a g1 h2 g3 h4 (by rw [g2]; exact h5) (by rw [g4]; exact h6) f1 f2
  · obtain ⟨g1, g2⟩ := up h
    rw [← g2]; exact S.iob i d g1
theorem VR.pop (hl : ρ.length = σ.length) (h : VR K mg w (ρ ++ [t]) (σ ++ [x]) H s v) : VR K mg w ρ σ H s v := by
  cases s with
  | sh d =>
    obtain ⟨S, r⟩ := h
    exact ⟨S.pop hl, r.sub fun a z => z.imp id (ownd_app hl)⟩
  | ow d =>
    obtain ⟨p, rfl, h1, h2, h3, h4, S, o⟩ := h
    exact ⟨p, rfl, h1, h2, h3, fun b f z => h4 b f (ownd_app hl z), S.pop hl, o.sub fun a z => z.imp id (ownd_app hl)⟩
  | no => exact h.elim
  | io d => exact h.elim
end
section
variable {X : Cx} {e : Expr} {es : List Expr} {f : FE} {fs : List FE} {F : FF} {k : Nat} {fa : Addr} {fd : FuncData} {ps ks : List Str} {x : Str} {p pos : Pos} {js : List Nat} {kws : List Keyword}
/-! ### by names -/
structure KB (fd : FuncData) (ps ks : List Str) (js : List Nat) : Prop where
  lens : js.length = ps.length
  to : ∀ (s : Shared) (us : List Value), us.length = ks.length → BindsTo s fd ⟨[], ks.zip us⟩ (ps.zip (js.map fun j => us.getD j .none))
theorem Fun.kb {K : Fg} {y qual : Str} {st : Stmt} {g : Addr} {gd : FuncData} (G : Fun K y qual st g gd) (hj : js.length = ps.length)
    (h : ∀ (kV doc pm : Value) (an : Option Addr) (cdv ct : Value) (us : List Value), us.length = ks.length → bindArgs (PySem.W.fnOf y qual (defArgs st) (defBody st) (defScope st) .none kV doc pm an cdv ct) ⟨[], ks.zip us⟩ = pure (ps.zip (js.map fun j => us.getD j .none))) : KB gd ps ks js := by
  obtain ⟨oc, od, kV, doc, pm, an, cdv, ct, osl, rfl, lk, hcd⟩ := G.ex
  exact ⟨hj, fun s us hl => .of_eq (h kV doc pm an cdv ct us hl)⟩
/-- keywords: the list of their values -/
abbrev KX (X : Cx) (kws : List Keyword) (fs : List FE) : Prop := PK X kws (denL X.K X.mg fs)
end

/-! ### the end of a law -/
theorem spT_start {K : Fg} {mg : Mg} {F : FF} {a : Addr} {ns : List Int} {H : Hp} {outs : List Sl} (tA : TabAll K H) (h : SqL K H a (ns.map V.int)) (hF : F [.sh (.scr (ns.map .int))] = some (.sh (.bl true), outs)) :
    spT K mg F [.ref a] H (fun v _ => v = .bl true) fun _ _ _ => False := by
  have lits : ∀ {O : AP} {ns : List Int}, Rps K mg O H (ns.map .int) (ns.map V.int) := fun {O ns} => by
    induction ns with
    | nil => exact .nil
    | cons n r ih => exact .cons (.int n) ih
  have hE : ∀ b, Ex (fun _ => False) [Sl.sh (.scr (ns.map .int))] [some (V.ref a)] H b → False := fun b z => by
    rcases z with z | ⟨i, s, d, _, h1, h2, _⟩
    · exact z
    · cases i with
      | zero => cases h1; cases h2
      | succ i => simp at h1
  refine ⟨⟨H, fun _ => False, fun b => H b = none, [some (.ref a)], fun _ _ => False⟩, [.sh (.scr (ns.map .int))], ⟨rfl, fun i s v h1 h2 => ?_, fun i j s t d e b c a' h1 h2 h3 h4 h5 h6 f1 f2 => ?_, fun b z => (hE b (.inr z)).elim, .of fun b o e => e, tA, fun b e => e, fun b z => z.elim, fun i d h => ?_⟩, rfl, _, _, hF, fun v H' hv => ?_⟩
  · cases i with
    | zero =>
      cases h1; cases h2
      refine ⟨_, rfl, .scr ?_ lits⟩
      rcases h with h | h
      · exact .inl ⟨h, hE a⟩
      · exact .inr (.inr h)
    | succ i => simp at h1
  · exact (hE a' (.inr ⟨i, s, d, b, h1, h2, h5, f1⟩)).elim
  · cases i with
    | zero => cases h
    | succ i => simp at h
  · obtain ⟨_, r⟩ := hv
    cases r
    rfl
theorem headG {P : Program} {w : World} {K : Fg} {mg mb : Str → Option Value} {k : Nat} {fa a : Addr} {fd : FuncData} {x : Str} {F : FF} {z : Shared} {vs : List Value} {ns : List Int} {H : Hp} {outs : List Sl}
    (tA : TabAll K H) (hk : K.In z.heap) (hg : z.heap.Ns mainGlobals mg) (hb : z.heap.Ns builtinsNs mb) (hbb : ∀ y : Str, y ≠ "__name__" → mb y = bootBuiltins y) (hlim : z.heap.NoLimit) (hdig : z.heap.NoDigits) (hgen : z.gens = #[])
    (ha : z.heap.get? a = some { cls := .type "list", data := .seq vs.toArray }) (hr : RoomG k callerA)
    (hF : ∀ base : Heap, K.In base → base.Ns mainGlobals mg → base.NoDigits → FnG P w K mg base CX0 k fa fd [x] (spT K mg F)) (hbind : ∀ (s : Shared) (u : Value), BindsTo s fd ⟨[u], []⟩ [(x, u)])
    (hO : Only H) (hS : SqL K H a (ns.map V.int)) (hok : HOk P w H z.heap) (hA : ∀ b, H b ≠ none → b = a) (hK : H a ≠ none → K.lookup a = none) (hT : F [.sh (.scr (ns.map .int))] = some (.sh (.bl true), outs)) :
    codeAny (model P w) callerA (.call (.ref fa) ⟨[.ref a], []⟩) (fun r s' => r = .ok (.ret (.bool true)) ∧ OldK z.heap s'.heap ∧ s'.os = z.os ∧ AllBare s'.gens) z := by
  have only : ∀ {b : Addr} {u : HO}, H b = some u → b = a := fun {b u} e => hA b fun q => by rw [q] at e; cases e
  have dict : ∀ {b : Addr} {o : Obj} {es : Array DictEntry} {ep : Nat}, z.heap.get? b = some o → o.data = .dict es ep → (hidT z.heap H).get? b = some o := fun {b o es ep} e d => by
    refine hidT_get e ?_
    cases q : H b with
    | none => rfl
    | some u =>
      obtain rfl := only q
      rw [ha] at e
      cases e
      exact nomatch (show Data.seq vs.toArray _ = Data.dict es ep from d)
  have names : ∀ {b : Addr} {m : Str → Option Value}, z.heap.Ns b m → (hidT z.heap H).Ns b m := fun {b m} hn => by
    obtain ⟨o, es, ep, e, d, r⟩ := hn
    exact ⟨o, es, ep, dict e d, d, r⟩
  have kin : K.In (hidT z.heap H) := fun b o e => by
    refine hidT_get (hk b o e) ?_
    cases q : H b with
    | none => rfl
    | some u =>
      obtain rfl := only q
      rw [hK fun y => by rw [y] at q; cases q] at e
      cases e
  obtain ⟨mc, l1, l2⟩ := hlim
  obtain ⟨md, d1, d2⟩ := hdig
  have md' : Mod K mg (hidT z.heap H) := ⟨kin, names hg, ⟨mb, names hb, hbb⟩, mc, names l1, l2⟩
  have env : Env0 P w K mg (hidT z.heap H) callerA [] z H := ⟨rfl, md', fun b o e => of_hidT e, Nat.le_of_eq (hidT_size _ _), trivial, fun b hb => absurd (show b ∈ ([] : List Addr) from hb) (by simp), hok, .of_eq hgen⟩
  have run := (hF _ kin (names hg) ⟨md, names d1, d2⟩).run callerA [] z H ⟨[.ref a], []⟩ [.ref a] [.ref a] _ _ hr env (hbind z (.ref a)) (.cons rfl .nil) (spT_start tA hS hT)
  refine codeAny_mono run fun r s' h => ?_
  cases r with
  | error e => exact h.elim
  | ok fl =>
    cases fl with
    | next => exact h.elim
    | brk => exact h.elim
    | cont => exact h.elim
    | ret u =>
      obtain ⟨v, H', os, bare, un, hok', r', q⟩ := h
      obtain rfl : v = .bl true := q
      obtain rfl : u = Value.bool true := r'
      refine ⟨rfl, OldK.of_keep fun b o e => ?_, os, bare⟩
      rcases hO b with y | ⟨ob, xs, y⟩
      · exact un.keep b o e y (fun m => absurd (show b ∈ ([] : List Addr) from m) (by simp)) (by simp)
      · obtain ⟨e1, _⟩ := hok b _ y
        obtain ⟨e2, _⟩ := hok' b _ (un.frzs b ob _ y)
        rw [e] at e1
        cases e1
        exact e2
theorem lawG {P : Program} {w : World} {K : Fg} {mg mb : Str → Option Value} {k : Nat} {fa a : Addr} {fd : FuncData} {x : Str} {F : FF} {z : Shared} {vs : List Value} {ns : List Int} {outs : List Sl}
    (hln : lamNames = []) (hk : K.In z.heap) (hg : z.heap.Ns mainGlobals mg) (hb : z.heap.Ns builtinsNs mb) (hbb : ∀ y : Str, y ≠ "__name__" → mb y = bootBuiltins y) (hlim : z.heap.NoLimit) (hdig : z.heap.NoDigits) (hgen : z.gens = #[])
    (ha : z.heap.get? a = some { cls := .type "list", data := .seq vs.toArray }) (hi : IntsAre vs ns) (hl : ns.length ≤ sizeLine) (hr : RoomG k callerA)
    (hF : ∀ base : Heap, K.In base → base.Ns mainGlobals mg → base.NoDigits → FnG P w K mg base CX0 k fa fd [x] (spT K mg F)) (hbind : ∀ (s : Shared) (u : Value), BindsTo s fd ⟨[u], []⟩ [(x, u)])
    (hT : F [.sh (.scr (ns.map .int))] = some (.sh (.bl true), outs)) :
    codeAny (model P w) callerA (.call (.ref fa) ⟨[.ref a], []⟩) (fun r s' => r = .ok (.ret (.bool true)) ∧ OldK z.heap s'.heap ∧ s'.os = z.os ∧ AllBare s'.gens) z := by
  have rv := vals_ints hi
  have len := hi.length
  cases q : K.lookup a with
  | some o =>
    have e := hk a o q
    rw [ha] at e
    cases e
    have tA : ∀ H : Hp, TabAll K H := fun H P q ⟨n, _, h, _⟩ => by rw [hln] at h; cases h
    exact headG (H := fun _ => none) (tA _) hk hg hb hbb hlim hdig hgen ha hr hF hbind (fun _ => .inl rfl) (.inr ⟨_, vs.toArray, _, q, rfl, rfl, rfl, by rw [List.size_toArray, len]; exact hl, by simpa using rv⟩)
      (fun b u y => nomatch (show (none : Option HO) = some u from y)) (fun b y => absurd rfl y) (fun y => absurd rfl y) hT
  | none =>
    have tA : ∀ H : Hp, TabAll K H := fun H P q ⟨n, _, h, _⟩ => by rw [hln] at h; cases h
    refine headG (H := fun b => if b = a then some (.frz { cls := .type "list", data := .seq vs.toArray } (.lst (ns.map V.int))) else none) (tA _) hk hg hb hbb hlim hdig hgen ha hr hF hbind (fun b => ?_) (.inl (.inr ⟨_, if_pos rfl⟩)) (fun b u y => ?_) (fun b y => ?_) (fun _ => q) hT
    · by_cases c : b = a
      · exact .inr ⟨_, _, if_pos c⟩
      · exact .inl (if_neg c)
    · by_cases c : b = a
      · have y' := (if_pos c).symm.trans y
        cases y'
        subst c
        exact ⟨ha, by rw [List.length_map]; exact hl, vs, _, rv, ha⟩
      · exact nomatch (if_neg c).symm.trans y
    · by_cases c : b = a
      · exact c
      · exact absurd (if_neg c) y
theorem walkG {l : PySem.W.OpenLaw} {n k : Nat} {q : Program} {loose : List Str} {XP : (Str → Option Value) → Heap → Prop} {YP : World → Heap → Prop} {d : DefRec} {K : Params → Fg} {F : FF} {x : Str}
    (hn : l.most = some n) (hn2 : n ≤ sizeLine) (hdf : d.params.defaults = []) (hr : RoomG k callerA) (hY : ∀ (w : World) (h : Heap), YP w h → (K w.params).In h)
    (hF : ∀ (w : World) (mg : Str → Option Value) (fa : Addr) (h : Heap), (K w.params).In h → h.Ns mainGlobals mg → mg d.name = some (.ref fa) →
      ∃ fd : FuncData, (∀ (s : Shared) (u : Value), BindsTo s fd ⟨[u], []⟩ [(x, u)]) ∧ ∀ base : Heap, (K w.params).In base → base.Ns mainGlobals mg → base.NoDigits → FnG l.prog w (K w.params) mg base CX0 k fa fd [x] (spT (K w.params) mg F))
    (hT : ∀ ns : List Int, ns.length ≤ n → ∃ outs, F [.sh (.scr (ns.map .int))] = some (.sh (.bl true), outs)) (hln : lamNames = [] := by rfl) :
    PySem.W.WalkO q loose XP YP l.row.toRowW d [] (fun f vs => PySem.call f vs) := by
  refine Att.attach_call hn hdf fun w s₀ z mg mb fa o pm cd doc a vs ns G Y ho hd hcd hmg hobj hints hlen hg => ?_
  obtain ⟨fd, hb, h⟩ := hF w mg fa _ (hY w _ Y) G.T.g hmg
  obtain ⟨outs, ht⟩ := hT ns hlen
  exact lawG hln (hY w _ Y) G.T.g G.T.b G.T.builtins G.T.nolimit G.T.nodigits hg hobj hints (Nat.le_trans hlen hn2) hr h hb ht
end T

/-! T14: a walk over a list or a tuple; -x; short forms for the printed derivations. -/
namespace T
open PySem PySem.Spec PyProof.Rows L2

def iAny (K : Fg) (te : TE) : TI := fun σ H R => te σ H fun v H1 => ∃ a, v = .ref a ∧ (((∃ xs, SqL K H1 a xs) ∧ R (Itl K a) H1) ∨ ((∃ xs, SqT K H1 a xs) ∧ R (Itt K a) H1))
theorem pi_any {X : Cx} {tg e : Expr} {te : TE} (he : PE X e te) : PI X tg e (iAny X.K te) := by
  refine ⟨fun pins s σ H R I h => thn (he.run pins s σ H _ I h) fun v s1 hh => ?_⟩
  obtain ⟨x, H1, I1, r1, a, rfl, q⟩ := hh
  cases r1
  have fp : ∀ b, b ∈ [s1.heap.objs.size] → FpOk X pins H1 b := fun b hb => by
    rw [List.mem_singleton.mp hb]
    exact I1.fpOk (Nat.le_refl _) (I1.hok.fresh (Nat.le_refl _))
  have kp : ∀ {o : Obj}, Inv X pins σ H1 { s1 with heap := s1.heap.push o } := fun {o} => I1.kept (t' := s1.toks) fun b o' e => Heap.get?_push_of_some _ e
  rcases q with ⟨⟨xs, hq⟩, q⟩ | ⟨⟨xs, hq⟩, q⟩
  · obtain ⟨its, rv, pl, hz⟩ := I1.list hq
    exact wpAny_pyIter_list pl.isList ⟨s1.heap.objs.size, [s1.heap.objs.size], _, _, H1, rfl, kp, turn_list a _, ⟨_, Heap.get?_push_size _ rfl, rfl, rfl⟩, fp, q⟩
  · obtain ⟨its, rv, pt, hz⟩ := I1.tuple hq
    exact wpAny_pyIter_tuple (show s1.heap.IsTuple a its.toArray from pt) ⟨s1.heap.objs.size, [s1.heap.objs.size], _, _, H1, rfl, kp, turn_tuple a _, ⟨_, Heap.get?_push_size _ rfl, rfl, rfl⟩, fp, q⟩
def iSeq (f : FE) : FI := fun ρ => (f ρ).bind fun p => (vl p.1).bind fun d => d.seq.map fun ds => (ds, p.2)
section
variable {X : Cx} {tg e : Expr} {f : FE} {pos : Pos}
theorem i_seq (he : EX X e f) : IX X tg e (iSeq f) := pi_imp (pi_any he) fun σ H R h => by
  obtain ⟨w, ρ, S, xs, ρ', hf, k⟩ := h
  obtain ⟨⟨s, ρ1⟩, h1, hf⟩ := Option.bind_eq_some_iff.mp hf
  obtain ⟨d, hd, hf⟩ := Option.bind_eq_some_iff.mp hf
  obtain ⟨ds, he, e2⟩ := Option.map_eq_some_iff.mp hf
  cases e2
  refine one S h1 hd fun v H1 S1 r1 => ?_
  have lists : d.items = some xs → ∃ a, v = .ref a ∧ (((∃ xs, SqL X.K H1 a xs) ∧ R (Itl X.K a) H1) ∨ ((∃ xs, SqT X.K H1 a xs) ∧ R (Itt X.K a) H1)) := fun hi => by
    obtain ⟨a, vs, rfl, hs, _⟩ := r1.itemsAt hi
    exact ⟨a, rfl, .inl ⟨⟨vs, hs⟩, k _ H1 _ S1 (fun a o h => of_solid h) (r1.itl hi)⟩⟩
  show ∃ a, v = V.ref a ∧ _
  cases d with
  | lst _ => exact lists he
  | scr _ => exact lists he
  | tup es =>
    cases he
    obtain ⟨a, vs, rfl, hs, _⟩ := r1.tupAt
    exact ⟨a, rfl, .inr ⟨⟨vs, hs⟩, k _ H1 _ S1 (fun a o h => of_solid h) r1.itt⟩⟩
  | _ => cases he
end
end T

/-! T15: how the mirrors reckon. -/
namespace T
open PySem L2

/-! ### simp rules -/
/-- no simp rule by definition alone: the kernel is not to reckon -/
theorem nrfl {α : Sort _} {a b : α} (h : a = b) : a = b := h
section
variable {f g : FE} {c d : FT} {b r t : FS} {ρ : Ev}
def Rs.on (g : FS) : Rs → Option Rs
  | .nx ρ => g ρ
  | .bk ρ => some (.bk ρ)
  | .ct ρ => some (.ct ρ)
  | .rt s ρ => some (.rt s ρ)
@[simp] theorem on_nx : Rs.on b (.nx ρ) = b ρ := nrfl rfl
@[simp] theorem on_rt {s : Sl} : Rs.on b (.rt s ρ) = some (.rt s ρ) := nrfl rfl
@[simp] theorem on_bk : Rs.on b (.bk ρ) = some (.bk ρ) := nrfl rfl
@[simp] theorem on_ct : Rs.on b (.ct ρ) = some (.ct ρ) := nrfl rfl
@[simp] theorem sNil_e : sNil ρ = some (.nx ρ) := nrfl rfl
@[simp] theorem sSeq_e : sSeq b r ρ = (b ρ).bind (Rs.on r) := by
  unfold sSeq
  congr 1
  funext x
  cases x <;> rfl
@[simp] theorem sIf_e : sIf c b r ρ = (c ρ).bind fun p => if p.1 = true then b p.2 else r p.2 := nrfl rfl
@[simp] theorem sRet_e : sRet f ρ = (f ρ).map fun p => .rt p.1 p.2 := nrfl rfl
@[simp] theorem sRetO_e {i : Nat} : sRetO i ρ = match ρ[i]? with
  | some (.ow d) => some (.rt (.ow d) (ρ.set i .no))
  | some (.sh d) => some (.rt (.sh d) ρ)
  | _ => none := nrfl rfl
@[simp] theorem sSet_e {i : Nat} : sSet i f ρ = (f ρ).map fun p => .nx (p.2.set i p.1) := nrfl rfl
@[simp] theorem sPar_e {i j : Nat} : sPar i j f g ρ = (f ρ).bind fun p => (g p.2).map fun q => .nx ((q.2.set i p.1).set j q.1) := nrfl rfl
@[simp] theorem sAsg_e {t : Tg} : sAsg t f ρ = (f ρ).bind fun p => (vl p.1).bind fun d => (asg t d p.2).map .nx := nrfl rfl
@[simp] theorem asg_n {i : Nat} {d : D} : asg (.n i) d ρ = some (ρ.set i (.sh d)) := by simp [asg]
@[simp] theorem asg_t {ts : List Tg} {ds : List D} : asg (.t ts) (.tup ds) ρ = asgs ts ds ρ := by simp [asg]
@[simp] theorem asg_tw {ts : List Tg} {ds : List D} : asg (.t ts) (.tpw ds) ρ = asgs ts ds ρ := by simp [asg]
@[simp] theorem asg_tl {ts : List Tg} {ds : List D} : asg (.t ts) (.lst ds) ρ = asgs ts ds ρ := by simp [asg]
@[simp] theorem asgs_nil : asgs [] [] ρ = some ρ := by simp [asgs]
@[simp] theorem asgs_cons {t : Tg} {ts : List Tg} {d : D} {ds : List D} : asgs (t :: ts) (d :: ds) ρ = (asg t d ρ).bind (asgs ts ds) := by simp [asgs]
@[simp] theorem vl_sh {d : D} : vl (.sh d) = some d := nrfl rfl
@[simp] theorem vl_ow {d : D} : vl (.ow d) = some d := nrfl rfl
@[simp] theorem eC_e {d : D} : eC d ρ = some (.sh d, ρ) := nrfl rfl
@[simp] theorem eVar_e {i : Nat} : eVar i ρ = match ρ[i]? with
  | some (.sh d) => some (.sh d, ρ)
  | some (.ow d) => some (.sh d, ρ.set i (.sh d))
  | _ => none := nrfl rfl
@[simp] theorem opt2_e : opt2 f g ρ = (f ρ).bind fun p => (vl p.1).bind fun x => (g p.2).bind fun q => (vl q.1).map fun y => (x, y, q.2) := nrfl rfl
@[simp] theorem eBin_e {o : O2} : eBin o f g ρ = (f ρ).bind fun p => (vl p.1).bind fun x => (g p.2).bind fun q => (vl q.1).bind fun y => (o x y).map fun s => (s, q.2) := by
  show (opt2 f g ρ).bind _ = _
  unfold opt2
  cases f ρ with
  | none => rfl
  | some p =>
    simp only [Option.bind_some]
    cases vl p.1 with
    | none => rfl
    | some x =>
      simp only [Option.bind_some]
      cases g p.2 with
      | none => rfl
      | some q =>
        simp only [Option.bind_some]
        cases vl q.1 <;> rfl
@[simp] theorem tOf_e : tOf f ρ = (f ρ).bind fun p => match p.1 with
  | .sh (.bl b) => some (b, p.2)
  | _ => none := nrfl rfl
@[simp] theorem tAnd_e : tAnd' c d ρ = (c ρ).bind fun p => if p.1 = true then d p.2 else some (false, p.2) := nrfl rfl
@[simp] theorem tOr_e : tOr' c d ρ = (c ρ).bind fun p => if p.1 = true then some (true, p.2) else d p.2 := nrfl rfl
@[simp] theorem tNot_e : tNot' c ρ = (c ρ).map fun p => (!p.1, p.2) := nrfl rfl
@[simp] theorem eIf_e : eIf c f g ρ = (c ρ).bind fun p => if p.1 = true then f p.2 else g p.2 := nrfl rfl
@[simp] theorem evs_nil : evs [] ρ = some ([], ρ) := nrfl rfl
@[simp] theorem evs_cons {fs : List FE} : evs (f :: fs) ρ = (f ρ).bind fun p => (vl p.1).bind fun d => (evs fs p.2).map fun q => (d :: q.1, q.2) := nrfl rfl
@[simp] theorem evg_nil : evg [] ρ = some ([], ρ) := nrfl rfl
@[simp] theorem evg_e {r : List Ag} : evg (.e f :: r) ρ = (f ρ).bind fun p => (vl p.1).bind fun d => (evg r p.2).map fun q => (.inl d :: q.1, q.2) := nrfl rfl
@[simp] theorem evg_o {i : Nat} {r : List Ag} : evg (.o i :: r) ρ = (ρ[i]?).bind fun s => if s.some? then (evg r ρ).map fun q => (.inr i :: q.1, q.2) else none := nrfl rfl
@[simp] theorem some_sh {d : D} : (Sl.sh d).some? = true := nrfl rfl
@[simp] theorem some_ow {d : D} : (Sl.ow d).some? = true := nrfl rfl
@[simp] theorem some_io {d : D} : (Sl.io d).some? = true := nrfl rfl
@[simp] theorem eCall_e {F : FF} {as : List Ag} : eCall F [] as ρ = (evg as ρ).bind fun p => if (ownIx p.1).Nodup then (F (p.1.map (slOf p.2))).bind fun r => if p.1.length = r.2.length then some (r.1, updA p.2 p.1 r.2) else none else none := by
  unfold eCall
  simp
@[simp] theorem ownIx_nil : ownIx [] = [] := nrfl rfl
@[simp] theorem ownIx_l {d : D} {r : List AV} : ownIx (.inl d :: r) = ownIx r := nrfl rfl
@[simp] theorem ownIx_r {i : Nat} {r : List AV} : ownIx (.inr i :: r) = i :: ownIx r := nrfl rfl
@[simp] theorem slOf_l {d : D} : slOf ρ (.inl d) = .sh d := nrfl rfl
@[simp] theorem slOf_r {i : Nat} : slOf ρ (.inr i) = match ρ[i]? with
  | some (.sh d) => .sh d
  | some (.ow d) => .io d
  | some (.io d) => .io d
  | _ => .no := nrfl rfl
@[simp] theorem updA_nil {os : List Sl} : updA ρ [] os = ρ := nrfl rfl
@[simp] theorem updA_cons {a : AV} {r : List AV} {o : Sl} {os : List Sl} : updA ρ (a :: r) (o :: os) = updA (upd1 ρ (a, o)) r os := nrfl rfl
@[simp] theorem upd1_l {d : D} {o : Sl} : upd1 ρ (.inl d, o) = ρ := nrfl rfl
@[simp] theorem upd1_r {i : Nat} {o : Sl} : upd1 ρ (.inr i, o) = match ρ[i]? with
  | some s => ρ.set i (outSl s o)
  | none => ρ := nrfl rfl
@[simp] theorem outSl_w {d e : D} : outSl (.ow d) (.io e) = .ow e := nrfl rfl
@[simp] theorem outSl_i {d e : D} : outSl (.io d) (.io e) = .io e := nrfl rfl
@[simp] theorem outSl_s {d : D} {o : Sl} : outSl (.sh d) o = .sh d := nrfl rfl
@[simp] theorem eFn_e {o : OL} {fs : List FE} : eFn o fs ρ = (evs fs ρ).bind fun p => (o p.1).map fun s => (s, p.2) := nrfl rfl
@[simp] theorem eFnV_e {o : List D → Option D} {i : Nat} : eFnV o i ρ = (peek ρ i).bind fun d => (o [d]).map fun y => (.sh y, ρ) := nrfl rfl
@[simp] theorem shO_e {o : List D → Option D} {ds : List D} : shO o ds = (o ds).map .sh := nrfl rfl
@[simp] theorem peek_sh {d : D} {r : Ev} : peek (.sh d :: r) 0 = some d := nrfl rfl
@[simp] theorem peek_ow {d : D} {r : Ev} : peek (.ow d :: r) 0 = some d := nrfl rfl
@[simp] theorem peek_io {d : D} {r : Ev} : peek (.io d :: r) 0 = some d := nrfl rfl
@[simp] theorem peek_s {s : Sl} {r : Ev} {n : Nat} : peek (s :: r) (n + 1) = peek r n := nrfl rfl
@[simp] theorem eIxV_e {i : Nat} : eIxV i f ρ = (peek ρ i).bind fun _ => (f ρ).bind fun p => (vl p.1).bind fun y => (peek p.2 i).bind fun x => (dIx x y).map fun s => (s, p.2) := nrfl rfl
@[simp] theorem eTup_e {fs : List FE} : eTup fs ρ = (evs fs ρ).bind fun p => if p.1.length ≤ sizeLine then some (.sh (.tup p.1), p.2) else none := nrfl rfl
@[simp] theorem eLst_e {fs : List FE} : eLst fs ρ = (evs fs ρ).bind fun p => if p.1.length ≤ sizeLine then some (.ow (.lst p.1), p.2) else none := nrfl rfl
@[simp] theorem eAnd_e : eAnd f g ρ = (tOf f ρ).bind fun p => if p.1 = true then g p.2 else some (.sh (.bl false), p.2) := nrfl rfl
@[simp] theorem eOr_e : eOr f g ρ = (tOf f ρ).bind fun p => if p.1 = true then some (.sh (.bl true), p.2) else g p.2 := nrfl rfl
@[simp] theorem eChain_e {o p : O2} {h : FE} : eChain o p f g h ρ = (opt2 f g ρ).bind fun q => (o q.1 q.2.1).bind fun s => match s with
  | .sh (.bl true) => (h q.2.2).bind fun t => (vl t.1).bind fun z => (p q.2.1 z).map fun u => (u, t.2)
  | .sh (.bl false) => some (.sh (.bl false), q.2.2)
  | _ => none := nrfl rfl
@[simp] theorem tTrue_e : tTrue ρ = some (true, ρ) := nrfl rfl
@[simp] theorem oNone_e : oNone ρ = some (none, ρ) := nrfl rfl
@[simp] theorem iSeq_e : iSeq f ρ = (f ρ).bind fun p => (vl p.1).bind fun d => d.seq.map fun ds => (ds, p.2) := nrfl rfl
@[simp] theorem seq_l {ds : List D} : (D.lst ds).seq = some ds := nrfl rfl
@[simp] theorem seq_t {ds : List D} : (D.tup ds).seq = some ds := nrfl rfl
@[simp] theorem seq_s {ds : List D} : (D.scr ds).seq = some ds := nrfl rfl
@[simp] theorem sFor_e {t : Tg} {src : FI} : sFor t src b ρ = (src ρ).bind fun p => loopF t b p.1 p.2 := nrfl rfl
@[simp] theorem len_l {ds : List D} : lenD [.lst ds] = some (.int ds.length) := nrfl rfl
@[simp] theorem len_t {ds : List D} : lenD [.tup ds] = some (.int ds.length) := nrfl rfl
@[simp] theorem len_s {ds : List D} : lenD [.scr ds] = some (.int ds.length) := nrfl rfl
end
@[simp] theorem ownLst_e {ρ : Ev} {i : Nat} : ownLst ρ i = (ρ[i]?).bind fun s => match s with
  | .ow (.lst ds) => some ds
  | .io (.lst ds) => some ds
  | _ => none := by
  unfold ownLst
  congr 1
  funext s
  cases s with
  | no => rfl
  | sh d => rfl
  | ow d => cases d <;> rfl
  | io d => cases d <;> rfl
@[simp] theorem putLst_e {ρ : Ev} {i : Nat} {ds : List D} : putLst ρ i ds = (ρ[i]?).bind fun s => match s with
  | .ow (.lst _) => some (ρ.set i (.ow (.lst ds)))
  | .io (.lst _) => some (ρ.set i (.io (.lst ds)))
  | _ => none := nrfl rfl
/-! ### operators -/
section
variable {i j : Int} {x y : D} {ds : List D}
@[simp] theorem cat_i : catO (.int i) (.int j) = some (.sh (.int (i + j))) := nrfl rfl
@[simp] theorem sub_i : subO (.int i) (.int j) = some (.sh (.int (i - j))) := nrfl rfl
theorem mul_i (h1 : small i) (h2 : small j) : mulO (.int i) (.int j) = some (.sh (.int (i * j))) := if_pos ⟨h1, h2⟩
theorem div_i (h1 : 0 < j) (h2 : small j) : divO (.int i) (.int j) = some (.sh (.int (i / j))) := if_pos ⟨h1, h2⟩
theorem mod_i (h1 : 0 < j) : modO (.int i) (.int j) = some (.sh (.int (i % j))) := if_pos h1
@[simp] theorem lt_i : ltO (.int i) (.int j) = some (.sh (.bl (decide (i < j)))) := nrfl rfl
@[simp] theorem le_i : leO (.int i) (.int j) = some (.sh (.bl (decide (i ≤ j)))) := nrfl rfl
@[simp] theorem gt_i : gtO (.int i) (.int j) = some (.sh (.bl (decide (j < i)))) := nrfl rfl
@[simp] theorem ge_i : geO (.int i) (.int j) = some (.sh (.bl (decide (j ≤ i)))) := nrfl rfl
@[simp] theorem eq_i : eqO (.int i) (.int j) = some (.sh (.bl (i == j))) := nrfl rfl
@[simp] theorem ne_i : neO (.int i) (.int j) = some (.sh (.bl (!(i == j)))) := nrfl rfl
@[simp] theorem eq_s {a b : Str} : eqO (.str a) (.str b) = some (.sh (.bl (a == b))) := nrfl rfl
@[simp] theorem ne_s {a b : Str} : neO (.str a) (.str b) = some (.sh (.bl (!(a == b)))) := nrfl rfl
@[simp] theorem abs_i : absD [.int i] = some (.int (if i < 0 then -i else i)) := nrfl rfl
@[simp] theorem int_i : intD [.int i] = some (.int i) := nrfl rfl
@[simp] theorem int_b {b : Bool} : intD [.bl b] = some (.int (if b then 1 else 0)) := nrfl rfl
@[simp] theorem max_ii : maxD [.int i, .int j] = some (.int (if j > i then j else i)) := nrfl rfl
@[simp] theorem min_ii : minD [.int i, .int j] = some (.int (if j < i then j else i)) := nrfl rfl
@[simp] theorem tuple_l : tupleO [.lst ds] = some (.sh (.tup ds)) := nrfl rfl
@[simp] theorem tuple_t : tupleO [.tup ds] = some (.sh (.tup ds)) := nrfl rfl
@[simp] theorem isN_n : isNonO x .non = some (.sh (.bl x.isNon)) := nrfl rfl
@[simp] theorem notN_n : notNonO x .non = some (.sh (.bl (!x.isNon))) := nrfl rfl
@[simp] theorem isNon_i : (D.int i).isNon = false := nrfl rfl
@[simp] theorem isNon_n : D.non.isNon = true := nrfl rfl
@[simp] theorem isNon_t : (D.tup ds).isNon = false := nrfl rfl
@[simp] theorem isNon_l : (D.lst ds).isNon = false := nrfl rfl
theorem atI_nat {α : Type} {xs : List α} {k : Nat} {a : α} (h : xs[k]? = some a) : atI xs (k : Int) = some a := L2.atI_nat h
theorem ix_l {k : Nat} {d : D} (h : ds[k]? = some d) : dIx (.lst ds) (.int k) = some (.sh d) := by show (L2.atI ds _).map _ = _; rw [L2.atI_nat h]; rfl
theorem ix_t {k : Nat} {d : D} (h : ds[k]? = some d) : dIx (.tup ds) (.int k) = some (.sh d) := by show (L2.atI ds _).map _ = _; rw [L2.atI_nat h]; rfl
theorem ix_s {k : Nat} {d : D} (h : ds[k]? = some d) : dIx (.scr ds) (.int k) = some (.sh d) := by show (L2.atI ds _).map _ = _; rw [L2.atI_nat h]; rfl
@[simp] theorem ix_l0 : dIx (.lst (x :: ds)) (.int 0) = some (.sh x) := ix_l (k := 0) rfl
@[simp] theorem ix_t0 : dIx (.tup (x :: ds)) (.int 0) = some (.sh x) := ix_t (k := 0) rfl
@[simp] theorem ix_l1 {z : D} : dIx (.lst (z :: x :: ds)) (.int 1) = some (.sh x) := ix_l (k := 1) rfl
@[simp] theorem ix_t1 {z : D} : dIx (.tup (z :: x :: ds)) (.int 1) = some (.sh x) := ix_t (k := 1) rfl
@[simp] theorem ix_t2 {z u : D} : dIx (.tup (u :: z :: x :: ds)) (.int 2) = some (.sh x) := ix_t (k := 2) rfl
@[simp] theorem ix_t3 {z u v : D} : dIx (.tup (v :: u :: z :: x :: ds)) (.int 3) = some (.sh x) := ix_t (k := 3) rfl
@[simp] theorem ix_t4 {z u v q : D} : dIx (.tup (q :: v :: u :: z :: x :: ds)) (.int 4) = some (.sh x) := ix_t (k := 4) rfl
end
/-! ### loops -/
def Rs.lp (t : Tg) (b : FS) (r : List D) : Rs → Option Rs
  | .nx ρ => loopF t b r ρ
  | .ct ρ => loopF t b r ρ
  | .bk ρ => some (.nx ρ)
  | .rt s ρ => some (.rt s ρ)
@[simp] theorem lp_nx {t : Tg} {b : FS} {r : List D} {ρ : Ev} : Rs.lp t b r (.nx ρ) = loopF t b r ρ := nrfl rfl
@[simp] theorem lp_rt {t : Tg} {b : FS} {r : List D} {ρ : Ev} {s : Sl} : Rs.lp t b r (.rt s ρ) = some (.rt s ρ) := nrfl rfl
@[simp] theorem lp_bk {t : Tg} {b : FS} {r : List D} {ρ : Ev} : Rs.lp t b r (.bk ρ) = some (.nx ρ) := nrfl rfl
@[simp] theorem lp_ct {t : Tg} {b : FS} {r : List D} {ρ : Ev} : Rs.lp t b r (.ct ρ) = loopF t b r ρ := nrfl rfl
@[simp] theorem loopF_nil {t : Tg} {b : FS} {ρ : Ev} : loopF t b [] ρ = some (.nx ρ) := nrfl rfl
@[simp] theorem loopF_cons {t : Tg} {b : FS} {d : D} {r : List D} {ρ : Ev} : loopF t b (d :: r) ρ = (asg t d ρ).bind fun ρ1 => (b ρ1).bind (Rs.lp t b r) := by
  rw [loopF]
  congr 1
@[simp] theorem eSl_e {o : D → Option Int → Option Int → Option Sl} {f : FE} {lo hi : FO} {ρ : Ev} : eSl o f lo hi ρ = (f ρ).bind fun p => (vl p.1).bind fun d => (lo p.2).bind fun l => (hi l.2).bind fun h => (o d l.1 h.1).map fun s => (s, h.2) := nrfl rfl
@[simp] theorem oSome_e {f : FE} {ρ : Ev} : oSome f ρ = (f ρ).bind fun p => match vl p.1 with
  | some (.int i) => some (some i, p.2)
  | _ => none := nrfl rfl
@[simp] theorem slice_t {ds : List D} {lo hi : Option Int} : sliceO (.tup ds) lo hi = some (.sh (.tup (cutD ds lo hi))) := nrfl rfl
@[simp] theorem slice_l {ds : List D} {lo hi : Option Int} : sliceO (.lst ds) lo hi = some (.ow (.lst (cutD ds lo hi))) := nrfl rfl
@[simp] theorem slice_s {ds : List D} {lo hi : Option Int} : sliceO (.scr ds) lo hi = some (.ow (.lst (cutD ds lo hi))) := nrfl rfl
theorem loop_nx {t : Tg} {b : FS} {I : Nat → Ev → Prop} : ∀ {xs : List D} {k : Nat} {ρ : Ev}, I k ρ → (∀ i d ρ, xs[i]? = some d → I (k + i) ρ → ∃ ρ1 ρ2, asg t d ρ = some ρ1 ∧ b ρ1 = some (.nx ρ2) ∧ I (k + i + 1) ρ2) → ∃ ρ', loopF t b xs ρ = some (.nx ρ') ∧ I (k + xs.length) ρ'
  | [], k, ρ, h0, _ => ⟨ρ, rfl, h0⟩
  | d :: r, k, ρ, h0, step => by
    obtain ⟨ρ1, ρ2, h1, h2, h3⟩ := step 0 d ρ rfl h0
    obtain ⟨ρ', h4, h5⟩ := loop_nx (t := t) (b := b) (I := I) (xs := r) (k := k + 1) h3 fun i e ρ he hi => by
      have q := step (i + 1) e ρ (by simpa using he) (by rw [show k + (i + 1) = k + 1 + i by omega]; exact hi)
      rw [show k + (i + 1) = k + 1 + i by omega] at q
      exact q
    refine ⟨ρ', ?_, ?_⟩
    · unfold loopF
      rw [h1]
      simp only [Option.bind_some]
      rw [h2]
      exact h4
    · rw [List.length_cons, show k + (r.length + 1) = k + 1 + r.length by omega]
      exact h5
/-! ### step by step -/
/-- the same over what is written in another way -/
theorem lc_over {α : Type} (enc : α → D) {vs : List Nat} {t : Tg} {c : FT} {f : FE} {P : α → Bool} {G : α → D} {ρ : Ev} : ∀ {as : List α} {acc : List D}, (acc.length + as.length ≤ sizeLine) →
    (∀ a ∈ as, ∃ ρ1 ρ2, asg t (enc a) ρ = some ρ1 ∧ c ρ1 = some (P a, ρ2) ∧ (P a = true → ∃ s ρ3, f ρ2 = some (s, ρ3) ∧ vl s = some (G a) ∧ wipeE ρ3 vs = ρ) ∧ (P a = false → wipeE ρ2 vs = ρ)) →
    lcF vs t c f (as.map enc) acc ρ = some (acc ++ (as.filter P).map G, ρ)
  | [], acc, _, _ => by simp [lcF]
  | a :: r, acc, hz, h => by
    obtain ⟨ρ1, ρ2, h1, h2, h3, h4⟩ := h a List.mem_cons_self
    have hr := fun e he => h e (List.mem_cons_of_mem a he)
    rw [List.map_cons]
    unfold lcF
    rw [h1]
    simp only [Option.bind_some]
    rw [h2]
    simp only [Option.bind_some]
    cases e : P a with
    | true =>
      obtain ⟨s, ρ3, h5, h6, h7⟩ := h3 e
      rw [if_pos rfl, h5]
      simp only [Option.bind_some]
      rw [h6]
      simp only [Option.bind_some]
      rw [if_pos (by simp at hz; omega), h7, lc_over enc (by simp at hz ⊢; omega) hr]
      simp [List.filter_cons, e]
    | false =>
      rw [if_neg Bool.false_ne_true, h4 e, lc_over enc (by simp at hz ⊢; omega) hr]
      simp [List.filter_cons, e]
theorem eLc_over {α : Type} (enc : α → D) {as : List α} {vs : List Nat} {t : Tg} {src : FI} {c : FT} {f : FE} (P : α → Bool) (G : α → D) {ρ ρ0 : Ev} (hs : src ρ = some (as.map enc, ρ0)) (hw : wipeE ρ0 vs = ρ0) (hz : as.length ≤ sizeLine)
    (h : ∀ a ∈ as, ∃ ρ1 ρ2, asg t (enc a) ρ0 = some ρ1 ∧ c ρ1 = some (P a, ρ2) ∧ (P a = true → ∃ s ρ3, f ρ2 = some (s, ρ3) ∧ vl s = some (G a) ∧ wipeE ρ3 vs = ρ0) ∧ (P a = false → wipeE ρ2 vs = ρ0)) :
    eLc vs t src c f ρ = some (.ow (.lst ((as.filter P).map G)), ρ0) := by
  unfold eLc
  rw [hs]
  simp only [Option.bind_some]
  rw [hw, lc_over enc (by simpa using hz) h]
  simp [hw]
theorem cat_t {a b : List D} (h : a.length + b.length ≤ sizeLine) : catO (.tup a) (.tup b) = some (.sh (.tup (a ++ b))) := if_pos h
@[simp] theorem zip_ll {a b : List D} : zipO (.lst a) (.lst b) = some (pairD a b) := nrfl rfl
@[simp] theorem iZp_e {f g : FE} {ρ : Ev} : iZp f g ρ = (opt2 f g ρ).bind fun q => (zipO q.1 q.2.1).map fun ds => (ds, q.2.2) := nrfl rfl
@[simp] theorem wipe_nil {ρ : Ev} : wipeE ρ [] = ρ := nrfl rfl
@[simp] theorem wipe_cons {ρ : Ev} {i : Nat} {vs : List Nat} : wipeE ρ (i :: vs) = (wipeE ρ vs).set i .no := nrfl rfl
theorem rg1 {f : FE} {ρ ρ' : Ev} {s : Sl} {n : Int} (h : f ρ = some (s, ρ')) (hv : vl s = some (.int n)) (h1 : -(2 ^ 62) ≤ n) (h2 : n < 2 ^ 62) : iRg1 f ρ = some (rangeD 0 n.toNat, ρ') := by
  unfold iRg1
  rw [h]
  simp only [Option.bind_some]
  rw [hv]
  exact if_pos ⟨h1, h2⟩
theorem rangeD_len {lo : Int} {n : Nat} : (rangeD lo n).length = n := by simp [rangeD]
def Rs.out (n : Nat) : Rs → Option (Sl × List Sl)
  | .rt s ρ => some (s, takeN n ρ)
  | .nx ρ => some (.sh .non, takeN n ρ)
  | _ => none
@[simp] theorem out_rt {n : Nat} {s : Sl} {ρ : Ev} : Rs.out n (.rt s ρ) = some (s, takeN n ρ) := nrfl rfl
@[simp] theorem out_nx {n : Nat} {ρ : Ev} : Rs.out n (.nx ρ) = some (.sh .non, takeN n ρ) := nrfl rfl
@[simp] theorem runDef_e {n m : Nat} {b : FS} {sls : List Sl} : runDef n m b sls = if sls.length = n then (b (sls ++ List.replicate m .no)).bind (Rs.out n) else none := by
  unfold runDef
  exact nrfl rfl
@[simp] theorem takeN_0 {ρ : Ev} : takeN 0 ρ = [] := by cases ρ <;> rfl
@[simp] theorem takeN_s {n : Nat} {s : Sl} {ρ : Ev} : takeN (n + 1) (s :: ρ) = outIo s :: takeN n ρ := nrfl rfl
@[simp] theorem outIo_i {d : D} : outIo (.io d) = .io d := nrfl rfl
@[simp] theorem outIo_s {d : D} : outIo (.sh d) = .no := nrfl rfl
@[simp] theorem outIo_w {d : D} : outIo (.ow d) = .no := nrfl rfl
@[simp] theorem outIo_n : outIo .no = .no := nrfl rfl
/-! ### equality with what can be compared -/
def Nice (n : Nat) (d : D) : Prop := ∃ p, d.py = some p ∧ p.canLay0 = true ∧ p.depth ≤ n
theorem nice_int {n : Nat} (i : Int) : Nice n (.int i) := ⟨_, rfl, rfl, Nat.zero_le _⟩
theorem nice_non {n : Nat} : Nice n .non := ⟨_, rfl, rfl, Nat.zero_le _⟩
theorem nice_all {n : Nat} : ∀ {ds : List D}, (∀ d ∈ ds, Nice n d) → ∃ ps, D.pys ds = some ps ∧ PyData.canLayAll0 ps = true ∧ PyData.depthAll ps ≤ n
  | [], _ => ⟨[], rfl, rfl, Nat.zero_le _⟩
  | d :: r, h => by
    obtain ⟨p, h1, h2, h3⟩ := h d List.mem_cons_self
    obtain ⟨ps, h4, h5, h6⟩ := nice_all fun e he => h e (List.mem_cons_of_mem _ he)
    refine ⟨p :: ps, by unfold D.pys; rw [h1, h4]; rfl, ?_, ?_⟩
    · unfold PyData.canLayAll0
      rw [h2, h5]; rfl
    · unfold PyData.depthAll
      omega
theorem nice_tup {n : Nat} {ds : List D} (h : ∀ d ∈ ds, Nice n d) : Nice (n + 1) (.tup ds) := by
  obtain ⟨ps, h1, h2, h3⟩ := nice_all h
  refine ⟨.tuple ps, by unfold D.py; rw [h1]; rfl, by unfold PyData.canLay0; exact h2, by unfold PyData.depth; omega⟩
theorem nice_lst {n : Nat} {ds : List D} (h : ∀ d ∈ ds, Nice n d) : Nice (n + 1) (.lst ds) := by
  obtain ⟨ps, h1, h2, h3⟩ := nice_all h
  refine ⟨.list ps, by unfold D.py; rw [h1]; rfl, by unfold PyData.canLay0; exact h2, by unfold PyData.depth; omega⟩
theorem deq_nil {n : Nat} {ds : List D} (h : ∀ d ∈ ds, Nice n d) (hn : n < 64) : deq (.lst ds) (.lst []) = some ds.isEmpty := by
  obtain ⟨p, h1, h2, h3⟩ := nice_lst h
  obtain ⟨ps, hp, _⟩ := nice_all h
  have e : p = .list ps := by
    unfold D.py at h1
    rw [hp] at h1
    exact (Option.some.inj h1).symm
  subst e
  have hl : ds.isEmpty = ps.isEmpty := by
    cases ds with
    | nil => cases hp; rfl
    | cons d r =>
      unfold D.pys at hp
      obtain ⟨q, _, hp⟩ := Option.bind_eq_some_iff.mp hp
      obtain ⟨qs, _, e⟩ := Option.map_eq_some_iff.mp hp
      rw [← e]; rfl
  have hs : SeqAt.shaped (.list ps) = true := by
    unfold SeqAt.shaped
    rw [h2, decide_eq_true (by omega)]; rfl
  unfold deq
  simp only
  rw [h1]
  have e2 : (D.lst []).py = some (.list []) := rfl
  rw [e2]
  simp only [Option.bind_some]
  rw [if_pos ⟨hs, rfl⟩, hl]
  cases ps <;> simp [PyData.eqv, PyData.eqvAll]
/-! ### lists of numbers and of truths -/
@[simp] theorem all_l {bs : List Bool} : allD [.lst (bs.map .bl)] = some (.bl (bs.all id)) := by show (blsOf _).map _ = _; rw [blsOf_map]; rfl
end T

/-! T16: objects of the text's classes: made, their fields read and written, their methods called. -/
namespace T
open PySem PySem.Spec PyProof.Rows L2

/-- what is to be known of a class: fl its fields in the order in which __init__ makes them -/
structure Klass (K : Fg) (mg : Mg) (c : Str) (fl : List Str) (C : Addr) : Prop where
  at_ : mg c = some (.ref C)
  cls : Cls K C
  no : ∀ f ∈ fl, NoAttr K C f
  nd : fl.Nodup
  few : fl.length < 1000
/-- d is an object of the class, its fields the first of fl -/
def isO (c : Str) (fl : List Str) (d : D) : Prop := match d with
  | .obj c' ns ds => c' = c ∧ ns = fl.take ds.length
  | _ => False
instance (c : Str) (fl : List Str) : ∀ d, Decidable (isO c fl d)
  | .obj c' ns ds => inferInstanceAs (Decidable (_ ∧ _))
  | .non => .isFalse id
  | .bl _ => .isFalse id
  | .int _ => .isFalse id
  | .str _ => .isFalse id
  | .tup _ => .isFalse id
  | .tpw _ => .isFalse id
  | .lst _ => .isFalse id
  | .scr _ => .isFalse id
  | .ty _ => .isFalse id
  | .dic _ _ => .isFalse id
  | .dit _ _ => .isFalse id
  | .exc _ _ _ => .isFalse id
  | .lam _ _ _ => .isFalse id
  | .obx _ _ _ => .isFalse id
  | .dix _ _ => .isFalse id
  | .stn _ _ => .isFalse id
  | .box _ => .isFalse id
section
variable {K : Fg} {mg : Mg} {w : Wd} {ρ ρ' : Ev} {σ : L2.St} {H : Hp} {i k : Nat} {c f : Str} {fl : List Str} {C : Addr} {d : D} {v : V} {O : AP}
end
def putSl (ρ : Ev) (i : Nat) (d : D) : Option Ev := (ρ[i]?).bind fun s => match s with
  | .ow _ => some (ρ.set i (.ow d))
  | .io _ => some (ρ.set i (.io d))
  | _ => none
section
variable {X : Cx} {i k : Nat} {c x f : Str} {fl : List Str} {C : Addr} {fv : FE} {e : Expr} {p pos : Pos}
end
end T

/-! T17: methods called, objects made. -/
namespace T
open PySem PySem.Spec PyProof.Rows L2

def callA (F : FF) (avs : List AV) (ρ : Ev) : Option (Sl × Ev) := if (ownIx avs).Nodup then (F (avs.map (slOf ρ))).bind fun r => if avs.length = r.2.length then some (r.1, updA ρ avs r.2) else none else none
/-- x.m(..), x a name -/
def eMethV (c : Str) (fl : List Str) (F : FF) (i : Nat) (as : List Ag) : FE := fun ρ => (peek ρ i).bind fun d => if isO c fl d then (evg as ρ).bind fun p => callA F (.inr i :: p.1) p.2 else none
section
variable {X : Cx} {i k : Nat} {c x m : Str} {fl : List Str} {C g : Addr} {f : FE} {e o : Expr} {es : List Expr} {as : List Ag} {fs : List FE} {F : FF} {gd : FuncData} {ps : List Str} {p pos apos : Pos} {pl : Sem Bool}
end
end T

/-! T18: what is never reached; dicts. -/
namespace T
open PySem PySem.Spec PyProof.Rows L2

/-! ### never reached -/
def sNo : FS := fun _ => none
section
variable {X : Cx} {st : Stmt} {e : Expr}
theorem s_no : SX X st sNo := ⟨fun pins s σ H D I q => by obtain ⟨w, ρ, S, r, hf, k⟩ := q; cases hf⟩
end

/-! ### dicts of ints and texts -/
section
variable {K : Fg} {mg : Mg} {w : Wd} {ρ : Ev} {σ : L2.St} {H : Hp} {i : Nat} {ks : List Key} {ds : List D} {O : AP}
end
section
variable {X : Cx} {i : Nat} {x : Str} {e : Expr} {f : FE} {p pos : Pos}
theorem pc_imp {op : CmpOp} {a b : Expr} {t u : TE} (h : PC X op a b t) (k : ∀ σ H Q, u σ H Q → t σ H Q) : PC X op a b u := ⟨fun pins s σ H Q I q => h.run pins s σ H Q I (k σ H Q q)⟩
theorem t_pc {op : CmpOp} {a b : Expr} (h : PC X op a b (denE X.K X.mg f)) (h1 : behindInMarks op b = false := by rfl) : TX X (.Compare a [op] [b] pos) (tOf f) := pt_imp (pt_cmp h h1) fun σ H Q q => tOf_run q
end
section
variable {X : Cx} {i : Nat} {x : Str} {e ev : Expr} {f fv : FE} {p pos pos' : Pos}
end
end T

/-! T19: xs.pop(), max(d.values()), dicts written out. -/
namespace T
open PySem PySem.Spec PyProof.Rows L2

/-! ### xs.pop() -/
section
variable {X : Cx} {i : Nat} {x : Str} {p apos pos : Pos}
end

/-! ### max(d.values()) -/
section
variable {X : Cx} {o : Expr} {p pos apos mpos : Pos} {td : TE}
end
section
variable {X : Cx} {i : Nat} {x : Str} {p p2 pos apos mpos : Pos}
end
end T

/-! T20: dicts written out. -/
namespace T
open PySem PySem.Spec PyProof.Rows L2

section
variable {K : Fg} {mg : Mg}
end
section
variable {X : Cx} {keys : List (Option Expr)} {values : List Expr} {fs : List (FE × FE)} {pos : Pos} {k v : Expr} {f g : FE}
end
end T

/-! T21: x == e, x != e, x a name whose own thing stays its own. -/
namespace T
open PySem PySem.Spec PyProof.Rows L2

def eEqV (neg : Bool) (i : Nat) (f : FE) : FE := fun ρ => (peek ρ i).bind fun _ => (f ρ).bind fun p => (vl p.1).bind fun y => (peek p.2 i).bind fun x => (deq x y).map fun b => (.sh (.bl (cond neg (!b) b)), p.2)
section
variable {X : Cx} {i : Nat} {x : Str} {e : Expr} {f : FE} {p pos : Pos}
theorem peek_rp {K : Fg} {mg : Mg} {w : Wd} {ρ : Ev} {σ : L2.St} {H : Hp} {d : D} (S : SR K mg w ρ σ H) (h : peek ρ i = some d) : ∃ v, σ[i]? = some (some v) ∧ Rp K mg (fun _ => False) H d v := by
  rcases peek_list S h with ⟨v, e, r⟩ | ⟨a, e, o⟩
  · exact ⟨v, e, r.sub fun _ z => z.elim⟩
  · exact ⟨_, e, o.shared (fun _ z => z.elim) fun _ _ z => z⟩
theorem eqV_run {σ : L2.St} {H : Hp} {Q : VK} {neg : Bool} {r : R2} (hr : ∀ {x y : V} {H : Hp} {dx dy : D} {b : Bool} {O O' : AP} {Q : VK}, Rp X.K X.mg O H dx x → Rp X.K X.mg O' H dy y → deq dx dy = some b → Q (.bl (cond neg (!b) b)) H → r x y H Q)
    (h : denE X.K X.mg (eEqV neg i f) σ H Q) : (fun σ H (Q : VK) => tVar i σ H fun x H1 => denE X.K X.mg f σ H1 fun y H2 => r x y H2 Q) σ H Q := by
  obtain ⟨w, ρ, S, s, ρ', hf, kk⟩ := h
  obtain ⟨d0, h0, hf⟩ := Option.bind_eq_some_iff.mp hf
  obtain ⟨⟨s1, ρ1⟩, h1, hf⟩ := Option.bind_eq_some_iff.mp hf
  obtain ⟨y, hy, hf⟩ := Option.bind_eq_some_iff.mp hf
  obtain ⟨d, h2, hf⟩ := Option.bind_eq_some_iff.mp hf
  obtain ⟨b, h3, e2⟩ := Option.map_eq_some_iff.mp hf
  cases e2
  obtain ⟨v0, ev⟩ := peek_slot S h0
  refine ⟨v0, ev, one S h1 hy fun v H1 S1 r1 => ?_⟩
  obtain ⟨v1, ev1, r2⟩ := peek_rp S1 h2
  rw [ev] at ev1
  cases ev1
  exact hr r2 r1 h3 (kk _ _ ⟨S1, .bl _⟩)
theorem pc_op {op : CmpOp} {a b : Expr} {ta tb : TE} {r : R2} (ho : OpR X (compareOp op) r) (ha : PE X a ta) (hb : PE X b tb) : PC X op a b (fun σ H Q => ta σ H fun x H1 => tb σ H1 fun y H2 => r x y H2 Q) := by
  refine ⟨fun pins s σ H Q I h => thn (ha.run pins s σ H _ I h) fun v s1 h1 => ?_⟩
  obtain ⟨x, H1, I1, r1, q1⟩ := h1
  refine thn (hb.run pins s1 σ H1 _ I1 q1) fun u s2 h2 => ?_
  obtain ⟨y, H2, I2, r2, q2⟩ := h2
  exact ho pins s2 σ H2 x y v u Q I2 r1 r2 q2
theorem c_neV (i : Nat) (hu : X.A.units + 64 < cLine) (he : EX X e f) (hN : X.N[i]? = some x := by rfl) (hv : Vis X.env.scope x := by first | exact Or.inl rfl | exact Or.inr (Or.inl rfl) | exact Or.inr (Or.inr rfl)) (hd : (x == ("__debug__" : Str)) = false := by decide)
    (hcd : (x == ("__classdict__" : Str)) = false := by decide) : PC X .NotEq (.Name x p) e (denE X.K X.mg (eEqV true i f)) :=
  pc_imp (pc_op (op_neA hu) (pe_var hN hv hd hcd) he) fun σ H Q h => eqV_run (r := rNeA X.K) (fun rx ry hb q => by
    rcases deq_ok rx ry hb with ⟨h1, h2⟩ | ⟨d, e, h1, h2, h3, h4, h5⟩
    · exact .inl ⟨h1, by rw [h2]; exact q⟩
    · exact .inr ⟨d, e, h1, h2, h3, h4, by rw [h5]; exact q⟩) h
end
end T

/-! T22: repr. -/
namespace T
open PySem PySem.Spec PyProof.Rows L2

/-- what repr can show here -/
def okR (p : PyData) : Prop := p.showable = true ∧ p.depth ≤ 60 ∧ p.shown.length ≤ sizeLine ∧ p.hasDict = false
instance (p : PyData) : Decidable (okR p) := inferInstanceAs (Decidable (_ ∧ _))
def reprD : List D → Option D
  | [d] => d.py.bind fun p => if okR p then some (.str p.shown) else none
  | _ => none
section
variable {X : Cx}
def rRepr (K : Fg) : List V → Hp → VK → Prop := fun xs H Q => ∃ v p, xs = [v] ∧ Dp K H v p ∧ okR p ∧ Q (.str p.shown) H
theorem c_repr (hg : X.A.guards = some []) (hu : X.A.units + 64 < cLine) : CallR X (.builtin "repr") (rRepr X.K) := by
  intro pins s σ H xs us Q I rs h
  obtain ⟨v, p, rfl, hd, ⟨h1, h2, h3, h4⟩, q⟩ := h
  cases rs with
  | cons r1 rs =>
    rename_i u us
    cases rs
    obtain ⟨as, rd⟩ := Dp.reads I p v u hd r1
    have ref : ∀ a, u = .ref a → wpAny (model X.prog X.w) X.A (call (.builtin "repr") [u]) (EP X pins σ Q) X.xe s := fun a e => by
      subst e
      exact repr_of_reads' rd h1 (fun z => by rw [h4] at z; cases z) hg (by omega) (fun b o e => e) (fun g t tk hk => ⟨.str p.shown, H, I.kept (t' := tk) hk, ⟨t, rfl⟩, q⟩) h3
    cases hd with
    | non => cases (show u = Value.none from r1); exact PySem.P.repr_of_none ⟨.str (PyData.shown .none), H, I.tok _, ⟨s.toks, by simp [PyData.shown]⟩, q⟩
    | bl b => cases (show u = Value.bool b from r1); exact PySem.P.repr_of_bool ⟨.str (PyData.shown (.bool b)), H, I.tok _, ⟨s.toks, by simp [PyData.shown]⟩, q⟩
    | int i =>
      obtain ⟨t, e⟩ := (show ∃ t, u = Value.int i t from r1)
      subst e
      exact PySem.P.repr_of_int (of_decide_eq_true (by simpa [PyData.showable] using h1)) ⟨.str (PyData.shown (.int i)), H, I.tok _, ⟨s.toks, by simp [PyData.shown]⟩, q⟩
    | str x =>
      obtain ⟨t, e⟩ := (show ∃ t, u = Value.str x t from r1)
      subst e
      exact PySem.P.repr_of_str ⟨.str (PyData.shown (.str x)), H, I.tok _, ⟨s.toks, by simp [PyData.shown]⟩, q⟩ (by simpa [PyData.shown] using h3)
    | lst _ _ => exact ref _ r1
    | tup _ _ => exact ref _ r1
theorem p_repr : CaP X (rRepr X.K) reprD := by
  refine ⟨fun ds d h => ?_, fun O H vs ds d Q r h k => ?_⟩
  · unfold reprD at h
    split at h
    · obtain ⟨p, _, h⟩ := Option.bind_eq_some_iff.mp h
      split at h
      · cases h; exact ⟨_, .str _⟩
      · cases h
    · cases h
  · unfold reprD at h
    split at h
    · rename_i d0
      obtain ⟨p, hp, h⟩ := Option.bind_eq_some_iff.mp h
      split at h
      · rename_i ho
        cases h
        obtain ⟨v, rfl, q⟩ := one_paired r
        have rp : Rp X.K X.mg (fun _ => False) H d0 v := by
          rcases q with q | ⟨a, rfl, o⟩
          · exact q.sub fun _ z => z.elim
          · exact o.shared (fun _ z => z.elim) fun _ _ z => z
        exact ⟨v, p, rfl, rp.dp hp, ho, k _ (.str _)⟩
      · cases h
    · cases h
end
end T

/-! T23: fields and methods of expressions; a, b = x, y with cells. -/
namespace T
open PySem PySem.Spec PyProof.Rows L2

section
variable {X : Cx} {i k : Nat} {c x f m : Str} {fl : List Str} {C g : Addr} {fe : FE} {e o : Expr} {p pos apos : Pos} {F : FF} {gd : FuncData} {ps : List Str} {pl : Sem Bool}
end
section
variable {X : Cx} {st : Stmt} {f : FE} {pos : Pos}
end
end T

/-! T24: how objects, dicts, whiles reckon; tables. -/
namespace T
open PySem L2

/-! ### objects -/
/-- an object with its first fields -/
def Ob (c : Str) (fl : List Str) (ds : List D) : D := .obj c (fl.take ds.length) ds
section
variable {c : Str} {fl : List Str} {ds : List D} {k i : Nat} {y : D} {ρ : Ev} {f : FE} {F : FF} {as : List Ag} {fs : List FE}
@[simp] theorem isO_Ob : isO c fl (Ob c fl ds) = True := eq_true ⟨rfl, rfl⟩
@[simp] theorem putSl_e {d : D} : putSl ρ i d = (ρ[i]?).bind fun s => match s with
  | .ow _ => some (ρ.set i (.ow d))
  | .io _ => some (ρ.set i (.io d))
  | _ => none := nrfl rfl
@[simp] theorem own_ow {d : D} : (Sl.ow d).own = some d := nrfl rfl
@[simp] theorem own_io {d : D} : (Sl.io d).own = some d := nrfl rfl
@[simp] theorem callA_e {avs : List AV} : callA F avs ρ = if (ownIx avs).Nodup then (F (avs.map (slOf ρ))).bind fun r => if avs.length = r.2.length then some (r.1, updA ρ avs r.2) else none else none := nrfl rfl
@[simp] theorem eMethV_e : eMethV c fl F i as ρ = (peek ρ i).bind fun d => if isO c fl d then (evg as ρ).bind fun p => callA F (.inr i :: p.1) p.2 else none := nrfl rfl
/-- self: shared, or the caller's -/
inductive Hd : Sl → D → Prop where
  | sh {d : D} : Hd (.sh d) d
  | io {d : D} : Hd (.io d) d
end
section
variable {d : D} {r : Ev} {s : Sl} {n : Nat}
theorem Hd.pk {s : Sl} (h : Hd s d) (r : Ev) : peek (s :: r) 0 = some d := by cases h <;> rfl
theorem Hd.sm {s : Sl} (h : Hd s d) : s.some? = true := by cases h <;> rfl
/-- self handed on -/
theorem Hd.so {s : Sl} (h : Hd s d) (r : Ev) : slOf (s :: r) (.inr 0) = s := by cases h <;> rfl
theorem Hd.ud {s : Sl} (h : Hd s d) (r : Ev) : upd1 (s :: r) (.inr 0, outIo s) = s :: r := by cases h <;> rfl
theorem Hd.ua {s : Sl} (h : Hd s d) (r : Ev) {as : List AV} {os : List Sl} : updA (s :: r) (.inr 0 :: as) (outIo s :: os) = updA (s :: r) as os := by
  rw [updA_cons, h.ud]
theorem Hd.m0 {s v : Sl} {c : Str} {fl : List Str} {ds : List D} {F : FF} {r : Ev} (hs : Hd s (Ob c fl ds)) (h : F [s] = some (v, [outIo s])) : eMethV c fl F 0 [] (s :: r) = some (v, s :: r) := by
  rw [eMethV_e, hs.pk]
  simp only [Option.bind_some, isO_Ob, if_true, evg_nil, callA_e, ownIx_r, ownIx_nil]
  rw [if_pos (by simp), List.map_cons, List.map_nil, hs.so, h]
  simp only [Option.bind_some]
  rw [if_pos (by simp), hs.ua, updA_nil]
theorem Hd.m1 {s v t : Sl} {c : Str} {fl : List Str} {ds : List D} {F : FF} {f : FE} {x : D} {r r' : Ev} (hs : Hd s (Ob c fl ds)) (he : f (s :: r) = some (t, s :: r')) (ht : vl t = some x) (h : F [s, .sh x] = some (v, [outIo s, .no])) : eMethV c fl F 0 [.e f] (s :: r) = some (v, s :: r') := by
  rw [eMethV_e, hs.pk]
  simp only [Option.bind_some, isO_Ob, if_true, evg_e, he, ht, evg_nil, Option.map_some, callA_e, ownIx_r, ownIx_nil, ownIx_l]
  rw [if_pos (by simp), List.map_cons, List.map_cons, List.map_nil, hs.so, slOf_l, h]
  simp only [Option.bind_some]
  rw [if_pos (by simp), hs.ua, updA_cons, upd1_l, updA_nil]
end
/-! ### x == [] -/
section
variable {i : Nat} {f : FE} {ρ : Ev} {neg : Bool}
@[simp] theorem eEqV_e : eEqV neg i f ρ = (peek ρ i).bind fun _ => (f ρ).bind fun p => (vl p.1).bind fun y => (peek p.2 i).bind fun x => (deq x y).map fun b => (.sh (.bl (cond neg (!b) b)), p.2) := nrfl rfl
theorem deq_tup0 {n : Nat} {ds : List D} (h : ∀ d ∈ ds, Nice (n + 1) d) (hn : n < 62 := by decide) : deq (.tup ds) (.tup []) = some ds.isEmpty := by
  obtain ⟨p, h1, h2, h3⟩ := nice_tup h
  obtain ⟨ps, hp, _⟩ := nice_all h
  have e : p = .tuple ps := by
    unfold D.py at h1
    rw [hp] at h1
    exact (Option.some.inj h1).symm
  subst e
  have hl : ds.isEmpty = ps.isEmpty := by
    cases ds with
    | nil => cases hp; rfl
    | cons d r =>
      unfold D.pys at hp
      obtain ⟨q, _, hp⟩ := Option.bind_eq_some_iff.mp hp
      obtain ⟨qs, _, e⟩ := Option.map_eq_some_iff.mp hp
      rw [← e]; rfl
  have hs : SeqAt.shaped (.tuple ps) = true := by
    unfold SeqAt.shaped
    rw [h2, decide_eq_true (by omega)]; rfl
  unfold deq
  simp only
  rw [h1]
  have e2 : (D.tup []).py = some (.tuple []) := rfl
  rw [e2]
  simp only [Option.bind_some]
  rw [if_pos ⟨hs, rfl⟩, hl]
  cases ps <;> simp [PyData.eqv, PyData.eqvAll]
end
/-! ### dicts of ints -/
abbrev IP := List (Int × Int)
def look (ps : IP) (k : Int) : Option Int := (ps.find? fun p => p.1 == k).map (·.2)
def putP (ps : IP) (k v : Int) : IP := if ps.any (fun p => p.1 == k) then ps.map fun p => if p.1 == k then (k, v) else p else ps ++ [(k, v)]
section
variable {ps : IP} {k v j : Int}
@[simp] theorem look_nil : look [] k = none := rfl
theorem look_cons {p : Int × Int} : look (p :: ps) k = if p.1 = k then some p.2 else look ps k := by
  unfold look
  by_cases h : p.1 = k
  · simp [List.find?_cons, h]
  · simp [List.find?_cons, h]
theorem look_put : look (putP ps k v) j = if j = k then some v else look ps j := by
  unfold putP
  split
  · rename_i h
    induction ps with
    | nil => simp at h
    | cons p r ih =>
      rw [List.map_cons, look_cons, look_cons]
      by_cases e : p.1 = k
      · by_cases c : j = k
        · simp [e, c]
        · have : ¬ k = j := fun z => c z.symm
          simp only [e, beq_self_eq_true, if_true, c, if_false, this]
          by_cases hr : (r.any fun p => p.1 == k) = true
          · rw [ih hr, if_neg c]
          · have : (r.map fun p => if (p.1 == k) = true then (k, v) else p) = r := by
              refine (List.map_congr_left fun q hq => ?_).trans (List.map_id' r)
              have : ¬ (q.1 == k) = true := fun z => hr (List.any_eq_true.mpr ⟨q, hq, z⟩)
              rw [if_neg this]
            rw [this]
      · have hr : (r.any fun p => p.1 == k) = true := by simpa [e] using h
        have e' : (p.1 == k) = false := by simpa using e
        rw [e', ih hr]
        by_cases c : j = k
        · subst c; simp [e]
        · simp [c]
  · rename_i h
    induction ps with
    | nil => simp [look_cons, eq_comm]
    | cons p r ih =>
      rw [List.cons_append, look_cons, look_cons]
      have h1 : ¬ p.1 = k := fun z => h (by simp [z])
      have h2 : ¬ (r.any fun p => p.1 == k) = true := fun z => h (by simp [z])
      rw [ih h2]
      by_cases c : j = k
      · subst c; simp [h1]
      · simp [c]
theorem keys_put : (putP ps k v).map (·.1) = if k ∈ ps.map (·.1) then ps.map (·.1) else ps.map (·.1) ++ [k] := by
  unfold putP
  have : (ps.any fun p => p.1 == k) = true ↔ k ∈ ps.map (·.1) := by
    rw [List.any_eq_true, List.mem_map]
    constructor
    · rintro ⟨p, h1, h2⟩; exact ⟨p, h1, by simpa using h2⟩
    · rintro ⟨p, h1, h2⟩; exact ⟨p, h1, by simpa using h2⟩
  by_cases h : k ∈ ps.map (·.1)
  · rw [if_pos h, if_pos (this.mpr h), List.map_map]
    refine List.map_congr_left fun p _ => ?_
    by_cases e : p.1 = k <;> simp [Function.comp, e]
  · rw [if_neg h, if_neg fun z => h (this.mp z)]; simp
theorem mem_look (h : look ps k = some v) : (k, v) ∈ ps := by
  induction ps with
  | nil => cases h
  | cons q r ih =>
    rw [look_cons] at h
    split at h
    · rename_i e
      cases h
      exact List.mem_cons.mpr (.inl (Prod.ext e.symm rfl))
    · exact List.mem_cons_of_mem _ (ih h)
theorem look_isSome : (look ps k).isSome = true ↔ k ∈ ps.map (·.1) := by
  constructor
  · intro h
    obtain ⟨v, h⟩ := Option.isSome_iff_exists.mp h
    exact List.mem_map.mpr ⟨_, mem_look h, rfl⟩
  · intro h
    obtain ⟨p, hp, e⟩ := List.mem_map.mp h
    subst e
    clear h
    induction ps with
    | nil => cases hp
    | cons q r ih =>
      rw [look_cons]
      split
      · rfl
      · rename_i ne
        rcases List.mem_cons.mp hp with rfl | hp
        · exact absurd rfl ne
        · exact ih hp
variable {i : Nat} {f g : FE} {ρ : Ev} {neg : Bool}
end
/-! ### while -/
/-! ### for -/
theorem for_rg {t : Tg} {b : FS} {lo : Int} {n : Nat} {ρ0 : Ev} (I : Nat → Ev → Prop) (h0 : I 0 ρ0)
    (step : ∀ (i : Nat) ρ, i < n → I i ρ → ∃ ρ1 ρ2, asg t (.int (lo + i)) ρ = some ρ1 ∧ b ρ1 = some (.nx ρ2) ∧ I (i + 1) ρ2) : ∃ ρ', loopF t b (rangeD lo n) ρ0 = some (.nx ρ') ∧ I n ρ' := by
  obtain ⟨ρ', h1, h2⟩ := loop_nx (t := t) (b := b) (I := I) (xs := rangeD lo n) (k := 0) h0 fun i d ρ hd hi => by
    have hlt : i < n := by
      have := (List.getElem?_eq_some_iff.mp hd).1
      rwa [rangeD_len] at this
    have hd' : d = .int (lo + i) := by
      unfold rangeD at hd
      rw [List.getElem?_map, List.getElem?_range hlt] at hd
      exact (Option.some.inj hd).symm
    subst hd'
    obtain ⟨ρ1, ρ2, a, b, c⟩ := step i ρ hlt (by simpa using hi)
    exact ⟨ρ1, ρ2, a, b, by simpa using c⟩
  exact ⟨ρ', h1, by rw [rangeD_len] at h2; simpa using h2⟩
theorem for_map {α : Type} (enc : α → D) {t : Tg} {b : FS} {as : List α} {ρ0 : Ev} (I : List α → Ev → Prop) (h0 : I [] ρ0)
    (step : ∀ pre a post ρ, as = pre ++ a :: post → I pre ρ → ∃ ρ1 ρ2, asg t (enc a) ρ = some ρ1 ∧ b ρ1 = some (.nx ρ2) ∧ I (pre ++ [a]) ρ2) : ∃ ρ', loopF t b (as.map enc) ρ0 = some (.nx ρ') ∧ I as ρ' := by
  suffices H : ∀ (rest pre : List α) (ρ : Ev), as = pre ++ rest → I pre ρ → ∃ ρ', loopF t b (rest.map enc) ρ = some (.nx ρ') ∧ I as ρ' from H as [] ρ0 rfl h0
  intro rest
  induction rest with
  | nil => intro pre ρ e h; exact ⟨ρ, by simp, by rw [e, List.append_nil]; exact h⟩
  | cons a r ih =>
    intro pre ρ e h
    obtain ⟨ρ1, ρ2, h1, h2, h3⟩ := step pre a r ρ e h
    obtain ⟨ρ', h4, h5⟩ := ih (pre ++ [a]) ρ2 (by rw [e]; simp) h3
    exact ⟨ρ', by rw [List.map_cons, loopF_cons, h1]; simp only [Option.bind_some]; rw [h2]; simp only [Option.bind_some, lp_nx]; exact h4, h5⟩
/-- a comprehension without a condition -/
theorem eLc_map {α : Type} (enc : α → D) {as : List α} {vs : List Nat} {t : Tg} {src : FI} {f : FE} (G : α → D) {ρ ρ0 : Ev} (hs : src ρ = some (as.map enc, ρ0)) (hw : wipeE ρ0 vs = ρ0) (hz : as.length ≤ sizeLine)
    (h : ∀ a ∈ as, ∃ ρ1 s ρ3, asg t (enc a) ρ0 = some ρ1 ∧ f ρ1 = some (s, ρ3) ∧ vl s = some (G a) ∧ wipeE ρ3 vs = ρ0) : eLc vs t src tTrue f ρ = some (.ow (.lst (as.map G)), ρ0) := by
  rw [eLc_over enc (fun _ => true) G hs hw hz fun a ha => ?_, List.filter_eq_self.mpr (by simp)]
  obtain ⟨ρ1, s, ρ3, h1, h2, h3, h4⟩ := h a ha
  exact ⟨ρ1, ρ1, h1, rfl, fun _ => ⟨s, ρ3, h2, h3, h4⟩, fun h => by cases h⟩
/-! ### tables -/
def tab (n : Nat) (g : Int → D) : List D := (List.range n).map fun i => g (i : Nat)
section
variable {n : Nat} {g : Int → D} {i : Int}
@[simp] theorem tab_len : (tab n g).length = n := by simp [tab]
end
/-! ### greatest and least -/
/-! ### kinds -/
def kD (p : Int × Int) : D := .tup [.int p.1, .int p.2]
def kDs (ks : List (Int × Int)) : D := .tup (ks.map kD)
theorem nice_kD {n : Nat} {p : Int × Int} : Nice (n + 1) (kD p) := nice_tup fun d hd => by
  rcases List.mem_cons.mp hd with rfl | hd
  · exact nice_int _
  · rw [List.mem_singleton.mp hd]; exact nice_int _
end T

/-! T25: t.index(x). -/
namespace T
open PySem PySem.Spec PyProof.Rows L2
section
variable {X : Cx} {o e : Expr} {f g : FE} {apos cpos : Pos}
end
end T

/-! T26: set() of a tuple of tuples of ints. -/
namespace T
open PySem PySem.Spec PyProof.Rows L2
section
variable {P : Program} {w : World} {A : Around} {E : Value → Shared → Prop} {s : Shared}
end
section
variable {X : Cx}
end
section
variable {X : Cx} {a : Expr} {f : FE} {p p2 q pos : Pos}
end
section
variable {X : Cx} {st : Stmt}
end
end T

/-! T27: sorted(set(xs)), xs a list of ints. -/
namespace T
open PySem PySem.Spec PyProof.Rows L2
section
variable {P : Program} {w : World} {A : Around} {E : Value → Shared → Prop} {s : Shared}
end
section
variable {X : Cx}
end
section
variable {X : Cx} {a : Expr} {f : FE} {p p2 q pos : Pos}
end
end T

/-! T28: max(t), x in s, xs.extend(ys), xs * n, range(a, b, c), tuple(range(a, b)), xs.index(x). -/
namespace T
open PySem PySem.Spec PyProof.Rows L2
/-! ### max(t), t a tuple of ints -/
section
variable {prog : Program} {w : World} {A : Around} {E : Value → Shared → Prop} {s : Shared} {l : Addr} {xs : Array (Int × Tok)}
end
section
variable {X : Cx}
/-! ### x in s -/
def rInA (K : PySem.W.Frag) (neg : Bool) : R2 := fun x y H Q => ∃ d ds, Dp K H x d ∧ (Dp K H y (.list ds) ∨ Dp K H y (.tuple ds)) ∧ SeqAt.shaped d = true ∧ SeqAt.shaped (.list ds) = true ∧ SeqAt.shaped (.tuple ds) = true ∧ Q (.bl (cond neg (!ds.any fun z => PyData.eqv z d) (ds.any fun z => PyData.eqv z d))) H
theorem op_inA (hu : X.A.units + 65 < cLine) : OpR X (compareOp .In) (rInA X.K false) := by
  intro pins s σ H x y v u Q I rx ry h
  obtain ⟨d, ds, hd, he, sd, se, st, q⟩ := h
  obtain ⟨as, r1⟩ := Dp.reads I d x v hd rx
  rcases he with he | he
  · obtain ⟨bs, r2⟩ := Dp.reads I (.list ds) y u he ry
    exact SeqAt.in_list_reads r2 r1 (SeqAt.canLay_of_shaped se) (SeqAt.canLay_of_shaped sd) (room_in_shaped sd hu) ⟨.bl _, H, I, rfl, q⟩
  · obtain ⟨bs, r2⟩ := Dp.reads I (.tuple ds) y u he ry
    exact SeqAt.in_tuple_reads r2 r1 (SeqAt.canLay_of_shaped se) (SeqAt.canLay_of_shaped sd) (room_in_shaped sd hu) ⟨.bl _, H, I, rfl, q⟩
theorem op_notInA (hu : X.A.units + 65 < cLine) : OpR X (compareOp .NotIn) (rInA X.K true) := by
  intro pins s σ H x y v u Q I rx ry h
  obtain ⟨d, ds, hd, he, sd, se, st, q⟩ := h
  obtain ⟨as, r1⟩ := Dp.reads I d x v hd rx
  rcases he with he | he
  · obtain ⟨bs, r2⟩ := Dp.reads I (.list ds) y u he ry
    exact SeqAt.notIn_list_reads r2 r1 (SeqAt.canLay_of_shaped se) (SeqAt.canLay_of_shaped sd) (room_in_shaped sd hu) ⟨.bl _, H, I, rfl, q⟩
  · obtain ⟨bs, r2⟩ := Dp.reads I (.tuple ds) y u he ry
    exact SeqAt.notIn_tuple_reads r2 r1 (SeqAt.canLay_of_shaped se) (SeqAt.canLay_of_shaped sd) (room_in_shaped sd hu) ⟨.bl _, H, I, rfl, q⟩
end
def D.seqPy : D → Option (List PyData)
  | .tup ds => D.pys ds
  | .tpw ds => D.pys ds
  | .lst ds => D.pys ds
  | .scr ds => D.pys ds
  | _ => none
def inO (neg : Bool) : O2 := fun x y => x.py.bind fun p => y.seqPy.bind fun ps => if SeqAt.shaped p = true ∧ SeqAt.shaped (.list ps) = true ∧ SeqAt.shaped (.tuple ps) = true then some (.sh (.bl (cond neg (!ps.any fun z => PyData.eqv z p) (ps.any fun z => PyData.eqv z p)))) else none
section
variable {X : Cx}
theorem Rp.dpSeq {K : Fg} {mg : Mg} {O : AP} {H : Hp} {d : D} {v : V} {ps : List PyData} (h : Rp K mg O H d v) (e : d.seqPy = some ps) : Dp K H v (.list ps) ∨ Dp K H v (.tuple ps) := by
  cases d with
  | tup ds => exact .inr (Rp.dp h (show (D.pys ds).map _ = _ by rw [show D.pys ds = some ps from e]; rfl))
  | tpw ds => exact .inr (Rp.dp h (show (D.pys ds).map _ = _ by rw [show D.pys ds = some ps from e]; rfl))
  | lst ds => exact .inl (Rp.dp h (show (D.pys ds).map _ = _ by rw [show D.pys ds = some ps from e]; rfl))
  | scr ds => exact .inl (Rp.dp h (show (D.pys ds).map _ = _ by rw [show D.pys ds = some ps from e]; rfl))
  | _ => cases e
theorem x_in {neg : Bool} : OpS X (rInA X.K neg) (inO neg) := ⟨fun w ρ σ H x y dx dy s Q S rx ry e k => by
  unfold inO at e
  obtain ⟨p, hp, e⟩ := Option.bind_eq_some_iff.mp e
  obtain ⟨ps, hps, e⟩ := Option.bind_eq_some_iff.mp e
  split at e
  · rename_i h
    cases e
    exact ⟨p, ps, Rp.dp rx hp, ry.dpSeq hps, h.1, h.2.1, h.2.2, k _ _ ⟨S, .bl _⟩⟩
  · cases e⟩
/-! ### xs * n -/
theorem rps_rep {K : Fg} {mg : Mg} {O : AP} {H : Hp} {ds : List D} {vs : List V} (h : Rps K mg O H ds vs) : ∀ n : Nat, Rps K mg O H (List.replicate n ds).flatten (List.replicate n vs).flatten
  | 0 => .nil
  | n + 1 => by
    rw [List.replicate_succ, List.replicate_succ, List.flatten_cons, List.flatten_cons]
    exact h.app (rps_rep h n)
/-! ### xs.extend(ys) -/
variable {c e : Expr} {st : Stmt} {f g h3 : FE} {pos : Pos} {i : Nat}
/-! ### range(a, b, c), c above 0 -/
end
section
variable {X : Cx} {tg a b c : Expr} {f g h : FE} {p pos : Pos}
end
/-! ### tuple(range(a, b)) -/
section
variable {X : Cx} {e a b : Expr} {f g : FE} {p p2 pos pos2 : Pos} {te : L2.St → Hp → (Int → Int → Hp → Prop) → Prop}
end
/-! ### xs.index(x), xs a list -/
section
variable {X : Cx} {c o e : Expr} {f g : FE}
end
end T

/-! T29: NAME.get(key, other), NAME a written dict of the module. -/
namespace T
open PySem PySem.Spec PyProof.Rows L2
/-- the entries, if all keys are texts and all values ints -/
def entI (e : DictEntry) : Option (Str × Int) := match e.key, e.val with
  | .str x _, .int i _ => some (x, i)
  | _, _ => none
def entsI : List DictEntry → Option (List (Str × Int))
  | [] => some []
  | e :: r => (entI e).bind fun p => (entsI r).map (p :: ·)
/-- a dict of the module: texts to ints -/
structure KD (K : Fg) (w : World) (mg : Mg) (x : Str) (tab : List (Str × Int)) : Prop where
  ex : ∃ (d : Addr) (es : Array DictEntry) (n : Nat), mg x = some (.ref d) ∧ KDict K w d es n ∧ entsI es.toList = some tab
section
variable {X : Cx} {e e2 : Expr} {f g : FE} {x : Str} {tab : List (Str × Int)} {p apos cpos : Pos}
end
end T

/-! T30: defs with defaults. -/
namespace T
open PySem PySem.Spec PyProof.Rows L2
open PyProof.Rows (envOfC) in
/-- a def of the text with defaults that nothing leaves but by its end -/
theorem okTD {P : Program} {w : World} {K : Fg} {mg : Mg} {base : Heap} {x qual : Str} {st : Stmt} {f : Addr} {fd : FuncData} {N ps : List Str} {k : Nat} {body : FS} {dvs : List V} (F : FunD K x qual (defArgs st) (defBody st) (defScope st) dvs [] f fd) (S : FnScope N ps (defScope st))
    (hbody : ∀ (cdv : Value) (A : Around) (outer : List Env) (s : Shared) (H : Hp) (E : XK), RoomG k (A.deeper (envOfC qual (defScope st) s.heap.objs.size f cdv)) →
      BX (cxOf CX0 P w K mg base N qual (defScope st) f cdv A outer s H E).nox (defBody st) body) : FnG P w K mg base CX0 (k + 1) f fd ps (spT K mg (runDef ps.length (N.length - ps.length) body)) := by
  obtain ⟨oc, od, dV, kV, doc, pm, an, cdv, ct, osl, rfl, lk, hcd, _, _⟩ := F.ex
  have hlen : ∀ vs H Q E, spT K mg (runDef ps.length (N.length - ps.length) body) vs H Q E → vs.length = ps.length := fun vs H Q E h => by
    obtain ⟨w, sls, S, hB, s, outs, hF, k⟩ := h
    have e := S.len
    rw [runDef_len hF] at e
    simpa using e.symm
  refine ⟨hlen, fun A outer s H args us vs Q E hr e0 hb r hsp => ?_⟩
  have kin : K.In s.heap := e0.mod.kin.keeps fun b o e => (e0.bs b o e).1
  have nol : s.heap.NoLimit := e0.mod.nolimit.keeps fun b o e => (e0.bs b o e).1
  have kinds : ∀ y ∈ ps.zip us, (defScope st).names.lookup y.1 = some .local ∨ ((defScope st).names.lookup y.1 = some .cell ∧ ((cellsFrom (s.heap.objs.size + 1) (defScope st).names []).lookup y.1).isSome = true) := fun y hy =>
    (S.par y.1 (List.of_mem_zip hy).1).imp id fun q => ⟨q, PySem.W.cellsFrom_some _ _ _ (.inl q)⟩
  refine codeAny_call_function hr.rm.depth (kin _ _ lk) rfl S.co S.gen rfl (PySem.W.codeRec_of kin hcd) (hb _ _ _ _ ?_)
  refine wpAny_newFunctionEnv_cells S.kind kinds fun env he s1 ic => ?_
  subst he
  refine ⟨nol.keeps ic.toInCall.keep, codeAny_func ?_⟩
  have hl := hlen _ _ _ _ hsp
  obtain ⟨wd, sls, SS, hB, sl, outs, hF, k⟩ := hsp
  have I := inv_start (CX := CX0) (P := P) (w := w) (E := E) S hr.rm.hd e0 hl r ic
  have hd : denS K mg body { nx := fun _ H' => Q .non H', rt := Q } (start N vs) H := by
    refine ⟨wd, sls ++ List.replicate (N.length - ps.length) .no, ?_, ?_⟩
    · have q := SS.ext (m := N.length - ps.length) hB
      unfold L2.start
      rw [hl]
      exact q
    · unfold runDef at hF
      split at hF
      · obtain ⟨r, h1, h2⟩ := Option.bind_eq_some_iff.mp hF
        refine ⟨r, h1, ?_⟩
        cases r with
        | rt s ρ =>
          cases h2
          intro v σ H hv
          refine k v H ?_
          rw [← hl]
          exact hv.cut hB
        | nx ρ =>
          cases h2
          intro σ H hv
          refine k .non H ?_
          rw [← hl]
          exact VR.cut (s := .sh .non) ⟨hv, .non⟩ hB
        | bk ρ => cases h2
        | ct ρ => cases h2
      · cases hF
  have ht := (hbody cdv A outer s H E (hr.deeper _)).nox
  refine wpAny_mono (ht.run [] s1 (start N vs) H _ I hd) (fun fl s' hs => ?_) fun e s' hs => hs
  cases fl with
  | ret u =>
    obtain ⟨v, σ', H', J, rv, q⟩ := hs
    exact ⟨v, H', J.os, J.bare, J.base, J.hok, rv, q⟩
  | next =>
    obtain ⟨σ', H', J, q⟩ := hs
    exact ⟨V.non, H', J.os, J.bare, J.base, J.hok, rfl, q⟩
  | brk => obtain ⟨_, _, _, q⟩ := hs; exact q.elim
  | cont => obtain ⟨_, _, _, q⟩ := hs; exact q.elim
/-- the defaults as they stand behind the top -/
theorem dfl_mk {K : Fg} {T : Addr} {oc : Value} {od : Option Addr} {a : Array Value} {n : Nat} {sl : Array (Option Value)} {dvs : List V} (hne : dvs ≠ []) (l : K.lookup T = some ⟨oc, od, .seq a n, sl⟩) (v : Vals dvs a.toList) : DflV K (.ref T) dvs :=
  .inr ⟨hne, T, _, a.toList, n, rfl, l, by simp, v⟩
theorem funD_mk {K : Fg} {x qual : Str} {st : Stmt} {f : Addr} {oc : Value} {od : Option Addr} {dV kV doc pm : Value} {an : Option Addr} {cdv ct : Value} {osl : Array (Option Value)} {dvs : List V} (l : K.lookup f = some ⟨oc, od, .func (PySem.W.fnOf x qual (defArgs st) (defBody st) (defScope st) dV kV doc pm an cdv ct), osl⟩) (c : PySem.W.codeIn K cdv qual = true)
    (k : PySem.W.keepIn K (.ref f) = true) (hd : DflV K dV dvs) : FunD K x qual (defArgs st) (defBody st) (defScope st) dvs [] f (PySem.W.fnOf x qual (defArgs st) (defBody st) (defScope st) dV kV doc pm an cdv ct) :=
  ⟨⟨oc, od, dV, kV, doc, pm, an, cdv, ct, osl, rfl, l, c, hd, .inl rfl⟩, k⟩
/-- all parameters are written, or the defaults fill up -/
theorem bdD {K : Fg} {x qual : Str} {st : Stmt} {f : Addr} {fd : FuncData} {ps : List Str} {dvs : List V} (F : FunD K x qual (defArgs st) (defBody st) (defScope st) dvs [] f fd) (n j : Nat) (hd : dvs ≠ []) (hn : n + (dvs.length - j) = ps.length)
    (h : ∀ (T : Addr) (kV doc pm : Value) (an : Option Addr) (cdv ct : Value) (us its : List Value), us.length = n → its.length = dvs.length →
      ∃ k, bindArgs (PySem.W.fnOf x qual (defArgs st) (defBody st) (defScope st) (.ref T) kV doc pm an cdv ct) ⟨us, []⟩ = seqItems? (.ref T) >>= k ∧ k (some its.toArray) = pure (ps.zip (us ++ its.drop j))) : ∃ ds, Vals (dvs.drop j) ds ∧ L2.Binds K fd ps ds := F.binds1 n j hd hn h
/-! ### x is True -/
section
variable {X : Cx}
end
/-- a call of which one default fills up -/
@[simp] theorem eCall_d {F : FF} {d : D} {as : List Ag} {ρ : Ev} : eCall F [d] as ρ = (evg as ρ).bind fun p => if (ownIx (p.1 ++ [Sum.inl d])).Nodup then (F ((p.1 ++ [Sum.inl d]).map (slOf p.2))).bind fun r => if (p.1 ++ [Sum.inl d] : List AV).length = r.2.length then some (r.1, updA p.2 (p.1 ++ [Sum.inl d]) r.2) else none else none := nrfl rfl
end T

/-! T31: tuples of ints compared by <. -/
namespace T
open PySem L2
def ltTO : O2 := fun x y => match x, y with
  | .tup as, .tup bs => (intsOf as).bind fun ns => (intsOf bs).map fun ms => .sh (.bl (HT.lexLt ns ms))
  | _, _ => none
theorem ltT_e {ns ms : List Int} : ltTO (.tup (ns.map .int)) (.tup (ms.map .int)) = some (.sh (.bl (HT.lexLt ns ms))) := by
  show (intsOf _).bind _ = _
  rw [intsOf_map]
  simp only [Option.bind_some]
  rw [intsOf_map]
  rfl
theorem ult {u c : Nat} (h : u + 64 < c) : u < c := by omega
section
variable {X : Cx}
theorem x_ltT : OpS X (rLtT X.K) ltTO := ⟨fun w ρ σ H x y dx dy s Q S rx ry e k => by
  unfold ltTO at e
  split at e
  · obtain ⟨ns, hn, e⟩ := Option.bind_eq_some_iff.mp e
    obtain ⟨ms, hm, e2⟩ := Option.map_eq_some_iff.mp e
    cases e2
    obtain ⟨a, vs, rfl, hs, rr⟩ := rx.tupAt
    obtain ⟨b, us, rfl, hs2, rr2⟩ := ry.tupAt
    rw [intsOf_eq hn] at rr
    rw [intsOf_eq hm] at rr2
    have e1 := rps_ints rr
    have e2 := rps_ints rr2
    subst e1 e2
    exact ⟨a, b, ns, ms, rfl, rfl, hs, hs2, k _ _ ⟨S, .bl _⟩⟩
  · cases e⟩
end
end T

namespace T
open PySem PySem.Spec PyProof.Rows L2
-- Loads_floors: 0=self 1=many 2=sums 3=found 4=words 5=is_sum 6=length 7=weight
-- least_of: 0=numbers 1=some 2=number
-- Loads_lightest_up_to: 0=self 1=bound 2=found 3=words 4=some 5=length 6=weight 7=load
-- Loads_longest_up_to: 0=self 1=bound 2=found 3=load 4=some 5=length 6=weight
-- Loads_least_by_rest: 0=self 1=least 2=found 3=waiting 4=here 5=length 6=weight 7=later 8=rest
-- Loads_regular_from: 0=self 1=least 2=found
-- Loads_richest: 0=self 1=found 2=length 3=weight 4=here 5=there
-- Loads_slimmest: 0=self 1=found 2=length 3=weight
-- common_divisor: 0=one 1=other
-- Loads___init: 0=self 1=kinds 2=length 3=weight
-- Loads_floor: 0=self 1=words
-- Loads_is_sum: 0=self 1=words
-- Loads_lightest: 0=self 1=words 2=turns 3=found
-- Loads_longest: 0=self 1=load 2=turns
-- Moments_look: 0=self 1=words 2=shape 3=kind
-- Moments_look_at_end: 0=self 1=kind 2=old 3=head
-- first_ones: 0=kinds 1=loads 2=most 3=found 4=words 5=kind 6=rest
-- greatest_length: 0=kinds 1=length 2=weight
-- Moments_look_at_newer: 0=self 1=most 2=words 3=first 4=weight 5=kind 6=left 7=old 8=head 9=shape
-- usable: 0=system 1=limit 2=kind
-- Moments___init: 0=self 1=system 2=limit 3=kind
-- is_integer: 0=value 1=least 2=most
noncomputable def mb_is_integer : FS := (sSeq (sIf ((tOr' (tNot' (tOf (eFn (shO isiD) [(eVar 0), (eC (.ty "int"))]))) (tOr' (tOf (eFn (shO isiD) [(eVar 0), (eC (.ty "bool"))])) (tOf (eBin ltO (eVar 0) (eVar 1)))))) (sRet (eC (.bl false))) sNil)
  (sRet ((eOr (eBin isNonO (eVar 2) (eC .non)) (eBin leO (eVar 0) (eVar 2))))))
noncomputable def m_is_integer : FF := runDef 3 0 mb_is_integer
-- refusal: 0=words 1=place 2=head 3=length
-- after_push: 0=words 1=place 2=length
-- is_kind: 0=value 1=length 2=weight
noncomputable def mb_is_kind : FS := (sSeq (sIf ((tOr' (tNot' (tOf (eFn (shO isiD) [(eVar 0), (eC (.ty "tuple"))]))) (tOf (eBin neO (eFnV lenD 0) (eC (.int 2)))))) (sRet (eC (.bl false))) sNil)
  (sSeq (sAsg (.t [(.n 1), (.n 2)]) (eVar 0))
  (sRet ((eAnd (eCall m_is_integer [] [.e (eVar 1), .e (eC (.int 1)), .e (eC (.int 30))]) (eCall m_is_integer [] [.e (eVar 2), .e (eC (.int 1)), .e (eC (.int 30))]))))))
noncomputable def m_is_kind : FF := runDef 1 2 mb_is_kind
-- is_system: 0=value 1=kind 2=later
noncomputable def mb_is_system_C1 : FE := eLc [1] (.n 1) (iSeq (eVar 0)) tTrue (eCall m_is_kind [] [.e (eVar 1)])
noncomputable def mb_is_system_C2 : FE := eLc [1, 2] (.t [(.n 1), (.n 2)]) (iZp (eVar 0) (eSl sliceO (eVar 0) (oSome (eC (.int 1))) oNone)) tTrue (eBin ltTO (eVar 1) (eVar 2))
noncomputable def mb_is_system : FS := (sSeq (sIf ((tOr' (tNot' (tOf (eFn (shO isiD) [(eVar 0), (eC (.ty "tuple"))]))) (tNot' (tOf (eChain leO leO (eC (.int 1)) (eFnV lenD 0) (eC (.int 6))))))) (sRet (eC (.bl false))) sNil)
  (sSeq (sIf (tNot' (tOf (eFn (shO allD) [(mb_is_system_C1)]))) (sRet (eC (.bl false))) sNil)
  (sRet (eFn (shO allD) [(mb_is_system_C2)]))))
noncomputable def m_is_system : FF := runDef 1 2 mb_is_system
-- least_ring: 0=system 1=limit
-- is_safe: 0=system 1=limit 2=words
-- least_weight: 0=system 1=words 2=found
-- fewest: 0=system 1=words 2=length 3=weight
-- by_words: 0=lengths 1=length
-- by_number: 0=lengths 1=length
-- system_of: 0=kinds 1=found
-- with_header: 0=system 1=words 2=length 3=weight
-- padded: 0=system 1=unit 2=length 3=weight
-- is_sum: 0=system 1=words
-- greatest_sum: 0=system 1=words
-- longest: 0=system 1=weight
-- divisor: 0=system
-- regular_from: 0=system
-- worst: 0=system 1=limit
-- settled: 0=system 1=loads 2=heaviest 3=rows 4=limit 5=length 6=weight 7=words 8=first
-- sizes_of: 0=system 1=shape 2=kind 3=length 4=least 5=missing
-- is_carried: 0=loads 1=words 2=weight 3=lightest
-- end_can_occur: 0=loads 1=shape 2=kind 3=left 4=word 5=head 6=old
-- newer_can_occur: 0=system 1=loads 2=shape 3=kind 4=left 5=word 6=head 7=old 8=newer 9=first 10=length 11=weight 12=rest
-- can_occur: 0=system 1=limit 2=shape 3=kind 4=loads 5=pushed 6=number
-- table_for: 0=system 1=limit 2=words 3=loads 4=length
-- is_pair: 0=value 1=part
-- are_pairs: 0=words 1=value 2=one 3=other
-- with_kind: 0=system 1=kind
-- lightest_free: 0=system 1=limit 2=length 3=before 4=low 5=high 6=middle
-- best_unit: 0=system 1=limit 2=units 3=best 4=least 5=unit 6=words
-- stronger: 0=one 1=other 2=length 3=weight 4=kind
end T

set_option maxHeartbeats 4000000
/-! T32: str(int), a tuple backwards. -/
namespace HT
open PySem PySem.Spec PyProof.Rows L2
section
variable {prog : Program} {w : World} {A : Around} {E : Value → Shared → Prop} {s : Shared}
end
end HT
namespace T
open PySem PySem.Spec PyProof.Rows L2
section
variable {X : Cx}
/-! ### str(i) -/
def strD : List D → Option D
  | [.int i] => if i.natAbs.log2 < 1920 then some (.str (toString i)) else none
  | _ => none
theorem p_str : CaP X (fun xs H Q => ∃ i, xs = [.int i] ∧ i.natAbs.log2 < 1920 ∧ Q (.str (toString i)) H) strD := by
  refine ⟨fun ds d h => ?_, fun O H vs ds d Q r h k => ?_⟩
  · unfold strD at h
    split at h
    · split at h
      · cases h; exact ⟨_, .str _⟩
      · cases h
    · cases h
  · unfold strD at h
    split at h
    · split at h
      · rename_i hz
        cases h
        obtain ⟨v, rfl, q⟩ := one_paired r
        rw [q.int]
        exact ⟨_, rfl, hz, k _ (.str _)⟩
      · cases h
    · cases h
end
end T

set_option maxHeartbeats 4000000
/-! T33: dict(pairs), x.update(dict), sorted(dict of ints), list(range(n)), xs[a::b]. -/
namespace T
open PySem PySem.Spec PyProof.Rows L2
/-! ### a new dict -/
section
variable {K : Fg} {mg : Mg} {w : Wd} {ρ : Ev} {σ : L2.St} {H : Hp}
end
section
variable {X : Cx}
/-! ### sorted(dict of ints) -/
/-! ### list(range(n)) -/
end
/-! ### x.update(y), x a dict of the frame's own -/
section
variable {X : Cx} {pins : List (Addr × Obj)} {σ : L2.St} {H : Hp} {s : Shared} {a b : Addr} {A : Around} {E : Value → Shared → Prop}
end
section
variable {X : Cx} {o e : Expr} {apos cpos : Pos} {td ty : TE}
end
/-! ### xs[a::b] -/
section
variable {X : Cx}
end
end T

set_option maxHeartbeats 4000000
/-! T34: nested tuples as keys of a dict: what hash and == make of them. -/
namespace PySem
namespace NK
open PySem
/-- values that may be keys, nested tuples too -/
structure VK (prog : Program) (w : World) (K : Type) [DecidableEq K] where
  is : Heap → K → Value → Prop
  hash : K → Int
  draws : K → Nat
  dep : Nat
  inj : ∀ {h : Heap} {v : Value} {x y : K}, is h x v → is h y v → x = y
  keeps : ∀ {h h' : Heap} {k : K} {v : Value} {d : Addr} {o : Obj} {es ep}, is h k v → h.get? d = some o → o.data = .dict es ep → Heap.SameBut d h h' → is h' k v
  pyHash : ∀ {A : Around} {E : Value → Shared → Prop} {s : Shared} {k : K} {v : Value} {Q : Int → Shared → Prop}, A.units + dep < cLine → is s.heap k v → Q (hash k) { s with toks := s.toks + draws k } →
    wpAny (model prog w) A (PySem.pyHash v) Q E s
  eqBool : ∀ {A : Around} {E : Value → Shared → Prop} {s : Shared} {x y : K} {u v : Value} {Q : Bool → Shared → Prop}, A.units + dep < cLine → is s.heap x u → is s.heap y v → Q (decide (x = y)) s →
    wpAny (model prog w) A (PySem.eqBool u v) Q E s
  quiet : ∀ {A : Around} {E : Value → Shared → Prop} {s : Shared} {k : K} {v : Value} {n : Nat} {Q : Bool → Shared → Prop}, dep ≤ n → is s.heap k v → Q true s → wpAny (model prog w) A (eqIsQuiet n v) Q E s
section
variable {prog : Program} {w : World} {K : Type} [DecidableEq K] (knd : VK prog w K)
inductive Itm (h : Heap) : List K → List Value → Prop
  | nil : Itm h [] []
  | cons {k : K} {v : Value} {ks : List K} {vs : List Value} : knd.is h k v → Itm h ks vs → Itm h (k :: ks) (v :: vs)
def IsTK (h : Heap) (ks : List K) (v : Value) : Prop := ∃ a o items n, v = .ref a ∧ h.get? a = some o ∧ o.cls = .type "tuple" ∧ o.data = .seq items n ∧ Itm knd h ks items.toList
variable {knd}
theorem Itm.inj {h : Heap} {x y : List K} {vs : List Value} (hx : Itm knd h x vs) (hy : Itm knd h y vs) : x = y := by
  induction hx generalizing y with
  | nil => cases hy; rfl
  | cons h1 _ ih =>
    cases hy with
    | cons h2 t2 => rw [knd.inj h1 h2, ih t2]
theorem Itm.keeps {h h' : Heap} {d : Addr} {o : Obj} {es ep} (ho : h.get? d = some o) (hd : o.data = .dict es ep) (hs : Heap.SameBut d h h') {x : List K} {vs : List Value} (hx : Itm knd h x vs) : Itm knd h' x vs := by
  induction hx with
  | nil => exact .nil
  | cons h1 _ ih => exact .cons (knd.keeps h1 ho hd hs) ih
theorem IsTK.inj {h : Heap} {v : Value} {x y : List K} (hx : IsTK knd h x v) (hy : IsTK knd h y v) : x = y := by
  obtain ⟨a, o, items, n, rfl, ho, _, hd, hi⟩ := hx
  obtain ⟨a', o', items', n', e, ho', _, hd', hi'⟩ := hy
  cases e
  obtain rfl : o = o' := Option.some.inj (ho.symm.trans ho')
  rw [hd] at hd'
  injection hd' with h1 _
  subst h1
  exact hi.inj hi'
theorem IsTK.keeps {h h' : Heap} {ks : List K} {v : Value} {d : Addr} {o : Obj} {es ep} (x : IsTK knd h ks v) (ho : h.get? d = some o) (hd : o.data = .dict es ep) (hs : Heap.SameBut d h h') : IsTK knd h' ks v := by
  obtain ⟨a, o', items, n, rfl, ho', hc, hd', hi⟩ := x
  have hne : a ≠ d := by
    rintro rfl
    obtain rfl : o' = o := Option.some.inj (ho'.symm.trans ho)
    rw [hd] at hd'; exact nomatch hd'
  exact ⟨a, o', items, n, rfl, (hs.2 a hne).trans ho', hc, hd', hi.keeps ho hd hs⟩
variable {A : Around} {E : Value → Shared → Prop} {s : Shared}
def sumN (f : K → Nat) : List K → Nat
  | [] => 0
  | k :: r => f k + sumN f r
theorem sumN_app {f : K → Nat} : ∀ {a b : List K}, sumN f (a ++ b) = sumN f a + sumN f b
  | [], b => by simp [sumN]
  | k :: r, b => by simp [sumN, sumN_app (a := r)]; omega
def tkHash (knd : VK prog w K) (ks : List K) : Int := reduceHash (Builtin.Tuple.tupleHashOf (ks.map knd.hash))
theorem hash_tk {ks : List K} {v : Value} {Q : Int → Shared → Prop} (hu : A.units + (knd.dep + 1) < cLine) (hk : IsTK knd s.heap ks v) (h : Q (tkHash knd ks) { s with toks := s.toks + (sumN knd.draws ks + 1) }) :
    wpAny (model prog w) A (pyHash v) Q E s := by
  obtain ⟨a, o, items, n, rfl, ho, hc, hd, hi⟩ := hk
  have hT : s.TypeIs (.ref a) "tuple" := ⟨o, ho, hc⟩
  unfold pyHash
  first | unfold pyHashByItsType | skip
  first | refine wpAny_bind (wpAny_cRoomFor_or (.inr (by omega)) ?_) | skip
  refine wpAny_bind (wpAny_specialOf hT F.slot_tuple_hash.lookup ?_)
  show wpAny _ _ (if (some (Value.builtin "tuple.__hash__") == some Value.none) = true then _ else _) Q E s
  rw [if_neg (by rw [beq_builtin_none]; exact Bool.false_ne_true)]
  refine wpAny_bind (wpAny_specialOf hT F.slot_tuple_hash.lookup ?_)
  show wpAny _ _ (callSpecialIfBoundUnlessNone? (.ref a) "__hash__" _ >>= _) Q E s
  refine wpAny_bind (wpAny_callSpecialIfBoundUnlessNone?_slot hT F.slot_tuple_hash (wpAny_call_entry F.slot_tuple_hash hT F.entry_tuple_hash ?_ (F.args_tuple_hash_1 _)))
  show wpAny _ _ (Builtin.Tuple.tupleItemsOf (.ref a) >>= _) _ _ s
  refine wpAny_bind (wpAny_tupleItemsOf ho hd ?_)
  refine wpAny_bind ?_
  rw [← Array.forIn_toList]
  refine wpAny_forIn_list _
    (fun rest (b : Array Int) s' => ∃ done left, ks = done ++ left ∧ Itm knd s.heap left rest ∧ b.toList = done.map knd.hash ∧ s' = { s with toks := s.toks + sumN knd.draws done })
    _ ?_ ?_ _ _ ⟨[], ks, rfl, hi, rfl, rfl⟩
  · rintro x rest b s' ⟨done, left, rfl, hl, hb, rfl⟩
    cases hl with
    | @cons k _ ks' _ h1 hl' =>
      refine wpAny_bind (knd.pyHash (by first | exact Nat.lt_of_le_of_lt (by show _ ≤ A.units + (knd.dep + 1); first | omega | (show A.units + 1 + knd.dep ≤ A.units + (knd.dep + 1); omega)) hu) h1 ?_)
      have e : { s with toks := s.toks + sumN knd.draws done + knd.draws k } = ({ s with toks := s.toks + sumN knd.draws (done ++ [k]) } : Shared) := by
        rw [sumN_app]; simp [sumN, Nat.add_assoc]
      first
        | exact wpAny_pure ⟨done ++ [k], ks', by simp, hl', by simp [hb], e⟩
        | exact wpAny_bind (wpAny_pure (wpAny_pure ⟨done ++ [k], ks', by simp, hl', by simp [hb], e⟩))
  · rintro b s' ⟨done, left, rfl, hl, hb, rfl⟩
    cases hl
    rw [List.append_nil] at h
    show wpAny _ _ (retInt (Builtin.Tuple.tupleHashOf b.toList)) _ _ _
    rw [hb]
    refine wpAny_ret_mkInt ?_
    show wpAny _ _ (if (decide (-(2 : Int) ^ 63 ≤ Builtin.Tuple.tupleHashOf (done.map knd.hash)) && decide (Builtin.Tuple.tupleHashOf (done.map knd.hash) < 2 ^ 63)) = true then _ else _) Q E _
    unfold tkHash reduceHash at h
    by_cases hr : (decide (-(2 : Int) ^ 63 ≤ Builtin.Tuple.tupleHashOf (done.map knd.hash)) && decide (Builtin.Tuple.tupleHashOf (done.map knd.hash) < 2 ^ 63)) = true
    · rw [if_pos hr]
      rw [if_pos hr] at h
      exact wpAny_pure (by simpa [Nat.add_assoc] using h)
    · rw [if_neg hr]
      rw [if_neg hr] at h
      exact wpAny_bind (wpAny_rule (wpAny_pure (by simpa [Nat.add_assoc] using h)))
theorem eqcode_tk {x y : List K} {u v : Value} {P : Fin → Shared → Prop} (hu : A.units + knd.dep < cLine) (hx : IsTK knd s.heap x u) (hy : IsTK knd s.heap y v) (h : P (.done (.ret (.bool (decide (x = y))))) s) :
    wpAny (model prog w) A (Builtin.«tuple.__eq__» ⟨[u, v], []⟩) P E s := by
  obtain ⟨a, oa, xs, na, rfl, hoa, hca, hda, hia⟩ := hx
  obtain ⟨b, ob, ys, nb, rfl, hob, hcb, hdb, hib⟩ := hy
  have hTb : s.TypeIs (.ref b) "tuple" := ⟨ob, hob, hcb⟩
  show wpAny _ _ (isInstance (.ref b) (.type "tuple") >>= _) _ _ s
  refine wpAny_bind (wpAny_isInstance hTb isSubtype_tuple_tuple ?_)
  simp only [Bool.not_true, Bool.false_eq_true, if_false]
  refine wpAny_bind (wpAny_tupleItemsOf hoa hda ?_)
  refine wpAny_bind (wpAny_tupleItemsOf hob hdb ?_)
  refine wpAny_bind ?_
  refine wpAny_forIn_list _
    (fun rest r s' => r.1 = none ∧ s' = s ∧ ∃ x' y' xs' ys', rest = List.zip xs' ys' ∧ Itm knd s.heap x' xs' ∧ Itm knd s.heap y' ys' ∧ decide (x' = y') = decide (x = y) ∧ (xs'.length == ys'.length) = (xs.size == ys.size))
    _ ?_ ?_ _ _ ⟨rfl, rfl, x, y, xs.toList, ys.toList, rfl, hia, hib, rfl, by simp⟩
  · rintro ⟨u, v⟩ rest r s' ⟨hr, rfl, x', y', xs', ys', hz, hx', hy', hdec, hlen⟩
    cases hx' with
    | nil => simp at hz
    | @cons k1 u' x'' xs'' h1 hx'' =>
      cases hy' with
      | nil => simp at hz
      | @cons k2 v' y'' ys'' h2 hy'' =>
        simp only [List.zip_cons_cons, List.cons.injEq, Prod.mk.injEq] at hz
        obtain ⟨⟨rfl, rfl⟩, rfl⟩ := hz
        refine wpAny_bind (knd.eqBool (x := k1) (y := k2) hu h1 h2 ?_)
        by_cases hk : k1 = k2
        · subst hk
          rw [decide_eq_true rfl]
          simp only [Bool.not_true, Bool.false_eq_true, if_false]
          refine wpAny_pure ⟨rfl, rfl, x'', y'', xs'', ys'', rfl, hx'', hy'', ?_, by simpa using hlen⟩
          rw [← hdec]
          by_cases hxy : x'' = y''
          · simp [hxy]
          · simp [hxy]
        · rw [decide_eq_false hk]
          simp only [Bool.not_false, if_true]
          have hf : decide (x = y) = false := by rw [← hdec]; simp [hk]
          rw [hf] at h
          exact wpAny_bind (wpAny_pure (wpAny_pure (wpAny_pure h)))
  · rintro ⟨r1, r2⟩ s' ⟨hr, rfl, x', y', xs', ys', hz, hx', hy', hdec, hlen⟩
    simp only at hr
    subst hr
    refine wpAny_pure ?_
    have hfin : (xs.size == ys.size) = decide (x = y) := by
      rw [← hdec, ← hlen]
      cases hx' with
      | nil =>
        cases hy' with
        | nil => simp
        | cons _ _ => simp
      | cons _ _ =>
        cases hy' with
        | nil => simp
        | cons _ _ => simp at hz
    show P (.done (.ret (.bool (xs.size == ys.size)))) s'
    rw [hfin]; exact h
theorem eq_tk {x y : List K} {u v : Value} {Q : Bool → Shared → Prop} (hu : A.units + (knd.dep + 1) < cLine) (hx : IsTK knd s.heap x u) (hy : IsTK knd s.heap y v) (h : Q (decide (x = y)) s) :
    wpAny (model prog w) A (eqBool u v) Q E s := by
  have hx' := hx
  have hy' := hy
  obtain ⟨a, oa, xs, na, rfl, hoa, hca, hda, hia⟩ := hx'
  obtain ⟨b, ob, ys, nb, rfl, hob, hcb, hdb, hib⟩ := hy'
  have hTa : s.TypeIs (.ref a) "tuple" := ⟨oa, hoa, hca⟩
  have hTb : s.TypeIs (.ref b) "tuple" := ⟨ob, hob, hcb⟩
  unfold eqBool
  try with_reducible refine wpAny_holding ?_
  show wpAny _ _ (if (Value.ref a == Value.ref b) = true then _ else _) Q E s
  by_cases hab : (Value.ref a == Value.ref b) = true
  · rw [if_pos hab]
    have e : a = b := by have := eq_of_beq hab; injection this
    subst e
    obtain rfl := hx.inj hy
    exact wpAny_bind (wpAny_rule (wpAny_pure (by simpa using h)))
  · rw [if_neg hab]
    refine wpAny_bind (wpAny_richCompare_same_room (op := .Eq) hTa hTb F.slot_tuple_eq
      (wpAny_call_entry F.slot_tuple_eq hTa F.entry_tuple_eq (eqcode_tk ?_ hx hy ⟨_, rfl, (fun e => nomatch e), wpAny_truthy_bool h⟩) (F.args_tuple_eq_2 _ _)) (by omega))
    first
      | omega
      | (show A.units + 1 + knd.dep < cLine; omega)
      | (show A.units + 1 + 1 + knd.dep < cLine; omega)
theorem quiet_tk {ks : List K} {v : Value} {n : Nat} {Q : Bool → Shared → Prop} (hn : knd.dep + 1 ≤ n) (hk : IsTK knd s.heap ks v) (h : Q true s) : wpAny (model prog w) A (eqIsQuiet n v) Q E s := by
  obtain ⟨a, o, items, m, rfl, ho, hc, hd, hi⟩ := hk
  have hT : s.TypeIs (.ref a) "tuple" := ⟨o, ho, hc⟩
  obtain ⟨n', rfl⟩ : ∃ n', n = n' + 1 := ⟨n - 1, by omega⟩
  unfold eqIsQuiet
  refine wpAny_bind (wpAny_specialOf hT F.slot_tuple_eq.lookup ?_)
  show wpAny _ _ (isInstance (.ref a) (.type "tuple") >>= _) _ _ s
  refine wpAny_bind (wpAny_isInstance hT isSubtype_tuple_tuple ?_)
  simp only [Bool.not_true, Bool.false_eq_true, if_false]
  refine wpAny_bind (wpAny_seqItems ho hd ?_)
  refine wpAny_bind ?_
  show wpAny _ _ (forIn items _ _) _ _ s
  rw [← Array.forIn_toList]
  refine wpAny_forIn_list _ (fun rest r s' => r.1 = none ∧ s' = s ∧ ∃ ks', Itm knd s.heap ks' rest) _ ?_ ?_ _ _ ⟨rfl, rfl, ks, hi⟩
  · rintro v rest r s' ⟨hr, rfl, ks', hit⟩
    cases hit with
    | @cons k _ ks2 _ h1 h2 =>
      refine wpAny_bind (knd.quiet (by omega) h1 ?_)
      simp only [Bool.not_true, Bool.false_eq_true, if_false]
      exact wpAny_pure ⟨rfl, rfl, ks2, h2⟩
  · rintro ⟨r1, r2⟩ s' ⟨hr, rfl, _⟩
    simp only at hr
    subst hr
    exact wpAny_pure h
end
/-- tuples of such values -/
def tupV {prog : Program} {w : World} {K : Type} [DecidableEq K] (knd : VK prog w K) : VK prog w (List K) where
  is := IsTK knd
  hash := tkHash knd
  draws := fun ks => sumN knd.draws ks + 1
  dep := knd.dep + 1
  inj := fun hx hy => hx.inj hy
  keeps := fun x ho hd hs => x.keeps ho hd hs
  pyHash := fun hu hk h => hash_tk hu hk h
  eqBool := fun hu hx hy h => eq_tk hu hx hy h
  quiet := fun hn hk h => quiet_tk hn hk h
/-! ### a pair of two kinds -/
section
variable {prog : Program} {w : World} {K1 K2 : Type} [DecidableEq K1] [DecidableEq K2] (k1 : VK prog w K1) (k2 : VK prog w K2)
def IsPr (h : Heap) (x : K1 × K2) (v : Value) : Prop := ∃ a o items n u1 u2, v = .ref a ∧ h.get? a = some o ∧ o.cls = .type "tuple" ∧ o.data = .seq items n ∧ items.toList = [u1, u2] ∧ k1.is h x.1 u1 ∧ k2.is h x.2 u2
variable {k1 k2}
theorem IsPr.inj {h : Heap} {v : Value} {x y : K1 × K2} (hx : IsPr k1 k2 h x v) (hy : IsPr k1 k2 h y v) : x = y := by
  obtain ⟨a, o, items, n, u1, u2, rfl, ho, _, hd, hi, h1, h2⟩ := hx
  obtain ⟨a', o', items', n', v1, v2, e, ho', _, hd', hi', h1', h2'⟩ := hy
  cases e
  obtain rfl : o = o' := Option.some.inj (ho.symm.trans ho')
  rw [hd] at hd'
  injection hd' with e1 _
  subst e1
  rw [hi] at hi'
  cases hi'
  exact Prod.ext (k1.inj h1 h1') (k2.inj h2 h2')
theorem IsPr.keeps {h h' : Heap} {x : K1 × K2} {v : Value} {d : Addr} {o : Obj} {es ep} (hx : IsPr k1 k2 h x v) (ho : h.get? d = some o) (hd : o.data = .dict es ep) (hs : Heap.SameBut d h h') : IsPr k1 k2 h' x v := by
  obtain ⟨a, o', items, n, u1, u2, rfl, ho', hc, hd', hi, h1, h2⟩ := hx
  have hne : a ≠ d := by
    rintro rfl
    obtain rfl : o' = o := Option.some.inj (ho'.symm.trans ho)
    rw [hd] at hd'; exact nomatch hd'
  exact ⟨a, o', items, n, u1, u2, rfl, (hs.2 a hne).trans ho', hc, hd', hi, k1.keeps h1 ho hd hs, k2.keeps h2 ho hd hs⟩
variable {A : Around} {E : Value → Shared → Prop} {s : Shared}
end
/-- such values, nested at most eight deep, as keys -/
def heapV {prog : Program} {w : World} {K : Type} [DecidableEq K] (knd : VK prog w K) (hd : knd.dep ≤ 8) : HeapKind prog w K where
  is := fun h k a => knd.is h k (.ref a)
  hash := knd.hash
  draws := knd.draws
  room := fun A => A.units + knd.dep < cLine
  inj := fun hx hy => knd.inj hx hy
  keeps := fun x ho hd hs => knd.keeps x ho hd hs
  pyHash := fun hu hk h => knd.pyHash hu hk h
  eqBool := fun hu hx hy h => knd.eqBool hu hx hy h
  quiet := fun hk h => knd.quiet hd hk h
end NK
end PySem

set_option maxHeartbeats 4000000
/-! T35: dicts whose keys are states (here, ((start, number), ..)): the rules over what is tracked; no D of its own yet. -/
namespace T
open PySem PySem.Spec PyProof.Rows L2 PySem.NK
/-- ints as keys -/
def intV (P : Program) (w : World) : VK P w Int where
  is := fun _ k v => (mixKind P w).is (.inl k) v = true
  hash := fun k => (mixKind P w).hash (.inl k)
  draws := fun _ => 1
  dep := 0
  inj := fun {_ v x y} hx hy => by
    have := (mixKind P w).inj v _ _ hx hy
    injection this
  keeps := fun x _ _ _ => x
  pyHash := fun _ hk h => (mixKind P w).pyHash hk h
  eqBool := fun {A E s x y u v Q} _ hx hy h => by
    refine (mixKind P w).eqBool hx hy ?_
    have e : decide ((Sum.inl x : Key) = Sum.inl y) = decide (x = y) := by
      rw [decide_eq_decide]
      exact ⟨fun e => by injection e, fun e => by rw [e]⟩
    rw [e]
    exact h
  quiet := fun {A E s k v n Q} _ hk h => by
    rw [eqIsQuiet_byValue n ((mixKind P w).byValue _ v hk)]
    exact wpAny_pure h
theorem intV_is {P : Program} {w : World} {h : Heap} {i : Int} {u : Value} (r : L2.RelV (V.int i) u) : (intV P w).is h i u := kV_is (k := .inl i) r
theorem intV_int {P : Program} {w : World} {h : Heap} {i : Int} {u : Value} (r : (intV P w).is h i u) : ∃ t, u = Value.int i t := by
  rcases keyIs_shape (show keyIs (.inl i) u = true from r) with ⟨j, t, e, e2⟩ | ⟨x, t, e, _⟩
  · cases e; exact ⟨t, e2⟩
  · cases e
/-- a key: an int, or a tuple of keys -/
def sumV {P : Program} {w : World} {K : Type} [DecidableEq K] (kn : VK P w K) : VK P w (Sum Int (List K)) where
  is := fun h k v => match k with
    | .inr l => (tupV kn).is h l v
    | .inl i => (intV P w).is h i v
  hash := fun k => match k with
    | .inr l => (tupV kn).hash l
    | .inl i => (intV P w).hash i
  draws := fun k => match k with
    | .inr l => (tupV kn).draws l
    | .inl i => (intV P w).draws i
  dep := (tupV kn).dep
  inj := fun {h v x y} hx hy => by
    cases x with
    | inr a =>
      cases y with
      | inr b => rw [(tupV kn).inj hx hy]
      | inl j =>
        obtain ⟨t, rfl⟩ := intV_int hy
        obtain ⟨b, _, _, _, e, _⟩ := hx
        cases e
    | inl i =>
      obtain ⟨t, rfl⟩ := intV_int hx
      cases y with
      | inr b =>
        obtain ⟨c, _, _, _, e, _⟩ := hy
        cases e
      | inl j =>
        obtain ⟨u, e⟩ := intV_int hy
        cases e
        rfl
  keeps := fun {h h' k v d o es ep} x e1 e2 e3 => by
    cases k with
    | inr l => exact (tupV kn).keeps x e1 e2 e3
    | inl i => exact (intV P w).keeps x e1 e2 e3
  pyHash := fun {A E s k v Q} hu hk h => by
    cases k with
    | inr l => exact (tupV kn).pyHash hu hk h
    | inl i => exact (intV P w).pyHash (Nat.lt_of_le_of_lt (Nat.add_le_add_left (Nat.zero_le _) _) hu) hk h
  eqBool := fun {A E s x y u v Q} hu hx hy h => by
    have hu0 : A.units < cLine := Nat.lt_of_le_of_lt (Nat.le_add_right _ _) hu
    cases x with
    | inr a =>
      cases y with
      | inr b =>
        refine (tupV kn).eqBool hu hx hy ?_
        have e : decide ((Sum.inr a : Sum Int (List K)) = Sum.inr b) = decide (a = b) := by
          rw [decide_eq_decide]
          exact ⟨fun e => by injection e, fun e => by rw [e]⟩
        rwa [e] at h
      | inl j =>
        obtain ⟨t, rfl⟩ := intV_int hy
        obtain ⟨c, o, its, n, rfl, e1, e2, e3, _⟩ := hx
        exact SeqAt.EqAt.tuple_int j t (items := its) ⟨o, e1, e2, n, e3⟩ hu0 _ _ _ _ h
    | inl i =>
      obtain ⟨t, rfl⟩ := intV_int hx
      cases y with
      | inr b =>
        obtain ⟨c, o, its, n, rfl, e1, e2, e3, _⟩ := hy
        exact SeqAt.EqAt.int_tuple i t (items := its) ⟨o, e1, e2, n, e3⟩ hu0 _ _ _ _ h
      | inl j =>
        refine (intV P w).eqBool (Nat.lt_of_le_of_lt (Nat.add_le_add_left (Nat.zero_le _) _) hu) hx hy ?_
        have e : decide ((Sum.inl i : Sum Int (List K)) = Sum.inl j) = decide (i = j) := by
          rw [decide_eq_decide]
          exact ⟨fun e => by injection e, fun e => by rw [e]⟩
        rwa [e] at h
  quiet := fun {A E s k v n Q} hn hk h => by
    cases k with
    | inr l => exact (tupV kn).quiet hn hk h
    | inl i => exact (intV P w).quiet (Nat.zero_le _) hk h
def hkV (P : Program) (w : World) : (n : Nat) → VK P w (HK n)
  | 0 => intV P w
  | n + 1 => sumV (hkV P w n)
theorem hkV_dep (P : Program) (w : World) : ∀ n, (hkV P w n).dep = n
  | 0 => rfl
  | n + 1 => by show (hkV P w n).dep + 1 = n + 1; rw [hkV_dep P w n]
theorem hkV_hash (P : Program) (w : World) : ∀ {n : Nat} (x : HK n), (hkV P w n).hash x = hkHash w n x
  | 0, _ => rfl
  | _ + 1, .inl _ => rfl
  | n + 1, .inr l => by
    show tkHash (hkV P w n) l = reduceHash _
    unfold tkHash
    rw [List.map_congr_left fun y _ => hkV_hash P w (n := n) y]
def sttK (P : Program) (w : World) : VK P w Stt := tupV (hkV P w 3)
theorem sttK_dep (P : Program) (w : World) : (sttK P w).dep = 4 := by show (hkV P w 3).dep + 1 = 4; rw [hkV_dep]
def sttH (P : Program) (w : World) : HeapKind P w Stt := heapV (sttK P w) (by rw [sttK_dep]; decide)
theorem sttH_room {P : Program} {w : World} {A : Around} (hu : A.units + 4 < cLine) : (sttH P w).room A := by show A.units + (sttK P w).dep < cLine; rw [sttK_dep]; exact hu
/-- a key, or a part of one -/
def HkAt (K : Fg) (H : Hp) : (n : Nat) → HK n → V → Prop
  | 0, i, v => v = .int i
  | _ + 1, .inl i, v => v = .int i
  | n + 1, .inr l, v => ∃ (a : Addr) (vs : List V), v = .ref a ∧ SqT K H a vs ∧ Paired (HkAt K H n) l vs
/-- a key lies at a -/
def SttAt (K : Fg) (H : Hp) (x : Stt) (a : Addr) : Prop := ∃ vs : List V, SqT K H a vs ∧ Paired (HkAt K H 3) x vs
section
variable {X : Cx} {pins : List (Addr × Obj)} {σ : L2.St} {H : Hp} {s : Shared} {a : Addr}
theorem hk_itm (I : Inv X pins σ H s) {n : Nat} (f : ∀ {x : HK n} {v : V} {u : Value}, HkAt X.K H n x v → L2.RelV v u → (hkV X.prog X.w n).is s.heap x u) : ∀ {l : List (HK n)} {vs : List V} {us : List Value}, Paired (HkAt X.K H n) l vs → Vals vs us → Itm (hkV X.prog X.w n) s.heap l us
  | _, _, _, .nil, r => by cases r; exact .nil
  | _, _, _, .cons h t, r => by
    cases r with
    | cons r1 r2 => exact .cons (f h r1) (hk_itm I f t r2)
theorem hk_is (I : Inv X pins σ H s) : ∀ {n : Nat} {x : HK n} {v : V} {u : Value}, HkAt X.K H n x v → L2.RelV v u → (hkV X.prog X.w n).is s.heap x u
  | 0, i, v, u, h, r => by
    have h : v = .int i := h
    subst h; exact intV_is r
  | n + 1, .inl i, v, u, h, r => by
    have h : v = .int i := h
    subst h
    exact intV_is (h := s.heap) r
  | n + 1, .inr l, v, u, h, r => by
    obtain ⟨a, vs, rfl, hs, hp⟩ := h
    obtain rfl : u = Value.ref a := r
    obtain ⟨its, r, ⟨o, ho, hc, m, hd⟩, _⟩ := I.tuple hs
    exact ⟨a, o, _, m, rfl, ho, hc, hd, hk_itm I (fun h r => hk_is I (n := n) h r) hp r⟩
theorem stt_is (I : Inv X pins σ H s) {x : Stt} (h : SttAt X.K H x a) : (sttH X.prog X.w).is s.heap x a := by
  obtain ⟨vs, hs, hp⟩ := h
  obtain ⟨its, r, ⟨o, ho, hc, m, hd⟩, _⟩ := I.tuple hs
  exact ⟨a, o, _, m, rfl, ho, hc, hd, hk_itm I (fun h r => hk_is I h r) hp r⟩
theorem sttH_hash {P : Program} {w : World} {u : Stt × Addr × Value} : entryOfKey (sttH P w) u = ⟨sttHash w u.1, .ref u.2.1, u.2.2⟩ := by
  show DictEntry.mk (tkHash (hkV P w 3) u.1) _ _ = _
  unfold tkHash sttHash
  rw [List.map_congr_left fun y _ => hkV_hash P w y]
theorem sttD_keys {xs : List SRow} {us : List (Stt × Addr × Value)} (r : Paired (fun (x : SRow) (u : Stt × Addr × Value) => x.1 = u.1 ∧ x.2.1 = u.2.1 ∧ L2.RelV x.2.2 u.2.2) xs us) : us.map (·.1) = xs.map (·.1) := by
  induction r with
  | nil => rfl
  | cons h _ ih => rw [List.map_cons, List.map_cons, ih, h.1]
theorem sttD_mem {xs : List SRow} {us : List (Stt × Addr × Value)} (r : Paired (fun (x : SRow) (u : Stt × Addr × Value) => x.1 = u.1 ∧ x.2.1 = u.2.1 ∧ L2.RelV x.2.2 u.2.2) xs us) : ∀ u ∈ us, ∃ x ∈ xs, x.1 = u.1 ∧ x.2.1 = u.2.1 := by
  induction r with
  | nil => intro u hu; simp at hu
  | cons h _ ih =>
    intro u hu
    rcases List.mem_cons.mp hu with rfl | hu
    · exact ⟨_, List.mem_cons_self, h.1, h.2.1⟩
    · obtain ⟨x, hx, e⟩ := ih u hu
      exact ⟨x, List.mem_cons_of_mem _ hx, e⟩
theorem std_dict (I : Inv X pins σ H s) {d : Addr} {xs : List SRow} (e : H d = some (SttD d xs)) (hk : ∀ x ∈ xs, SttAt X.K H x.1 x.2.1) (nd : (xs.map (·.1)).Nodup) :
    (d == sysModules) = false ∧ xs.length ≤ sizeLine ∧ ∃ us, Paired (fun (x : SRow) (u : Stt × Addr × Value) => x.1 = u.1 ∧ x.2.1 = u.2.1 ∧ L2.RelV x.2.2 u.2.2) xs us ∧ s.heap.DictOfH (sttH X.prog X.w) d us := by
  obtain ⟨⟨h1, h2, o, es, ep, us, ho, hx, hd, he, r⟩, _, _⟩ := I.hok d _ e
  refine ⟨h1, h2, us, r, o, es, ep, ho, hx, hd, (he X.w).trans (List.map_congr_left fun u _ => sttH_hash.symm), fun u hu => ?_, by rw [sttD_keys r]; exact nd⟩
  obtain ⟨x, hx, e1, e2⟩ := sttD_mem r u hu
  have := stt_is I (hk x hx)
  rw [e1, e2] at this
  exact this
theorem atKey_some {us : List (Stt × Addr × Value)} {x : Stt} : (atKey us x).isSome = decide (x ∈ us.map (·.1)) := by
  unfold atKey
  rw [Option.isSome_map, Bool.eq_iff_iff, decide_eq_true_iff, List.find?_isSome]
  constructor
  · rintro ⟨u, hu, h⟩
    exact List.mem_map.mpr ⟨u, hu, of_decide_eq_true h⟩
  · intro h
    obtain ⟨u, hu, e⟩ := List.mem_map.mp h
    exact ⟨u, hu, decide_eq_true e⟩
theorem std_ok {P : Program} {w : World} {H' : Hp} {h : Heap} {d : Addr} {xs : List SRow} {us : List (Stt × Addr × Value)} (h1 : (d == sysModules) = false) (h2 : xs.length ≤ sizeLine) (r : Paired (fun (x : SRow) (u : Stt × Addr × Value) => x.1 = u.1 ∧ x.2.1 = u.2.1 ∧ L2.RelV x.2.2 u.2.2) xs us)
    (dd : h.DictOfH (sttH P w) d us) : ObjOk P w H' h d (SttD d xs) := by
  obtain ⟨o, es, ep, ho, hx, hd, he, _, _⟩ := dd
  refine ⟨⟨h1, h2, o, es, ep, us, ho, hx, hd, fun w2 => he.trans (List.map_congr_left fun u _ => by rw [sttH_hash, sttHash_any (w' := w2)]), r⟩, ⟨o, ho⟩, fun g1 g2 ⟨a1, a2, o', es', ep', us', b1, b2, b3, b4, b5⟩ st => ⟨a1, a2, o', es', ep', us', st _ b1, b2, b3, b4, b5⟩⟩
theorem paired_snoc {α β : Type} {R : α → β → Prop} : ∀ {as : List α} {bs : List β} {a : α} {b : β}, Paired R as bs → R a b → Paired R (as ++ [a]) (bs ++ [b])
  | _, _, _, _, .nil, h => .cons h .nil
  | _, _, _, _, .cons q t, h => .cons q (paired_snoc t h)
/-- d[a] = v, a not there -/
theorem d_setS {A : Around} {E : Value → Shared → Prop} {d : Addr} {xs : List SRow} {x : Stt} {v : V} {u : Value} {Q : Unit → Shared → Prop} (hu : A.units + 8 < cLine) (I : Inv X pins σ H s) (e : H d = some (SttD d xs)) (hk : ∀ x ∈ xs, SttAt X.K H x.1 x.2.1) (nd : (xs.map (·.1)).Nodup)
    (ha : SttAt X.K H x a) (hx : x ∉ xs.map (·.1)) (hz : xs.length < sizeLine) (rv : L2.RelV v u) (h : ∀ s', Inv X pins σ (upd H d (SttD d (xs ++ [(x, a, v)]))) s' → Q () s') : wpAny (model X.prog X.w) A (setItem (.ref d) (.ref a) u) Q E s := by
  obtain ⟨h1, h2, us, r, dd⟩ := std_dict I e hk nd
  have lu : us.length = xs.length := (Paired.length r).symm
  refine wpAny_setItem_heap (knd := sttH X.prog X.w) (hsz := by omega) ?_ (stt_is I ha) dd fun h' dd' hs => h _ ?_
  · exact sttH_room (show A.units + 1 + 4 < cLine by omega)
  · have hn : atKey us x = none := by
      have := atKey_some (us := us) (x := x)
      rw [sttD_keys r, decide_eq_false hx] at this
      cases q : atKey us x with
      | none => rfl
      | some p => rw [q] at this; cases this
    rw [storedH_new hn] at dd'
    have he : ∃ q, h'.get? d = some q := let ⟨q, _, _, hq, _⟩ := dd'; ⟨q, hq⟩
    exact d_write I (by rw [e]; exact True.intro) hs he (std_ok h1 (by rw [List.length_append]; simp; omega) (paired_snoc r ⟨rfl, rfl, rv⟩) dd')
/-- a new dict of states, empty -/
theorem std_new (I : Inv X pins σ H s) : Inv X pins σ (upd H s.heap.objs.size (SttD s.heap.objs.size [])) { s with heap := s.heap.push { cls := .type "dict", data := .dict #[] } } := by
  refine I.laid (t' := s.toks) (fun b u e => Heap.get?_push_of_some _ e) (Nat.le_refl _) ?_
  exact std_ok (beq_eq_false_iff_ne.mpr (Nat.ne_of_gt I.big)) (Nat.zero_le _) .nil (Heap.DictOfH.new s.heap)
end
end T

set_option maxHeartbeats 4000000
/-! T36: `x not in d`, d[x] = v, d a dict of states (D.dit). -/
namespace T
open PySem PySem.Spec PyProof.Rows L2 PySem.NK
def hkSs {α : Type} (f : D → Option α) : List D → Option (List α)
  | [] => some []
  | d :: r => (f d).bind fun x => (hkSs f r).map (x :: ·)
def hkS : (n : Nat) → D → Option (HK n)
  | 0, .int i => some i
  | 0, _ => none
  | _ + 1, .int i => some (.inl i)
  | n + 1, .tup ds => (hkSs (hkS n) ds).map .inr
  | _ + 1, _ => none
/-- a key, read off data -/
def keyS : D → Option Stt
  | .tup ds => hkSs (hkS 3) ds
  | _ => none
theorem hkSs_some {α : Type} {f : D → Option α} {g : α → D} (h : ∀ {d x}, f d = some x → d = g x) : ∀ {ds : List D} {l : List α}, hkSs f ds = some l → ds = l.map g
  | [], _, e => by cases e; rfl
  | d :: r, l, e => by
    obtain ⟨x, h1, e⟩ := Option.bind_eq_some_iff.mp e
    obtain ⟨q, h2, e⟩ := Option.map_eq_some_iff.mp e
    subst e
    rw [List.map_cons, ← h h1, ← hkSs_some h h2]
theorem hkS_some : ∀ {n : Nat} {d : D} {x : HK n}, hkS n d = some x → d = hkD n x
  | 0, d, x, h => by
    cases d <;> first | cases h | skip
    rfl
  | n + 1, d, x, h => by
    cases d <;> first | cases h | skip
    · rfl
    · rename_i ds
      obtain ⟨l, h1, e⟩ := Option.map_eq_some_iff.mp (show (hkSs (hkS n) ds).map Sum.inr = some x from h)
      subst e
      show D.tup _ = D.tup _
      rw [hkSs_some (fun {d x} => hkS_some (n := n)) h1]
theorem keyS_some {d : D} {x : Stt} (h : keyS d = some x) : d = sttD x := by
  unfold keyS at h
  split at h
  · show D.tup _ = D.tup _
    rw [hkSs_some (fun {d x} => hkS_some) h]
  · cases h
theorem hkSs_of {α : Type} {f : D → Option α} {g : α → D} (h : ∀ x, f (g x) = some x) : ∀ l : List α, hkSs f (l.map g) = some l
  | [] => rfl
  | x :: r => by
    show (f (g x)).bind _ = _
    rw [h x]
    show (hkSs f (r.map g)).map _ = _
    rw [hkSs_of h r]; rfl
theorem hkS_of : ∀ {n : Nat} (x : HK n), hkS n (hkD n x) = some x
  | 0, _ => rfl
  | _ + 1, .inl _ => rfl
  | n + 1, .inr l => by
    show (hkSs (hkS n) (l.map (hkD n))).map Sum.inr = _
    rw [hkSs_of (fun y => hkS_of (n := n) y)]; rfl
theorem keyS_of (x : Stt) : keyS (sttD x) = some x := hkSs_of (fun y => hkS_of y) x
section
variable {K : Fg} {mg : Mg} {O : AP} {H : Hp}
theorem rps_hk {n : Nat} (f : ∀ {x : HK n} {v : V}, Rp K mg O H (hkD n x) v → HkAt K H n x v) : ∀ {l : List (HK n)} {vs : List V}, Rps K mg O H (l.map (hkD n)) vs → Paired (HkAt K H n) l vs
  | [], _, h => by cases h; exact .nil
  | x :: l, _, h => by
    rw [List.map_cons] at h
    cases h with
    | cons h1 h2 => exact .cons (f h1) (rps_hk f h2)
theorem rp_hk : ∀ {n : Nat} {x : HK n} {v : V}, Rp K mg O H (hkD n x) v → HkAt K H n x v
  | 0, i, v, h => by
    have h : Rp K mg O H (.int i) v := h
    cases h; rfl
  | _ + 1, .inl i, v, h => by
    have h : Rp K mg O H (.int i) v := h
    cases h; rfl
  | n + 1, .inr l, v, h => by
    obtain ⟨a, vs, e, hs, r⟩ := Rp.tupAt (show Rp K mg O H (.tup (l.map (hkD n))) v from h)
    exact ⟨a, vs, e, hs, rps_hk (fun h => rp_hk (n := n) h) r⟩
theorem rp_stt {x : Stt} {v : V} (h : Rp K mg O H (sttD x) v) : ∃ a, v = .ref a ∧ SttAt K H x a := by
  obtain ⟨a, us, e, hs, ru⟩ := Rp.tupAt h
  exact ⟨a, e, us, hs, rps_hk (fun h => rp_hk h) ru⟩
theorem rps_stt : ∀ {xs : List SRow}, Rps K mg O H (xs.map fun x => sttD x.1) (xs.map fun x => V.ref x.2.1) → ∀ x ∈ xs, SttAt K H x.1 x.2.1
  | [], _, x, hx => by simp at hx
  | y :: r, h, x, hx => by
    rw [List.map_cons, List.map_cons] at h
    cases h with
    | cons h1 h2 =>
      rcases List.mem_cons.mp hx with rfl | hx
      · obtain ⟨a, e, q⟩ := rp_stt h1
        cases e
        exact q
      · exact rps_stt h2 x hx
end
section
variable {K : Fg} {mg : Mg} {w : Wd} {ρ : Ev} {σ : L2.St} {H : Hp} {i : Nat} {ks : List Stt} {ds : List D}
end
section
variable {X : Cx} {i : Nat} {x : Str} {e : Expr} {f : FE} {p : Pos}
end
end T

set_option maxHeartbeats 4000000
/-! T37: d[x] = v, d a dict of the frame's own whose keys are states, x not there yet. -/
namespace T
open PySem PySem.Spec PyProof.Rows L2 PySem.NK
section
variable {X : Cx} {i : Nat} {x : Str} {e ev : Expr} {f fv : FE} {p pos pos' : Pos}
end
end T

set_option maxHeartbeats 4000000
/-! T38: {x: v}, x a state. -/
namespace T
open PySem PySem.Spec PyProof.Rows L2 PySem.NK
end T

set_option maxHeartbeats 4000000
/-! T39: len of a dict of states. -/
namespace T
open PySem PySem.Spec PyProof.Rows L2 PySem.NK
section
variable {X : Cx}
def lenS : List D → Option D
  | [.dit ks _] => if ks.Nodup then some (.int ks.length) else none
  | _ => none
end
section
variable {i : Nat} {f g : FE} {ρ : Ev}
end
end T

set_option maxHeartbeats 4000000
/-! T40: dicts walked: for k in d, for k, v in d.items(), [.. for k in d], {k: .. for k in d}; d.get(k). -/
namespace T
open PySem L2
/-- a dict, locked or not -/
def IsK (o : HO) (kvs : List (Key × V)) : Prop := o = .dK kvs ∨ ∃ od, o = .frz od (.dK kvs)
def DLike (o o' : HO) : Prop := o' = o ∨ ∃ kvs, IsK o kvs ∧ IsK o' kvs
/-- the same dict, locked or free -/
def KLike (o o' : HO) : Prop := ∃ kvs, IsK o kvs ∧ IsK o' kvs
theorem DLike.of_not {o o' : HO} (h : DLike o o') (n : ∀ kvs, ¬ IsK o kvs) : o' = o := h.elim id fun ⟨kvs, q, _⟩ => absurd q (n kvs)
theorem nk_frz {od : Obj} {u : HO} (n : ∀ kvs, u ≠ .dK kvs) : ∀ kvs, ¬ IsK (.frz od u) kvs := fun kvs z => by
  rcases z with z | ⟨_, z⟩
  · cases z
  · cases z
    exact n kvs rfl
section
variable {K : Fg} {mg : Mg} {O O' : AP} {H H' : Hp}
theorem IsK.inj {o : HO} {kvs kvs' : List (Key × V)} (h : IsK o kvs) (h' : IsK o kvs') : kvs' = kvs := by
  rcases h with h | ⟨_, h⟩
  · subst h
    rcases h' with h' | ⟨_, h'⟩
    · cases h'; rfl
    · cases h'
  · subst h
    rcases h' with h' | ⟨_, h'⟩
    · cases h'
    · cases h'; rfl
mutual
theorem Rp.alike (hk : ∀ a o, ¬ O a → H a = some o → ∃ o', H' a = some o' ∧ DLike o o') (ho : ∀ a o, O' a → H a = some o → O a) : ∀ {d : D} {v : V}, Rp K mg O H d v → Rp K mg O' H' d v
  | _, _, .non => .non
  | _, _, .bl b => .bl b
  | _, _, .int i => .int i
  | _, _, .str x => .str x
  | _, _, .ty n => .ty n
  | _, _, .tup h e r => by
    obtain ⟨o', h', l⟩ := hk _ _ h.2 h.1
    rw [l.of_not (nk_frz fun _ z => by cases z)] at h'
    exact .tup ⟨h', fun z => h.2 (ho _ _ z h.1)⟩ e (Rps.alike hk ho r)
  | _, _, .tpw h r => by
    refine .tpw (h.imp (fun h => ?_) id) (Rps.alike hk ho r)
    obtain ⟨o', h', l⟩ := hk _ _ h.2 h.1
    rw [l.of_not fun _ z => by rcases z with z | ⟨_, z⟩ <;> cases z] at h'
    exact ⟨h', fun z => h.2 (ho _ _ z h.1)⟩
  | _, _, .lst h r => by
    obtain ⟨o', h', l⟩ := hk _ _ h.2 h.1
    rw [l.of_not fun _ z => by rcases z with z | ⟨_, z⟩ <;> cases z] at h'
    exact .lst ⟨h', fun z => h.2 (ho _ _ z h.1)⟩ (Rps.alike hk ho r)
  | _, _, .scr h r => by
    refine .scr (h.imp (fun h => ?_) id) (Rps.alike hk ho r)
    obtain ⟨h, n⟩ := h
    rcases h with h | ⟨o, h⟩
    · obtain ⟨o', h', l⟩ := hk _ _ n h
      rw [l.of_not fun _ z => by rcases z with z | ⟨_, z⟩ <;> cases z] at h'
      exact ⟨.inl h', fun z => n (ho _ _ z h)⟩
    · obtain ⟨o', h', l⟩ := hk _ _ n h
      rw [l.of_not (nk_frz fun _ z => by cases z)] at h'
      exact ⟨.inr ⟨o, h'⟩, fun z => n (ho _ _ z h)⟩
  | _, _, .obj n m h e e2 r => by
    obtain ⟨o', h', l⟩ := hk _ _ n h
    rw [l.of_not fun _ z => by rcases z with z | ⟨_, z⟩ <;> cases z] at h'
    exact .obj (fun z => n (ho _ _ z h)) m h' e e2 (Rps.alike hk ho r)
  | _, _, .obx n m h e e2 r => by
    obtain ⟨o', h', l⟩ := hk _ _ n h
    rw [l.of_not fun _ z => by rcases z with z | ⟨_, z⟩ <;> cases z] at h'
    exact .obx (fun z => n (ho _ _ z h)) m h' e e2 (Rps.alike hk ho r)
  | _, _, .dic (a := a) (kvs := kvs) h e e2 r => by
    obtain ⟨h, n⟩ := h
    have q : ∃ o o', H a = some o ∧ H' a = some o' ∧ IsK o' kvs := by
      rcases h with h | ⟨od, h⟩
      · obtain ⟨o', h', l⟩ := hk _ _ n h
        refine ⟨_, o', h, h', ?_⟩
        rcases l with l | ⟨kvs', l1, l2⟩
        · rw [l]; exact .inl rfl
        · rw [← IsK.inj (.inl rfl) l1]; exact l2
      · obtain ⟨o', h', l⟩ := hk _ _ n h
        refine ⟨_, o', h, h', ?_⟩
        rcases l with l | ⟨kvs', l1, l2⟩
        · rw [l]; exact .inr ⟨_, rfl⟩
        · rw [← IsK.inj (.inr ⟨_, rfl⟩) l1]; exact l2
    obtain ⟨o, o', h1, h2, h3⟩ := q
    refine .dic ⟨?_, fun z => n (ho _ _ z h1)⟩ e e2 (Rps.alike hk ho r)
    rcases h3 with rfl | ⟨od, rfl⟩
    · exact .inl h2
    · exact .inr ⟨od, h2⟩
  | _, _, .stn r => .stn (Rp.alike hk ho r)
  | _, _, .dix (a := a) (kvs := kvs) h e e2 r => by
    obtain ⟨h, n⟩ := h
    have q : ∃ o o', H a = some o ∧ H' a = some o' ∧ IsK o' kvs := by
      rcases h with h | ⟨od, h⟩
      · obtain ⟨o', h', l⟩ := hk _ _ n h
        refine ⟨_, o', h, h', ?_⟩
        rcases l with l | ⟨kvs', l1, l2⟩
        · rw [l]; exact .inl rfl
        · rw [← IsK.inj (.inl rfl) l1]; exact l2
      · obtain ⟨o', h', l⟩ := hk _ _ n h
        refine ⟨_, o', h, h', ?_⟩
        rcases l with l | ⟨kvs', l1, l2⟩
        · rw [l]; exact .inr ⟨_, rfl⟩
        · rw [← IsK.inj (.inr ⟨_, rfl⟩) l1]; exact l2
    obtain ⟨o, o', h1, h2, h3⟩ := q
    refine .dix ⟨?_, fun z => n (ho _ _ z h1)⟩ e e2 (Rps.alike hk ho r)
    rcases h3 with rfl | ⟨od, rfl⟩
    · exact .inl h2
    · exact .inr ⟨od, h2⟩
  | _, _, .dit h e e2 r => by
    obtain ⟨o', h', l⟩ := hk _ _ h.2 h.1
    rw [l.of_not fun _ z => by rcases z with z | ⟨_, z⟩ <;> cases z] at h'
    exact .dit ⟨h', fun z => h.2 (ho _ _ z h.1)⟩ e (Rps.alike hk ho e2) (Rps.alike hk ho r)
  | _, _, .lam r => .lam (Rps.alike hk ho r)
  | _, _, .exc h m f e e2 r => by
    obtain ⟨o', h', l⟩ := hk _ _ h.2 h.1
    rw [l.of_not fun _ z => by rcases z with z | ⟨_, z⟩ <;> (unfold CaO at z; cases z)] at h'
    refine .exc ⟨h', fun z => h.2 (ho _ _ z h.1)⟩ m ?_ e e2 (Rps.alike hk ho r)
    rcases f with f | ⟨x, ex, f, n⟩
    · exact .inl f
    · obtain ⟨o', h', l⟩ := hk _ _ n f
      rw [l.of_not fun _ z => by rcases z with z | ⟨_, z⟩ <;> cases z] at h'
      exact .inr ⟨x, ex, h', fun z => n (ho _ _ z f)⟩
theorem Rps.alike (hk : ∀ a o, ¬ O a → H a = some o → ∃ o', H' a = some o' ∧ DLike o o') (ho : ∀ a o, O' a → H a = some o → O a) : ∀ {ds : List D} {vs : List V}, Rps K mg O H ds vs → Rps K mg O' H' ds vs
  | _, _, .nil => .nil
  | _, _, .cons h r => .cons (Rp.alike hk ho h) (Rps.alike hk ho r)
end
mutual
theorem Own.alike (hk : ∀ a o, ¬ O a → H a = some o → ∃ o', H' a = some o' ∧ DLike o o') (ho : ∀ a o, O' a → H a = some o → O a) : ∀ {d : D} {a : Addr}, (∀ b, Foot H d a b → ∀ o, H b = some o → NT o → H' b = some o) → Own K mg O H d a → Own K mg O' H' d a
  | _, _, ha, .lst vs h r => .lst vs (ha _ .top _ h (fun _ z => by cases z)) (r.alike hk ho)
  | _, _, ha, .obj C dx fs vs m h e e2 r => .obj C dx fs vs m (ha _ .top _ h (fun _ z => by cases z)) e e2 (r.alike hk ho)
  | _, _, ha, .dic kvs vs h e e2 r => .dic kvs vs (ha _ .top _ h (fun _ z => by cases z)) e e2 (r.alike hk ho)
  | _, _, ha, .dit xs h e e2 r => .dit xs (ha _ .top _ h nt_stt) e (e2.alike hk ho) (r.alike hk ho)
  | _, _, ha, .obx C dx fs m h e r n => .obx C dx fs m (ha _ .top _ h (fun _ z => by cases z)) e (Flds.alike hk ho (fun b z => ha b (.inn h z)) r) (fun z => n (Flds.foot (fun b z => ha b (.inn h z)) r z))
  | _, _, ha, .dix kvs h e r n => .dix kvs (ha _ .top _ h (fun _ z => by cases z)) e (Flds.alike hk ho (fun b z => ha b (.ind h z)) r) (fun z => n (Flds.foot (fun b z => ha b (.ind h z)) r z))
  | _, _, ha, .stn o => .stn (Own.alike hk ho (fun b z => ha b (.stn z)) o)
theorem Flds.alike (hk : ∀ a o, ¬ O a → H a = some o → ∃ o', H' a = some o' ∧ DLike o o') (ho : ∀ a o, O' a → H a = some o → O a) : ∀ {ds : List D} {vs : List V}, (∀ b, Foots H ds vs b → ∀ o, H b = some o → NT o → H' b = some o) → Flds K mg O H ds vs → Flds K mg O' H' ds vs
  | _, _, _, .nil => .nil
  | _, _, ha, .sh n h r => .sh n (h.alike hk ho) (Flds.alike hk ho (fun b z => ha b (.tl z)) r)
  | _, _, ha, .bx o n r => .bx (Own.alike hk ho (fun b z => ha b (.hd z)) o) (fun c z q => n c (Own.foot (fun b z => ha b (.hd z)) o z) (Flds.foot (fun b z => ha b (.tl z)) r q)) (Flds.alike hk ho (fun b z => ha b (.tl z)) r)
end
end
section
variable {K : Fg} {mg : Mg} {w w2 : Wd} {ρ ρ' : Ev} {σ σ' : L2.St} {H H' : Hp} {a p : Addr} {d : D} {v : V} {o o' : HO}
noncomputable def Wd.at (w : Wd) (a : Addr) (o : HO) : Wd := { w with R := upd w.R a o }
theorem upd_like {O : AP} (h : H a = some o) (l : DLike o o') : ∀ b u, ¬ O b → H b = some u → ∃ u', upd H a o' b = some u' ∧ DLike u u' := fun b u _ e => by
  by_cases hb : b = a
  · subst hb
    rw [h] at e
    cases e
    exact ⟨o', upd_same, l⟩
  · exact ⟨u, by rw [upd_ne hb]; exact e, .inl rfl⟩
/-- a dict that nobody writes is locked, or is free again -/
theorem isK_nt {o : HO} {kvs : List (Key × V)} (h : IsK o kvs) : NT o := fun ps z => by
  rcases h with h | ⟨od, h⟩ <;> rw [h] at z <;> cases z
theorem isK_noC {o : HO} {kvs : List (Key × V)} (h : IsK o kvs) (c : Addr) (q : Str) : o ≠ LamX.CodeO c q := fun z => by
  unfold LamX.CodeO at z
  rcases h with h | ⟨od, h⟩ <;> rw [h] at z <;> cases z
theorem kept_both {R H : Hp} (k : Kept R H) (hR : R a = some o) (hH : H a = some o) (l : KLike o o') : Kept (upd R a o') (upd H a o') := by
  obtain ⟨kvs, l1, l2⟩ := l
  refine ⟨fun b u e n => ?_, fun b ps e => ?_⟩
  · by_cases hb : b = a
    · subst hb; rw [upd_same] at e ⊢; exact e
    · rw [upd_ne hb] at e ⊢; exact k.nt b u e n
  · by_cases hb : b = a
    · subst hb; rw [upd_same] at e ⊢; exact ⟨ps, e⟩
    · rw [upd_ne hb] at e ⊢; exact k.tb b ps e
theorem SR.alike (S : SR K mg w ρ σ H) (hR : w.R a = some o) (l : KLike o o') : SR K mg (w.at a o') ρ σ (upd H a o') := by
  have h := S.keep a o hR (isK_nt l.choose_spec.1)
  have no : ¬ Ownd ρ σ H a := fun z => by rw [(S.ownd z).1] at hR; cases hR
  have up : ∀ b u, Ownd ρ σ H b → H b = some u → NT u → upd H a o' b = some u := fun b u z e _ => by rw [upd_ne (fun q => no (by rw [← q]; exact z))]; exact e
  have od := S.od (H' := upd H a o') up
  have ex : ∀ b, Ex (w.at a o').E ρ σ (upd H a o') b → Ex w.E ρ σ H b := fun b z => z.imp id (od.1 b)
  have bk : ∀ {i : Nat} {s : Sl} {d : D} {b x : Addr}, ρ[i]? = some s → s.own = some d → σ[i]? = some (some (.ref b)) → Foot (upd H a o') d b x → Foot H d b x := fun {i s d b x} h1 h2 h3 f => by
    obtain ⟨c, e, _, oo⟩ := S.owF h1 h2
    rw [h3] at e
    cases e
    exact oo.foot (fun y z u e n => up y u ⟨i, s, d, b, h1, h2, h3, z⟩ e n) f
  refine ⟨S.len, fun i s x h1 h2 => ?_, fun i j s t d e b c x h1 h2 h3 h4 h5 h6 f1 f2 => S.injF i j s t d e b c x h1 h2 h3 h4 h5 h6 (bk h1 h2 h5 f1) (bk h3 h4 h6 f2), fun b z => S.exo b (od.1 b z), kept_both S.kp hR h l, S.tabs.put (fun u z => by rw [h] at z; cases z; exact ⟨isK_nt l.choose_spec.1, isK_noC l.choose_spec.1 _⟩), fun b e => S.fresh b ?_, fun b z => ?_, S.iob⟩
  · have q := S.slot i s x h1 h2
    have rr : ∀ b, w.R b = none → (w.at a o').R b = none := fun b e => by
      have : b ≠ a := fun z => by rw [z, hR] at e; cases e
      exact (upd_ne this).trans e
    cases s with
    | no => trivial
    | sh d =>
      obtain ⟨y, e, r⟩ := q
      exact ⟨y, e, r.alike (upd_like h (.inr l)) fun b _ z _ => ex b z⟩
    | ow d =>
      obtain ⟨b, e, g1, g2, g3⟩ := q
      subst e
      have ha : ∀ c, Foot H d b c → ∀ u, H c = some u → NT u → upd H a o' c = some u := fun c f u e n => up c u ⟨i, _, d, b, h1, rfl, h2, f⟩ e n
      exact ⟨b, rfl, fun c f => rr c (g1 c (g3.foot ha f)), fun c f => g2 c (g3.foot ha f), g3.alike (upd_like h (.inr l)) (fun b _ z _ => ex b z) ha⟩
    | io d =>
      obtain ⟨b, e, g1, g3⟩ := q
      subst e
      have ha : ∀ c, Foot H d b c → ∀ u, H c = some u → NT u → upd H a o' c = some u := fun c f u e n => up c u ⟨i, _, d, b, h1, rfl, h2, f⟩ e n
      exact ⟨b, rfl, fun c f => ⟨rr c (g1 c (g3.foot ha f)).1, (g1 c (g3.foot ha f)).2⟩, g3.alike (upd_like h (.inr l)) (fun b _ z _ => ex b z) ha⟩
  · by_cases hb : b = a
    · rw [hb, upd_same] at e; cases e
    · rw [upd_ne hb] at e; exact e
  · obtain ⟨u, e⟩ := S.etr b z
    by_cases hb : b = a
    · exact ⟨o', by rw [hb, upd_same]⟩
    · exact ⟨u, by rw [upd_ne hb]; exact e⟩
theorem SR.alike_ex (S : SR K mg w ρ σ H) (hR : w.R a = some o) (b : Addr) (z : Ex w.E ρ σ (upd H a o') b) : Ex w.E ρ σ H b := by
  have no : ¬ Ownd ρ σ H a := fun z => by rw [(S.ownd z).1] at hR; cases hR
  exact z.imp id ((S.od (H' := upd H a o') fun b u z e _ => by rw [upd_ne (fun q => no (by rw [← q]; exact z))]; exact e).1 b)
theorem VR.alike {s : Sl} (h : VR K mg w ρ σ H s v) (hR : w.R a = some o) (l : KLike o o') : VR K mg (w.at a o') ρ σ (upd H a o') s v := by
  cases s with
  | sh d =>
    have k := h.1.keep a o hR (isK_nt l.choose_spec.1)
    exact ⟨h.1.alike hR l, h.2.alike (upd_like k (.inr l)) fun b _ z _ => h.1.alike_ex hR b z⟩
  | ow d =>
    obtain ⟨p, rfl, h1, h2, h3, h4, S, ow⟩ := h
    have k := S.keep a o hR (isK_nt l.choose_spec.1)
    have np : ∀ b, Foot H d p b → b ≠ a := fun b f z => by have := h1 b f; rw [z, hR] at this; cases this
    have ha : ∀ b, Foot H d p b → ∀ u, H b = some u → NT u → upd H a o' b = some u := fun b f u e _ => (upd_ne (np b f)).trans e
    have ef : Foot (upd H a o') d p = Foot H d p := funext fun b => propext ⟨ow.foot ha, fun f => f.up ha⟩
    have S' := S.alike (o' := o') hR l
    refine ⟨p, rfl, ?_, ?_, ?_, ?_, ?_, ?_⟩
    · rw [ef]; exact fun b f => (upd_ne (np b f)).trans (h1 b f)
    · rw [ef]; exact h2
    · rw [ef]; exact h3
    · rw [ef]; exact fun b f z => S'.exo b z (.inr f)
    · rw [ef]; exact S'
    · rw [ef]; exact ow.alike (upd_like k (.inr l)) (fun b _ z _ => S.alike_ex hR b z) ha
  | no => exact h.elim
  | io d => exact h.elim
theorem VR.thin {s : Sl} {w' : Wd} (h : VR K mg w' ρ σ H s v) (hE : w'.E = w.E) (hN : w'.N = w.N) (hB : w'.B = w.B) (hR : Kept w.R w'.R) (hM : w'.M = w.M := by rfl) : VR K mg w ρ σ H s v := by
  cases s with
  | sh d => exact ⟨h.1.thin hE hN hB hR hM, by rw [← hE]; exact h.2⟩
  | ow d =>
    obtain ⟨p, rfl, h1, h2, h3, h4, S, ow⟩ := h
    have eE : (w'.plus (Foot H d p)).E = (w.plus (Foot H d p)).E := by show (fun a => w'.E a ∨ Foot H d p a) = _; rw [hE]; rfl
    refine ⟨p, rfl, fun b f => ?_, by rw [← hN]; exact h2, by rw [← hE]; exact h3, h4, S.thin eE hN hB hR hM, by rw [← eE]; exact ow⟩
    cases e : w.R b with
    | none => rfl
    | some u => obtain ⟨u', q'⟩ := hR.some e; have := h1 b f; rw [q'] at this; cases this
  | no => exact h.elim
  | io d => exact h.elim
/-- the world in which the dict at a is locked -/
noncomputable def Wd.lk (w : Wd) (ρ : Ev) (σ : L2.St) (H : Hp) (a : Addr) (o : HO) : Wd := (w.fill ρ σ H).at a o
theorem SR.lk (S : SR K mg w ρ σ H) (h : H a = some o) (n : ¬ Ex w.E ρ σ H a) (l : KLike o o') : SR K mg (w.lk ρ σ H a o') ρ σ (upd H a o') := S.fill.alike (full_of (fun z => n (.inr z)) h) l
theorem upd_back (h : H a = some o) : upd (upd H a o') a o = H := by
  funext b
  by_cases hb : b = a
  · subst hb; rw [upd_same, h]
  · rw [upd_ne hb, upd_ne hb]
theorem lk_back (S : SR K mg w ρ σ H) (h : H a = some o) (n : ¬ Ownd ρ σ H a) : Kept w.R ((w.lk ρ σ H a o').at a o).R := by
  show Kept w.R (upd (upd (full ρ σ H) a o') a o)
  rw [upd_back (full_of n h)]
  exact S.in_full
theorem KLike.symm (l : KLike o o') : KLike o' o := let ⟨kvs, a, b⟩ := l; ⟨kvs, b, a⟩
theorem lkR : (w.lk ρ σ H a o').R a = some o' := upd_same
theorem SR.unlk (S : SR K mg w ρ σ H) (h : H a = some o) (n : ¬ Ownd ρ σ H a) (l : KLike o o') (S2 : SR K mg (w.lk ρ σ H a o') ρ' σ' H') : H' a = some o' ∧ SR K mg w ρ' σ' (upd H' a o) :=
  ⟨S2.keep a o' lkR (isK_nt l.choose_spec.2), (S2.alike lkR l.symm).thin rfl rfl rfl (lk_back S h n)⟩
theorem VR.unlk {s : Sl} (S : SR K mg w ρ σ H) (h : H a = some o) (n : ¬ Ownd ρ σ H a) (l : KLike o o') (S2 : VR K mg (w.lk ρ σ H a o') ρ' σ' H' s v) : H' a = some o' ∧ VR K mg w ρ' σ' (upd H' a o) s v := by
  refine ⟨?_, (S2.alike lkR l.symm).thin rfl rfl rfl (lk_back S h n)⟩
  cases s with
  | sh d => exact S2.1.keep a o' lkR (isK_nt l.choose_spec.2)
  | ow d =>
    obtain ⟨p, _, _, _, _, _, S3, _⟩ := S2
    exact S3.keep a o' lkR (isK_nt l.choose_spec.2)
  | no => exact S2.elim
  | io d => exact S2.elim
theorem Fin.lk {r : Rs} {En : Ends} (S : SR K mg w ρ σ H) (h : H a = some o) (n : ¬ Ownd ρ σ H a) (l : KLike o o') (k : Fin K mg w r En) : Fin K mg (w.lk ρ σ H a o') r
    ⟨fun σ' H' => H' a = some o' ∧ En.nx σ' (upd H' a o), fun v H' => H' a = some o' ∧ En.rt v (upd H' a o), fun σ' H' => H' a = some o' ∧ En.bk σ' (upd H' a o), fun σ' H' => H' a = some o' ∧ En.ct σ' (upd H' a o)⟩ := by
  cases r with
  | nx ρ => exact fun σ' H' S' => let q := S.unlk h n l S'; ⟨q.1, k σ' _ q.2⟩
  | bk ρ => exact fun σ' H' S' => let q := S.unlk h n l S'; ⟨q.1, k σ' _ q.2⟩
  | ct ρ => exact fun σ' H' S' => let q := S.unlk h n l S'; ⟨q.1, k σ' _ q.2⟩
  | rt s ρ => exact fun v σ' H' S' => let q := VR.unlk S h n l S'; ⟨q.1, k v σ' _ q.2⟩
end
/-! ### the wish of a loop -/
/-! ### keys, pairs -/
section
variable {K : Fg} {mg : Mg} {O : AP} {H : Hp} {a : Addr} {od : Obj} {kvs : List (Key × V)} {ks : List Key} {ds : List D}
end
section
variable {K : Fg} {mg : Mg} {w : Wd} {ρ ρ' : Ev} {σ : L2.St} {H : Hp} {i : Nat} {ks : List Key} {ds : List D}
end
/-! ### for -/
section
variable {X : Cx} {tg : Expr} {body : List Stmt} {t : Tg} {f : FS} {i : Nat} {x : Str} {p pos apos cpos : Pos}
end
end T

set_option maxHeartbeats 4000000
/-! T41: comprehensions over dicts; dict comprehensions; d.get(k). -/
namespace T
open PySem L2
/-! ### dict comprehensions -/
/-! ### the rules -/
section
variable {X : Cx} {e : Expr} {st : Stmt} {t : Tg} {c : FT} {f fk fv : FE} {vs : List Nat} {i j : Nat}
end
/-! ### d.get(k) -/
section
variable {X : Cx} {i : Nat} {x : Str} {e : Expr} {f : FE} {p apos cpos : Pos}
end
end T

set_option maxHeartbeats 4000000
/-! T42: dict(tuple of pairs). -/
namespace T
open PySem PySem.Spec L2
section
variable {X : Cx}
end
end T

/-! T43: powers of great numbers. -/
namespace T
open PySem PyProof.Rows L2
section
variable {X : Cx}
theorem bits_small {i j : Int} (h : small i) (h0 : 0 ≤ j) (h1 : j ≤ 16) : (Builtin.Int.intBits i : Int) * j ≤ 2 ^ 27 := by
  have hb : Builtin.Int.intBits i ≤ 4001 := by
    unfold Builtin.Int.intBits
    split
    · omega
    · have := small_log h
      omega
  have h2 : (Builtin.Int.intBits i : Int) * j ≤ 4001 * j := Int.mul_le_mul_of_nonneg_right (by omega) h0
  omega
theorem op_powW : OpR X (binaryOp .Pow) (rI (fun i j => small i ∧ 0 ≤ j ∧ j ≤ 16) fun i j => .int (i ^ j.toNat)) := opI fun _ _ _ _ _ _ _ hc q => pow_int hc.2.1 (bits_small hc.1 hc.2.1 hc.2.2) q
noncomputable def powWO : O2 := oIc (fun i j => small i ∧ 0 ≤ j ∧ j ≤ 16) fun i j => .int (i ^ j.toNat)
theorem x_powW : OpS X (rI (fun i j => small i ∧ 0 ≤ j ∧ j ≤ 16) fun i j => .int (i ^ j.toNat)) powWO := s_rI (fun _ _ h => h) fun _ _ => .int _
theorem powW_i {i : Int} {n : Nat} (h : small i) (hn : n ≤ 16) : powWO (.int i) (.int n) = some (.sh (.int (i ^ n))) := if_pos ⟨h, by omega, by omega⟩
end
end T

set_option maxHeartbeats 4000000
/-! T44: sorted(d.items()) of ints. -/
namespace T
open PySem PySem.Spec PyProof.Rows L2 SrtO
section
variable {X : Cx} {o : Expr} {p pos apos mpos : Pos} {td : TE}
/-- new pairs of ints, of no dict of their own -/
structure NewPs (H H' : Hp) (bs : List (Addr × Obj)) (qs : List (Int × Int)) : Prop where
  len : bs.length = qs.length
  ext : ∀ b u, H b = some u → H' b = some u
  at_ : ∀ (j : Nat) (b : Addr × Obj) (q : Int × Int), bs[j]? = some b → qs[j]? = some q → H' b.1 = some (.frz b.2 (.tup [.int q.1, .int q.2])) ∧ b.2.dict = none ∧ H b.1 = none
end
/-! ### over plain data -/
def srtP (ps : List (Int × Int)) : List (Int × Int) := ps.mergeSort fun a b => !lexB b a
theorem lexB_no' {p q : Int × Int} : lexB p q = false ↔ ¬ (p.1 < q.1 ∨ (p.1 = q.1 ∧ p.2 < q.2)) := lexB_no
theorem srtP_perm (ps : List (Int × Int)) : (srtP ps).Perm ps := List.mergeSort_perm _ _
theorem srtP_le (ps : List (Int × Int)) : (srtP ps).Pairwise fun q r => lexB r q = false := by
  have := List.pairwise_mergeSort (le := fun a b : Int × Int => !lexB b a) (fun a b c h1 h2 => by
    rw [Bool.not_eq_true'] at h1 h2 ⊢
    rw [lexB_no'] at h1 h2 ⊢
    omega) (fun a b => by
    rw [Bool.or_eq_true, Bool.not_eq_true', Bool.not_eq_true', lexB_no', lexB_no']
    omega) ps
  exact this.imp fun h => by rwa [Bool.not_eq_true'] at h
theorem srtP_eq {ps qs : List (Int × Int)} (h : qs.Perm ps) (h' : qs.Pairwise fun q r => lexB r q = false) : qs = srtP ps :=
  List.Perm.eq_of_pairwise (le := fun q r => lexB r q = false) (fun a b _ _ h1 h2 => by
    rw [lexB_no'] at h1 h2
    exact Prod.ext (by omega) (by omega)) h' (srtP_le ps) (h.trans (srtP_perm ps).symm)
def kP (p : Int × Int) : D := .tup [.int p.1, .int p.2]
section
variable {K : Fg} {mg : Mg} {w : Wd} {ρ : Ev} {σ : L2.St} {H H' : Hp} {O : AP}
end
section
variable {X : Cx} {o : Expr} {p pos apos mpos : Pos} {f : FE}
end
end T

set_option maxHeartbeats 4000000
/-! T45: sorted(pairs), max(d), len(d), d.get(k, x). -/
namespace T
open PySem PySem.Spec PyProof.Rows L2 SrtO
section
variable {X : Cx}
/-! ### over plain data -/
/-- the ints of a pair that stands at v -/
def keyH2 (H : Hp) : V → Int × Int
  | .ref t => match H t with
    | some (.frz _ (.tup [.int i, .int j])) => (i, j)
    | _ => (0, 0)
  | _ => (0, 0)
theorem pairs_rps {K : Fg} {mg : Mg} {O : AP} {H : Hp} : ∀ {ps : List (Int × Int)} {vs : List V}, Rps K mg O H (ps.map kP) vs → vs.map (keyH2 H) = ps ∧ ∀ x ∈ vs, (∃ t o, x = V.ref t ∧ H t = some (.frz o (.tup [.int (keyH2 H x).1, .int (keyH2 H x).2]))) ∧ Rp K mg O H (kP (keyH2 H x)) x
  | [], _, .nil => ⟨rfl, fun x h => nomatch h⟩
  | p :: ps, v :: vs, .cons h r => by
    obtain ⟨i1, i2⟩ := pairs_rps r
    have q : keyH2 H v = p ∧ (∃ t o, v = V.ref t ∧ H t = some (.frz o (.tup [.int (keyH2 H v).1, .int (keyH2 H v).2]))) := by
      cases id h with
      | @tup t od vs0 ds0 h1 h2 h3 =>
        cases h3 with
        | cons a b =>
          cases a
          cases b with
          | cons a b =>
            cases a
            cases b
            have e : keyH2 H (.ref t) = p := by
              have h4 := h1.1
              simp [keyH2, h4]
            rw [e]
            exact ⟨rfl, _, _, rfl, h1.1⟩
    refine ⟨by rw [List.map_cons, q.1, i1], fun x hx => ?_⟩
    rcases List.mem_cons.mp hx with rfl | hx
    · exact ⟨q.2, by rw [q.1]; exact h⟩
    · exact i2 x hx
theorem rps_of_keys {K : Fg} {mg : Mg} {O : AP} {H : Hp} : ∀ {ys : List V}, (∀ y ∈ ys, Rp K mg O H (kP (keyH2 H y)) y) → Rps K mg O H ((ys.map (keyH2 H)).map kP) ys
  | [], _ => .nil
  | y :: r, h => .cons (h y List.mem_cons_self) (rps_of_keys fun z hz => h z (List.mem_cons_of_mem _ hz))
/-! ### len(d) -/
/-! ### max(d) -/
end
/-! ### d.get(k, x) -/
section
variable {X : Cx} {i : Nat} {x : Str} {e e2 : Expr} {f g : FE} {p apos cpos : Pos}
end
end T

set_option maxHeartbeats 4000000
/-! T46: list(d.items()) of ints. -/
namespace T
open PySem PySem.Spec PyProof.Rows L2 SrtO
section
variable {X : Cx} {o : Expr} {p pos apos mpos : Pos} {td : TE}
end
/-! ### over plain data -/
section
variable {X : Cx} {o : Expr} {p pos apos mpos : Pos} {f : FE}
end
end T

/-! T53: exceptions as data: made, raised, let out by a def. -/
namespace T
open PySem PySem.Spec PyProof.Rows L2

structure Xc where
  c : Str
  ns : List Str
  ds : List D
abbrev RsX := Sum Rs (Xc × Ev)
abbrev FSX := Ev → Option RsX
abbrev FEX := Ev → Option (Sum (Sl × Ev) (Xc × Ev))
/-- a def that may let an exception out -/
abbrev FFX := List Sl → Option (Sum (Sl × List Sl) (Xc × List Sl))
def XR (K : Fg) (mg : Mg) (w : Wd) (ρ : Ev) (σ : L2.St) (H : Hp) (x : Xc) (cls : Value) (d : Option Addr) : Prop :=
  SR K mg w ρ σ H ∧ ∃ (C : Addr) (fs : List (Str × V)), mg x.c = some (.ref C) ∧ cls = .ref C ∧ ExF H (Ex w.E ρ σ H) d fs ∧ fs.map (·.1) = x.ns ∧ Rps K mg (Ex w.E ρ σ H) H x.ds (fs.map (·.2))
def FinE (K : Fg) (mg : Mg) (w : Wd) (σ : L2.St) (r : Sum (Sl × Ev) (Xc × Ev)) (Q : VK) (W : L2.WX) : Prop := match r with
  | .inl p => ∀ v H', VR K mg w p.2 σ H' p.1 v → Q v H'
  | .inr p => ∀ cls d H', XR K mg w p.2 σ H' p.1 cls d → W cls d σ H'
def denEX (K : Fg) (mg : Mg) (W : L2.WX) (f : FEX) : TE := fun σ H Q => ∃ (w : Wd) (ρ : Ev), SR K mg w ρ σ H ∧ ∃ r, f ρ = some r ∧ FinE K mg w σ r Q W
abbrev EXX (X : Cx) (W : L2.WX) (e : Expr) (f : FEX) : Prop := PE X e (denEX X.K X.mg W f)

/-! ### blocks -/
section
variable {X : Cx} {W : L2.WX} {st : Stmt} {sts rest : List Stmt} {f g : FSX} {h : FS} {c : FT} {e : Expr} {fe : FE} {fx : FEX} {pos pos' : Pos} {x : Str}
end

/-! ### exceptions of the program made -/
section
variable {X : Cx} {B : Str} {RC : Addr} {mc : Value} {e : Expr} {es : List Expr} {ta : TA} {p1 p2 pos : Pos} {pl : Sem Bool}
end
section
variable {P : Program} {w : World} {K : Fg} {mg : Mg} {base : Heap} {x qual p g : Str} {st : Stmt} {f : Addr} {fd : FuncData} {t : TS}
end
end T

/-! T54: raise, the promise of a def that raises, its call. -/
namespace T
open PySem PySem.Spec PyProof.Rows L2

/-- a class of exceptions with an own __init__ at fI -/
structure ExK (K : Fg) (mg : Mg) (c : Str) (C fI : Addr) : Prop where
  gC : mg c = some (.ref C)
  ox : OexC K C
  iC : PySem.W.findIn K (.ref C) "__init__" = some (some (.ref fI))
  tI : PySem.W.typeIn K (.ref fI) = some (.type "function")
section
variable {X : Cx} {W : L2.WX} {c g : Str} {C fI : Addr} {fd : FuncData} {p : Str} {k : Nat} {e : Expr} {f : FE} {np pos pos' : Pos}
end
/-! ### C(), no fields -/
section
variable {X : Cx} {pins : List (Addr × Obj)} {σ : L2.St}
end
section
variable {X : Cx} {W : L2.WX} {c : Str} {C fI : Addr} {fd : FuncData} {k : Nat} {np pos pos' : Pos}
end

/-! ### the promise of a def that raises -/
theorem XR.cut {K : Fg} {mg : Mg} {w : Wd} {ρ : Ev} {σ : L2.St} {H : Hp} {vs : List V} {x : Xc} {cls : Value} {d : Option Addr} (h : XR K mg w ρ σ H x cls d) (hB : w.B = vs.map some) : XR K mg w (takeN vs.length ρ) (vs.map some) H x cls d := by
  obtain ⟨S, C, fs, h1, h2, h3, h4, h5⟩ := h
  obtain ⟨S2, ow⟩ := S.cut hB
  have sub : ∀ a, Ex w.E (takeN vs.length ρ) (vs.map some) H a → Ex w.E ρ σ H a := fun a z => z.imp id (ow a)
  refine ⟨S2, C, fs, h1, h2, ?_, h4, h5.sub sub⟩
  rcases h3 with h3 | ⟨y, e, h3, n⟩
  · exact .inl h3
  · exact .inr ⟨y, e, h3, fun z => n (sub y z)⟩
/-! ### its call -/
section
variable {K : Fg} {mg : Mg} {w : Wd} {ρ : Ev} {σ : L2.St} {H : Hp} {avs : List AV} {vs : List V}
end
section
variable {X : Cx} {W : L2.WX} {x : Str} {f : Addr} {fd : FuncData} {ps : List Str} {k : Nat} {F : FFX} {as : List Ag} {e : Expr} {es : List Expr} {np pos : Pos}
end
end T

/-! T55: try .. except X as e: the caught exception is data from then on; isinstance of it, its fields. -/
namespace T
open PySem PySem.Spec PyProof.Rows L2

section
variable {X : Cx} {pins : List (Addr × Obj)} {σ : L2.St} {H : Hp} {s : Shared}
end
section
variable {X : Cx} {x n : Str} {c : Value} {i : Nat} {body suite : List Stmt} {b₀ : Stmt} {np pos pos' : Pos} {tb : L2.WX → TS} {ts : TS}
end

/-! ### over data -/
section
variable {K : Fg} {mg : Mg} {w : Wd} {ρ : Ev} {σ : L2.St} {H : Hp} {i : Nat} {s : Sl} {v : V}
end
def Xc.D (x : Xc) : D := .exc x.c x.ns x.ds
section
variable {X : Cx} {x n : Str} {c : Value} {cs : List Str} {body suite : List Stmt} {b₀ : Stmt} {np pos pos' : Pos} {fb : FSX} {fs : FS}
end
end T

/-! T56: isinstance of a caught exception, its fields; except without a name. -/
namespace T
open PySem PySem.Spec PyProof.Rows L2

section
variable {X : Cx} {pins : List (Addr × Obj)} {σ : L2.St} {H : Hp} {s : Shared}
variable {f : FE} {e : Expr} {y g : Str} {C2 : Addr} {p p2 pos : Pos} {tab : List (Str × Bool)}
end
/-! ### except without a name -/
section
variable {X : Cx} {x : Str} {c : Value} {cs : List Str} {body suite : List Stmt} {b₀ : Stmt} {np pos pos' : Pos} {fb : FSX} {fs : FS}
end
end T

/-! T57: d.pop(k, x) as a statement. -/
namespace T
open PySem PySem.Spec PyProof.Rows L2
section
variable {X : Cx} {i : Nat} {x : Str} {e e2 : Expr} {f g : FE} {p apos cpos pos : Pos}
end
end T

/-! T58: how the mirrors with exceptions reckon. -/
namespace T
open PySem L2
section
variable {f g : FSX} {h : FS} {c : FT} {fe : FE} {fx : FEX} {ρ : Ev} {p : Xc × Ev} {s : Sl}
def RsX.on (g : FSX) : RsX → Option RsX
  | .inl (.nx ρ) => g ρ
  | r => some r
@[simp] theorem onX_nx : RsX.on g (.inl (.nx ρ)) = g ρ := nrfl rfl
@[simp] theorem onX_rt : RsX.on g (.inl (.rt s ρ)) = some (.inl (.rt s ρ)) := nrfl rfl
@[simp] theorem onX_bk : RsX.on g (.inl (.bk ρ)) = some (.inl (.bk ρ)) := nrfl rfl
@[simp] theorem onX_ct : RsX.on g (.inl (.ct ρ)) = some (.inl (.ct ρ)) := nrfl rfl
@[simp] theorem onX_x : RsX.on g (.inr p) = some (.inr p) := nrfl rfl
@[simp] theorem isNon_x {c : Str} {ns : List Str} {ds : List D} : (D.exc c ns ds).isNon = false := nrfl rfl
end
end T

set_option maxHeartbeats 4000000
/-! T47: a lambda with one parameter, handed to a def. -/
namespace Lam1
open PySem PySem.Spec PyProof.Rows L2 LamX
/-! ### the making -/
section
variable {K : PySem.W.Frag} {H : Hp} {P c : Addr} {ps more : Array Value} {q : Str} {o : HO}
end
/-! ### the names of a lambda with one parameter -/
/-- the parameter p is its only local; no cells of its own; what it captures is the maker's -/
structure LamS1 (sc scope : Scope) (p : Str) : Prop where
  plain : scope.kind = .function ∧ scope.isCoroutine = false ∧ scope.isGenerator = false
  par : scope.names.lookup p = some .local
  each : ∀ y k, (y, k) ∈ scope.names → k ≠ .cell ∧ (k = .local → y = p) ∧ (k = .free → sc.names.lookup y = some .cell ∨ sc.names.lookup y = some .free)
section
variable {X : Cx} {scope : Scope} {p : Str}
end
section
variable {X : Cx} {pins : List (Addr × Obj)} {σ : L2.St} {H HZ : Hp} {s s1 : Shared} {p : Str} {scope : Scope}
end
/-! ### the call -/
/-- the context of the def that got the lambda, entered at s -/
abbrev zx (X : Cx) (CXg : CXT) (Ng : List Str) (qg : Str) (sg : Scope) (g : Addr) (cdg : Value) (s : Shared) (H : Hp) (Eg : XK) (pn : List (Addr × Obj)) (xe : Value → Shared → Prop) : Cx := (cxOf CXg X.prog X.w X.K X.mg X.base Ng qg sg g cdg X.A X.stack s H Eg).tr pn xe
section
variable {X : Cx} {pins pinsZ pn : List (Addr × Obj)} {σ σZ : L2.St} {H HZ : Hp} {s sZ : Shared} {p : Str} {scope sg : Scope} {CXg : CXT} {Eg E : XK} {Ng : List Str} {qg : Str} {g f c' : Addr} {cdg pm ctv : Value} {params : Arguments} {body e : Expr} {k i : Nat} {a : Str} {xe : Value → Shared → Prop} {W : WX} {tb te : TE} {p1 p2 : Pos}
end
/-! ### a def called with a lambda -/
end Lam1

set_option maxHeartbeats 4000000
/-! T48: a lambda with one parameter over plain data; the def last_limit. -/
namespace T
open PySem PySem.Spec PyProof.Rows L2 LamX Lam1
section
variable {K : Fg} {mg : Mg} {w : Wd} {ρ : Ev} {σ : L2.St} {H H1 : Hp}
theorem SR.none (S : SR K mg w ρ σ H) : SR K mg w [] [] H :=
  ⟨rfl, fun i s v h1 h2 => by simp at h1, fun i j s t d e b c a h1 => by simp at h1, fun a z => by obtain ⟨i, s, d, _, h1, _⟩ := z; simp at h1, S.kp, S.tabs, S.fresh, S.etr, fun i d h => by simp at h⟩
theorem SR.ints (S : SR K mg w [] [] H) (hl : ρ.length = σ.length) (h : ∀ (i : Nat) (s : Sl) (v : Option V), ρ[i]? = some s → σ[i]? = some v → s = .no ∨ ∃ n : Int, s = .sh (.int n) ∧ v = some (.int n)) : SR K mg w ρ σ H := by
  have no : ∀ {i : Nat} {s : Sl} {d : D}, ρ[i]? = some s → s.own = some d → False := fun {i s d} h1 h2 => by
    have hi := (List.getElem?_eq_some_iff.mp h1).1
    rcases h i s _ h1 (List.getElem?_eq_getElem (by rw [← hl]; exact hi)) with rfl | ⟨n, rfl, _⟩ <;> cases h2
  refine ⟨hl, fun i s v h1 h2 => ?_, fun i j s t d e b c a h1 h2 => (no h1 h2).elim, fun a z => by obtain ⟨i, s, d, _, h1, h2, _⟩ := z; exact (no h1 h2).elim, S.kp, S.tabs, S.fresh, S.etr, fun i d h1 => (no h1 rfl).elim⟩
  rcases h i s v h1 h2 with rfl | ⟨n, rfl, rfl⟩
  · trivial
  · exact ⟨_, rfl, .int n⟩
end
/-! ### last_limit -/
end T

set_option maxHeartbeats 4000000
/-! T49: last_limit(lambda p: .., lo, hi) over plain data. -/
namespace T
open PySem PySem.Spec PyProof.Rows L2 LamX Lam1
section
variable {K : Fg} {mg : Mg} {w : Wd} {ρ ρ' : Ev} {σ : L2.St} {H H1 H2 : Hp}
end
section
variable {X : Cx}
end
end T

set_option maxHeartbeats 4000000
/-! T50: a def that makes lambdas. -/
namespace T
open PySem PySem.Spec PyProof.Rows L2 LamX Lam1
end T

set_option maxHeartbeats 4000000
/-! T51: the end of a law some of whose defs make lambdas. -/
namespace T
open PySem PySem.Spec PyProof.Rows L2 LamX Lam1
/-- an empty table -/
abbrev tab0 : Obj := { cls := .none, data := .fields #[] }
/-- what is tracked at the start: the script, if it is not written, and the tables -/
structure Start (K : Fg) (h : Heap) (H : Hp) (a : Addr) (tb : List Addr) : Prop where
  kinds : ∀ b, H b = none ∨ H b = some (.tbl #[]) ∨ ∃ ob xs, H b = some (.frz ob (.lst xs))
  tabs : ∀ b ∈ tb, H b = some (.tbl #[])
  only : ∀ b u, H b = some u → b ∈ tb ∨ b = a
  free : ∀ u, H a = some u → K.lookup a = none
theorem Start.dict {K : Fg} {h : Heap} {H : Hp} {a b : Addr} {tb : List Addr} {vs : Array Value} {o : Obj} {es : Array DictEntry} {ep : Nat} (S : Start K h H a tb) (ht : ∀ b ∈ tb, h.get? b = some tab0) (ha : h.get? a = some { cls := .type "list", data := .seq vs })
    (e : h.get? b = some o) (d : o.data = .dict es ep) : H b = none := by
  cases q : H b with
  | none => rfl
  | some u =>
    rcases S.only b u q with z | z
    · rw [ht b z] at e
      cases e
      exact nomatch (show Data.fields #[] = Data.dict es ep from d)
    · rw [z, ha] at e
      cases e
      exact nomatch (show Data.seq vs _ = Data.dict es ep from d)
theorem Start.ns {K : Fg} {h : Heap} {H : Hp} {a b : Addr} {tb : List Addr} {vs : Array Value} {m : Str → Option Value} (S : Start K h H a tb) (ht : ∀ b ∈ tb, h.get? b = some tab0) (ha : h.get? a = some { cls := .type "list", data := .seq vs }) (hn : h.Ns b m) : (hidT h H).Ns b m := by
  obtain ⟨o, es, ep, h1, h2, h3⟩ := hn
  exact ⟨o, es, ep, hidT_get h1 (S.dict ht ha h1 h2), h2, h3⟩
theorem Start.part {K : Fg} {h : Heap} {H : Hp} {a : Addr} {tb : List Addr} (S : Start K h H a tb) (hk : K.In h) (hn : ∀ b ∈ tb, K.lookup b = none) : K.In (hidT h H) := fun b o e => by
  refine hidT_get (hk b o e) ?_
  cases q : H b with
  | none => rfl
  | some u =>
    rcases S.only b u q with z | z
    · rw [hn b z] at e; cases e
    · subst z; rw [S.free u q] at e; cases e
end T

set_option maxHeartbeats 4000000
/-! T59: x(lambda: body), x a def that calls what it got, perhaps in a try. -/
namespace T
open PySem PySem.Spec PyProof.Rows L2
abbrev Ask := Sum D Xc
/-! ### what the lambda captured -/
section
variable {K : Fg} {mg : Mg} {w w' : Wd} {σ σZ : L2.St} {H HZ H' : Hp} {O : AP}
/-- every shared slot has its value -/
def Hel (K : Fg) (mg : Mg) (O : AP) (H : Hp) (ρ : Ev) (σ : L2.St) : Prop := ρ.length = σ.length ∧ ∀ (i : Nat) (d : D), ρ[i]? = some (.sh d) → ∃ x, σ[i]? = some (some x) ∧ Rp K mg O H d x
theorem Hel.tail {s : Sl} {ρ : Ev} {x : Option V} (h : Hel K mg O H (s :: ρ) (x :: σ)) : Hel K mg O H ρ σ := ⟨by simpa using h.1, fun i d e => by simpa using h.2 (i + 1) d (by simpa using e)⟩
end
/-! ### the call of what was got -/
open Classical in
noncomputable def xAsk (i : Nat) (L0 : D) (A : Ask) : FEX := fun ρ => if ρ[i]? = some (.sh L0) then (match A with
  | .inl d => some (.inl (.sh d, ρ))
  | .inr x => some (.inr (x, ρ))) else none
section
variable {X : Cx} {pins pinsZ pn : List (Addr × Obj)} {σ σZ : L2.St} {H HZ : Hp} {s sZ : Shared} {scope sg : Scope} {CXg : CXT} {Eg : XK} {Ng : List Str} {qg : Str} {g f c' P : Addr} {cdg pm ctv : Value} {params : Arguments} {body : Expr} {k i : Nat} {a : Str} {xe : Value → Shared → Prop} {W : L2.WX} {fb : FEX} {p1 p2 lpos : Pos} {ρm : Ev} {A0 : Ask}
end
end T

set_option maxHeartbeats 4000000
/-! T60: the rule for x(lambda: body). -/
namespace T
open PySem PySem.Spec PyProof.Rows L2
/-- what is to be shown of a def that calls what it got -/
abbrev TG (X : Cx) (k : Nat) (x : Str) (st : Stmt) (g : Addr) (Ng : List Str) (a : Str) (mt : D → Ask → FS) : Prop :=
  ∀ (cdv : Value) (L0 : D) (A : Ask) (s : Shared) (H : Hp), RoomG (k + 1) (X.A.deeper (envOfC x (defScope st) s.heap.objs.size g cdv)) →
      (∀ (W : L2.WX) (pn : List (Addr × Obj)) (xe : Value → Shared → Prop) (p1 p2 : Pos), Takes (Lam1.zx X C8.CX0 Ng x (defScope st) g cdv s H C8.E0 pn xe) W → EXX (Lam1.zx X C8.CX0 Ng x (defScope st) g cdv s H C8.E0 pn xe) W (.Call (.Name a p1) [] [] p2) (xAsk 0 L0 A)) →
      BX (cxOf C8.CX0 X.prog X.w X.K X.mg X.base Ng x (defScope st) g cdv X.A X.stack s H C8.E0).nox (defBody st) (mt L0 A)
section
variable {X : Cx}
end
@[simp] theorem xAsk_0 {L0 : D} {A : Ask} {r : Ev} : xAsk 0 L0 A (.sh L0 :: r) = (match A with | .inl d => some (.inl (.sh d, .sh L0 :: r)) | .inr x => some (.inr (x, .sh L0 :: r))) := if_pos rfl
end T

set_option maxHeartbeats 4000000
/-! T61: sorted(xs), xs a list or a tuple of ints. -/
namespace T
open PySem PySem.Spec PyProof.Rows L2 SrtO
section
variable {X : Cx}
end
/-! ### x op= e reckons -/
end T

/-! T62: objects made of parts: fields, boxes. -/
namespace T
open PySem PySem.Spec PyProof.Rows L2

/-! ### items of an object's fields -/
section
variable {K : Fg} {mg : Mg} {O O' : AP} {H H' : Hp} {y d e e' : D} {v : V} {ds : List D} {vs : List V} {a b c : Addr} {k : Nat}
def Fi (K : Fg) (mg : Mg) (O : AP) (H : Hp) (y : D) (v : V) : Prop := (∃ e b, y = .box e ∧ v = .ref b ∧ Own K mg O H e b) ∨ ((∀ e, y ≠ .box e) ∧ Rp K mg O H y v)
def FiF (H : Hp) (y : D) (v : V) (c : Addr) : Prop := ∃ e b, y = .box e ∧ v = .ref b ∧ Foot H e b c
theorem foots_cons (h : Foots H (y :: ds) (v :: vs) c) : FiF H y v c ∨ Foots H ds vs c := by
  cases h with
  | hd f => exact .inl ⟨_, _, rfl, rfl, f⟩
  | tl f => exact .inr f
theorem foots_hd (h : FiF H y v c) : Foots H (y :: ds) (v :: vs) c := by
  obtain ⟨e, b, rfl, rfl, f⟩ := h
  exact .hd f
theorem Flds.cons (h : Fi K mg O H y v) (n : ∀ c, FiF H y v c → ¬ Foots H ds vs c) (r : Flds K mg O H ds vs) : Flds K mg O H (y :: ds) (v :: vs) := by
  rcases h with ⟨e, b, rfl, rfl, o⟩ | ⟨m, h⟩
  · exact .bx o (fun c f => n c ⟨e, b, rfl, rfl, f⟩) r
  · exact .sh m h r
theorem Flds.inv (h : Flds K mg O H (y :: ds) (v :: vs)) : Fi K mg O H y v ∧ (∀ c, FiF H y v c → ¬ Foots H ds vs c) ∧ Flds K mg O H ds vs := by
  cases h with
  | sh m h r => exact ⟨.inr ⟨m, h⟩, fun c ⟨e, b, q, _⟩ => absurd q (m e), r⟩
  | bx o n r => exact ⟨.inl ⟨_, _, rfl, rfl, o⟩, fun c ⟨e, b, q, q2, f⟩ => by cases q; cases q2; exact n c f, r⟩
theorem Flds.len : ∀ {ds : List D} {vs : List V}, Flds K mg O H ds vs → ds.length = vs.length
  | _, _, .nil => rfl
  | _, _, .sh _ _ r => congrArg (· + 1) r.len
  | _, _, .bx _ _ r => congrArg (· + 1) r.len
theorem Flds.get : ∀ {ds : List D} {vs : List V} {k : Nat}, Flds K mg O H ds vs → ds[k]? = some y → ∃ v, vs[k]? = some v ∧ Fi K mg O H y v ∧ ∀ c, FiF H y v c → Foots H ds vs c
  | [], [], _, _, e => by simp at e
  | [], _ :: _, _, h, _ => nomatch h
  | _ :: _, [], _, h, _ => nomatch h
  | d :: ds, v :: vs, 0, h, e => by
    have e : d = y := by simpa using e
    subst e
    exact ⟨v, rfl, h.inv.1, fun c f => foots_hd f⟩
  | d :: ds, v :: vs, k + 1, h, e => by
    obtain ⟨u, h1, h2, h3⟩ := Flds.get (k := k) h.inv.2.2 (by simpa using e)
    exact ⟨u, by simpa using h1, h2, fun c f => .tl (h3 c f)⟩
end

/-! ### objects made of parts -/
def isP (c : Str) (fl : List Str) (d : D) : Prop := match d with
  | .obx c' ns ds => c' = c ∧ ns = fl.take ds.length
  | _ => False
instance (c : Str) (fl : List Str) : ∀ d, Decidable (isP c fl d)
  | .obx c' ns ds => inferInstanceAs (Decidable (_ ∧ _))
  | .non => .isFalse id
  | .bl _ => .isFalse id
  | .int _ => .isFalse id
  | .str _ => .isFalse id
  | .tup _ => .isFalse id
  | .tpw _ => .isFalse id
  | .lst _ => .isFalse id
  | .scr _ => .isFalse id
  | .ty _ => .isFalse id
  | .dic _ _ => .isFalse id
  | .dit _ _ => .isFalse id
  | .dix _ _ => .isFalse id
  | .stn _ _ => .isFalse id
  | .exc _ _ _ => .isFalse id
  | .lam _ _ _ => .isFalse id
  | .obj _ _ _ => .isFalse id
  | .box _ => .isFalse id
/-- a box -/
def boxX (k : Nat) : D → Option D
  | .obx _ _ ds => (ds[k]?).bind fun y => match y with
    | .box e => some e
    | _ => none
  | _ => none
section
variable {K : Fg} {mg : Mg} {w : Wd} {ρ ρ' : Ev} {σ : L2.St} {H : Hp} {i k : Nat} {c f : Str} {fl : List Str} {C : Addr} {d : D} {v : V} {O : AP} {F : AP}
/-- what is known of a part, however the object is held -/
def Pt (K : Fg) (mg : Mg) (O : AP) (H : Hp) (e : D) (v : V) : Prop := Rp K mg O H e v ∨ ∃ b, v = .ref b ∧ Own K mg O H e b
end
end T

/-! T63: fields and boxes in expressions and statements. -/
namespace T
open PySem PySem.Spec PyProof.Rows L2

/-! ### expressions that change nothing that stands -/
def denQ (K : Fg) (mg : Mg) (f : FE) : TE := fun σ H Q => ∃ (w : Wd) (ρ : Ev), SR K mg w ρ σ H ∧ ∃ (s : Sl) (ρ' : Ev), f ρ = some (s, ρ') ∧ ∀ v H', VR K mg w ρ' σ H' s v → Sub H H' → Q v H'
abbrev EQ (X : Cx) (e : Expr) (f : FE) : Prop := PE X e (denQ X.K X.mg f)
theorem Sub.trans {H H1 H2 : Hp} (a : Sub H H1) (b : Sub H1 H2) : Sub H H2 := fun c o e => b c o (a c o e)
theorem Sub.put {H : Hp} {p : Addr} {o : HO} (h : H p = none) : Sub H (L2.upd H p o) := fun c u e => by rw [upd_ne (fun z => by rw [z, h] at e; cases e)]; exact e
section
variable {X : Cx} {e : Expr} {es : List Expr} {f : FE} {fs : List FE} {pos : Pos} {x : Str}
theorem EQ.ex (h : EQ X e f) : EX X e f := pe_imp h fun σ H Q q => by
  obtain ⟨w, ρ, S, s, ρ', hf, k⟩ := q
  exact ⟨w, ρ, S, s, ρ', hf, fun v H' hv _ => k v H' hv⟩
end

/-! ### the box of slot i's object -/
def ownB (ρ : Ev) (i : Nat) (c : Str) (fl : List Str) (k : Nat) : Option D := (ρ[i]?).bind fun s => s.own.bind fun d => if isP c fl d then boxX k d else none
section
variable {K : Fg} {mg : Mg} {w : Wd} {ρ ρ' : Ev} {σ : L2.St} {H : Hp} {i k : Nat} {c f : Str} {fl : List Str} {C : Addr} {d e e' : D} {v : V}
end

/-! ### reading -/
section
variable {X : Cx} {i k : Nat} {c x f : Str} {fl : List Str} {C : Addr} {fv g : FE} {e b : Expr} {p pos apos : Pos}
theorem Pt.rp {K : Fg} {mg : Mg} {O : AP} {H : Hp} {d : D} {v : V} (h : Pt K mg O H d v) : Rp K mg (fun _ => False) H d v := by
  rcases h with r | ⟨b, rfl, o⟩
  · exact r.sub fun _ z => z.elim
  · exact o.shared (fun _ z => z.elim) fun _ _ z => z
end

/-! ### writing -/
section
variable {K : Fg} {mg : Mg} {w : Wd} {ρ ρ' : Ev} {σ : L2.St} {H : Hp} {i : Nat} {d d' : D} {s : Sl}
end
section
variable {X : Cx} {i k : Nat} {c x f : Str} {fl : List Str} {C : Addr} {fv g : FE} {e b : Expr} {p pos pos' apos cpos : Pos}
end
/-! ### methods -/
section
variable {X : Cx} {i k : Nat} {c x m : Str} {fl : List Str} {C g : Addr} {e : Expr} {es : List Expr} {as : List Ag} {F : FF} {gd : FuncData} {ps : List Str} {p pos apos : Pos} {pl : Sem Bool}
end
end T

/-! T64: starred parts of displays. -/
namespace T
open PySem PySem.Spec PyProof.Rows L2
section
variable {X : Cx} {e : Expr} {es : List Expr} {f : FE} {fs : List (Bool × FE)} {pos p : Pos}
end
/-! ### simp rules of the mirrors -/
section
variable {ρ : Ev} {i k : Nat} {c : Str} {fl : List Str} {f : FE} {d : D}
@[simp] theorem ownB_e : ownB ρ i c fl k = (ρ[i]?).bind fun s => s.own.bind fun d => if isP c fl d then boxX k d else none := nrfl rfl
end
end T

/-! T65: properties, read. -/
namespace T
open PySem PySem.Spec PyProof.Rows L2
theorem RoomG.in1 {k : Nat} {A : Around} (r : RoomG (k + 1) A) : RoomG k A.in1 := ⟨r.rm.in1, r.gd⟩
section
variable {X : Cx} {CX : CXT} {k : Nat} {C p g a dx : Addr} {fs : List (Str × V)} {f : Str} {fd : FuncData} {ps : List Str} {sp : Sp} {dvs : List V} {ds : List Value} {E : XK} {e : Expr} {pos : Pos} {ta : TE}
end
section
variable {X : Cx} {i k : Nat} {c x m : Str} {fl : List Str} {C g pp : Addr} {F : FF} {gd : FuncData} {ps : List Str} {p pos : Pos}
end
end T

/-! T66: a def f(self, *rest); x.m(a, b, ..) of such a method. -/
namespace T
open PySem PySem.Spec PyProof.Rows L2
/-- a promise of a def, called by position -/
def FnRG (P : Program) (w : World) (K : Fg) (mg : Mg) (base : Heap) (CX : CXT) (k : Nat) (f : Addr) (sp : Sp) : Prop :=
  ∀ (A : Around) (outer : List Env) (s : Shared) (H : Hp) (us : List Value) (vs : List V) (Q : VK) (E : XK), RoomG k A → Env0 P w K mg base A outer s H → Vals vs us → sp vs H Q E → codeAny (model P w) A (.call (.ref f) ⟨us, []⟩) (CR CX outer P w H s Q E) s
section
variable {X : Cx} {CX : CXT} {k : Nat} {C f : Addr} {m : Str} {sp : Sp} {E : XK} {o e : Expr} {es : List Expr} {ta : TE} {t : TA} {apos pos : Pos} {pl : Sem Bool}
theorem FnRG.mono {P : Program} {w : World} {K : Fg} {mg : Mg} {base : Heap} {j : Nat} (F : FnRG P w K mg base CX j f sp) (h : j ≤ k) : FnRG P w K mg base CX k f sp := fun A outer s H us vs Q E hr => F A outer s H us vs Q E (hr.mono h)
end
section
variable {X : Cx} {i k : Nat} {c x m : Str} {fl : List Str} {C g : Addr} {e : Expr} {es : List Expr} {as : List Ag} {F : FF} {p pos apos : Pos} {pl : Sem Bool}
end
/-! ### walks of tuples as they come from a call -/
section
variable {ρ : Ev} {i : Nat} {c : Str} {fl : List Str} {f : FE} {ds : List D}
end
end T

/-! T67: a, *b = a tuple. -/
namespace T
open PySem PySem.Spec PyProof.Rows L2
theorem shiftW {prog : Program} {w : World} {A : Around} {I : Addr} {fp wr : List Addr} {G : Array GenState → Array GenState → Prop} {n : Nat} {P : Nat → Value → Prop} {St : Nat → Shared → Prop} (W : WalksS prog w A I fp wr G n P St) (j : Nat) (hj : j ≤ n) :
    WalksS prog w A I fp wr G (n - j) (fun i => P (i + j)) (fun i => St (i + j)) where
  sub := W.sub
  grefl := W.grefl
  gtrans := W.gtrans
  frame := fun i => W.frame (i + j)
  item := fun i s Q E hi st hQ => W.item (i + j) s Q E (by omega) st fun v s' hP st' => hQ v s' hP (by rw [show i + 1 + j = i + j + 1 by omega]; exact st')
  done := fun s Q E st hQ => W.done s Q E (by rw [show n - j + j = n by omega] at st; exact st) hQ
  self := fun i => W.self (i + j)
section
variable {prog : Program} {w : World} {A : Around} {E : Value → Shared → Prop} {s : Shared}
end
section
variable {X : Cx} {e1 e2 : Expr} {p pos : Pos} {k : Nat} {t : TGs}
end
end T

/-! T68: a, *b = a tuple; two fields from two values; a box copied; a class's constant. -/
namespace T
open PySem PySem.Spec PyProof.Rows L2
section
variable {X : Cx} {e : Expr} {f : FE} {x y : Str} {pos pos' p1 p2 p3 : Pos} {kk : Nat}
end
/-! ### x.f, x.g = two values -/
section
variable {X : Cx} {i j k l : Nat} {c x f g : Str} {fl : List Str} {C : Addr} {e : Expr} {fv : FE} {p p' p2 p2' pos pos' : Pos} {kk : Nat}
end
/-! ### list(x.f), f a box -/
section
variable {X : Cx} {i k : Nat} {c x f : Str} {fl : List Str} {C : Addr} {p p2 apos pos : Pos}
end
end T

/-! T69: a class's constant. -/
namespace T
open PySem PySem.Spec PyProof.Rows L2
section
variable {X : Cx} {i : Nat} {c x f : Str} {fl : List Str} {C : Addr} {d : D} {v : V} {u : Value} {p pos : Pos}
end
section
variable {ρ : Ev} {i j k l : Nat} {c : Str} {fl : List Str} {d : D} {f : FE} {ds : List D}
end
end T

/-! T70: xs.pop(0) of a list; a class's tuple of texts; how a star binds. -/
namespace T
open PySem PySem.Spec PyProof.Rows L2
section
variable {X : Cx} {i : Nat} {x : Str} {e : Expr} {p apos pos cpos : Pos}
end
section
variable {ρ : Ev} {i : Nat}
end
/-! ### a class's tuple of texts -/
structure ConS (K : Fg) (C : Addr) (f : Str) (ss : List Str) : Prop where
  ex : ∃ v u, Con K C f v u ∧ ∀ mg O H, Rp K mg O H (.tpw (ss.map D.str)) v
/-! ### how a star binds -/
/-! ### a, b, c = x, a number, y -/
end T

set_option maxHeartbeats 4000000
/-! T71: comprehensions over a list that stays its owner's. -/
namespace T
open PySem L2
section
variable {X : Cx} {e : Expr} {tg : Tg} {c : FT} {f : FE} {vs : List Nat} {ix : Nat}
end
/-! ### tuple(xs), xs stays its owner's -/
section
open PySem.Spec PyProof.Rows
variable {X : Cx} {i : Nat} {x : Str} {p p2 pos : Pos}
end
/-! ### what they compute -/
section
variable {ρ : Ev} {i : Nat}
end
end T

/-! T72: a class's tuple of texts, read off the class. -/
namespace T
open PySem PySem.Spec PyProof.Rows L2
structure ClsS (K : Fg) (C : Addr) (f : Str) (ss : List Str) : Prop where
  ex : ∃ v u, ClX.CRead K C (.type "type") ∧ ClX.CVal K C (.type "type") f v u ∧ ∀ mg O H, Rp K mg O H (.tpw (ss.map D.str)) v
end T

set_option maxHeartbeats 4000000
/-! T73: a method of an object that was just made: C(..).m(..). -/
namespace T
open PySem PySem.Spec PyProof.Rows L2
section
variable {X : Cx} {k : Nat} {c m : Str} {fl : List Str} {C g : Addr} {o e : Expr} {es : List Expr} {f : FE} {fs : List FE} {F : FF} {gd : FuncData} {ps : List Str} {pos apos : Pos} {pl : Sem Bool}
end
section
variable {ρ : Ev} {c : Str} {fl : List Str} {F : FF} {f : FE} {fs : List FE}
end
end T

set_option maxHeartbeats 4000000
/-! T74: dicts whose keys are pairs or states: an empty one, d[x] = v for any x. -/
namespace T
open PySem PySem.Spec PyProof.Rows L2 PySem.NK
/-! ### {} -/
def tSNew : TE := fun σ H Q => ∀ p, H p = none → Q (.ref p) (upd H p (SttD p []))
theorem pe_snew {X : Cx} {pos : Pos} : PE X (.Dict [] [] pos) tSNew := ⟨fun pins s σ H Q I h =>
  wpAny_Dict_empty ⟨.ref s.heap.objs.size, _, std_new I, rfl, h _ (I.hok.fresh (Nat.le_refl _))⟩⟩
def eSNew : FE := fun ρ => some (.ow (.dit [] []), ρ)
theorem e_sNew {X : Cx} {pos : Pos} : EX X (.Dict [] [] pos) eSNew := pe_imp pe_snew fun σ H Q q => by
  obtain ⟨w, ρ, S, s, ρ', hf, kk⟩ := q
  cases hf
  intro p hp
  have n := S.not_exP (o := SttD p []) hp
  exact kk _ _ (VR.mk1 (S.r_none hp) (S.fresh p hp) (fun z => n (.inl z)) (fun z => n (.inr z)) (S.push hp) (.dit [] upd_same rfl .nil .nil))
@[simp] theorem eSNew_e {ρ : Ev} : eSNew ρ = some (.ow (.dit [] []), ρ) := nrfl rfl
/-! ### d[x] = v, x there -/
def putR (k : Stt) (v : V) (r : SRow) : SRow := if r.1 = k then (r.1, r.2.1, v) else r
theorem putR_key {k : Stt} {v : V} : ∀ xs : List SRow, (xs.map (putR k v)).map (·.1) = xs.map (·.1)
  | [] => rfl
  | r :: xs => by
    rw [List.map_cons, List.map_cons, List.map_cons, putR_key xs]
    congr 1
    unfold putR
    split <;> rfl
theorem putR_at {k : Stt} {v : V} : ∀ xs : List SRow, (xs.map (putR k v)).map (·.2.1) = xs.map (·.2.1)
  | [] => rfl
  | r :: xs => by
    rw [List.map_cons, List.map_cons, List.map_cons, putR_at xs]
    congr 1
    unfold putR
    split <;> rfl
theorem paired_put {k : Stt} {v : V} {u : Value} (rv : L2.RelV v u) : ∀ {xs : List SRow} {us : List (Stt × Addr × Value)}, Paired (fun (x : SRow) (u : Stt × Addr × Value) => x.1 = u.1 ∧ x.2.1 = u.2.1 ∧ L2.RelV x.2.2 u.2.2) xs us → Paired (fun (x : SRow) (u : Stt × Addr × Value) => x.1 = u.1 ∧ x.2.1 = u.2.1 ∧ L2.RelV x.2.2 u.2.2) (xs.map (putR k v)) (us.map (putAt k u))
  | _, _, .nil => .nil
  | _, _, .cons h t => by
    rw [List.map_cons, List.map_cons]
    refine .cons ?_ (paired_put rv t)
    obtain ⟨h1, h2, h3⟩ := h
    unfold putR putAt
    rw [h1]
    split
    · exact ⟨rfl, h2, rv⟩
    · exact ⟨h1, h2, h3⟩
section
variable {X : Cx} {pins : List (Addr × Obj)} {σ : L2.St} {H : Hp} {s : Shared} {a : Addr}
theorem d_setO {A : Around} {E : Value → Shared → Prop} {d : Addr} {xs : List SRow} {x : Stt} {v : V} {u : Value} {Q : Unit → Shared → Prop} (hu : A.units + 8 < cLine) (I : Inv X pins σ H s) (e : H d = some (SttD d xs)) (hk : ∀ x ∈ xs, SttAt X.K H x.1 x.2.1) (nd : (xs.map (·.1)).Nodup)
    (ha : SttAt X.K H x a) (hx : x ∈ xs.map (·.1)) (hz : xs.length < sizeLine) (rv : L2.RelV v u) (h : ∀ s', Inv X pins σ (upd H d (SttD d (xs.map (putR x v)))) s' → Q () s') : wpAny (model X.prog X.w) A (setItem (.ref d) (.ref a) u) Q E s := by
  obtain ⟨h1, h2, us, r, dd⟩ := std_dict I e hk nd
  have lu : us.length = xs.length := (Paired.length r).symm
  refine wpAny_setItem_heap (knd := sttH X.prog X.w) (hsz := by omega) ?_ (stt_is I ha) dd fun h' dd' hs => h _ ?_
  · exact sttH_room (show A.units + 1 + 4 < cLine by omega)
  · have hn : ∃ p, atKey us x = some p := by
      have := atKey_some (us := us) (x := x)
      rw [sttD_keys r, decide_eq_true hx] at this
      exact Option.isSome_iff_exists.mp this
    obtain ⟨p, hn⟩ := hn
    rw [storedH_old hn] at dd'
    have he : ∃ q, h'.get? d = some q := let ⟨q, _, _, hq, _⟩ := dd'; ⟨q, hq⟩
    exact d_write I (by rw [e]; exact True.intro) hs he (std_ok h1 (by rw [List.length_map]; exact h2) (paired_put rv r) dd')
end
def sSPutT (K : PySem.W.Frag) (td ty tv : TE) : TS := fun D σ H => tv σ H fun v H1 => td σ H1 fun x H2 => ty σ H2 fun y H3 => ∃ a d xs k, y = .ref a ∧ x = .ref d ∧ H3 d = some (SttD d xs) ∧ (∀ x ∈ xs, SttAt K H3 x.1 x.2.1) ∧ (xs.map (·.1)).Nodup ∧ SttAt K H3 k a ∧ xs.length < sizeLine ∧
  ((k ∉ xs.map (·.1) ∧ D.nx σ (upd H3 d (SttD d (xs ++ [(k, a, v)])))) ∨ (k ∈ xs.map (·.1) ∧ D.nx σ (upd H3 d (SttD d (xs.map (putR k v))))))
theorem ps_sputT {X : Cx} {o i value : Expr} {td ty tv : TE} {pos pos' : Pos} (hu : X.A.units + 8 < cLine) (ho : PE X o td) (hi : PE X i ty) (hv : PE X value tv) (hs : swapsWith value (some (.Subscript o i pos')) pos.line X.env = pure false) :
    PS X (.Assign [.Subscript o i pos'] value pos) (sSPutT X.K td ty tv) := by
  refine ⟨fun pins s σ H D I h => ?_⟩
  refine wpAny_Assign_Subscript (thn (hv.run pins s σ H _ I h) fun r s1 ⟨v, H1, I1, rv, q1⟩ => thn (ho.run pins s1 σ H1 _ I1 q1) fun u s2 ⟨x, H2, I2, rx, q2⟩ => thn (hi.run pins s2 σ H2 _ I2 q2) fun iv s3 ⟨y, H3, I3, ry, a, d, xs, k, ey, ex, e, hk, nd, ha, hz, q3⟩ => ?_) hs
  subst ex ey
  obtain rfl : u = Value.ref d := rx
  obtain rfl : iv = Value.ref a := ry
  rcases q3 with ⟨hx, q3⟩ | ⟨hx, q3⟩
  · exact d_setS hu I3 e hk nd ha hx hz rv fun s4 I4 => ⟨σ, _, I4, q3⟩
  · exact d_setO hu I3 e hk nd ha hx hz rv fun s4 I4 => ⟨σ, _, I4, q3⟩
def putDs (k : Stt) (y : D) (ks : List Stt) (ds : List D) : List D := (ks.zip ds).map fun p => if p.1 = k then y else p.2
theorem rps_put {K : Fg} {mg : Mg} {O : AP} {H : Hp} {k : Stt} {y : D} {v : V} (r1 : Rp K mg O H y v) : ∀ {xs : List SRow} {ds : List D}, Rps K mg O H ds (xs.map (·.2.2)) → Rps K mg O H (putDs k y (xs.map (·.1)) ds) ((xs.map (putR k v)).map (·.2.2))
  | [], _, h => by cases h; exact .nil
  | x :: xs, _, h => by
    rw [List.map_cons] at h
    cases h with
    | cons h1 h2 =>
      rw [List.map_cons, List.map_cons, List.map_cons]
      show Rps K mg O H ((if x.1 = k then y else _) :: putDs k y (xs.map (·.1)) _) _
      refine .cons ?_ (rps_put r1 h2)
      unfold putR
      split
      · exact r1
      · exact h1
/-- x[k] = v, k there or not -/
def putKD (k : Stt) (y : D) (ks : List Stt) (ds : List D) : D := if k ∈ ks then .dit ks (putDs k y ks ds) else .dit (ks ++ [k]) (ds ++ [y])
def sSPutU (i : Nat) (fk fv : FE) : FS := fun ρ => (peek ρ i).bind fun _ => (opt2 fv fk ρ).bind fun q => (keyS q.2.1).bind fun k => (q.2.2[i]?).bind fun s => s.own.bind fun d => match d with
  | .dit ks ds => if ks.length < sizeLine ∧ ks.Nodup then (putSl q.2.2 i (putKD k q.1 ks ds)).map .nx else none
  | _ => none
section
variable {X : Cx} {i : Nat} {x : Str} {e ev : Expr} {f fv : FE} {p pos pos' : Pos}
theorem s_sputU (i : Nat) (hu : X.A.units + 64 < cLine) (he : EX X e f) (hv : EX X ev fv) (hN : X.N[i]? = some x := by rfl) (hx : Vis X.env.scope x := by first | exact Or.inl rfl | exact Or.inr (Or.inl rfl) | exact Or.inr (Or.inr rfl))
    (hd : (x == ("__debug__" : Str)) = false := by decide) (hcd : (x == ("__classdict__" : Str)) = false := by decide) (hs : swapsWith ev (some (.Subscript (.Name x p) e pos')) pos.line X.env = pure false := by rfl) : SX X (.Assign [.Subscript (.Name x p) e pos'] ev pos) (sSPutU i f fv) :=
  ps_imp (ps_sputT (by omega) (pe_var hN hx hd hcd) he hv hs) fun En σ H h => by
  obtain ⟨w, ρ, S, r, hf, kk⟩ := h
  obtain ⟨d0, h0, hf⟩ := Option.bind_eq_some_iff.mp hf
  obtain ⟨sv, hsv⟩ := peek_slot S h0
  obtain ⟨⟨y, kd, ρ2⟩, h1, hf⟩ := Option.bind_eq_some_iff.mp hf
  obtain ⟨k, hk, hf⟩ := Option.bind_eq_some_iff.mp hf
  obtain ⟨s, hs1, hf⟩ := Option.bind_eq_some_iff.mp hf
  obtain ⟨d, hd1, hf⟩ := Option.bind_eq_some_iff.mp hf
  obtain ⟨s1, ρ1, s2, g1, g2, g3, g4⟩ := opt2_some h1
  cases d with
  | dit ks ds =>
    have hf' : (if ks.length < sizeLine ∧ ks.Nodup then (putSl ρ2 i (putKD k y ks ds)).map Rs.nx else none) = some r := hf
    split at hf'
    · rename_i hz
      obtain ⟨ρ3, h3, e2⟩ := Option.map_eq_some_iff.mp hf'
      subst e2
      refine one S g1 g2 fun v H1 S1 r1 => ?_
      have S1' := S1.fill
      refine ⟨sv, hsv, one S1' g3 g4 fun u H2 S2 r2 => ?_⟩
      have S2' := S1.back S2
      have r1' := S1.carry S2 r1
      obtain ⟨a, ea, _, o⟩ := S2'.ow hs1 hd1
      obtain ⟨xs, eh, e1, ekr, rr⟩ := o.ditE
      rw [hsv] at ea
      cases ea
      have ek := keyS_some hk
      simp only at ek
      subst ek
      have ekr' := ekr
      rw [← e1, List.map_map] at ekr'
      have tr := rps_stt ekr'
      have r2s : Rp X.K X.mg (Ex w.E ρ2 σ H2) H2 (sttD k) u := r2
      obtain ⟨b, rfl, hb⟩ := rp_stt r2
      have r2k : Rps X.K X.mg (Ex w.E ρ2 σ H2) H2 [sttD k] [.ref b] := .one r2s
      have fin : ∀ {dd : D} {ys : List SRow}, putKD k y ks ds = dd → (∀ (H3 : Hp), H3 a = some (SttD a ys) → (∀ c o, ¬ Ex w.E ρ2 σ H2 c → H2 c = some o → H3 c = some o) → Own X.K X.mg (Ex w.E ρ2 σ H2) H3 dd a) → dd.flat = true → SR X.K X.mg w ρ3 σ (upd H2 a (SttD a ys)) := fun {dd ys} hdd ow fl => by
        rw [hdd] at h3
        have wr : ∀ {s' : Sl}, ((s = .ow (.dit ks ds) ∧ s' = .ow dd) ∨ (s = .io (.dit ks ds) ∧ s' = .io dd)) → SR X.K X.mg w (ρ2.set i s') σ (upd H2 a (SttD a ys)) := fun {s'} hc => by
          refine S2'.write hs1 hd1 hc hsv (hd' := fl) fun H3 k1 k2 => ?_
          have st : ∀ c o, ¬ Ex w.E ρ2 σ H2 c → H2 c = some o → H3 c = some o := fun c o n e => k1 c o (fun z => n (by rw [z]; exact .inr (.top hs1 hd1 hsv))) e
          exact ow H3 k2 st
        have h3' : (ρ2[i]?).bind (fun s => match s with
          | .ow _ => some (ρ2.set i (.ow dd))
          | .io _ => some (ρ2.set i (.io dd))
          | _ => none) = some ρ3 := h3
        rw [show ρ2[i]? = some s from hs1] at h3'
        cases s with
        | ow d2 => cases hd1; cases h3'; exact wr (.inl ⟨rfl, rfl⟩)
        | io d2 => cases hd1; cases h3'; exact wr (.inr ⟨rfl, rfl⟩)
        | no => cases hd1
        | sh d2 => cases hd1
      refine ⟨b, a, xs, k, rfl, rfl, eh, tr, by rw [e1]; exact hz.2, hb, by rw [← List.length_map (f := (·.1)), e1]; exact hz.1, ?_⟩
      by_cases hkk : k ∈ ks
      · refine .inr ⟨by rw [e1]; exact hkk, kk σ _ (fin (ys := xs.map (putR k v)) (by unfold putKD; rw [if_pos hkk]) (fun H3 k2 st => ?_) rfl)⟩
        refine .dit (xs.map (putR k v)) k2 (by rw [putR_key, e1]) ?_ ?_
        · have : (xs.map (putR k v)).map (fun x => V.ref x.2.1) = xs.map fun x => V.ref x.2.1 := by
            have := congrArg (List.map V.ref) (putR_at (k := k) (v := v) xs)
            simpa [List.map_map, Function.comp_def] using this
          rw [this]
          exact ekr.step st fun _ _ z _ => z
        · rw [← e1]
          exact rps_put (r1'.step st fun _ _ z _ => z) (rr.step st fun _ _ z _ => z)
      · refine .inl ⟨by rw [e1]; exact hkk, kk σ _ (fin (ys := xs ++ [(k, b, v)]) (by unfold putKD; rw [if_neg hkk]) (fun H3 k2 st => ?_) rfl)⟩
        refine .dit (xs ++ [(k, b, v)]) k2 (by rw [List.map_append, e1]; rfl) ?_ ?_
        · rw [List.map_append, List.map_append]
          exact (ekr.step st fun _ _ z _ => z).app (r2k.step st fun _ _ z _ => z)
        · rw [List.map_append]
          exact (rr.step st fun _ _ z _ => z).app ((Rps.one r1').step st fun _ _ z _ => z)
    · cases hf'
  | _ => cases hf
end
@[simp] theorem sSPutU_e {i : Nat} {f g : FE} {ρ : Ev} : sSPutU i f g ρ = (peek ρ i).bind fun _ => (opt2 g f ρ).bind fun q => (keyS q.2.1).bind fun k => (q.2.2[i]?).bind fun s => s.own.bind fun d => match d with
  | .dit ks ds => if ks.length < sizeLine ∧ ks.Nodup then (putSl q.2.2 i (putKD k q.1 ks ds)).map .nx else none
  | _ => none := nrfl rfl
end T

/-! T75: a frame lent: expressions with plain values that keep all that stands. -/
namespace T
open PySem PySem.Spec PyProof.Rows L2

def D.plain : D → Bool
  | .non => true
  | .bl _ => true
  | .int _ => true
  | .str _ => true
  | .ty _ => true
  | _ => false
section
variable {K : Fg} {mg : Mg} {w : Wd} {ρ : Ev} {σ : L2.St} {H H' : Hp} {O O' : AP} {d : D} {v : V} {p : Addr}
end

/-! ### expressions that keep what stands -/
def denK (K : Fg) (mg : Mg) (f : FE) : TE := fun σ H Q => ∃ (w : Wd) (ρ : Ev), SR K mg w ρ σ H ∧ ∃ (s : Sl) (ρ' : Ev), f ρ = some (s, ρ') ∧ ∀ v H', VR K mg w ρ' σ H' s v → Kept H H' → Q v H'
abbrev EK (X : Cx) (e : Expr) (f : FE) : Prop := PE X e (denK X.K X.mg f)
theorem Sub.kept {H H' : Hp} (h : Sub H H') : Kept H H' := .of h
section
variable {X : Cx} {e : Expr} {es : List Expr} {f : FE} {fs : List FE} {pos : Pos}
theorem EK.ex (h : EK X e f) : EX X e f := pe_imp h fun σ H Q q => by
  obtain ⟨w, ρ, S, s, ρ', hf, k⟩ := q
  exact ⟨w, ρ, S, s, ρ', hf, fun v H' hv _ => k v H' hv⟩
theorem EQ.k (h : EQ X e f) : EK X e f := pe_imp h fun σ H Q q => by
  obtain ⟨w, ρ, S, s, ρ', hf, k⟩ := q
  exact ⟨w, ρ, S, s, ρ', hf, fun v H' hv sb => k v H' hv sb.kept⟩
end
section
variable {f : FE} {ρ : Ev} {d : D}
@[simp] theorem plain_int {i : Int} : (D.int i).plain = true := nrfl rfl
@[simp] theorem plain_non : D.non.plain = true := nrfl rfl
@[simp] theorem plain_bl {b : Bool} : (D.bl b).plain = true := nrfl rfl
end
end T

/-! T76: the object in a box as a thing of its own: a method of it that writes it. -/
namespace T
open PySem PySem.Spec PyProof.Rows L2

theorem snoc_get {α : Type} {l : List α} {x y : α} {j : Nat} (h : (l ++ [x])[j]? = some y) : (j < l.length ∧ l[j]? = some y) ∨ (j = l.length ∧ y = x) := by
  by_cases c : j < l.length
  · rw [List.getElem?_append_left c] at h
    exact .inl ⟨c, h⟩
  · rw [List.getElem?_append_right (by omega)] at h
    by_cases z : j - l.length = 0
    · rw [z] at h
      exact .inr ⟨by omega, by simpa using h.symm⟩
    · obtain ⟨q, _⟩ := List.getElem?_eq_some_iff.mp h
      simp at q
      omega
theorem snoc_last {α : Type} {l : List α} {x : α} : (l ++ [x])[l.length]? = some x := by simp
theorem snoc_lt {α : Type} {l : List α} {x : α} {j : Nat} (h : j < l.length) : (l ++ [x])[j]? = l[j]? := List.getElem?_append_left h
def Sl.put (s : Sl) (d : D) : Sl := match s with
  | .ow _ => .ow d
  | .io _ => .io d
  | s => s
theorem put_own {s : Sl} {d d' : D} (h : s.own = some d) : (s.put d').own = some d' := by cases s <;> first | (cases h; done) | (cases h; rfl)
section
variable {K : Fg} {mg : Mg} {O O' : AP} {H H' : Hp} {e : D} {b : Addr}
/-- a box taken out of the fields -/
theorem Flds.takeOut : ∀ {ds : List D} {vs : List V} {k : Nat}, Flds K mg O H ds vs → ds[k]? = some (.box e) → vs[k]? = some (.ref b) →
    Own K mg O H e b ∧ Flds K mg O H (ds.set k (.lam b [] [])) vs ∧ (∀ x, Foots H (ds.set k (.lam b [] [])) vs x → Foots H ds vs x ∧ ¬ Foot H e b x) ∧ ∀ x, Foot H e b x → Foots H ds vs x
  | [], _, _, _, h, _ => by simp at h
  | _ :: _, [], _, r, _, _ => nomatch r
  | d :: ds, u :: us, 0, r, h, h2 => by
    have e1 : d = .box e := by simpa using h
    have e2 : u = .ref b := by simpa using h2
    subst e1; subst e2
    obtain ⟨r1, r2, r3⟩ := r.inv
    rcases r1 with ⟨e0, b0, q1, q2, o⟩ | ⟨m, _⟩
    · cases q1; cases q2
      refine ⟨o, .sh (fun _ z => by cases z) (.lam .nil) r3, fun x f => ?_, fun x f => .hd f⟩
      rcases foots_cons f with ⟨e0, b0, q1, _⟩ | f
      · cases q1
      · exact ⟨.tl f, fun z => r2 x ⟨_, _, rfl, rfl, z⟩ f⟩
    · exact absurd rfl (m _)
  | d :: ds, u :: us, k + 1, r, h, h2 => by
    obtain ⟨r1, r2, r3⟩ := r.inv
    obtain ⟨o, q1, q2, q3⟩ := Flds.takeOut (k := k) r3 (by simpa using h) (by simpa using h2)
    refine ⟨o, .cons r1 (fun c f q => r2 c f (q2 c q).1) q1, fun x f => ?_, fun x f => .tl (q3 x f)⟩
    rcases foots_cons f with f | f
    · exact ⟨foots_hd f, fun z => r2 x f (q3 x z)⟩
    · exact ⟨.tl (q2 x f).1, (q2 x f).2⟩
end
section
variable {K : Fg} {mg : Mg} {w : Wd} {ρ : Ev} {σ : L2.St} {H : Hp} {i k : Nat} {s : Sl} {c : Str} {ns : List Str} {ds : List D} {e : D} {a b C dx : Addr} {fs : List (Str × V)}
/-- the world in which the box's object is a thing of its own -/
def Wd.box (w : Wd) (σ : L2.St) (a b : Addr) : Wd := { w with B := σ ++ [some (.ref b)], M := fun x y => (x ≠ b ∧ w.M x y) ∨ (x = b ∧ w.M a y) }
theorem SR.unbox (S : SR K mg w ρ σ H) (h1 : ρ[i]? = some s) (h2 : s.own = some (.obx c ns ds)) (h3 : σ[i]? = some (some (.ref a))) (eh : H a = some (.ins C dx fs)) (hb : ds[k]? = some (.box e)) (hv : (fs.map (·.2))[k]? = some (.ref b)) :
    SR K mg (w.box σ a b) (ρ.set i (s.put (.obx c ns (ds.set k (.lam b [] [])))) ++ [s.put e]) (σ ++ [some (.ref b)]) H ∧
    ∀ x, Ownd (ρ.set i (s.put (.obx c ns (ds.set k (.lam b [] [])))) ++ [s.put e]) (σ ++ [some (.ref b)]) H x → Ownd ρ σ H x := by
  obtain ⟨a', ea', _, o⟩ := S.owF h1 h2
  rw [h3] at ea'; cases ea'
  obtain ⟨C', dx', fs', m, eh', e1, r, n⟩ := o.obxE
  rw [eh] at eh'; cases eh'
  obtain ⟨oe, g1, g2, g3⟩ := r.takeOut hb hv
  have hi : i < ρ.length := (List.getElem?_eq_some_iff.mp h1).1
  have hl : (ρ.set i (s.put (.obx c ns (ds.set k (.lam b [] []))))).length = σ.length := by rw [List.length_set]; exact S.len
  have fb : Foots H ds (fs.map (·.2)) b := g3 b .top
  have fe : ∀ x, Foot H e b x → Foot H (.obx c ns ds) a x := fun x f => .inn eh (g3 x f)
  have fh : ∀ x, Foot H (.obx c ns (ds.set k (.lam b [] []))) a x → Foot H (.obx c ns ds) a x ∧ ¬ Foot H e b x := fun x f => by
    cases f with
    | top => exact ⟨.top, fun z => n (g3 _ z)⟩
    | inn h q =>
      rw [eh] at h; cases h
      exact ⟨.inn eh (g2 x q).1, (g2 x q).2⟩
  -- where an entry of the frame stood before
  have cls : ∀ {j : Nat} {t : Sl} {d : D} {y : Addr}, (ρ.set i (s.put (.obx c ns (ds.set k (.lam b [] [])))) ++ [s.put e])[j]? = some t → t.own = some d → (σ ++ [some (V.ref b)])[j]? = some (some (.ref y)) →
      (j = σ.length ∧ d = e ∧ y = b ∧ t = s.put e) ∨ (j = i ∧ d = .obx c ns (ds.set k (.lam b [] [])) ∧ y = a ∧ t = s.put d) ∨ (j ≠ i ∧ j < σ.length ∧ ρ[j]? = some t ∧ σ[j]? = some (some (.ref y))) := fun {j t d y} q1 q2 q3 => by
    rcases snoc_get q1 with ⟨z1, q1⟩ | ⟨z1, rfl⟩
    · rw [hl] at z1
      rw [snoc_lt z1] at q3
      by_cases hj : j = i
      · subst hj
        rw [List.getElem?_set_self hi] at q1
        cases q1
        rw [put_own h2] at q2
        cases q2
        rw [h3] at q3
        cases q3
        exact .inr (.inl ⟨rfl, rfl, rfl, rfl⟩)
      · rw [List.getElem?_set_ne (Ne.symm hj)] at q1
        exact .inr (.inr ⟨hj, z1, q1, q3⟩)
    · rw [hl] at z1
      subst z1
      rw [put_own h2] at q2
      cases q2
      rw [snoc_last] at q3
      cases q3
      exact .inl ⟨rfl, rfl, rfl, rfl⟩
  have ow : ∀ x, Ownd (ρ.set i (s.put (.obx c ns (ds.set k (.lam b [] [])))) ++ [s.put e]) (σ ++ [some (.ref b)]) H x → Ownd ρ σ H x := fun x ⟨j, t, d, y, q1, q2, q3, f⟩ => by
    rcases cls q1 q2 q3 with ⟨_, rfl, rfl, _⟩ | ⟨_, rfl, rfl, _⟩ | ⟨_, _, q1, q3⟩
    · exact ⟨i, s, _, a, h1, h2, h3, fe x f⟩
    · exact ⟨i, s, _, _, h1, h2, h3, (fh x f).1⟩
    · exact ⟨j, t, d, y, q1, q2, q3, f⟩
  have ex : ∀ x, Ex (w.box σ a b).E (ρ.set i (s.put (.obx c ns (ds.set k (.lam b [] [])))) ++ [s.put e]) (σ ++ [some (.ref b)]) H x → Ex w.E ρ σ H x := fun x z => z.imp id (ow x)
  have nb : ∀ {j : Nat} {t : Sl} {d : D} {y : Addr}, j ≠ i → ρ[j]? = some t → t.own = some d → σ[j]? = some (some (V.ref y)) → y ≠ b := fun {j t d y} hj q1 q2 q3 z => hj (S.injF j i t s d _ y a b q1 q2 h1 h2 q3 h3 (by rw [z]; exact .top) (fe b .top))
  have nab : a ≠ b := fun z => n (by rw [z]; exact fb)
  refine ⟨⟨by rw [List.length_append, List.length_append, hl]; rfl, fun j t v q1 q2 => ?_, fun j1 j2 t1 t2 d1 d2 y1 y2 x q1 q2 q3 q4 q5 q6 f1 f2 => ?_, fun x z => S.exo x (ow x z), S.kp, S.tabs, S.fresh, S.etr, fun j d q => rfl⟩, ow⟩
  · rcases snoc_get q1 with ⟨z1, q1⟩ | ⟨z1, rfl⟩
    · rw [hl] at z1
      rw [snoc_lt z1] at q2
      by_cases hj : j = i
      · subst hj
        rw [List.getElem?_set_self hi] at q1
        cases q1
        rw [h3] at q2
        cases q2
        have ob : Own K mg (Ex (w.box σ a b).E (ρ.set j (s.put (.obx c ns (ds.set k (.lam b [] [])))) ++ [s.put e]) (σ ++ [some (.ref b)]) H) H (.obx c ns (ds.set k (.lam b [] []))) a := .obx C dx fs m eh e1 (g1.sub ex) fun z => n (g2 a z).1
        have q := S.slot j s _ h1 h3
        cases s with
        | ow d' =>
          cases h2
          obtain ⟨a0, e0, r1, r2, _⟩ := q
          cases e0
          exact ⟨a, rfl, fun x f => r1 x (fh x f).1, fun x f => r2 x (fh x f).1, ob⟩
        | io d' =>
          cases h2
          obtain ⟨a0, e0, r1, _⟩ := q
          cases e0
          exact ⟨a, rfl, fun x f => ⟨(r1 x (fh x f).1).1, (r1 x (fh x f).1).2.imp id fun z => .inl ⟨nab, z⟩⟩, ob⟩
        | no => cases h2
        | sh d' => cases h2
      · rw [List.getElem?_set_ne (Ne.symm hj)] at q1
        have q := (S.slot j t v q1 q2).sub ex
        cases t with
        | no => trivial
        | sh d' => exact q
        | ow d' => exact q
        | io d' =>
          obtain ⟨y, e0, r1, o1⟩ := q
          subst e0
          exact ⟨y, rfl, fun x f => ⟨(r1 x f).1, (r1 x f).2.imp id fun z => .inl ⟨nb hj q1 rfl q2, z⟩⟩, o1⟩
    · rw [hl] at z1
      subst z1
      rw [snoc_last] at q2
      cases q2
      have q := S.slot i s _ h1 h3
      cases s with
      | ow d' =>
        cases h2
        obtain ⟨a0, e0, r1, r2, _⟩ := q
        cases e0
        exact ⟨b, rfl, fun x f => r1 x (fe x f), fun x f => r2 x (fe x f), oe.sub ex⟩
      | io d' =>
        cases h2
        obtain ⟨a0, e0, r1, _⟩ := q
        cases e0
        exact ⟨b, rfl, fun x f => ⟨(r1 x (fe x f)).1, (r1 x (fe x f)).2.imp id fun z => .inr ⟨rfl, z⟩⟩, oe.sub ex⟩
      | no => cases h2
      | sh d' => cases h2
  · rcases cls q1 q2 q5 with ⟨a1, a2, a3, _⟩ | ⟨a1, a2, a3, _⟩ | ⟨a1, _, a2, a3⟩
    · subst a2 a3
      rcases cls q3 q4 q6 with ⟨b1, b2, b3, _⟩ | ⟨b1, b2, b3, _⟩ | ⟨b1, _, b2, b3⟩
      · rw [a1, b1]
      · subst b2 b3
        exact absurd f1 (fh x f2).2
      · exact absurd (S.injF j2 i t2 s d2 _ y2 a x b2 q4 h1 h2 b3 h3 f2 (fe x f1)) b1
    · subst a2 a3
      rcases cls q3 q4 q6 with ⟨b1, b2, b3, _⟩ | ⟨b1, b2, b3, _⟩ | ⟨b1, _, b2, b3⟩
      · subst b2 b3
        exact absurd f2 (fh x f1).2
      · rw [a1, b1]
      · exact absurd (S.injF j2 i t2 s d2 _ y2 _ x b2 q4 h1 h2 b3 h3 f2 (fh x f1).1) b1
    · rcases cls q3 q4 q6 with ⟨b1, b2, b3, _⟩ | ⟨b1, b2, b3, _⟩ | ⟨b1, _, b2, b3⟩
      · subst b2 b3
        exact absurd (S.injF j1 i t1 s d1 _ y1 a x a2 q2 h1 h2 a3 h3 f1 (fe x f2)) a1
      · subst b2 b3
        exact absurd (S.injF j1 i t1 s d1 _ y1 _ x a2 q2 h1 h2 a3 h3 f1 (fh x f2).1) a1
      · exact S.injF j1 j2 t1 t2 d1 d2 y1 y2 x a2 q2 b2 q4 a3 b3 f1 f2
end
end T

/-! T77: x.f.m(..), m a method of the object in the box x.f that may write it; x.f.g. -/
namespace T
open PySem PySem.Spec PyProof.Rows L2

section
variable {K : Fg} {mg : Mg} {w : Wd} {ρ ρ' : Ev} {σ : L2.St} {H : Hp} {i k : Nat} {c f : Str} {fl : List Str} {C : Addr} {d e e' : D} {v : V}
end
section
variable {X : Cx} {i k k2 : Nat} {c x m f g2 : Str} {fl : List Str} {C g : Addr} {c2 : Str} {fl2 : List Str} {C2 : Addr} {e : Expr} {es : List Expr} {fs : List FE} {F : FF} {gd : FuncData} {ps : List Str} {p pos p2 apos : Pos} {pl : Sem Bool} {n : Nat}
end
section
variable {i k k2 : Nat} {c c2 : Str} {fl fl2 : List Str} {F : FF} {fs : List FE} {ρ : Ev}
end
end T

set_option maxHeartbeats 4000000
/-! T78: d[x] read, x a nested key; dicts with such keys in a box: x in, x read, x stored; list.append to a box. -/
namespace T
open PySem PySem.Spec PyProof.Rows L2 PySem.NK

/-! ### d[x] -/
section
variable {X : Cx} {i : Nat} {x : Str} {e : Expr} {f : FE} {p pos : Pos}
end

/-! ### in a box -/
theorem Pt.dit {K : Fg} {mg : Mg} {O : AP} {H : Hp} {ks : List Stt} {ds : List D} {v : V} (h : Pt K mg O H (.dit ks ds) v) : ∃ d xs, v = .ref d ∧ H d = some (SttD d xs) ∧ xs.map (·.1) = ks ∧ (∀ x ∈ xs, SttAt K H x.1 x.2.1) ∧ Rps K mg O H ds (xs.map (·.2.2)) := by
  have conv : ∀ {O : AP} {xs : List SRow}, xs.map (·.1) = ks → Rps K mg O H (ks.map sttD) (xs.map fun x => V.ref x.2.1) → ∀ x ∈ xs, SttAt K H x.1 x.2.1 := fun {O xs} e r => by
    rw [← e, List.map_map] at r
    exact rps_stt r
  rcases h with r | ⟨a, rfl, o⟩
  · cases r with
    | dit h e1 e2 r => exact ⟨_, _, rfl, h.1, e1, conv e1 e2, r⟩
  · obtain ⟨xs, h, e1, e2, r⟩ := o.ditE
    exact ⟨a, xs, rfl, h, e1, conv e1 e2, r⟩
section
variable {X : Cx} {i k : Nat} {c x f : Str} {fl : List Str} {C : Addr} {g gv : FE} {e b ev : Expr} {p pos pos' apos cpos p2 : Pos}
end
/-! ### a method of an expression's object, lent -/
section
variable {X : Cx} {i k : Nat} {c x m : Str} {fl : List Str} {C g : Addr} {e o : Expr} {es : List Expr} {as : List Ag} {F : FF} {fo : FE} {gd : FuncData} {ps : List Str} {p pos apos : Pos} {pl : Sem Bool}
end
section
variable {i k : Nat} {c : Str} {fl : List Str} {f g gv o : FE} {as : List Ag} {F : FF} {ρ : Ev}
end
end T

set_option maxHeartbeats 4000000
/-! T79: a, b, c = x, y, z; z plain. -1 as an index. -/
namespace T
open PySem PySem.Spec PyProof.Rows L2
section
variable {K : Fg} {mg : Mg} {w : Wd} {ρ : Ev} {σ σ' : L2.St} {H : Hp}
end
end T

set_option maxHeartbeats 4000000
/-! T80: a tuple times an int. -/
namespace T
open PySem PySem.Spec PyProof.Rows L2
theorem tuple_mul1 (l : Addr) (items : Array Value) (n : Nat) (dd : Option Addr) (sl : Array (Option Value)) (u : Tok) :
    Meets (Builtin.«tuple.__mul__» ⟨[.ref l, .int 1 u], []⟩) (fun _ R s => s.heap.get? l = some { cls := .type "tuple", dict := dd, data := .seq items n, slots := sl } ∧ R (.ok (.ret (Value.ref l))) s) :=
  .of_wp fun prog w A R s h => by
    obtain ⟨hp, g, d, tk, os⟩ := s
    obtain ⟨hl, h⟩ := h
    have f1 := AutoSeq1.idx_int
    have c1 : (items.isEmpty || (1 : Int) == 1) = true := by simp
    wp_walk using wpAny_loadPart' hl
    repeat (first
      | (refine wpAny_ite_false (decide_eq_false (by decide)) ?_; wp_walk using wpAny_loadPart' hl)
      | (refine wpAny_ite_true (decide_eq_true (by rw [c1])) ?_; wp_walk using wpAny_loadPart' hl))
    exact ⟨_, rfl, h⟩

def rRepT1 (K : Fg) : R2 := fun x y H Q => ∃ l xs, x = .ref l ∧ y = .int 1 ∧ SqT K H l xs ∧ Q (.ref l) H
section
variable {X : Cx}
theorem op_repT1 : OpR X (binaryOp .Mult) (rRepT1 X.K) := by
  intro pins s σ H x y v u Q I rx ry h
  obtain ⟨l, xs, rfl, rfl, hT, q⟩ := h
  cases rx
  obtain ⟨t, rfl⟩ := ry
  obtain ⟨its, r, ⟨⟨cls, dd, data, sl⟩, ho, hc, n, hd⟩, hs⟩ := I.tuple hT
  simp only at hc hd
  subst hc hd
  refine wpAny_binaryOp_repeat_ref (T := "tuple") (U := "int") (by decide) ⟨_, ho, rfl⟩ (fun s' => typeIs_int s' 1 t) noFill_tuple_mul F.fills_int_mul F.slot_int_rmul repeat_tuple F.slot_int_index.lookup
    (call_meets F.slot_int_rmul (typeIs_int s 1 t) F.entry_int_rmul (F.args_int_rmul_2 _ _) (int_rmul_tuple 1 t l its.toArray n dd sl)
      ⟨ho, rfl, ⟨_, ho, rfl⟩, call_meets F.slot_tuple_mul ⟨_, ho, rfl⟩ F.entry_tuple_mul (F.args_tuple_mul_2 _ _) (tuple_mul1 l its.toArray n dd sl t) ⟨ho, ?_⟩⟩)
  exact ⟨.ref l, _, I, rfl, q⟩
end
end T

/-! T81: xs.count(b), xs a list of bools. -/
namespace T
open PySem PySem.Spec PyProof.Rows L2
section
variable {X : Cx} {c : Expr} {f g : FE}
end
end T

/-! T82: isinstance(caught, B), B a built-in class. -/
namespace T
open PySem PySem.Spec PyProof.Rows L2
section
variable {X : Cx}
variable {f : FE} {e : Expr} {y : Str} {n : String} {p p2 pos : Pos} {tab : List (Str × Bool)}
end
end T

set_option maxHeartbeats 4000000
/-! T83: sorted(d), d a dict whose keys are pairs of ints. -/
namespace T
open PySem PySem.Spec PyProof.Rows L2 PySem.NK SrtO PySem.W
section
variable {X : Cx}
def rSortTab (K : Fg) : List V → Hp → VK → Prop := fun vs H Q => ∃ (a : Addr) (xs : List SRow) (k : V → Int × Int), vs = [V.ref a] ∧ H a = some (SttD a xs) ∧ (∀ x ∈ xs, SttAt K H x.1 x.2.1) ∧ (xs.map (·.1)).Nodup ∧
  (∀ x ∈ (xs.map fun x => V.ref x.2.1), ∃ t o, x = V.ref t ∧ H t = some (.frz o (.tup [.int (k x).1, .int (k x).2]))) ∧
  ∀ ys p, ys.Pairwise (fun x y => lexB (k y) (k x) = false) → ys.Perm (xs.map fun x => V.ref x.2.1) → H p = none → Q (.ref p) (upd H p (.lst ys))
theorem vals_refs : ∀ xs : List SRow, Vals (xs.map fun x => V.ref x.2.1) (xs.map fun x => Value.ref x.2.1)
  | [] => .nil
  | x :: r => .cons rfl (vals_refs r)
theorem paired_at {α β : Type} {R : α → β → Prop} : ∀ {as : List α} {bs : List β}, Paired R as bs → ∀ {i : Nat} {b : β}, bs[i]? = some b → ∃ a, as[i]? = some a ∧ R a b
  | _, _, .nil, i, b, h => by cases h
  | _, _, .cons h t, 0, b, e => by cases e; exact ⟨_, rfl, h⟩
  | _, _, .cons h t, i + 1, b, e => paired_at t (i := i) (by simpa using e)
theorem cr_sortTab (hc : X.calm = true) : CallR X (.builtin "sorted") (rSortTab X.K) := by
  intro pins s σ H vs us Q I r h
  obtain ⟨a, xs, k, rfl, hd, hk, nd, hx, q⟩ := h
  obtain ⟨u, rfl, ru⟩ := vals1 r
  obtain rfl : u = Value.ref a := ru
  obtain ⟨h1, h2, us, rp, dd⟩ := std_dict I hd hk nd
  obtain ⟨es, ep, raw, esz, ent⟩ := dd.raw
  have lu : us.length = xs.length := (Paired.length rp).symm
  refine Calls.call_function_entry kind_sorted plain_sorted entry_sorted (args_sorted1 _) ?_
  unfold Builtin.«sorted»
  refine wpAny_bind (m := checkCount "sorted" 1 1 _) (wpAny_pure ?_)
  refine wpAny_bind (kdu_collect (KdlSrc.rawDict h1) (I.ok.hd hc) raw (by omega) fun h1' tk acc kp it => ?_)
  have eacc : acc.toList = xs.map fun x => Value.ref x.2.1 := by
    apply List.ext_getElem?
    intro i
    by_cases hi : i < es.size
    · have hia : i < acc.toList.length := by rw [Array.length_toList, it.1]; exact hi
      have ea : acc.toList[i]? = some acc.toList[i] := List.getElem?_eq_getElem hia
      obtain ⟨hi', ev⟩ := it.2 i acc.toList[i] (by rw [← Array.getElem?_toList]; exact ea)
      obtain ⟨y, hy, ek, _, _⟩ := ent i hi'
      obtain ⟨x, hxx, _, e2, _⟩ := paired_at rp hy
      rw [ea, ev, ek, List.getElem?_map, hxx, ← e2]; rfl
    · rw [List.getElem?_eq_none (by rw [Array.length_toList, it.1]; omega), List.getElem?_eq_none (by rw [List.length_map]; omega)]
  rw [eacc]
  have rv := vals_refs xs
  have hz : (xs.map fun x => Value.ref x.2.1).length ≤ sizeLine := by rw [List.length_map]; exact h2
  generalize (xs.map fun x => Value.ref x.2.1) = its at rv hz eacc ⊢
  generalize (xs.map fun x => V.ref x.2.1) = xv at rv hx q ⊢
  obtain ⟨e1, e2⟩ := refs_back rv fun x m => by
    obtain ⟨t, _, e, _⟩ := hx x m
    exact ⟨t, e⟩
  refine wpAny_bind (wpAny_newList ?_ hz)
  have hoL : (h1'.push { cls := .type "list", data := .seq its.toArray }).get? h1'.objs.size = some (seqObj "list" its.toArray 0) := Heap.get?_push_size _ rfl
  have ka : ∀ b u, s.heap.get? b = some u → (h1'.push { cls := .type "list", data := .seq its.toArray }).get? b = some u ∧ b ≠ h1'.objs.size := fun b u e => ⟨Heap.get?_push_of_some _ (kp b u e), Nat.ne_of_lt (Heap.lt_size (kp b u e))⟩
  have I1 : Inv X pins σ H { s with heap := h1', toks := tk } := I.kept (t' := tk) kp
  have kb : ∀ b u, h1'.get? b = some u → (h1'.push { cls := .type "list", data := .seq its.toArray }).get? b = some u ∧ b ≠ h1'.objs.size := fun b u e => ⟨Heap.get?_push_of_some _ e, Nat.ne_of_lt (Heap.lt_size e)⟩
  have hs2 : (h1'.push { cls := .type "list", data := .seq its.toArray }).objs.size = h1'.objs.size + 1 := Heap.size_push _ _
  generalize hh2 : h1'.push { cls := .type "list", data := .seq its.toArray } = h2' at hoL ka kb hs2 ⊢
  have hp : ∀ v ∈ its, Srt.IsPair h2' v (k (backV v)).1 (k (backV v)).2 := by
    intro v hv
    obtain ⟨t, rfl⟩ := e2 v hv
    have hm : V.ref t ∈ xv := by rw [e1]; exact List.mem_map.mpr ⟨_, hv, rfl⟩
    obtain ⟨t', o', e, ht⟩ := hx _ hm
    cases e
    obtain ⟨hg, _, its2, r2, o2, ho2, hc2, n2, hd2⟩ := I.hok _ _ ht
    obtain ⟨u1, u2, rfl, ri, rj⟩ := vals2 r2
    obtain ⟨t1, rfl⟩ := ri
    obtain ⟨t2, rfl⟩ := rj
    exact ⟨t, o2, t1, t2, n2, rfl, (ka _ _ ho2).1, hc2, hd2⟩
  refine wpAny_bind (wpAny_holding (wpAny_call_entry slot_list_sort ⟨_, hoL, rfl⟩ entry_list_sort (list_sort_ord (swo_lex fun v => k (backV v)) hoL hz (fun h0 => pairs_sortableO (by omega) hp fun o e => ?_) fun out hs hb => ⟨_, rfl, ?_⟩) (args_list_sort _)))
  · have e' : some o = some (seqObj "list" its.toArray 0) := e.symm.trans hoL
    cases e'
    intro c
    exact absurd (Value.type.inj c) (by decide)
  · refine wpAny_pure ⟨_, rfl, ?_⟩
    obtain ⟨epo, hat⟩ := sortedHeap_at (out := out.toArray) hoL
    have hF : ∀ b u, h1'.get? b = some u → (sortedHeap h2' h1'.objs.size its out.toArray).get? b = some u := fun b u e => by
      rw [sortedHeap_old (kb b u e).2 (Heap.lt_size (kb b u e).1)]; exact (kb b u e).1
    have h3 : ∀ u ∈ out, ∃ a, u = Value.ref a := fun u hu => e2 u (hb.perm.mem_iff.mp hu)
    refine ⟨.ref h1'.objs.size, upd H h1'.objs.size (.lst (out.map backV)), I1.laid (t' := tk) hF (Nat.le_refl _) ⟨?_, out, epo, vals_back h3, hat⟩, rfl, q _ _ ?_ ?_ (I1.hok.fresh (Nat.le_refl _))⟩
    · rw [List.length_map, hb.perm.length_eq]; exact hz
    · rw [List.pairwise_map]
      exact hs
    · rw [e1]; exact hb.perm.map backV
/-! ### over plain data -/
def stt2 : Stt → Option (Int × Int)
  | [.inl i, .inl j] => some (i, j)
  | _ => none
def stt2s : List Stt → Option (List (Int × Int))
  | [] => some []
  | x :: r => (stt2 x).bind fun p => (stt2s r).map (p :: ·)
def key2 (p : Int × Int) : Stt := [.inl p.1, .inl p.2]
theorem stt2_key {p : Int × Int} : stt2 (key2 p) = some p := rfl
theorem stt2s_map : ∀ ps : List (Int × Int), stt2s (ps.map key2) = some ps
  | [] => rfl
  | p :: r => by
    show (stt2 (key2 p)).bind _ = _
    rw [stt2_key]
    show (stt2s (r.map key2)).map _ = _
    rw [stt2s_map r]; rfl
theorem stt2_some {x : Stt} {p : Int × Int} (h : stt2 x = some p) : x = key2 p := by
  unfold stt2 at h
  split at h
  · cases h; rfl
  · cases h
theorem stt2s_some : ∀ {ks : List Stt} {ps : List (Int × Int)}, stt2s ks = some ps → ks = ps.map key2
  | [], _, h => by cases h; rfl
  | x :: r, ps, h => by
    obtain ⟨p, h1, h⟩ := Option.bind_eq_some_iff.mp h
    obtain ⟨q, h2, e⟩ := Option.map_eq_some_iff.mp h
    subst e
    rw [stt2_some h1, stt2s_some h2]; rfl
def srtTO : OL
  | [.dit ks _] => (stt2s ks).bind fun ps => if ks.Nodup then some (.ow (.lst ((srtP ps).map kP))) else none
  | _ => none
theorem s_sortTab : CaS X (rSortTab X.K) srtTO := ⟨fun w ρ σ H vs ds s Q S r e k => by
  unfold srtTO at e
  split at e
  · obtain ⟨ps, hp, e⟩ := Option.bind_eq_some_iff.mp e
    split at e
    · rename_i nd
      cases e
      obtain ⟨v, rfl, q⟩ := one_rps r
      cases q with
      | dit h e1 ekr rr =>
        rename_i a xs
        have ek := stt2s_some hp
        have ekr' := ekr
        rw [← e1, List.map_map] at ekr'
        have tr := rps_stt ekr'
        rw [ek, List.map_map] at ekr
        have ekp : Rps X.K X.mg (Ex w.E ρ σ H) H (ps.map kP) (xs.map fun x => V.ref x.2.1) := ekr
        obtain ⟨p1, p2⟩ := pairs_rps ekp
        refine ⟨a, xs, keyH2 H, rfl, h.1, tr, by rw [e1]; exact nd, fun x hx => (p2 x hx).1, fun ys p hy hpm hn => ?_⟩
        have e3 : ys.map (keyH2 H) = srtP ps := by
          refine srtP_eq ?_ ?_
          · rw [← p1]; exact hpm.map _
          · rw [List.pairwise_map]; exact hy
        have r := rps_of_keys (ys := ys) fun y hy => (p2 y (hpm.mem_iff.mp hy)).2
        rw [e3] at r
        exact k _ _ (VR.newL S hn r)
    · cases e
  · cases e⟩
end
end T

namespace T
open PySem PySem.Spec PyProof.Rows L2
-- law_pot2: 0=_law_script 1=_law_index 2=_law_cell 3=_law_own
noncomputable def mb_law_pot2 : FS := (sSeq (sSet 2 (eIf (tOf (eBin ltO (eVar 1) (eFnV lenD 0))) (eIxV 0 (eVar 1)) (eBin catO (eBin mulO (eC (.int 19)) (eVar 1)) (eC (.int 8)))))
  (sSeq (sSet 3 (eBin mulO (eBin modO (eFnV absD 2) (eBin powWO (eBin powO (eC (.int 10)) (eC (.int 60))) (eC (.int 5)))) (eFn (shO intD) [(eBin geO (eFnV absD 2) (eBin powO (eC (.int 10)) (eC (.int 18))))])))
  (sRet (eLst [(eVar 3), (eBin modO (eBin mulO (eBin catO (eBin catO (eBin modO (eVar 2) (eC (.int 2305843009213693951))) (eBin mulO (eBin mulO (eC (.int 8117)) (eVar 1)) (eVar 1))) (eC (.int 37))) (eC (.int 69621))) (eC (.int 2305843009213693951))), (eC (.int 0))]))))
noncomputable def m_law_pot2 : FF := runDef 2 2 mb_law_pot2
-- law_draw: 0=_law_pot_here 1=_law_count 2=_law_digit 3=_law_mixed
noncomputable def mb_law_draw : FS := (sSeq (sIf (tOf (eBin gtO (eIxV 0 (eC (.int 0))) (eC (.int 0)))) (sSeq (sSet 2 (eBin modO (eIxV 0 (eC (.int 0))) (eVar 1)))
  (sSeq (sSub 0 (eC (.int 0)) (eBin divO (eIxV 0 (eC (.int 0))) (eVar 1)))
  (sRetO 2))) sNil)
  (sSeq (sSub 0 (eC (.int 2)) (eBin catO (eIxV 0 (eC (.int 2))) (eC (.int 1))))
  (sSeq (sSet 3 (eBin catO (eBin catO (eBin mulO (eIxV 0 (eC (.int 1))) (eC (.int 1181783497276652981))) (eBin mulO (eC (.int 87253)) (eIxV 0 (eC (.int 2))))) (eC (.int 17))))
  (sSeq (sSub 0 (eC (.int 1)) (eBin modO (eVar 3) (eC (.int 2305843009213693951))))
  (sRet (eBin modO (eBin divO (eBin modO (eBin mulO (eBin divO (eIxV 0 (eC (.int 1))) (eC (.int 65537))) (eBin catO (eBin modO (eIxV 0 (eC (.int 1))) (eC (.int 65537))) (eC (.int 5)))) (eC (.int 2305843009213693921))) (eC (.int 103))) (eVar 1)))))))
noncomputable def m_law_draw : FF := runDef 2 2 mb_law_draw
-- law_pick: 0=_law_pot_here 1=_law_some
noncomputable def mb_law_pick : FS := (sRet (eIxV 1 (eCall m_law_draw [] [.o 0, .e (eFnV lenD 1)])))
noncomputable def m_law_pick : FF := runDef 2 0 mb_law_pick
-- law_system: 0=_law_pot_here 1=_law_most 2=_law_many 3=_law_found 4=_law_turn 5=_law_length
noncomputable def mb_law_system_L1 : FS := (sSeq (sSet 5 (eBin catO (eC (.int 1)) (eCall m_law_draw [] [.o 0, .e (eVar 1)])))
  (sSPutU 3 (eTup [(eVar 5), (eCall m_law_pick [] [.o 0, .e (eLst [(eVar 5), (eC (.int 1)), (eBin catO (eC (.int 1)) (eCall m_law_draw [] [.o 0, .e (eVar 1)]))])])]) (eC (.bl true))))
noncomputable def mb_law_system : FS := (sSeq (sSet 3 (eSNew))
  (sSeq (sFor (.n 4) (iRg1 (eBin catO (eC (.int 1)) (eCall m_law_draw [] [.o 0, .e (eVar 2)]))) mb_law_system_L1)
  (sRet (eFn tupleO [(eFn srtTO [(eVar 3)])]))))
noncomputable def m_law_system : FF := runDef 3 3 mb_law_system
end T

set_option maxHeartbeats 4000000
/-! T84: d != {}, a walk of xs[i].items(), xs a list of dicts. -/
namespace T
open PySem PySem.Spec PyProof.Rows L2
section
variable {X : Cx}
/-! ### numbers that are told at once -/
end
section
variable {X : Cx} {body : List Stmt} {t : Tg} {f : FS} {i : Nat} {x : Str} {p pos apos cpos sp : Pos} {ie : Expr} {g : FE}
end
/-! ### min of three -/
end T

set_option maxHeartbeats 4000000
/-! T86: an exception that leaves a list comprehension. -/
namespace PySem
namespace HandSPX
section
variable {M : Model} {A : Around} {E : Value → Shared → Prop} {s : Shared} {Z : Obj → Prop} {base : Heap} {env : Env} {outer l : List Env} {L e : Addr}
end
end HandSPX
section
variable {M : Model} {A : Around} {E : Value → Shared → Prop} {s : Shared} {env : Env}
end
end PySem
namespace L2
open PySem PySem.Spec PyProof.Rows
section
variable {X : Cx} {pins : List (Addr × Obj)} {σ : St} {H : Hp} {s : Shared}
end
end L2

set_option maxHeartbeats 4000000
/-! T87: list comprehensions whose element may let an exception out. -/
namespace L2
open PySem PySem.Spec PyProof.Rows
section
variable {X : Cx}
end
end L2

set_option maxHeartbeats 4000000
/-! T88: comprehensions over data whose element may let an exception out. -/
namespace T
open PySem L2
section
variable {X : Cx} {W : L2.WX} {e : Expr} {src : FI} {t : Tg} {c : FT} {f : FEX} {vs : List Nat}
end
end T

set_option maxHeartbeats 4000000
/-! T89: methods that may let an exception out, with any number of arguments too; what is done with such a call. -/
namespace T
open PySem PySem.Spec PyProof.Rows L2
/-! ### x.m(..) -/
section
variable {X : Cx} {W : L2.WX} {k : Nat} {C f : Addr} {m : Str} {sp : Sp} {fd : FuncData} {ps : List Str} {o e : Expr} {es : List Expr} {ta : TE} {t : TA} {apos pos : Pos} {pl : Sem Bool}
end
section
variable {X : Cx} {W : L2.WX} {i k : Nat} {c x m : Str} {fl : List Str} {C g : Addr} {e : Expr} {es : List Expr} {as : List Ag} {F : FFX} {gd : FuncData} {ps : List Str} {p pos apos : Pos} {pl : Sem Bool}
end
/-! ### a def f(self, *rest) that may let one out -/
section
variable {X : Cx} {W : L2.WX} {k : Nat} {C f : Addr} {m : Str} {sp : Sp} {o e : Expr} {es : List Expr} {ta : TE} {t : TA} {apos pos : Pos} {pl : Sem Bool}
end
section
variable {X : Cx} {W : L2.WX} {i k : Nat} {c x m : Str} {fl : List Str} {C g : Addr} {e : Expr} {es : List Expr} {as : List Ag} {F : FFX} {p pos apos : Pos} {pl : Sem Bool}
end
end T

set_option maxHeartbeats 4000000
/-! T90: a built-in of what may let an exception out, an entry of it; what these mirrors compute. -/
namespace T
open PySem PySem.Spec PyProof.Rows L2
section
variable {X : Cx} {W : L2.WX} {e a : Expr} {f : FEX} {o : OL} {o2 : O2} {r : List V → Hp → VK → Prop} {r2 : R2} {x : Str} {p p2 pos : Pos} {tyn : String} {n : Int} {j : Nat}
end
/-! ### what they compute -/
section
variable {ρ : Ev} {i : Nat} {c : Str} {fl : List Str} {F : FFX} {as : List Ag} {f : FEX} {o : OL} {o2 : O2} {n : Int} {p : Xc × Ev} {q : Sl × Ev}
end
end T

/-! T91: an entry of a tuple of which less is known. -/
namespace T
open PySem L2
end T

/-! T92: repr, of dicts too. -/
namespace T
open PySem PySem.Spec PyProof.Rows L2

def keyP : Key → PyData
  | .inl i => .int i
  | .inr x => .str x
mutual
/-- v stands in H as plain data, dicts too -/
inductive Dq (K : Fg) (H : Hp) : V → PyData → Prop
  | non : Dq K H .non .none
  | bl (b : Bool) : Dq K H (.bl b) (.bool b)
  | int (i : Int) : Dq K H (.int i) (.int i)
  | str (x : Str) : Dq K H (.str x) (.str x)
  | lst {a : Addr} {xs : List V} {ds : List PyData} : Rd H a (.lst xs) → DqAll K H xs ds → Dq K H (.ref a) (.list ds)
  | tup {a : Addr} {xs : List V} {ds : List PyData} : SqT K H a xs → DqAll K H xs ds → Dq K H (.ref a) (.tuple ds)
  | dic {a : Addr} {kvs : List (Key × V)} {ds : List PyData} : Rd H a (.dK kvs) → DqAll K H (kvs.map (·.2)) ds → Dq K H (.ref a) (.dict ((kvs.map fun kv => keyP kv.1).zip ds))
inductive DqAll (K : Fg) (H : Hp) : List V → List PyData → Prop
  | nil : DqAll K H [] []
  | cons {v : V} {vs : List V} {d : PyData} {ds : List PyData} : Dq K H v d → DqAll K H vs ds → DqAll K H (v :: vs) (d :: ds)
end
theorem DqAll.len {K : Fg} {H : Hp} : ∀ {vs : List V} {ds : List PyData}, DqAll K H vs ds → vs.length = ds.length
  | _, _, .nil => rfl
  | _, _, .cons _ h => by rw [List.length_cons, List.length_cons, h.len]
section
variable {X : Cx} {pins : List (Addr × Obj)} {σ : L2.St} {H : Hp} {s : Shared}
/-- what is tracked is not the table of modules -/
theorem nosys (hs : ∃ o, X.base.get? sysModules = some o) (I : Inv X pins σ H s) {a : Addr} {o : HO} (h : H a = some o) : sysModules ≠ a := by
  intro e
  obtain ⟨ob, he⟩ := hs
  have q := (I.bs sysModules ob he).2
  rw [e, h] at q
  cases q
theorem rd_nosys (hs : ∃ o, X.base.get? sysModules = some o) (I : Inv X pins σ H s) {a : Addr} {o : HO} (h : Rd H a o) : sysModules ≠ a := by
  rcases h with h | ⟨_, h⟩
  · exact nosys hs I h
  · exact nosys hs I h
theorem keys_read {P : Program} {w : World} {h : Heap} : ∀ {es : List DictEntry} {vs : List (Key × Value)}, PySem.Pairs (mixKind P w) es vs → ReadsAll h (es.map (·.key)) (vs.map fun kv => keyP kv.1) []
  | _, _, .nil => .nil
  | _, _, .cons hk _ r => by
    rename_i e kv es kvs _
    have hk : keyIs kv.1 e.key = true := hk
    have r1 : Reads h e.key (keyP kv.1) [] := by
      rcases keyIs_shape hk with ⟨i, t, e1, e2⟩ | ⟨x, t, e1, e2⟩
      · rw [e1, e2]; exact .int i t
      · rw [e1, e2]; exact .str x t
    exact ReadsAll.cons (as := []) (bs := []) r1 (keys_read r)
theorem vals_of {P : Program} {w : World} : ∀ {es : List DictEntry} {vs : List (Key × Value)}, PySem.Pairs (mixKind P w) es vs → es.map (·.val) = vs.map (·.2)
  | _, _, .nil => rfl
  | _, _, .cons _ e r => by
    rw [List.map_cons, List.map_cons, e, vals_of r]
theorem zipL_fst {α β : Type} : ∀ {as : List α} {bs : List β}, as.length = bs.length → (as.zip bs).map (·.1) = as
  | [], [], _ => rfl
  | a :: as, b :: bs, h => by rw [List.zip_cons_cons, List.map_cons, zipL_fst (by simpa using h)]
  | [], _ :: _, h => by cases h
  | _ :: _, [], h => by cases h
theorem zipL_snd {α β : Type} : ∀ {as : List α} {bs : List β}, as.length = bs.length → (as.zip bs).map (·.2) = bs
  | [], [], _ => rfl
  | a :: as, b :: bs, h => by rw [List.zip_cons_cons, List.map_cons, zipL_snd (by simpa using h)]
  | [], _ :: _, h => by cases h
  | _ :: _, [], h => by cases h
theorem kv_keys : ∀ {kvs : List (Key × V)} {vs : List (Key × Value)}, KV kvs vs → kvs.map (fun kv => keyP kv.1) = vs.map (fun kv => keyP kv.1) ∧ Vals (kvs.map (·.2)) (vs.map (·.2))
  | _, _, .nil => ⟨rfl, .nil⟩
  | _, _, .cons h r => by
    obtain ⟨q1, q2⟩ := kv_keys r
    exact ⟨by rw [List.map_cons, List.map_cons, q1, h.1], .cons h.2 q2⟩
mutual
theorem Dq.reads (hs : ∃ o, X.base.get? sysModules = some o) (I : Inv X pins σ H s) : ∀ {d : PyData} {v : V} {u : Value}, Dq X.K H v d → RelV v u → ∃ as, Reads s.heap u d as ∧ sysModules ∉ as
  | _, _, _, .non, r => by cases r; exact ⟨_, Reads.none, by simp⟩
  | _, _, _, .bl b, r => by cases r; exact ⟨_, Reads.bool b, by simp⟩
  | _, _, _, .int i, r => by obtain ⟨t, rfl⟩ := r; exact ⟨_, Reads.int i t, by simp⟩
  | _, _, _, .str x, r => by obtain ⟨t, rfl⟩ := r; exact ⟨_, Reads.str x t, by simp⟩
  | _, _, _, .lst hr ha, r => by
    cases r
    obtain ⟨its, rv, ⟨o, n, ho, hc, _, hd⟩, _⟩ := I.list (.inl hr)
    obtain ⟨as, q, hn⟩ := DqAll.reads hs I ha rv
    exact ⟨_, Reads.list ho hc hd q, by
      rw [List.mem_cons]
      rintro (e | e)
      · exact rd_nosys hs I hr e
      · exact hn e⟩
  | _, _, _, .tup ht ha, r => by
    cases r
    obtain ⟨its, rv, ⟨o, ho, hc, n, hd⟩, _⟩ := I.tuple ht
    obtain ⟨as, q, hn⟩ := DqAll.reads hs I ha rv
    exact ⟨_, Reads.tuple ho hc hd q, hn⟩
  | _, _, _, .dic hd ha, r => by
    cases r
    obtain ⟨z, hsy, vs, rel, o, es, ep, ho, hx, hdat, _, pr, _⟩ := dk_rd I.hok hd
    obtain ⟨ek, ev⟩ := kv_keys rel
    have l := ha.len
    have l2 := l
    rw [List.length_map] at l2
    obtain ⟨bs, q, hn⟩ := DqAll.reads hs I ha ev
    refine ⟨_, Reads.dict (as := []) (bs := bs) ho hx.1 hdat ?_ ?_, ?_⟩
    · rw [zipL_fst (by rw [List.length_map]; exact l2), ek]
      exact keys_read pr
    · rw [zipL_snd (by rw [List.length_map]; exact l2), vals_of pr]
      exact q
    · rw [List.mem_append, List.mem_singleton]
      rintro (e | e)
      · exact rd_nosys hs I hd e
      · exact hn e
theorem DqAll.reads (hs : ∃ o, X.base.get? sysModules = some o) (I : Inv X pins σ H s) : ∀ {ds : List PyData} {vs : List V} {us : List Value}, DqAll X.K H vs ds → Vals vs us → ∃ as, ReadsAll s.heap us ds as ∧ sysModules ∉ as
  | _, _, _, .nil, r => by cases r; exact ⟨_, ReadsAll.nil, by simp⟩
  | _, _, _, .cons h1 h2, r => by
    cases r with
    | cons r1 r2 =>
      obtain ⟨as, q1, n1⟩ := Dq.reads hs I h1 r1
      obtain ⟨bs, q2, n2⟩ := DqAll.reads hs I h2 r2
      exact ⟨_, ReadsAll.cons q1 q2, by rw [List.mem_append]; rintro (e | e); exact n1 e; exact n2 e⟩
end
end
/-! ### the data -/
section
variable {K : Fg} {mg : Mg} {O : AP} {H : Hp}
end
def okQ (p : PyData) : Prop := p.showable = true ∧ p.depth ≤ 60 ∧ p.shown.length ≤ sizeLine
instance (p : PyData) : Decidable (okQ p) := inferInstanceAs (Decidable (_ ∧ _))
section
variable {X : Cx}
end
end T

/-! T93: the law's call, with what stands at the table of modules. -/
namespace T
open PySem PySem.Spec PyProof.Rows L2
end T

set_option maxHeartbeats 4000000
/-! T106: the end of a law with lambdas that shows dicts (T51, T93). -/
namespace T
open PySem PySem.Spec PyProof.Rows L2 LamX Lam1
end T

/-! T94: x == (), x a tuple of anything; isinstance of an exception with several classes. -/
namespace T
open PySem PySem.Spec PyProof.Rows L2
section
variable {X : Cx}
end
end T

/-! T95: a tuple times an int, a whole tuple again. -/
namespace T
open PySem PySem.Spec PyProof.Rows L2
theorem vals_rep {xs : List V} {its : List Value} (r : Vals xs its) : ∀ n : Nat, Vals (List.replicate n xs).flatten (List.replicate n its).flatten
  | 0 => .nil
  | n + 1 => by
    rw [List.replicate_succ, List.replicate_succ, List.flatten_cons, List.flatten_cons]
    exact r.append (vals_rep r n)
section
variable {X : Cx}
end
end T

/-! T96: isinstance of a caught exception, with two classes. -/
namespace T
open PySem PySem.Spec PyProof.Rows L2
section
variable {X : Cx}
variable {f : FE} {e : Expr} {y1 y2 : Str} {C1 C2 : Addr} {p p1 p2 pos tpos : Pos} {j : Nat} {tab : List (Str × Bool)}
end
end T

set_option maxHeartbeats 4000000
/-! T97: a built-in function of what may let an exception out; a comparison of it as a test. -/
namespace T
open PySem PySem.Spec PyProof.Rows L2
section
variable {X : Cx} {W : L2.WX} {e e2 : Expr} {f : FEX} {g : FE} {fa fb : FSX} {o : OL} {o2 : O2} {r : List V → Hp → VK → Prop} {r2 : R2} {x : Str} {p pos pos' : Pos} {bn : String}
end
section
variable {ρ : Ev} {f : FEX} {g : FE} {fa fb : FSX} {o2 : O2} {p : Xc × Ev} {q : Sl × Ev}
end
end T

/-! T98: {..}.get(x, y) of a dict made on the spot; x == ("text",) and x != () of a tuple of anything; a bool plus an int, minus a bool. -/
namespace T
open PySem PySem.Spec PyProof.Rows L2
section
variable {X : Cx} {e0 e e2 : Expr} {d f g : FE} {p apos cpos : Pos}
end
section
variable {X : Cx}
end
section
variable {X : Cx}
end
/-! ### bools as numbers -/
section
variable {X : Cx} {e : Expr} {f : FE} {pos : Pos}
end
end T

/-! T99: an exception of the program made as an expression, by position or by name; it is data at once. -/
namespace PySem.TX0
open PySem
open PySem.HandSPX (excO)

/-! ### type.__call__ with keywords -/
section
variable {prog : Program} {w : World} {A : Around} {E : Value → Shared → Prop} {R : Result → Shared → Prop} {h : Heap} {g : Array GenState} {d : Drawn} {t : Nat} {os : OsState}
variable {nm q : Str} {C N : Addr} {bs bm bmB : List Value} {hdct : Bool} {sn : List Str} {sub : List Value} {ab : Bool} {col : Option Bool} {dd : Option Addr} {k0 k1 k2 k3 k5 : Option Value} {B newId initId : String}
end
end PySem.TX0
namespace T
open PySem PySem.Spec PyProof.Rows L2
open PySem.TX0

/-! ### the made exception stays -/
section
variable {X : Cx} {pins : List (Addr × Obj)} {σ : L2.St}
end

/-! ### C(e), C(p=e), C() -/
section
variable {X : Cx} {c g : Str} {C fI : Addr} {fd : FuncData} {p : Str} {k : Nat} {e : Expr} {f : FE} {np pos kpos : Pos}
end
end T

set_option maxHeartbeats 4000000
/-! T100: len(x) of an object with a __len__ of its own; cls(..) and C.m(..) of a classmethod; f(x, <new object>, ..). -/
namespace T
open PySem PySem.Spec PyProof.Rows L2
/-! ### a class as a value -/
section
variable {X : Cx} {i k : Nat} {c x m : Str} {fl : List Str} {C g : Addr} {f : FE} {e o : Expr} {es : List Expr} {as : List Ag} {fs : List FE} {F : FF} {gd : FuncData} {ps : List Str} {p pos apos : Pos} {pl : Sem Bool}
end
/-! ### C.m(..), m a classmethod -/
section
variable {X : Cx} {CX : CXT} {k : Nat} {C p g : Addr} {mc : Value} {sp : Sp} {E : XK} {o e : Expr} {es : List Expr} {f m : Str} {pos apos : Pos} {ta : TE} {t : TA} {pl : Sem Bool} {fd : FuncData} {ps : List Str}
end
/-! ### f(x, <new object>, ..) -/
section
variable {X : Cx} {e e0 : Expr} {es : List Expr} {f : FE} {fs : List FE} {F : FF} {i k : Nat} {fa : Addr} {fd : FuncData} {ps : List Str} {x y : Str} {p p0 pos : Pos}
end
/-! ### len(x), x an object with a __len__ of its own -/
section
variable {X : Cx}
variable {k i : Nat} {c x : Str} {fl : List Str} {C g : Addr} {F : FF} {gd : FuncData} {ps : List Str} {p q pos : Pos}
end
end T

/-! T101: a def that calls itself, by levels. -/
namespace T
open PySem PySem.Spec PyProof.Rows L2
end T

/-! T102: records: dicts of which some values are lists of their own. -/
namespace T
open PySem PySem.Spec PyProof.Rows L2

/-! ### a record's values -/
section
variable {K : Fg} {mg : Mg} {w : Wd} {ρ ρ' : Ev} {σ : L2.St} {H : Hp} {i j : Nat} {ks : List Key} {ds : List D} {d e e' y : D} {v : V} {O : AP} {F : AP} {k : Key}
end
section
variable {K : Fg} {mg : Mg} {w : Wd} {ρ ρ' : Ev} {σ : L2.St} {H : Hp} {i j : Nat} {ks : List Key} {d e e' y : D} {v : V} {k : Key}
end
/-! ### the rules -/
section
variable {X : Cx} {i j l : Nat} {x : Str} {ks : List Key} {k k2 : Str} {fv g : FE} {e b : Expr} {p pos pos' apos cpos cp cp2 p' p2 p2' : Pos} {cj cj2 : Nat} {kk : Nat}
end
section
variable {X : Cx} {k1 k2 k3 : Str} {c1 c2 c3 : Nat} {p1 p2 p3 lp pos : Pos} {e1 e2 : Expr} {f g : FE}
end
end T

set_option maxHeartbeats 4000000
/-! T103: x(lambda: body), x a def that calls what it got; the body writes a thing of the maker's. The thing is lent to x in a slot that no name of x's tells. -/
namespace T
open PySem PySem.Spec PyProof.Rows L2

/-! ### a slot's thing told with its place -/
section
variable {K : Fg} {mg : Mg} {w : Wd} {ρ : Ev} {σ : L2.St} {H : Hp} {r : Nat} {s : Sl} {d d' : D} {a : Addr}
end
/-! ### the lambda's frame, within the frame that calls it -/
section
variable {K : Fg} {mg : Mg} {w' : Wd} {ρ ρ2 ρZ : Ev} {σ σZ : L2.St} {H2 HZ : Hp} {r j : Nat} {d0 d1 : D} {a : Addr}
end
/-! ### the call of what was got -/
section
variable {X : Cx} {pins pinsZ pn : List (Addr × Obj)} {σ σZ : L2.St} {H HZ : Hp} {s sZ : Shared} {scope sg : Scope} {CXg : CXT} {Eg : XK} {Ng : List Str} {qg : Str} {g f c' P aR : Addr} {cdg pm ctv : Value} {params : Arguments} {body : Expr} {k i j r : Nat} {a : Str} {xe : Value → Shared → Prop} {W : L2.WX} {fb : FEX} {p1 p2 lpos : Pos} {ρm : Ev} {A0 : Ask} {d0 d1 : D}
end
/-! ### a name that no scope tells -/
/-! ### the rule -/
section
variable {X : Cx}
end
end T

/-! T104: the laws' records of rings; a, b, c = x, y, z where x and y are plain. -/
namespace T
open PySem PySem.Spec PyProof.Rows L2
section
variable {X : Cx} {k : Nat} {f : Addr} {fd : FuncData} {ps : List Str} {F : FF} {x : Str} {p pos : Pos}
end
/-! ### mirrors of records run -/
section
variable {ρ : Ev} {i j l : Nat} {f g : FE} {d p rows : D} {past : List D} {k1 k2 k3 : Str}
end
end T

/-! T105: x.m() of a method that takes any number; several defs whose lambdas are made. -/
namespace T
open PySem PySem.Spec PyProof.Rows L2
section
variable {X : Cx} {CX : CXT} {W : L2.WX} {k : Nat} {C f : Addr} {m : Str} {sp : Sp} {E : XK} {o : Expr} {ta : TE} {apos pos : Pos} {pl : Sem Bool}
end
section
variable {X : Cx} {W : L2.WX} {i k : Nat} {c x m : Str} {fl : List Str} {C g : Addr} {F : FF} {FX : FFX} {p pos apos : Pos} {pl : Sem Bool}
end
end T

set_option maxHeartbeats 4000000
/-! T107: C(..), cls(..), C.m(..) of a classmethod, where an exception may leave. -/
namespace T
open PySem PySem.Spec PyProof.Rows L2
section
variable {X : Cx} {W : L2.WX} {i k : Nat} {c x m : Str} {fl : List Str} {C g f p0 : Addr} {fd gd : FuncData} {e o : Expr} {es : List Expr} {fs : List FE} {F : FFX} {ps : List Str} {p pos apos : Pos} {sp : Sp} {t : TA} {ta : TE} {mc : Value} {pl : Sem Bool}
end
section
variable {X : Cx} {W : L2.WX} {i k : Nat} {c x m : Str} {fl : List Str} {C g f p0 : Addr} {fd gd : FuncData} {e o : Expr} {es : List Expr} {fs : List FE} {F : FFX} {ps : List Str} {p pos apos : Pos} {sp : Sp} {t : TA} {ta : TE} {mc : Value} {pl : Sem Bool}
/-! ### C.m(..), m a classmethod -/
end
/-! ### what they compute -/
section
variable {ρ : Ev} {i : Nat} {c : Str} {F : FFX} {fs : List FE} {C : Addr}
end
end T

set_option maxHeartbeats 4000000
/-! T108: generators: if and for around a yield. -/
namespace L2
open PySem PySem.Spec PyProof.Rows GenW
section
variable {X : Cx} {c : Expr} {a b : List Stmt} {pos : Pos}
end
section
variable {prog : Program} {w : World} {A : Around} {R : GenEnd} {Y : Protocol} {n : Nat} {s₀ : Shared} {fs : List Frame} {s : Shared} {env : Env}
end
section
variable {X : Cx} {iter tg : Expr} {body : List Stmt} {pos : Pos}
end
end L2

set_option maxHeartbeats 4000000
/-! T109: mirrors of generators: what is out so far goes along as data. -/
namespace T
open PySem PySem.Spec PyProof.Rows L2
/-- a statement of a generator: the slots, what is out so far -/
abbrev FG := Ev → List D → Option (Rs × List D)
def FinGn (K : Fg) (mg : Mg) (w : Wd) (r : Rs × List D) (Dn : GEnds) : Prop := match r.1 with
  | .nx ρ => ∀ ys σ H, SR K mg w ρ σ H → Rps K mg (Ex w.E ρ σ H) H r.2 ys → Dn.nx ys σ H
  | .bk ρ => ∀ ys σ H, SR K mg w ρ σ H → Rps K mg (Ex w.E ρ σ H) H r.2 ys → Dn.bk ys σ H
  | .ct ρ => ∀ ys σ H, SR K mg w ρ σ H → Rps K mg (Ex w.E ρ σ H) H r.2 ys → Dn.ct ys σ H
  | .rt (.sh .non) ρ => ∀ ys σ H, SR K mg w ρ σ H → Rps K mg (Ex w.E ρ σ H) H r.2 ys → Dn.rt ys .non H
  | .rt _ _ => False
theorem FinGn.back {K : Fg} {mg : Mg} {w : Wd} {ρ : Ev} {σ : L2.St} {H : Hp} {r : Rs × List D} {Dn : GEnds} (S : SR K mg w ρ σ H) (h : FinGn K mg w r Dn) : FinGn K mg (w.fill ρ σ H) r Dn := by
  obtain ⟨r, es⟩ := r
  match r, h with
  | .nx ρ, h => exact fun ys σ' H' S' R => h ys σ' H' (S.back S') R
  | .bk ρ, h => exact fun ys σ' H' S' R => h ys σ' H' (S.back S') R
  | .ct ρ, h => exact fun ys σ' H' S' R => h ys σ' H' (S.back S') R
  | .rt (.sh .non) ρ, h => exact fun ys σ' H' S' R => h ys σ' H' (S.back S') R
/-! ### statements -/
/-! ### for -/
end T

set_option maxHeartbeats 4000000
/-! T110: a generator def's promise with the guards known (GFnG), list(g). Turned from HandS.GenCall, HandS.GenList (t110.py). -/
namespace T
open PySem PySem.Spec PyProof.Rows L2 GenW
/-- what a call of a generator def gives: a generator that has not begun -/
def GMadeG (P : Program) (w : World) (k : Nat) (outer : List Env) (H : Hp) (s : Shared) (ex : List Addr) (Q : List V → Hp → Prop) (E : XK) (u : Value) (s' : Shared) : Prop :=
  ∃ (a : Addr) (g : Nat) (c : Code), u = .ref a ∧ s.heap.objs.size ≤ a ∧ a < s'.heap.objs.size ∧ s'.heap.IsGen a g ∧ s'.gens[g]? = some (.fresh c) ∧ s'.os = s.os ∧ AllBare s'.gens ∧ s'.heap.NoLimit ∧ (∀ b o, s.heap.get? b = some o → s'.heap.get? b = some o) ∧
    ∀ (A : Around) (S : Addr) (s2 : Shared), RoomG k A → A.frames = some outer → s'.heap.objs.size ≤ S → (∀ b o, s'.heap.get? b = some o → s2.heap.get? b = some o) → (∃ c, s2.heap.get? S = some (lstObj #[] c)) → s2.os = s.os → AllBare s2.gens →
      Seg (model P w) A (REnd P w outer H s ex S a g Q E) (YItem s S a g) sizeLine s2 c ((model P w).den c) [] s2

structure GFnG (P : Program) (w : World) (K : PySem.W.Frag) (mg : Str → Option Value) (base : Heap) (k : Nat) (f : Addr) (fd : FuncData) (ps : List Str) (sp : SpG) : Prop where
  len : ∀ vs H Q E, sp vs H Q E → vs.length = ps.length
  run : ∀ (A : Around) (outer : List Env) (s : Shared) (H : Hp) (args : Args) (us : List Value) (vs : List V) (Q : List V → Hp → Prop) (E : XK), RoomG k A → Env0 P w K mg base A outer s H → BindsTo s fd args (ps.zip us) → Vals vs us → sp vs H Q E →
    codeAny (model P w) A (.call (.ref f) args) (fun r s' => match r with | .ok (.ret u) => GMadeG P w k outer H s [] Q E u s' | _ => False) s

section
variable {X : Cx} {k : Nat} {f C : Addr} {fd : FuncData} {ps : List Str} {sp : SpG} {dvs : List V} {ds : List Value} {x m : Str} {p pos pos' apos : Pos} {o : Expr} {ta : TE}
structure PGenG (X : Cx) (k : Nat) (e : Expr) (tg : TGen) (E : XK) : Prop where
  run : ∀ (pins : List (Addr × Obj)) (s : Shared) (σ : L2.St) (H : Hp) (cont : List V → Hp → Prop), Inv X pins σ H s → tg σ H cont → wpAny (model X.prog X.w) X.A (eval e X.env)
    (fun u s' => ∃ H1 sc ex, Inv X pins σ H1 sc ∧ ExOk X pins ex ∧ GMadeG X.prog X.w k X.stack H1 sc ex cont E u s') X.xe s
end
end T

set_option maxHeartbeats 4000000
/-! T111: generator defs over plain data; list(f(..)). -/
namespace T
open PySem PySem.Spec PyProof.Rows L2
/-- a generator def: what it hands out, the slots behind it -/
abbrev FFG := List Sl → Option (List D × List Sl)
/-! ### list(f(..)) -/
section
variable {X : Cx} {x : Str} {f : Addr} {fd : FuncData} {ps : List Str} {k : Nat} {F : FFG} {as : List Ag} {e : Expr} {es : List Expr} {np lp pos pos' : Pos}
end
end T

/-! T112: how the mirrors of generators reckon. -/
namespace T
open PySem PySem.Spec L2
section
variable {f g : FG} {h : FS} {c : FT} {fe : FE} {ρ : Ev} {ds es : List D} {t : Tg} {src : FI} {s : Sl} {d : D} {r : List D}
def RsG.on (g : FG) : Rs × List D → Option (Rs × List D)
  | (.nx ρ, es) => g ρ es
  | r => some r
@[simp] theorem onG_nx : RsG.on g (.nx ρ, es) = g ρ es := nrfl rfl
@[simp] theorem onG_rt : RsG.on g (.rt s ρ, es) = some (.rt s ρ, es) := nrfl rfl
@[simp] theorem onG_bk : RsG.on g (.bk ρ, es) = some (.bk ρ, es) := nrfl rfl
@[simp] theorem onG_ct : RsG.on g (.ct ρ, es) = some (.ct ρ, es) := nrfl rfl
end
end T

set_option maxHeartbeats 4000000
/-! T113: texts: split, join, partition, count, int(text), a sign in a text, a walk over the signs of a text. -/
namespace T
open PySem PySem.Spec PyProof.Rows L2
/-- the texts in a list -/
def strsD : List D → Option (List Str)
  | [] => some []
  | .str x :: r => (strsD r).map (x :: ·)
  | _ => none
theorem strsD_some : ∀ {ds : List D} {ys : List Str}, strsD ds = some ys → ds = ys.map .str
  | [], ys, h => by cases h; rfl
  | .str x :: r, ys, h => by
    obtain ⟨zs, hz, e⟩ := Option.map_eq_some_iff.mp (show (strsD r).map (x :: ·) = some ys from h)
    subst e
    rw [strsD_some hz]; rfl
  | .non :: _, _, h => by cases h
  | .bl _ :: _, _, h => by cases h
  | .int _ :: _, _, h => by cases h
  | .tup _ :: _, _, h => by cases h
  | .lst _ :: _, _, h => by cases h
  | .scr _ :: _, _, h => by cases h
  | .tpw _ :: _, _, h => by cases h
  | .obj _ _ _ :: _, _, h => by cases h
  | .dic _ _ :: _, _, h => by cases h
  | .dit _ _ :: _, _, h => by cases h
  | .ty _ :: _, _, h => by cases h
  | .exc _ _ _ :: _, _, h => by cases h
  | .lam _ _ _ :: _, _, h => by cases h
  | .obx _ _ _ :: _, _, h => by cases h
  | .dix _ _ :: _, _, h => by cases h
  | .stn _ _ :: _, _, h => by cases h
  | .box _ :: _, _, h => by cases h
@[simp] theorem strsD_map : ∀ {ys : List Str}, strsD (ys.map .str) = some ys
  | [] => rfl
  | y :: ys => by show (strsD (ys.map .str)).map (y :: ·) = _; rw [strsD_map]; rfl
theorem Rps.strs {K : Fg} {mg : Mg} {O : AP} {H : Hp} : ∀ {ys : List Str} {vs : List V}, Rps K mg O H (ys.map .str) vs → vs = ys.map V.str
  | [], _, .nil => rfl
  | y :: ys, _, .cons r t => by cases r; rw [t.strs]; rfl
theorem Rps.ofStrs {K : Fg} {mg : Mg} {O : AP} {H : Hp} : ∀ {ys : List Str}, Rps K mg O H (ys.map .str) (ys.map V.str)
  | [] => .nil
  | y :: ys => .cons (.str y) Rps.ofStrs
def splitO : O2 := fun x y => match x, y with
  | .str a, .str b => if (b.length == 0) = false ∧ a.length + 2 ≤ sizeLine then some (.ow (.lst ((Txt.split a b).map .str))) else none
  | _, _ => none
def joinO : O2 := fun x y => match x, y with
  | .str a, .lst ds => (strsD ds).bind fun ys => if (ys.map (·.length)).sum + ys.length * a.length ≤ 16777216 then some (.sh (.str (Txt.join a ys))) else none
  | .str a, .tup ds => (strsD ds).bind fun ys => if (ys.map (·.length)).sum + ys.length * a.length ≤ 16777216 then some (.sh (.str (Txt.join a ys))) else none
  | _, _ => none
def inSO : O2 := fun x y => match x, y with
  | .str a, .str z => match a.cps.toList with
    | [c] => some (.sh (.bl (decide (c ∈ z.cps.toList))))
    | _ => none
  | _, _ => none
def intSD : List D → Option D
  | [.str a] => (PySem.intText? a).bind fun n => if a.length ≤ 640 then some (.int n) else none
  | _ => none
section
variable {X : Cx} {c : Expr} {f g : FE}
theorem e_splitO (h : PE X c (tM1 (fun x xs H Q => ∃ a b, x = .str a ∧ xs = [.str b] ∧ (b.length == 0) = false ∧ a.length + 2 ≤ sizeLine ∧ rNewStrs (Txt.split a b) H Q) (denE X.K X.mg f) (denE X.K X.mg g))) : EX X c (eBin splitO f g) := pe_imp h fun σ H Q q => by
  obtain ⟨w, ρ, S, s, ρ', hf, k⟩ := q
  obtain ⟨⟨dx, dy, ρ2⟩, h1, hf⟩ := Option.bind_eq_some_iff.mp hf
  obtain ⟨s3, h3, e3⟩ := Option.map_eq_some_iff.mp hf
  cases e3
  obtain ⟨s1, ρ1, s2, g1, g2, g3, g4⟩ := opt2_some h1
  replace h3 : splitO dx dy = some s := h3
  unfold splitO at h3
  split at h3
  · rename_i a b
    split at h3
    · rename_i hz
      cases h3
      refine one S g1 g2 fun v H1 S1 r1 => ?_
      cases r1
      refine ⟨⟨_, rfl⟩, one S1.fill g3 g4 fun v2 H2 S2 r2 => ?_⟩
      cases r2
      exact ⟨_, _, rfl, rfl, hz.1, hz.2, fun p hp => k _ _ (VR.newL (S1.back S2) hp Rps.ofStrs)⟩
    · cases h3
  · cases h3
theorem e_joinO (h : PE X c (tM1 (fun x xs H Q => ∃ a p, ∃ ys : List Str, x = .str a ∧ xs = [.ref p] ∧ (SqL X.K H p (ys.map V.str) ∨ SqT X.K H p (ys.map V.str)) ∧
      (ys.map (·.length)).sum + ys.length * a.length ≤ 16777216 ∧ Q (.str (Txt.join a ys)) H) (denE X.K X.mg f) (denE X.K X.mg g))) : EX X c (eBin joinO f g) := pe_imp h fun σ H Q q => by
  obtain ⟨w, ρ, S, s, ρ', hf, k⟩ := q
  obtain ⟨⟨dx, dy, ρ2⟩, h1, hf⟩ := Option.bind_eq_some_iff.mp hf
  obtain ⟨s3, h3, e3⟩ := Option.map_eq_some_iff.mp hf
  cases e3
  obtain ⟨s1, ρ1, s2, g1, g2, g3, g4⟩ := opt2_some h1
  replace h3 : joinO dx dy = some s := h3
  unfold joinO at h3
  split at h3
  · rename_i a ds
    obtain ⟨ys, hy, h3⟩ := Option.bind_eq_some_iff.mp h3
    split at h3
    · rename_i hz
      cases h3
      have e := strsD_some hy
      subst e
      refine one S g1 g2 fun v H1 S1 r1 => ?_
      cases r1
      refine ⟨⟨_, rfl⟩, one S1.fill g3 g4 fun v2 H2 S2 r2 => ?_⟩
      obtain ⟨p, vs, rfl, hs, rr⟩ := r2.lstAt
      have ev := rr.strs
      subst ev
      exact ⟨_, p, ys, rfl, rfl, .inl (SqL.of hs), hz, k _ _ ⟨S1.back S2, .str _⟩⟩
    · cases h3
  · rename_i a ds
    obtain ⟨ys, hy, h3⟩ := Option.bind_eq_some_iff.mp h3
    split at h3
    · rename_i hz
      cases h3
      have e := strsD_some hy
      subst e
      refine one S g1 g2 fun v H1 S1 r1 => ?_
      cases r1
      refine ⟨⟨_, rfl⟩, one S1.fill g3 g4 fun v2 H2 S2 r2 => ?_⟩
      obtain ⟨p, vs, rfl, hs, rr⟩ := r2.tupAt
      have ev := rr.strs
      subst ev
      exact ⟨_, p, ys, rfl, rfl, .inr hs, hz, k _ _ ⟨S1.back S2, .str _⟩⟩
    · cases h3
  · cases h3
/-- one sign in a text -/
def rInS : R2 := fun x y H Q => ∃ (c : Nat) (z : Str), x = .str ⟨#[c]⟩ ∧ y = .str z ∧ Q (.bl (decide (c ∈ z.cps.toList))) H
theorem op_inS : OpR X (compareOp .In) rInS := op_in_sign
theorem x_inS : OpS X rInS inSO := ⟨fun w ρ σ H x y dx dy s Q S rx ry e k => by
  unfold inSO at e
  split at e
  · rename_i a z
    split at e
    · rename_i c hc
      cases e
      cases rx; cases ry
      have ea : a = ⟨#[c]⟩ := by
        obtain ⟨cs⟩ := a
        have : cs = #[c] := by
          have h : cs.toList = [c] := hc
          exact Array.toList_inj.mp h
        rw [this]
      subst ea
      exact ⟨c, z, rfl, rfl, k _ _ ⟨S, .bl _⟩⟩
    · cases e
  · cases e⟩
theorem p_intS : CaP X (fun xs H Q => ∃ a n, xs = [.str a] ∧ PySem.intText? a = some n ∧ a.length ≤ 640 ∧ Q (.int n) H) intSD := by
  refine ⟨fun ds d h => ?_, fun O H vs ds d Q r h k => ?_⟩
  · unfold intSD at h
    split at h
    · obtain ⟨n, hn, h⟩ := Option.bind_eq_some_iff.mp h
      split at h
      · cases h; exact ⟨_, .int _⟩
      · cases h
    · cases h
  · unfold intSD at h
    split at h
    · rename_i a
      obtain ⟨n, hn, h⟩ := Option.bind_eq_some_iff.mp h
      split at h
      · rename_i hz
        cases h
        obtain ⟨v, rfl, q⟩ := one_paired r
        have ev : v = .str a := by
          rcases q with q | ⟨b, rfl, q⟩
          · cases q; rfl
          · cases q
        rw [ev]
        exact ⟨a, n, rfl, hn, hz, k _ (.int _)⟩
      · cases h
    · cases h
/-! ### a text some times -/
/-! ### the signs of a text -/
def signsD (z : Str) : List D := z.cps.toList.map fun c => .str ⟨#[c]⟩
def iSgn (f : FE) : FI := fun ρ => (f ρ).bind fun p => (vl p.1).bind fun d => match d with
  | .str z => some (signsD z, p.2)
  | _ => none
theorem its_str {K : Fg} {mg : Mg} {C : Hp} {z : Str} : ItS K mg C (signsD z) (Its z) := by
  have len : (signsD z).length = z.cps.size := by unfold signsD; rw [List.length_map, Array.length_toList]
  refine ⟨fun H _ => ?_, fun i hi H _ => ?_, fun i d hd w ρ σ H x H' S hC hE hy => ?_⟩
  · show z.cps.size ≤ (signsD z).length
    rw [len]; exact Nat.le_refl _
  · show i < z.cps.size
    rw [← len]; exact hi
  · obtain ⟨rfl, c, hc, rfl⟩ := hy
    unfold signsD at hd
    rw [List.getElem?_map, Array.getElem?_toList, hc] at hd
    cases hd
    exact ⟨S, .str _, fun _ _ e => e⟩
theorem i_sgn {tg e : Expr} {f : FE} (he : EX X e f) : IX X tg e (iSgn f) := pi_imp (pi_str he) fun σ H R h => by
  obtain ⟨w, ρ, S, xs, ρ', hf, k⟩ := h
  obtain ⟨⟨s, ρ1⟩, h1, hf⟩ := Option.bind_eq_some_iff.mp hf
  obtain ⟨d, hd, hf⟩ := Option.bind_eq_some_iff.mp hf
  cases d with
  | str z =>
    cases hf
    refine one S h1 hd fun v H1 S1 r1 => ?_
    cases r1
    exact ⟨z, rfl, k _ H1 (fun _ => none) S1 (fun a o h => by cases h) its_str⟩
  | _ => cases hf
end
section
variable {ρ : Ev} {f : FE} {a b z : Str} {ys : List Str}
@[simp] theorem iSgn_e : iSgn f ρ = (f ρ).bind fun p => (vl p.1).bind fun d => match d with
  | .str z => some (signsD z, p.2)
  | _ => none := nrfl rfl
@[simp] theorem splitO_e : splitO (.str a) (.str b) = if (b.length == 0) = false ∧ a.length + 2 ≤ sizeLine then some (.ow (.lst ((Txt.split a b).map .str))) else none := nrfl rfl
theorem joinO_l : joinO (.str a) (.lst (ys.map .str)) = if (ys.map (·.length)).sum + ys.length * a.length ≤ 16777216 then some (.sh (.str (Txt.join a ys))) else none := by
  show (strsD (ys.map .str)).bind _ = _
  rw [strsD_map]; rfl
theorem inSO_e {c : Nat} : inSO (.str ⟨#[c]⟩) (.str z) = some (.sh (.bl (decide (c ∈ z.cps.toList)))) := rfl
theorem intSD_e {n : Int} (h : PySem.intText? a = some n) (hz : a.length ≤ 640) : intSD [.str a] = some (.int n) := by
  show (PySem.intText? a).bind _ = _
  rw [h]
  show (if a.length ≤ 640 then some (D.int n) else none) = _
  rw [if_pos hz]
end
end T

namespace T
open PySem PySem.Spec PyProof.Rows L2
-- lines_of: 0=text
noncomputable def mb_lines_of : FS := (sSeq (sIf (tNot' (tOf (eFn (shO isiD) [(eVar 0), (eC (.ty "str"))]))) sNo sNil)
  (sRet (eBin splitO (eVar 0) (eC (.str "\n")))))
noncomputable def m_lines_of : FF := runDef 1 0 mb_lines_of
-- number_in: 0=word 1=digits 2=sign
noncomputable def mb_number_in_C1 : FE := eLc [2] (.n 2) (iSgn (eVar 0)) tTrue (eBin inSO (eVar 2) (eC (.str "0123456789")))
noncomputable def mb_number_in : FS := (sSeq (sIf ((tOr' (tNot' (tOf (eChain ltO leO (eC (.int 0)) (eFnV lenD 0) (eVar 1)))) (tNot' (tOf (eFn (shO allD) [(mb_number_in_C1)]))))) (sRet (eC .non)) sNil)
  (sRet (eIf ((tOr' (tOf (eBin eqO (eVar 0) (eC (.str "0")))) (tOf (eBin neO (eIxV 0 (eC (.int 0))) (eC (.str "0")))))) (eFn (shO intSD) [(eVar 0)]) (eC .non))))
noncomputable def m_number_in : FF := runDef 2 1 mb_number_in
-- numbers_in: 0=words 1=digits 2=numbers 3=word
noncomputable def mb_numbers_in_C1 : FE := eLc [3] (.n 3) (iSeq (eVar 0)) tTrue (eCall m_number_in [] [.e (eVar 3), .e (eVar 1)])
noncomputable def mb_numbers_in : FS := (sSeq (sSet 2 (mb_numbers_in_C1))
  (sRet (eIf (tOf (eBin (inO false) (eC .non) (eVar 2))) (eC .non) (eFn tupleO [(eVar 2)]))))
noncomputable def m_numbers_in : FF := runDef 2 2 mb_numbers_in
-- read_table: 0=text 1=found 2=number 3=line 4=pair
-- show_table: 0=table 1=length 2=weight
-- show_system: 0=system 1=length 2=weight
noncomputable def mb_show_system_C1 : FE := eLc [1, 2] (.t [(.n 1), (.n 2)]) (iSeq (eVar 0)) tTrue (eBin catO (eBin catO (eFn (shO strD) [(eVar 1)]) (eC (.str "*"))) (eFn (shO strD) [(eVar 2)]))
noncomputable def mb_show_system : FS := (sRet (eBin joinO (eC (.str " ")) (mb_show_system_C1)))
noncomputable def m_show_system : FF := runDef 1 2 mb_show_system
-- show_script: 0=requests 1=item
noncomputable def mb_show_script_C1 : FE := eLc [1] (.n 1) (iSeq (eVar 0)) tTrue (eIf (tOf (eBin isNonO (eVar 1) (eC .non))) (eC (.str "pop")) (eFn (shO strD) [(eVar 1)]))
noncomputable def mb_show_script : FS := (sRet (eIf (tOf (eBin neO (eVar 0) (eTup []))) (eBin joinO (eC (.str " ")) (mb_show_script_C1)) (eC (.str "-"))))
noncomputable def m_show_script : FF := runDef 1 1 mb_show_script
-- law_system_text: 0=_law_system_here 1=_law_length 2=_law_weight
noncomputable def mb_law_system_text_C1 : FE := eLc [1, 2] (.t [(.n 1), (.n 2)]) (iSeq (eVar 0)) tTrue (eBin catO (eBin catO (eFn (shO strD) [(eVar 1)]) (eC (.str "*"))) (eFn (shO strD) [(eVar 2)]))
noncomputable def mb_law_system_text : FS := (sRet (eBin joinO (eC (.str " ")) (mb_law_system_text_C1)))
noncomputable def m_law_system_text : FF := runDef 1 2 mb_law_system_text
-- law_script_text: 0=_law_script_here 1=_law_item
noncomputable def mb_law_script_text_C1 : FE := eLc [1] (.n 1) (iSeq (eVar 0)) tTrue (eIf (tOf (eBin isNonO (eVar 1) (eC .non))) (eC (.str "pop")) (eFn (shO strD) [(eVar 1)]))
noncomputable def mb_law_script_text : FS := (sRet (eIf (tOf (eBin neO (eVar 0) (eTup []))) (eBin joinO (eC (.str " ")) (mb_law_script_text_C1)) (eC (.str "-"))))
noncomputable def m_law_script_text : FF := runDef 1 1 mb_law_script_text
-- law_table_text: 0=_law_pairs 1=_law_length 2=_law_weight
-- law_script: 0=_law_pot_here 1=_law_count 2=_law_most 3=_law_some 4=_law_turn 5=_law_kind
noncomputable def mb_law_script_C1 : FE := eLc [4] (.n 4) (iRg1 (eCall m_law_draw [] [.o 0, .e (eBin catO (eVar 2) (eC (.int 1)))])) tTrue (eCall m_law_draw [] [.o 0, .e (eBin catO (eBin catO (eVar 1) (eBin divO (eVar 1) (eC (.int 2)))) (eC (.int 1)))])
noncomputable def mb_law_script_C2 : FE := eLc [5] (.n 5) (iSeq (eVar 3)) tTrue (eIf (tOf (eBin ltO (eVar 5) (eVar 1))) (eVar 5) (eC .non))
noncomputable def mb_law_script : FS := (sSeq (sSet 3 (mb_law_script_C1))
  (sRet (eFn tupleO [(mb_law_script_C2)])))
noncomputable def m_law_script : FF := runDef 3 3 mb_law_script
end T

/-! T116: a tuple times a greater int. -/
namespace T
open PySem PySem.Spec PyProof.Rows L2
def rRepG0 (K : Fg) : R2 := fun x y H Q => ∃ l k xs, x = .ref l ∧ y = .int k ∧ SqT K H l xs ∧ xs ≠ [] ∧ 2 ≤ k ∧ k ≤ 10000 ∧ xs.length ≤ 100 ∧ newT (List.replicate k.toNat xs).flatten H Q
def rRepG (K : Fg) : R2 := fun x y H Q => rRepT1 K x y H Q ∨ rRepG0 K x y H Q
section
variable {X : Cx}
theorem op_repG0 : OpR X (binaryOp .Mult) (rRepG0 X.K) := by
  intro pins s σ H x y v u Q I rx ry h
  obtain ⟨l, k, xs, rfl, rfl, hT, hne, h1, h2, hz, q⟩ := h
  cases rx
  obtain ⟨t, rfl⟩ := ry
  obtain ⟨its, r, ⟨⟨cls, dd, data, sl⟩, ho, hc, n, hd⟩, hs⟩ := I.tuple hT
  simp only at hc hd
  subst hc hd
  have hle : its.length = xs.length := r.length.symm
  have hn : its ≠ [] := fun e => hne (List.eq_nil_of_length_eq_zero (by rw [← hle, e]; rfl))
  have hi : its.toArray.isEmpty = false := by
    cases its with
    | nil => exact absurd rfl hn
    | cons a b => rfl
  have hsz0 : its.toArray.size = xs.length := by rw [List.size_toArray, hle]
  have hm : ((its.toArray.size : Nat) : Int) * k ≤ 1000000 := by
    rw [hsz0]
    have a1 : ((xs.length : Nat) : Int) * k ≤ 100 * k := Int.mul_le_mul_of_nonneg_right (by omega) (by omega)
    omega
  have flen : ∀ {α : Type} (ys : List α), ys.length = xs.length → (List.replicate k.toNat ys).flatten.length ≤ sizeLine := fun ys e => by
    rw [PyProof.Rows.lm_len_rep_flat, e, sizeLine_eq]
    have a1 : k.toNat * xs.length ≤ 10000 * 100 := Nat.mul_le_mul (by omega) hz
    omega
  have c0 : (decide (k < -(2 ^ 63)) || decide (k ≥ 2 ^ 63)) = false := by rw [decide_eq_false (by omega), decide_eq_false (by omega)]; rfl
  have c1 : (its.toArray.isEmpty || k == 1) = false := by rw [hi, Bool.false_or]; exact beq_eq_false_iff_ne.mpr (by omega)
  have c2 : (decide (k ≤ 0) || its.toArray.isEmpty) = false := by rw [hi, Bool.or_false]; exact decide_eq_false (by omega)
  have c4 : Builtin.Tuple.tupleTooMany (((its.toArray.size : Nat) : Int) * k) = false := by
    unfold Builtin.Tuple.tupleTooMany
    rw [sizeLine_eq]
    exact decide_eq_false (by omega)
  refine wpAny_binaryOp_repeat_ref (T := "tuple") (U := "int") (by decide) ⟨_, ho, rfl⟩ (fun s' => typeIs_int s' k t) noFill_tuple_mul F.fills_int_mul F.slot_int_rmul repeat_tuple F.slot_int_index.lookup
    (call_meets F.slot_int_rmul (typeIs_int s k t) F.entry_int_rmul (F.args_int_rmul_2 _ _) (int_rmul_tuple k t l its.toArray n dd sl)
      ⟨ho, rfl, ⟨_, ho, rfl⟩, call_meets F.slot_tuple_mul ⟨_, ho, rfl⟩ F.entry_tuple_mul (F.args_tuple_mul_2 _ _) (tuple_mulW l its.toArray n dd sl k t c0 c1 c2 (by omega) c4 (by rw [size_rep, List.size_toArray]; exact flen its hle)) ⟨ho, ?_⟩⟩)
  rw [size_rep]
  exact new_ok (s := s) (h' := s.heap) I (flen xs rfl) (vals_rep r k.toNat) q
theorem op_repG : OpR X (binaryOp .Mult) (rRepG X.K) := op_repT1.or op_repG0
def repGO : O2 := fun x y => match x, y with
  | .tup ds, .int k => if k = 1 then some (.sh (.tup ds)) else if ds ≠ [] ∧ 2 ≤ k ∧ k ≤ 10000 ∧ ds.length ≤ 100 then some (.sh (.tup (List.replicate k.toNat ds).flatten)) else none
  | _, _ => none
theorem x_repG : OpS X (rRepG X.K) repGO := ⟨fun w ρ σ H x y dx dy s Q S rx ry e k => by
  unfold repGO at e
  split at e
  · rename_i ds n
    split at e
    · rename_i h
      subst h
      cases e
      obtain ⟨a, vs, rfl, hT, rr⟩ := rx.tupAt
      cases ry
      exact .inl ⟨a, vs, rfl, rfl, hT, k _ _ ⟨S, rx⟩⟩
    · split at e
      · rename_i h
        cases e
        obtain ⟨a, vs, rfl, hT, rr⟩ := rx.tupAt
        cases ry
        refine .inr ⟨a, n, vs, rfl, rfl, hT, fun z => ?_, h.2.1, h.2.2.1, by rw [← rr.len]; exact h.2.2.2, fun l o ho hl => k _ _ (VR.newT ho S hl (rps_rep rr n.toNat))⟩
        subst z
        exact h.1 (List.length_eq_zero_iff.mp rr.len)
      · cases e
  · cases e⟩
end
end T

/-! T114: a bool less an int, str of a bool; a def that is handed on as a value. -/
namespace T
open PySem PySem.Spec PyProof.Rows L2
section
variable {X : Cx} {e : Expr} {f : FE} {pos : Pos}
/-! ### str of an int, of a bool -/
end
/-! ### a def as a value -/
/-- the def at f, as data -/
abbrev fnD (f : Addr) : D := .lam f [] []
section
variable {X : Cx} {CX : CXT} {k i : Nat} {f : Addr} {fd : FuncData} {ps : List Str} {sp : Sp} {dvs : List V} {ds : List Value} {E : XK} {x a : Str} {p pos : Pos} {e : Expr} {es : List Expr} {t : TA} {F : FF} {as : List Ag}
/-- the name of a def -/
theorem e_fnv (hg : Gl X x) (hm : X.mg x = some (.ref f)) (hd : (x == ("__debug__" : Str)) = false := by decide) : EX X (.Name x pos) (eC (fnD f)) := pe_imp (pe_glob (v := .ref f) hg hm rfl hd) fun σ H Q h => by
  obtain ⟨w, ρ, S, s, ρ', hf, k⟩ := h
  cases hf
  exact k _ _ ⟨S, .lam .nil⟩
/-- the i-th slot holds the def at f, which is called -/
theorem peG_callL (F : FnX X CX k f fd ps sp) (hr : RoomG k X.A) (hN : X.N[i]? = some x) (hv : Vis X.env.scope x) (hk : PySem.W.keepIn X.K (.ref f) = true) (hb : Binds X.K fd ps ds) (hd : Vals dvs ds) (hx : Passes CX X E) (ha : PA X (e :: es) t)
    (hdb : (x == ("__debug__" : Str)) = false := by decide) (hcd : (x == ("__classdict__" : Str)) = false := by decide)
    (he : starEach (e :: es) X.env = (false, eval e X.env) :: starEach es X.env := by rfl) (hpl : (backTo pos (starEach es X.env)).any (·.1) = false := by rfl) :
    PE X (.Call (.Name x p) (e :: es) [] pos) (fun σ H Q => σ[i]? = some (some (.ref f)) ∧ tCall sp dvs E t σ H Q) := by
  refine ⟨fun pins s σ H Q I h => ?_⟩
  obtain ⟨hs, ht⟩ := h
  refine wpAny_Call_Name_kw (thn ((pe_var (pos := p) hN hv hdb hcd).run pins s σ H (fun v H1 => v = .ref f ∧ H1 = H) I ⟨.ref f, hs, rfl, rfl⟩) fun u s1 ⟨v, H1, I1, r1, q1⟩ => ?_)
  obtain ⟨rfl, rfl⟩ := q1
  cases r1
  refine PySem.W.callWith_K (h₀ := X.base) I.ok.mod.kin hk (thn (ha.run pos pins s1 σ _ _ I1 ht) fun us s2 ⟨vs, H2, I2, r, q⟩ => ⟨I2.kIn, ?_⟩) he hpl
  exact goG F hr hb hd hx I2 r q
/-- a(..), a holds the def at f -/
def eCallL (i : Nat) (f : Addr) (F : FF) (as : List Ag) : FE := fun ρ => match ρ[i]? with
  | some (.sh (.lam g [] [])) => if g = f then eCall F [] as ρ else none
  | _ => none
theorem e_callL (i : Nat) (G : FnX X CX0 k f fd ps (spT X.K X.mg F)) (hr : RoomG k X.A) (hk : PySem.W.keepIn X.K (.ref f) = true) (hb : L2.Binds X.K fd ps []) (ha : GX X (e :: es) as)
    (hN : X.N[i]? = some a := by rfl) (hv : Vis X.env.scope a := by first | exact Or.inl rfl | exact Or.inr (Or.inl rfl) | exact Or.inr (Or.inr rfl)) (hdb : (a == ("__debug__" : Str)) = false := by decide) (hcd : (a == ("__classdict__" : Str)) = false := by decide)
    (he : starEach (e :: es) X.env = (false, eval e X.env) :: starEach es X.env := by rfl) (hpl : (backTo pos (starEach es X.env)).any (·.1) = false := by rfl) :
    EX X (.Call (.Name a p) (e :: es) [] pos) (eCallL i f F as) := pe_imp (peG_callL G hr hN hv hk hb .nil pass0 ha hdb hcd he hpl) fun σ H Q h => by
  obtain ⟨w, ρ, S, s, ρ', hf, kk⟩ := h
  unfold eCallL at hf
  split at hf
  · rename_i g hi
    split at hf
    · rename_i e
      subst e
      obtain ⟨v, hv, r⟩ := S.sh hi
      cases r with
      | lam _ => exact ⟨hv, call_run (fun _ _ => .nil) ⟨w, ρ, S, s, ρ', hf, kk⟩⟩
    · cases hf
  · cases hf
end
section
variable {ρ : Ev} {i : Nat} {f : Addr} {F : FF} {as : List Ag}
theorem eCallL_e (h : ρ[i]? = some (.sh (fnD f))) : eCallL i f F as ρ = eCall F [] as ρ := by
  unfold eCallL
  rw [h]
  exact if_pos rfl
end
end T

/-! T115: a, *b = a list. -/
namespace T
open PySem PySem.Spec PyProof.Rows L2
section
variable {prog : Program} {w : World} {A : Around} {E : Value → Shared → Prop} {s : Shared}
theorem unpack_restL {t : Addr} {x : Value} {rest : List Value} {Q : List Value → Shared → Prop} (hh : A.handled = none) (ht : s.heap.IsList t (x :: rest).toArray) (hz : rest.length ≤ sizeLine)
    (hQ : ∀ (h' : Heap) (tk : Nat), (∀ b o, s.heap.get? b = some o → h'.get? b = some o) → Q [x, .ref h'.objs.size] { s with heap := h'.push { cls := .type "list", data := .seq rest.toArray }, toks := tk }) :
    wpAny (model prog w) A (unpackItems (.ref t) 2 (some 1)) Q E s := by
  have hlt : t ≠ s.heap.objs.size := by obtain ⟨o, ho, _⟩ := ht; exact Nat.ne_of_lt (Heap.lt_size ho)
  unfold unpackItems
  refine wpAny_bind ?_
  unfold notIterableAtAll
  refine wpAny_bind (wpAny_specialOf ht.typeIs PySem.F.slot_list_iter.lookup ?_)
  refine wpAny_pure ?_
  simp only [Bool.false_eq_true, if_false]
  refine wpAny_bind (wpAny_holding (wpAny_pyIter_list ht ?_))
  have W0 := (Walks.list (prog := prog) (w := w) (A := A.in1) hh s.heap.objs.size t hlt (x :: rest).toArray).toS
  refine wpAny_bind (wpAny_holding ?_)
  show wpAny _ _ (pyNext (.ref s.heap.objs.size) >>= _) _ _ _
  refine wpAny_bind ((Walks.list (prog := prog) (w := w) (A := A) hh s.heap.objs.size t hlt (x :: rest).toArray).item 0 _ _ _ (by simp) ⟨⟨_, Heap.get?_push_size _ rfl, rfl, rfl⟩, ht.push _⟩ fun v h1 tk1 hP hst hext => ?_)
  have ev : v = x := by simpa using hP.symm
  subst ev
  refine wpAny_bind (wpAny_holding (wpAny_pure (wpAny_pure ?_)))
  rw [if_neg (by simp)]
  have W := shiftW W0 1 (by simp)
  have hn : (v :: rest).toArray.size - 1 = rest.length := by simp
  rw [hn] at W
  refine wpAny_bind (wpAny_holding (wpAny_collect_iter (T := "list_iterator") (by first | exact .inl rfl | exact .inr (.inl rfl) | exact .inr (.inr (.inl rfl)) | exact .inr (.inr (.inr rfl))) W (fun i s hst => Heap.IsListIter.typeIs hst.1) hst (fun b hb => ?_) (by simp) (fun s' acc hm hacc => ?_) hz))
  · rcases List.mem_cons.mp hb with rfl | hb
    · obtain ⟨o, ho, _⟩ := hst.1; exact Heap.lt_size ho
    · rw [List.mem_singleton.mp hb]; obtain ⟨o, ho, _⟩ := hst.2; exact Heap.lt_size ho
  · have ea : acc.toList = rest := by
      refine List.ext_getElem? fun i => ?_
      rw [Array.getElem?_toList]
      cases e : acc[i]? with
      | some v =>
        have := hacc.2 i v e
        simpa using this.symm
      | none =>
        have h1 := hacc.1
        rw [Array.getElem?_eq_none_iff] at e
        rw [List.getElem?_eq_none (by omega)]
    rw [ea, Moved.eq_with hm]
    rw [if_neg (by simp)]
    have et : List.take (rest.length - (2 - 1 - 1)) rest = rest := by simp
    have ed : List.drop (rest.length - (2 - 1 - 1)) rest = [] := by simp
    simp only [et, ed]
    refine wpAny_bind (wpAny_newList (wpAny_pure ?_) hz)
    refine hQ s'.heap s'.toks fun b o e => hm.heap b o (fun hb => ?_) (hext b o (fun z => ?_) (Heap.get?_push_of_some _ e))
    · rw [List.mem_singleton.mp hb] at e
      exact absurd (Heap.lt_size e) (Nat.lt_irrefl _)
    · have z : b = s.heap.objs.size := by simpa using z
      rw [z] at e
      exact absurd (Heap.lt_size e) (Nat.lt_irrefl _)
end
/-- a, *b = a list: b a new list -/
def gRestL (K : Fg) (t : L2.TGs) : L2.TG := fun v σ H Q => ∃ a x xs, v = .ref a ∧ H a = some (.lst (x :: xs)) ∧ ∀ q, H q = none → t [x, .ref q] σ (upd H q (.lst xs)) Q
section
variable {X : Cx} {e1 e2 : Expr} {p pos : Pos} {k : Nat} {t : TGs}
theorem pg_restL (hc : X.calm = true) (h : PGs X [e1, e2] t) (he : (assignEach [e1, .Starred e2 p] X.env).map (·.2) = (assignEach [e1, e2] X.env).map (·.2) := by rfl) (hn : (assignEach [e1, .Starred e2 p] X.env).length = 2 := by rfl)
    (hst : (assignEach [e1, .Starred e2 p] X.env).findIdx? (·.1) = some 1 := by rfl) : PG X (.Tuple [e1, .Starred e2 p] k pos) (gRestL X.K t) := by
  refine ⟨fun pins s σ H v u Q I r hw => ?_⟩
  obtain ⟨a, x, xs, rfl, hq, hw⟩ := hw
  cases r
  obtain ⟨hz, its, n, rv, hl, ho⟩ := I.lstM hq
  obtain ⟨i0, ir, rfl, r0, r1⟩ : ∃ i0 ir, its = i0 :: ir ∧ RelV x i0 ∧ Vals xs ir := by
    cases rv with
    | cons z1 z2 => exact ⟨_, _, rfl, z1, z2⟩
  have hz2 : ir.length ≤ sizeLine := by
    have := r1.length
    simp only [List.length_cons] at hz
    omega
  have ht : s.heap.IsList a (i0 :: ir).toArray := ⟨_, ho, rfl, n, rfl⟩
  rw [PyProof.Rows.assign_Tuple]
  refine wpAny_bind (wpAny_standAt ?_)
  unfold unpack
  rw [hn, hst, he]
  refine wpAny_bind (wpAny_holding (unpack_restL (I.ok.hd hc) ht hz2 fun h' tk hk => ?_))
  have I1 : Inv X pins σ H { s with heap := h', toks := tk } := I.kept hk
  have I2 : Inv X pins σ (upd H h'.objs.size (.lst xs)) { s with heap := h'.push ({ cls := .type "list", data := .seq ir.toArray } : Obj), toks := tk } := I1.laid (a := h'.objs.size) (fun b u e => Heap.get?_push_of_some _ e) (Nat.le_refl _) ⟨by rw [r1.length]; exact hz2, ir, 0, r1, Heap.get?_push_size _ rfl⟩
  exact h.run pins _ σ _ [x, .ref h'.objs.size] _ Q I2 (.cons r0 (.cons rfl .nil)) (hw _ (I1.hok.fresh (Nat.le_refl _)))
end
def sRestL (i j : Nat) (f : FE) : FS := fun ρ => (f ρ).bind fun p => (vl p.1).bind fun d => match d with
  | .lst (x :: xs) => some (.nx ((p.2.set j (.ow (.lst xs))).set i (.sh x)))
  | _ => none
section
variable {X : Cx} {e : Expr} {f : FE} {x y : Str} {pos pos' p1 p2 p3 : Pos} {kk : Nat}
theorem s_restL (i j : Nat) (hc : X.calm = true) (hN : X.N.Nodup) (he : EX X e f) (hi : X.N[i]? = some x := by rfl) (hj : X.N[j]? = some y := by rfl) (hij : i ≠ j := by decide) (hx : Loc X.env.scope x := by first | exact Or.inl rfl | exact Or.inr rfl) (hy : Loc X.env.scope y := by first | exact Or.inl rfl | exact Or.inr rfl)
    (hfx : X.fn x = true ∨ X.env.scope.names.lookup x = some .local := by first | exact .inl rfl | exact .inr rfl | assumption) (hfy : X.fn y = true ∨ X.env.scope.names.lookup y = some .local := by first | exact .inl rfl | exact .inr rfl | assumption)
    (hs : swapsWithSole [.Tuple [.Name x p1, .Starred (.Name y p2) p3] kk pos'] e pos.line X.env = pure false := by rfl) (hw : swappedStores [.Tuple [.Name x p1, .Starred (.Name y p2) p3] kk pos'] e X.env = pure none := by rfl)
    (h1 : (assignEach [.Tuple [.Name x p1, .Starred (.Name y p2) p3] kk pos'] X.env).map (·.2) = [assign (.Tuple [.Name x p1, .Starred (.Name y p2) p3] kk pos') X.env] := by rfl)
    (he2 : (assignEach [.Name x p1, .Starred (.Name y p2) p3] X.env).map (·.2) = (assignEach [.Name x p1, .Name y p2] X.env).map (·.2) := by rfl) (hn : (assignEach [.Name x p1, .Starred (.Name y p2) p3] X.env).length = 2 := by rfl)
    (hst : (assignEach [.Name x p1, .Starred (.Name y p2) p3] X.env).findIdx? (·.1) = some 1 := by rfl) (ha : (assignEach [.Name x p1, .Name y p2] X.env).map (·.2) = assign (.Name x p1) X.env :: (assignEach [.Name y p2] X.env).map (·.2) := by rfl)
    (hb : (assignEach [.Name y p2] X.env).map (·.2) = assign (.Name y p2) X.env :: (assignEach [] X.env).map (·.2) := by rfl) :
    SX X (.Assign [.Tuple [.Name x p1, .Starred (.Name y p2) p3] kk pos'] e pos) (sRestL i j f) :=
  ps_imp (ps_asg he (pg_restL hc (pgs_cons (pg_name hN hi hx hfx) (pgs_cons (pg_name hN hj hy hfy) pgs_nil hb) ha) he2 hn hst) hs hw h1) fun D σ H h => by
  obtain ⟨w, ρ, S, r, hf, k⟩ := h
  obtain ⟨⟨s, ρ1⟩, h1, hf⟩ := Option.bind_eq_some_iff.mp hf
  obtain ⟨d, hd, hf⟩ := Option.bind_eq_some_iff.mp hf
  split at hf
  · cases hf
    refine one S h1 hd fun v H1 S1 r1 => ?_
    obtain ⟨a, vs, rfl, hq, rr⟩ := r1.lstAt
    cases rr with
    | cons ra rb =>
      rename_i va vb
      refine ⟨a, va, vb, rfl, hq, fun q hp => ⟨va, [.ref q], rfl, _, _, rfl, rfl, ?_⟩⟩
      have q2 := (VR.newL S1.fill hp rb).set j
      have S3 := (S1.back q2).setSh (i := i) (S1.carry q2 ra)
      have ec : (σ.set i (some va)).set j (some (.ref q)) = (σ.set j (some (.ref q))).set i (some va) := List.set_comm _ _ hij
      show D.nx ((σ.set i (some va)).set j (some (.ref q))) _
      rw [ec]
      exact k _ _ S3
  · cases hf
end
section
variable {ρ : Ev} {i j : Nat} {f : FE}
@[simp] theorem sRestL_e : sRestL i j f ρ = (f ρ).bind fun p => (vl p.1).bind fun d => match d with
  | .lst (x :: xs) => some (.nx ((p.2.set j (.ow (.lst xs))).set i (.sh x)))
  | _ => none := nrfl rfl
end
end T

namespace T
open PySem PySem.Spec PyProof.Rows L2
-- request_in: 0=word 1=number
noncomputable def mb_request_in : FS := (sSeq (sIf (tOf (eBin eqO (eVar 0) (eC (.str "pop")))) (sRet (eTup [(eC .non)])) sNil)
  (sSeq (sSet 1 (eCall m_number_in [] [.e (eVar 0), .e (eC (.int 1))]))
  (sRet (eIf ((tAnd' (tOf (eBin notNonO (eVar 1) (eC .non))) (tOf (eBin ltO (eVar 1) (eC (.int 6)))))) (eTup [(eVar 1)]) (eC .non)))))
noncomputable def m_request_in : FF := runDef 1 1 mb_request_in
-- script_in: 0=line 1=found 2=word 3=one
noncomputable def mb_script_in_C1 : FE := eLc [2] (.n 2) (iSeq (eBin splitO (eVar 0) (eC (.str " ")))) tTrue (eCall m_request_in [] [.e (eVar 2)])
noncomputable def mb_script_in_C2 : FE := eLc [3] (.n 3) (iSeq (eVar 1)) tTrue (eIxV 3 (eC (.int 0)))
noncomputable def mb_script_in : FS := (sSeq (sIf (tOf (eBin eqO (eVar 0) (eC (.str "-")))) (sRet (eTup [])) sNil)
  (sSeq (sSet 1 (mb_script_in_C1))
  (sRet (eIf (tOf (eBin (inO false) (eC .non) (eVar 1))) (eC .non) (eFn tupleO [(mb_script_in_C2)])))))
noncomputable def m_script_in : FF := runDef 1 3 mb_script_in
-- system_in: 0=line 1=kinds 2=word
noncomputable def mb_system_in_C1 : FE := eLc [2] (.n 2) (iSeq (eBin splitO (eVar 0) (eC (.str " ")))) tTrue (eCall m_numbers_in [] [.e (eBin splitO (eVar 2) (eC (.str "*"))), .e (eFn (shO lenD) [(eFn (shO strD) [(eC (.int 30))])])])
noncomputable def mb_system_in : FS := (sSeq (sSet 1 (mb_system_in_C1))
  (sRet (eIf ((tAnd' (tOf (eBin (inO true) (eC .non) (eVar 1))) (tOf (eCall m_is_system [] [.e (eFn tupleO [(eVar 1)])])))) (eFn tupleO [(eVar 1)]) (eC .non))))
noncomputable def m_system_in : FF := runDef 1 2 mb_system_in
-- only_line: 0=text 1=read 2=first 3=rest 4=found
noncomputable def mb_only_line (aF : Addr) (F : FF) : FS := (sSeq (sRestL 2 3 (eCall m_lines_of [] [.e (eVar 0)]))
  (sSeq (sSet 4 (eCallL 1 aF F [.e (eVar 2)]))
  (sSeq (sIf (tOf (eBin isNonO (eVar 4) (eC .non))) sNo sNil)
  (sSeq (sIf (tOf (eEqV true 3 (eLst []))) sNo sNil)
  (sRetO 4)))))
noncomputable def m_only_line (aF : Addr) (F : FF) : FF := runDef 2 3 (mb_only_line aF F)
-- read_script: 0=text
noncomputable def mb_read_script (aF_script_in : Addr) : FS := (sRet (eCall (m_only_line aF_script_in m_script_in) [] [.e (eVar 0), .e (eC (fnD aF_script_in))]))
noncomputable def m_read_script (aF_script_in : Addr) : FF := runDef 1 0 (mb_read_script aF_script_in)
-- read_system: 0=text
noncomputable def mb_read_system (aF_system_in : Addr) : FS := (sRet (eCall (m_only_line aF_system_in m_system_in) [] [.e (eVar 0), .e (eC (fnD aF_system_in))]))
noncomputable def m_read_system (aF_system_in : Addr) : FF := runDef 1 0 (mb_read_system aF_system_in)
-- law_right: 0=_law_pot_here 1=_law_system_here 2=_law_rival 3=_law_held 4=_law_page 5=_law_plain 6=_law_sent
noncomputable def mb_law_right_L1 (aF_script_in aF_system_in : Addr) : FS := (sSeq (sPar 3 4 (eFnV reprD 6) (eCall m_law_script_text [] [.e (eVar 6)]))
  (sIf ((tOr' (tOf (eBin neO (eFn (shO reprD) [(eCall m_show_script [] [.e (eVar 6)])]) (eFnV reprD 4))) (tOr' (tOf (eBin neO (eFn (shO reprD) [(eCall (m_read_script aF_script_in) [] [.e (eVar 4)])]) (eVar 3))) (tOf (eBin neO (eFnV reprD 6) (eVar 3)))))) (sRet (eC (.bl false))) sNil))
noncomputable def mb_law_right (aF_script_in aF_system_in : Addr) : FS := (sSeq (sPar 1 2 (eCall m_law_system [] [.o 0, .e (eC (.int 30)), .e (eC (.int 6))]) (eCall m_law_system [] [.o 0, .e (eC (.int 9)), .e (eC (.int 6))]))
  (sSeq (sPar 3 4 (eFnV reprD 1) (eCall m_law_system_text [] [.e (eVar 1)]))
  (sSeq (sIf ((tOr' (tOf (eBin neO (eFn (shO reprD) [(eCall m_show_system [] [.e (eVar 1)])]) (eFnV reprD 4))) (tOr' (tOf (eBin neO (eFn (shO reprD) [(eCall (m_read_system aF_system_in) [] [.e (eVar 4)])]) (eVar 3))) (tOf (eBin neO (eFnV reprD 1) (eVar 3)))))) (sRet (eC (.bl false))) sNil)
  (sSeq (sIf (tOf (eBin neO (eBin eqO (eCall m_show_system [] [.e (eVar 2)]) (eVar 4)) (eBin eqO (eVar 2) (eVar 1)))) (sRet (eC (.bl false))) sNil)
  (sSeq (sSet 5 (eCall m_law_script [] [.o 0, .e (eC (.int 6)), .e (eCall m_law_pick [] [.o 0, .e (eLst [(eC (.int 2)), (eC (.int 9)), (eC (.int 300))])])]))
  (sSeq (sFor (.n 6) (iSeq (eTup [(eVar 5), (eBin catO (eVar 5) (eTup [(eC .non)])), (eTup [(eC (.int 5))]), (eTup [(eC .non)]), (eTup [])])) (mb_law_right_L1 aF_script_in aF_system_in))
  (sRet (eBin neO (eCall m_show_script [] [.e (eVar 5)]) (eCall m_show_script [] [.e (eBin catO (eVar 5) (eTup [(eC .non)]))])))))))))
noncomputable def m_law_right (aF_script_in aF_system_in : Addr) : FF := runDef 1 6 (mb_law_right aF_script_in aF_system_in)
-- law: 0=_law_script_here 1=_law_index 2=_law_pot_here 3=_law_long 4=_law_page 5=_law_turn
noncomputable def mb_law_C1 (aF_script_in aF_system_in : Addr) : FE := eLc [5] (.n 5) (iRg1 (eC (.int 6))) tTrue (eCall (m_law_right aF_script_in aF_system_in) [] [.o 2])
noncomputable def mb_law_L1 (aF_script_in aF_system_in : Addr) : FS := (sSeq (sSet 2 (eCall m_law_pot2 [] [.e (eVar 0), .e (eVar 1)]))
  (sIf (tNot' (tOf (eFn (shO allD) [((mb_law_C1 aF_script_in aF_system_in))]))) (sRet (eC (.bl false))) sNil))
noncomputable def mb_law (aF_script_in aF_system_in : Addr) : FS := (sSeq (sFor (.n 1) (iRg1 (eFn (shO maxD) [(eC (.int 1)), (eFn (shO minD) [(eC (.int 3)), (eFnV lenD 0)])])) (mb_law_L1 aF_script_in aF_system_in))
  (sSeq (sSet 2 (eCall m_law_pot2 [] [.e (eVar 0), .e (eC (.int 0))]))
  (sSeq (sSet 3 (eBin repGO (eTup [(eCall m_law_draw [] [.o 2, .e (eC (.int 6))]), (eC .non), (eCall m_law_draw [] [.o 2, .e (eC (.int 6))])]) (eBin subO (eC (.int 2000)) (eCall m_law_draw [] [.o 2, .e (eC (.int 99))]))))
  (sSeq (sSet 4 (eCall m_law_script_text [] [.e (eVar 3)]))
  (sRet ((eAnd (eBin eqO (eCall m_show_script [] [.e (eVar 3)]) (eVar 4)) (eBin eqO (eFn (shO reprD) [(eCall (m_read_script aF_script_in) [] [.e (eVar 4)])]) (eFnV reprD 3)))))))))
noncomputable def m_lawA (aF_script_in aF_system_in : Addr) : FF := runDef 1 5 (mb_law aF_script_in aF_system_in)
end T

namespace T
open PySem PySem.Spec PyProof.Rows L2
-- law_take: 0=_law_pot_here 1=_law_upto 2=_law_digit
-- law_of: 0=_law_pot_here 1=_law_some
-- law_pot: 0=_law_script 1=_law_k 2=_law_cell 3=_law_great
end T

namespace T
open PySem PySem.Spec PyProof.Rows L2
-- law_kinds: 0=_law_pot_here 1=_law_many 2=_law_most 3=_law_way 4=_law_found 5=_law_turn 6=_law_length
-- law_lot: 0=_law_pot_here
end T

/-! M1: messages of kinds: total lengths and weights. -/
namespace Mx

/-! ### greatest and least integers -/
theorem exists_max {P : Int → Prop} {x B : Int} (hx : P x) (hb : ∀ y, P y → y ≤ B) : ∃ m, P m ∧ ∀ y, P y → y ≤ m := by
  generalize hn : (B - x).toNat = n
  induction n generalizing x with
  | zero => exact ⟨x, hx, fun y hy => by have := hb y hy; have := hb x hx; omega⟩
  | succ n ih =>
    by_cases h : ∃ y, P y ∧ x < y
    · obtain ⟨y, hy, hlt⟩ := h
      generalize hk : (B - y).toNat = k
      have : k ≤ n := by have := hb y hy; omega
      clear ih hn
      induction n generalizing x y k with
      | zero => exact ⟨y, hy, fun z hz => by have := hb z hz; have := hb y hy; omega⟩
      | succ n ih =>
        by_cases h2 : ∃ z, P z ∧ y < z
        · obtain ⟨z, hz, hl⟩ := h2
          exact ih hy z hz hl (B - z).toNat rfl (by have := hb z hz; omega)
        · exact ⟨y, hy, fun z hz => Int.not_lt.mp fun hl => h2 ⟨z, hz, hl⟩⟩
    · exact ⟨x, hx, fun z hz => Int.not_lt.mp fun hl => h ⟨z, hz, hl⟩⟩
theorem exists_min {P : Int → Prop} {x B : Int} (hx : P x) (hb : ∀ y, P y → B ≤ y) : ∃ m, P m ∧ ∀ y, P y → m ≤ y := by
  obtain ⟨m, h1, h2⟩ := exists_max (P := fun z => P (-z)) (x := -x) (B := -B) (by simpa using hx) fun y hy => by have := hb _ hy; omega
  exact ⟨-m, h1, fun y hy => by have := h2 (-y) (by simpa using hy); omega⟩

/-! ### the pigeonhole -/
theorem nodup_le : ∀ (m : Nat) (l : List Int), l.Nodup → (∀ x ∈ l, 0 ≤ x ∧ x < m) → l.length ≤ m
  | 0, [], _, _ => Nat.le_refl _
  | 0, x :: r, _, h => by have := h x List.mem_cons_self; omega
  | m + 1, l, hn, h => by
    have h1 : (l.erase (m : Int)).length ≤ m := nodup_le m _ (hn.erase _) fun x hx => by
      have a := h x (List.mem_of_mem_erase hx)
      have b : x ≠ m := ((List.Nodup.mem_erase_iff hn).mp hx).1
      omega
    rw [List.length_erase] at h1
    split at h1 <;> omega
def sumF {α : Type} (f : α → Int) : List α → Int
  | [] => 0
  | a :: r => f a + sumF f r
theorem sumF_append {α : Type} {f : α → Int} : ∀ {a b : List α}, sumF f (a ++ b) = sumF f a + sumF f b
  | [], b => by simp [sumF]
  | x :: a, b => by simp [sumF, sumF_append (a := a)]; omega
/-! ### messages -/
abbrev Ks := List (Int × Int)
def lenS (l : Ks) : Int := sumF (·.1) l
def wtS (l : Ks) : Int := sumF (·.2) l
/-- some messages of the kinds have this total length and weight -/
def Mix (ks : Ks) (x w : Int) : Prop := ∃ l : Ks, (∀ p ∈ l, p ∈ ks) ∧ lenS l = x ∧ wtS l = w
def IsS (ks : Ks) (x : Int) : Prop := ∃ w, Mix ks x w
structure Good (ks : Ks) : Prop where
  at_ : ∀ p ∈ ks, 1 ≤ p.1 ∧ p.1 ≤ 30 ∧ 1 ≤ p.2 ∧ p.2 ≤ 30
variable {ks : Ks} {x y w v : Int} {p : Int × Int}
theorem Mix.nil : Mix ks 0 0 := ⟨[], by simp, rfl, rfl⟩
theorem Mix.add (hp : p ∈ ks) (h : Mix ks x w) : Mix ks (x + p.1) (w + p.2) := by
  obtain ⟨l, h1, rfl, rfl⟩ := h
  refine ⟨p :: l, fun q hq => ?_, ?_, ?_⟩
  · rcases List.mem_cons.mp hq with rfl | hq
    · exact hp
    · exact h1 q hq
  · show p.1 + lenS l = _; omega
  · show p.2 + wtS l = _; omega
theorem Mix.plus (h : Mix ks x w) (h' : Mix ks y v) : Mix ks (x + y) (w + v) := by
  obtain ⟨l, h1, rfl, rfl⟩ := h
  obtain ⟨r, h2, rfl, rfl⟩ := h'
  exact ⟨l ++ r, fun q hq => (List.mem_append.mp hq).elim (h1 q) (h2 q), sumF_append, sumF_append⟩
theorem Mix.cases (h : Mix ks x w) : (x = 0 ∧ w = 0) ∨ ∃ p ∈ ks, Mix ks (x - p.1) (w - p.2) := by
  obtain ⟨l, h1, rfl, rfl⟩ := h
  cases l with
  | nil => exact .inl ⟨rfl, rfl⟩
  | cons p r => exact .inr ⟨p, h1 p List.mem_cons_self, r, fun q hq => h1 q (List.mem_cons_of_mem _ hq), by show lenS r = p.1 + lenS r - p.1; omega, by show wtS r = p.2 + wtS r - p.2; omega⟩
theorem Mix.ind {P : Int → Int → Prop} (h0 : P 0 0) (hs : ∀ x w p, p ∈ ks → Mix ks x w → P x w → P (x + p.1) (w + p.2)) (h : Mix ks x w) : P x w := by
  obtain ⟨l, h1, rfl, rfl⟩ := h
  induction l with
  | nil => exact h0
  | cons p r ih =>
    have hr := fun q hq => h1 q (List.mem_cons_of_mem _ hq)
    have := hs (lenS r) (wtS r) p (h1 p List.mem_cons_self) ⟨r, hr, rfl, rfl⟩ (ih hr)
    have e1 : lenS (p :: r) = lenS r + p.1 := by show p.1 + lenS r = _; omega
    have e2 : wtS (p :: r) = wtS r + p.2 := by show p.2 + wtS r = _; omega
    rw [e1, e2]; exact this
theorem Mix.mono {ks' : Ks} (hs : ∀ p ∈ ks, p ∈ ks') (h : Mix ks x w) : Mix ks' x w := by
  obtain ⟨l, h1, h2⟩ := h
  exact ⟨l, fun p hp => hs p (h1 p hp), h2⟩
theorem Mix.bounds (g : Good ks) (h : Mix ks x w) : 0 ≤ x ∧ 0 ≤ w ∧ x ≤ 30 * w ∧ w ≤ 30 * x ∧ (x = 0 ↔ w = 0) := by
  refine Mix.ind (P := fun x w => 0 ≤ x ∧ 0 ≤ w ∧ x ≤ 30 * w ∧ w ≤ 30 * x ∧ (x = 0 ↔ w = 0)) (by omega) ?_ h
  intro x w p hp _ ih
  have := g.at_ p hp
  omega
theorem Mix.times (hp : p ∈ ks) : ∀ n : Nat, Mix ks (n * p.1) (n * p.2)
  | 0 => by simpa using Mix.nil
  | n + 1 => by
    have := (Mix.times hp n).add hp
    rw [show ((n + 1 : Nat) : Int) * p.1 = n * p.1 + p.1 by rw [Int.natCast_add, Int.add_mul]; simp, show ((n + 1 : Nat) : Int) * p.2 = n * p.2 + p.2 by rw [Int.natCast_add, Int.add_mul]; simp]
    exact this
/-! ### greatest lengths, least weights, greatest sums -/
def IsLng (ks : Ks) (W x : Int) : Prop := (∃ w, w ≤ W ∧ Mix ks x w) ∧ ∀ y w, w ≤ W → Mix ks y w → y ≤ x
noncomputable def lng (ks : Ks) (W : Int) : Int := Classical.epsilon (IsLng ks W)
theorem lng_is (g : Good ks) {W : Int} (h : 0 ≤ W) : IsLng ks W (lng ks W) := by
  refine Classical.epsilon_spec ?_
  obtain ⟨m, h1, h2⟩ := exists_max (P := fun x => ∃ w, w ≤ W ∧ Mix ks x w) (x := 0) (B := 30 * W) ⟨0, h, .nil⟩ fun y hy => by
    obtain ⟨w, h1, h2⟩ := hy
    have := h2.bounds g
    omega
  exact ⟨m, h1, fun y w hw hm => h2 y ⟨w, hw, hm⟩⟩
theorem IsLng.uniq {W : Int} (h : IsLng ks W x) (h' : IsLng ks W y) : x = y := by
  obtain ⟨w, hw, hm⟩ := h.1
  obtain ⟨v, hv, hn⟩ := h'.1
  have := h.2 y v hv hn
  have := h'.2 x w hw hm
  omega
theorem IsLng.eq (g : Good ks) {W : Int} (h0 : 0 ≤ W) (h : IsLng ks W x) : lng ks W = x := (lng_is g h0).uniq h
def IsLit (ks : Ks) (x w : Int) : Prop := Mix ks x w ∧ ∀ v, Mix ks x v → w ≤ v
open Classical in
noncomputable def lit (ks : Ks) (x : Int) : Option Int := if h : ∃ w, IsLit ks x w then some h.choose else none
theorem lit_some (h : lit ks x = some w) : IsLit ks x w := by
  unfold lit at h
  split at h
  · rename_i h1
    cases h
    exact h1.choose_spec
  · cases h
theorem IsLit.uniq (h : IsLit ks x w) (h' : IsLit ks x v) : w = v := by
  have := h.2 v h'.1
  have := h'.2 w h.1
  omega
theorem IsLit.eq (h : IsLit ks x w) : lit ks x = some w := by
  have h1 : ∃ w, IsLit ks x w := ⟨w, h⟩
  unfold lit
  rw [dif_pos h1, h1.choose_spec.uniq h]
theorem lit_ex (g : Good ks) (h : IsS ks x) : ∃ w, lit ks x = some w ∧ IsLit ks x w := by
  obtain ⟨w0, h0⟩ := h
  obtain ⟨m, h1, h2⟩ := exists_min (P := fun w => Mix ks x w) (B := 0) h0 fun y hy => (hy.bounds g).2.1
  exact ⟨m, IsLit.eq ⟨h1, h2⟩, h1, h2⟩
theorem isS_zero : IsS ks 0 := ⟨0, .nil⟩
theorem isS_nonneg (g : Good ks) (h : IsS ks x) : 0 ≤ x := by obtain ⟨w, h⟩ := h; exact (h.bounds g).1
theorem IsS.plus (h : IsS ks x) (h' : IsS ks y) : IsS ks (x + y) := by
  obtain ⟨w, h⟩ := h; obtain ⟨v, h'⟩ := h'; exact ⟨w + v, h.plus h'⟩
theorem isS_kind (hp : p ∈ ks) : IsS ks p.1 := ⟨p.2, by simpa using Mix.nil.add hp⟩
def IsFlo (ks : Ks) (x y : Int) : Prop := IsS ks y ∧ y ≤ x ∧ ∀ z, IsS ks z → z ≤ x → z ≤ y
noncomputable def flo (ks : Ks) (x : Int) : Int := Classical.epsilon (IsFlo ks x)
theorem flo_is (h : 0 ≤ x) : IsFlo ks x (flo ks x) := by
  refine Classical.epsilon_spec ?_
  obtain ⟨m, h1, h2⟩ := exists_max (P := fun y => IsS ks y ∧ y ≤ x) (x := 0) (B := x) ⟨isS_zero, h⟩ fun y hy => hy.2
  exact ⟨m, h1.1, h1.2, fun y h3 h4 => h2 y ⟨h3, h4⟩⟩
theorem IsFlo.uniq {a b : Int} (h : IsFlo ks x a) (h' : IsFlo ks x b) : a = b := by
  have := h.2.2 b h'.1 h'.2.1
  have := h'.2.2 a h.1 h.2.1
  omega
theorem IsFlo.eq (h0 : 0 ≤ x) (h : IsFlo ks x y) : flo ks x = y := (flo_is h0).uniq h
end Mx

/-! M2: tables step by step, far away. -/
namespace Mx
variable {ks : Ks} {x y w v m n : Int} {p : Int × Int}
/-! ### far away -/
end Mx

/-! M3: divisors, rests, from where on all multiples are sums. -/
namespace Mx
variable {ks : Ks} {x y w v m n d : Int} {p : Int × Int}
def gcdF (a : Int) (ks : Ks) : Int := ks.foldl (fun d p => (Int.gcd d p.1 : Int)) a
def gcdK (ks : Ks) : Int := gcdF 0 ks
theorem IsS.times (h : IsS ks x) : ∀ n : Nat, IsS ks (n * x)
  | 0 => by simpa using isS_zero
  | n + 1 => by
    have := (IsS.times h n).plus h
    rw [show ((n + 1 : Nat) : Int) * x = n * x + x by rw [Int.natCast_add, Int.add_mul]; simp]
    exact this
/-- x is a sum but for multiples of m -/
def Rst (ks : Ks) (m x : Int) : Prop := ∃ s, IsS ks s ∧ m ∣ x - s
theorem Rst.add (h : Rst ks m x) (h' : Rst ks m y) : Rst ks m (x + y) := by
  obtain ⟨s, h1, h2⟩ := h; obtain ⟨t, h3, h4⟩ := h'
  refine ⟨s + t, h1.plus h3, ?_⟩
  rw [show x + y - (s + t) = (x - s) + (y - t) by omega]
  exact Int.dvd_add h2 h4
theorem Rst.neg (hm : 1 ≤ m) (h : Rst ks m x) : Rst ks m (-x) := by
  obtain ⟨s, h1, h2⟩ := h
  refine ⟨((m - 1).toNat : Nat) * s, h1.times _, ?_⟩
  rw [Int.toNat_of_nonneg (by omega), Int.sub_mul, show -x - (m * s - 1 * s) = -(x - s) - m * s by omega]
  exact Int.dvd_sub (Int.dvd_neg.mpr h2) (Int.dvd_mul_right _ _)
theorem Rst.zero : Rst ks m 0 := ⟨0, isS_zero, by simp⟩
theorem Rst.mulN (h : Rst ks m x) : ∀ n : Nat, Rst ks m (n * x)
  | 0 => by simpa using Rst.zero
  | n + 1 => by
    rw [show ((n + 1 : Nat) : Int) * x = n * x + x by rw [Int.natCast_add, Int.add_mul]; simp]
    exact (Rst.mulN h n).add h
theorem Rst.gcdN (hm : 1 ≤ m) : ∀ {a b : Nat}, Rst ks m a → Rst ks m b → Rst ks m (Nat.gcd a b : Nat) := by
  intro a
  induction a using Nat.strongRecOn with
  | _ a ih =>
    intro b ha hb
    by_cases c : a = 0
    · subst c; rw [Nat.gcd_zero_left]; exact hb
    · rw [Nat.gcd_rec]
      refine ih (b % a) (Nat.mod_lt _ (by omega)) ?_ ha
      have e : ((b % a : Nat) : Int) = b + -((b / a : Nat) * (a : Int)) := by
        have h1 := Nat.div_add_mod b a
        have h2 := congrArg (Nat.cast (R := Int)) h1
        rw [Int.natCast_add, Int.natCast_mul] at h2
        rw [Int.mul_comm] at h2
        omega
      rw [e]
      exact hb.add ((ha.mulN _).neg hm)
theorem Rst.gcd (hm : 1 ≤ m) (hx : 0 ≤ x) (hy : 0 ≤ y) (h : Rst ks m x) (h' : Rst ks m y) : Rst ks m (Int.gcd x y : Int) := by
  obtain ⟨a, rfl⟩ := Int.eq_ofNat_of_zero_le hx
  obtain ⟨b, rfl⟩ := Int.eq_ofNat_of_zero_le hy
  exact Rst.gcdN hm h h'
theorem Rst.gcdF (g : Good ks) (hm : 1 ≤ m) : ∀ {r : Ks} {a : Int}, (∀ p ∈ r, p ∈ ks) → 0 ≤ a → Rst ks m a → Rst ks m (gcdF a r)
  | [], a, _, _, h => h
  | q :: r, a, hs, h0, h => by
    show Rst ks m (Mx.gcdF (Int.gcd a q.1 : Int) r)
    have hq := hs q List.mem_cons_self
    refine Rst.gcdF g hm (fun p hp => hs p (List.mem_cons_of_mem _ hp)) (Int.natCast_nonneg _) (h.gcd hm h0 (by have := g.at_ q hq; omega) ⟨q.1, isS_kind hq, by simp⟩)
/-- what the least sums for each rest by m tell -/
structure Rests (ks : Ks) (m : Int) (f : Int → Option Int) : Prop where
  at_ : ∀ r v, f r = some v → IsS ks v ∧ v % m = r
  zero : f 0 = some 0
  step : ∀ r v p, f r = some v → p ∈ ks → ∃ u, f ((v + p.1) % m) = some u ∧ u ≤ v + p.1
theorem Rests.all {f : Int → Option Int} (h : Rests ks m f) (hs : IsS ks x) : ∃ v, f (x % m) = some v ∧ v ≤ x := by
  obtain ⟨w, hs⟩ := hs
  refine Mix.ind (P := fun x _ => ∃ v, f (x % m) = some v ∧ v ≤ x) ⟨0, by simpa using h.zero, Int.le_refl _⟩ ?_ hs
  intro x w p hp _ ih
  obtain ⟨v, h1, h2⟩ := ih
  obtain ⟨u, h3, h4⟩ := h.step _ v p h1 hp
  have e := (h.at_ _ _ h1).2
  refine ⟨u, ?_, by omega⟩
  rw [← h3]
  congr 1
  rw [Int.add_emod, ← e, ← Int.add_emod]
/-- r is the least multiple of the divisor from which on all its multiples are sums -/
structure Reg (ks : Ks) (r : Int) : Prop where
  dvd : gcdK ks ∣ r
  up : ∀ x, r ≤ x → gcdK ks ∣ x → IsS ks x
  no : ¬ IsS ks (r - gcdK ks)
  pos : 0 ≤ r
end Mx

/-! M4: shapes of refusals, the least ring. -/
namespace Mx
variable {sys ks : Ks} {x y w v m n d L : Int} {p f q : Int × Int}
def us (sys : Ks) (L : Int) : Ks := sys.filter fun p => decide (p.2 ≤ L)
theorem mem_us : p ∈ us sys L ↔ p ∈ sys ∧ p.2 ≤ L := by simp [us]
theorem us_good (g : Good sys) : Good (us sys L) := ⟨fun p hp => g.at_ p (mem_us.mp hp).1⟩
inductive Shp where
  | long | endS (h b : Int) | newS (h b q : Int) (t : Nat)
/-- a shape can occur with a push of a kind, in rings of at most v words -/
def Occ (sys : Ks) (L : Int) (s : Shp) (k : Nat) (v : Int) : Prop := match s with
  | .long => ∃ p, sys[k]? = some p ∧ p.2 ≤ L ∧ v = p.1 - 1
  | .endS h b => ∃ p, sys[k]? = some p ∧ p.2 ≤ L ∧ IsS (us sys L) h ∧ h < p.1 ∧ 0 < b ∧ (∃ w, Mix (us sys L) b w ∧ w + p.2 ≤ L) ∧ v = h + b + p.1 - 1
  | .newS h b q t => ∃ p f, sys[k]? = some p ∧ p.2 ≤ L ∧ sys[t]? = some f ∧ f.2 ≤ L ∧ IsS (us sys L) h ∧ q ≤ h ∧ h < q + p.1 ∧ 0 < b ∧
      (∃ wb wr, Mix (us sys L) b wb ∧ Mix (us sys L) (q - f.1) wr ∧ wb + wr + f.2 + p.2 ≤ L) ∧ v = h + b + f.1 - 1
theorem at_us' {k : Nat} (h : sys[k]? = some p) (h2 : p.2 ≤ L) : p ∈ us sys L := mem_us.mpr ⟨List.mem_of_getElem? h, h2⟩
theorem mem_at (h : p ∈ sys) : ∃ k : Nat, sys[k]? = some p := List.mem_iff_getElem?.mp h
def IsTop (sys : Ks) (L v : Int) : Prop := (∃ s k, Occ sys L s k v) ∧ ∀ s k u, Occ sys L s k u → u ≤ v
theorem IsTop.uniq (h : IsTop sys L x) (h' : IsTop sys L y) : x = y := by
  obtain ⟨⟨s, k, h1⟩, h2⟩ := h
  obtain ⟨⟨s', k', h3⟩, h4⟩ := h'
  have := h2 _ _ _ h3
  have := h4 _ _ _ h1
  omega
/-- the least ring that is safe -/
noncomputable def lst (sys : Ks) (L : Int) : Int := if us sys L = [] then 0 else 1 + Classical.epsilon (IsTop sys L)
end Mx

/-! PS1: what the program's module of sums computes. -/
namespace T
open PySem L2 Mx
variable {ks : List (Int × Int)}

/-! ### common_divisor -/
/-! ### least_of -/
/-! ### the parts of a Loads -/
/-! #### floors -/
end T

/-! PS2: tables of weights and lengths, the kinds with the best ratios. -/
namespace T
open PySem L2 Mx
variable {ks : List (Int × Int)}

/-! #### longest_up_to -/
/-! #### lightest_up_to -/
end T

/-! PS3: the best ratios, the least sums by rest. -/
namespace T
open PySem L2 Mx
variable {ks : List (Int × Int)}

/-! #### slimmest, richest -/
/-- (l, w) has the least weight for its length among some kinds -/
def Slim (a : Int × Int) (qs : List (Int × Int)) : Prop := ∀ q ∈ qs, a.2 * q.1 ≤ q.2 * a.1
theorem Slim.step {a b : Int × Int} {qs : List (Int × Int)} (ha : 1 ≤ a.1) (hb : 1 ≤ b.1) (h : Slim a qs) (hlt : b.2 * a.1 < a.2 * b.1) (hq : ∀ q ∈ qs, 1 ≤ q.1) : Slim b qs := fun q hqs => by
  have h1 := h q hqs
  have h2 := hq q hqs
  -- b2 q1 a1 ≤ a2 b1 q1 ≤ q2 a1 b1
  have e1 : b.2 * a.1 * q.1 ≤ a.2 * b.1 * q.1 := Int.mul_le_mul_of_nonneg_right (Int.le_of_lt hlt) (by omega)
  have e2 : a.2 * q.1 * b.1 ≤ q.2 * a.1 * b.1 := Int.mul_le_mul_of_nonneg_right h1 (by omega)
  have e3 : b.2 * a.1 * q.1 = (b.2 * q.1) * a.1 := by rw [Int.mul_assoc, Int.mul_comm a.1, ← Int.mul_assoc]
  have e4 : a.2 * b.1 * q.1 = a.2 * q.1 * b.1 := by rw [Int.mul_assoc, Int.mul_comm b.1, ← Int.mul_assoc]
  have e5 : q.2 * a.1 * b.1 = (q.2 * b.1) * a.1 := by rw [Int.mul_assoc, Int.mul_comm a.1, ← Int.mul_assoc]
  exact Int.le_of_mul_le_mul_right (show (b.2 * q.1) * a.1 ≤ (q.2 * b.1) * a.1 by omega) (by omega)
/-- (l, w) has the greatest length for its weight among some kinds, of several the least weight -/
def Rich (a : Int × Int) (qs : List (Int × Int)) : Prop := ∀ q ∈ qs, q.1 * a.2 ≤ a.1 * q.2 ∧ (q.1 * a.2 = a.1 * q.2 → a.2 ≤ q.2)
theorem Rich.step {a b : Int × Int} {qs : List (Int × Int)} (ha : 1 ≤ a.2) (hb : 1 ≤ b.2) (h : Rich a qs) (hlt : a.1 * b.2 < b.1 * a.2 ∨ (b.1 * a.2 = a.1 * b.2 ∧ b.2 < a.2)) (hq : ∀ q ∈ qs, 1 ≤ q.2) : Rich b qs := fun q hqs => by
  obtain ⟨h1, h1'⟩ := h q hqs
  have h2 := hq q hqs
  have e3 : (q.1 * b.2) * a.2 = q.1 * a.2 * b.2 := by rw [Int.mul_assoc, Int.mul_comm b.2, ← Int.mul_assoc]
  have e4 : (b.1 * q.2) * a.2 = b.1 * a.2 * q.2 := by rw [Int.mul_assoc, Int.mul_comm q.2, ← Int.mul_assoc]
  have e5 : a.1 * q.2 * b.2 = a.1 * b.2 * q.2 := by rw [Int.mul_assoc, Int.mul_comm q.2, ← Int.mul_assoc]
  have f1 : q.1 * a.2 * b.2 ≤ a.1 * q.2 * b.2 := Int.mul_le_mul_of_nonneg_right h1 (by omega)
  rcases hlt with hlt | ⟨he, hw⟩
  · have f2 : a.1 * b.2 * q.2 < b.1 * a.2 * q.2 := Int.mul_lt_mul_of_pos_right hlt (by omega)
    have f3 : q.1 * b.2 < b.1 * q.2 := Int.lt_of_mul_lt_mul_right (show (q.1 * b.2) * a.2 < (b.1 * q.2) * a.2 by omega) (by omega)
    exact ⟨by omega, fun e => by omega⟩
  · have f2 : a.1 * b.2 * q.2 = b.1 * a.2 * q.2 := by rw [he]
    have f3 : q.1 * b.2 ≤ b.1 * q.2 := Int.le_of_mul_le_mul_right (show (q.1 * b.2) * a.2 ≤ (b.1 * q.2) * a.2 by omega) (by omega)
    refine ⟨f3, fun e => ?_⟩
    have f4 : q.1 * a.2 * b.2 = a.1 * q.2 * b.2 := by rw [← e3, e5, f2, ← e4, e]
    have f5 : q.1 * a.2 = a.1 * q.2 := Int.eq_of_mul_eq_mul_right (by omega) f4
    have := h1' f5
    omega
end T

/-! PS4: the least sums by rest. -/
namespace T
open PySem L2 Mx
variable {ks : List (Int × Int)}

/-- what holds between two turns -/
structure RS (ks : List (Int × Int)) (m : Int) (ps : IP) (wt : List Int) : Prop where
  nd : (ps.map (·.1)).Nodup
  rng : ∀ r v, look ps r = some v → 0 ≤ r ∧ r < m
  at_ : ∀ r v, look ps r = some v → IsS ks v ∧ v % m = r
  bd : ∀ r v, look ps r = some v → v ≤ 30 * ((ps.length : Int) - 1)
  zero : look ps 0 = some 0
  inw : ∀ r ∈ wt, ∃ v, look ps r = some v
/-- all ways out of a rest are there -/
def RSt (ks : List (Int × Int)) (m : Int) (ps : IP) (r : Int) : Prop := ∀ v, look ps r = some v → ∀ p ∈ ks, ∃ u, look ps ((v + p.1) % m) = some u ∧ u ≤ v + p.1
/-- what the values can still fall -/
def pot (m : Int) (ps : IP) : Int := sumF (fun i : Nat => (look ps i).getD 1000) (List.range m.toNat)
theorem sumF_mono {α : Type} {f h : α → Int} : ∀ {l : List α}, (∀ a ∈ l, f a ≤ h a) → sumF f l ≤ sumF h l
  | [], _ => Int.le_refl _
  | a :: r, hh => by
    have := hh a List.mem_cons_self
    have := sumF_mono (l := r) fun b hb => hh b (List.mem_cons_of_mem _ hb)
    simp only [sumF]; omega
theorem sumF_less {α : Type} {f h : α → Int} {x : α} : ∀ {l : List α}, (∀ a ∈ l, f a ≤ h a) → x ∈ l → f x < h x → sumF f l < sumF h l
  | a :: r, hh, hx, hl => by
    have h1 := hh a List.mem_cons_self
    have h2 := sumF_mono (l := r) fun b hb => hh b (List.mem_cons_of_mem _ hb)
    simp only [sumF]
    rcases List.mem_cons.mp hx with rfl | hx
    · omega
    · have := sumF_less (l := r) (fun b hb => hh b (List.mem_cons_of_mem _ hb)) hx hl
      omega
theorem keys_len {m : Int} {ps : IP} (hm : 0 ≤ m) (nd : (ps.map (·.1)).Nodup) (h : ∀ r v, look ps r = some v → 0 ≤ r ∧ r < m) : (ps.length : Int) ≤ m := by
  have := nodup_le m.toNat (ps.map (·.1)) nd fun x hx => by
    obtain ⟨v, hv⟩ := Option.isSome_iff_exists.mp (look_isSome.mpr hx)
    have := h x v hv
    omega
  rw [List.length_map] at this
  omega
theorem put_len {ps : IP} {k v : Int} : ps.length ≤ (putP ps k v).length ∧ (look ps k = none → (putP ps k v).length = ps.length + 1) := by
  have e := congrArg List.length (keys_put (ps := ps) (k := k) (v := v))
  rw [List.length_map] at e
  constructor
  · rw [e]; split <;> simp
  · intro h
    have : k ∉ ps.map (·.1) := fun z => by rw [← look_isSome, h] at z; cases z
    rw [e, if_neg this]; simp
/-- one step: a rest's value put -/
theorem RS.put {m r v : Int} {ps : IP} {wt : List Int} {hp : Int × Int} {hv : Int} (g : Good ks) (hm : 1 ≤ m) (hm2 : m ≤ 30) (h : RS ks m ps wt) (hk : hp ∈ ks) {r0 : Int} (h0 : look ps r0 = some hv) (ev : v = hv + hp.1) (er : r = v % m) (hlt : ∀ u, look ps r = some u → v < u) :
    RS ks m (putP ps r v) (wt ++ [r]) ∧ pot m (putP ps r v) < pot m ps := by
  have gp := g.at_ hp hk
  have hs0 := h.at_ _ _ h0
  have hvs : IsS ks v := by rw [ev]; exact hs0.1.plus (isS_kind hk)
  have hr0 : 0 ≤ r ∧ r < m := by rw [er]; exact ⟨Int.emod_nonneg _ (by omega), Int.emod_lt_of_pos _ (by omega)⟩
  have kl := keys_len (by omega) h.nd h.rng
  refine ⟨⟨?_, ?_, ?_, ?_, ?_, ?_⟩, ?_⟩
  · rw [keys_put]
    split
    · exact h.nd
    · rename_i hn
      refine List.nodup_append.mpr ⟨h.nd, by simp, fun a ha b hb => ?_⟩
      rw [List.mem_singleton.mp hb]
      exact fun z => hn (z ▸ ha)
  · intro q u hq
    rw [look_put] at hq
    split at hq
    · rename_i e; subst e; exact hr0
    · exact h.rng q u hq
  · intro q u hq
    rw [look_put] at hq
    split at hq
    · rename_i e; subst e; cases hq; exact ⟨hvs, er.symm⟩
    · exact h.at_ q u hq
  · intro q u hq
    have b0 := h.bd _ _ h0
    have pl := put_len (ps := ps) (k := r) (v := v)
    rw [look_put] at hq
    split at hq
    · cases hq
      cases e : look ps r with
      | none =>
        have := pl.2 e
        omega
      | some u =>
        have := hlt u e
        have := h.bd _ _ e
        omega
    · have := h.bd q u hq
      omega
  · rw [look_put]
    split
    · rename_i e
      have := hlt 0 (by rw [← e]; exact h.zero)
      have := isS_nonneg g hvs
      omega
    · exact h.zero
  · intro q hq
    rw [look_put]
    rcases List.mem_append.mp hq with hq | hq
    · split
      · exact ⟨_, rfl⟩
      · exact h.inw q hq
    · rw [List.mem_singleton.mp hq, if_pos rfl]; exact ⟨_, rfl⟩
  · have b0 := h.bd _ _ h0
    refine sumF_less (x := r.toNat) (fun i hi => ?_) (List.mem_range.mpr (by omega)) ?_
    · show (look (putP ps r v) i).getD 1000 ≤ (look ps i).getD 1000
      rw [look_put]
      split
      · rename_i e
        rw [e]
        cases e2 : look ps r with
        | none => simp only [Option.getD_some, Option.getD_none]; omega
        | some u => have := hlt u e2; simp only [Option.getD_some]; omega
      · exact Int.le_refl _
    · show (look (putP ps r v) r.toNat).getD 1000 < (look ps r.toNat).getD 1000
      have e1 : ((r.toNat : Nat) : Int) = r := by omega
      rw [e1, look_put, if_pos rfl]
      cases e2 : look ps r with
      | none => simp only [Option.getD_some, Option.getD_none]; omega
      | some u => have := hlt u e2; simp only [Option.getD_some]; omega
/-- values only fall: what was there stays -/
theorem RSt.keep {m r v q : Int} {ps : IP} (h : RSt ks m ps q) (hq : q ≠ r) (hlt : ∀ u, look ps r = some u → v < u) : RSt ks m (putP ps r v) q := fun x hx p hp => by
  rw [look_put, if_neg hq] at hx
  obtain ⟨u, h1, h2⟩ := h x hx p hp
  rw [look_put]
  split
  · rename_i e
    rw [e] at h1
    have := hlt u h1
    exact ⟨v, rfl, by omega⟩
  · exact ⟨u, h1, h2⟩
/-- the invariant of the outer loop -/
structure RW (ks : List (Int × Int)) (m : Int) (ps : IP) (wt : List Int) : Prop where
  rs : RS ks m ps wt
  out : ∀ r, r ∉ wt → RSt ks m ps r
end T

/-! PS5: Loads made, asked. -/
namespace T
open PySem L2 Mx
variable {ks : List (Int × Int)}

/-- what is known of a Loads of some kinds -/
structure LF (ks : List (Int × Int)) (r S R : Int) (sl rc : Int × Int) : Prop where
  g : Good ks
  few : ks.length ≤ 1000
  reg : ks ≠ [] → Reg ks r
  reg0 : ks = [] → r = 1
  rb : 0 ≤ r ∧ r ≤ 1000
  sl0 : ks = [] → S = 0
  sl1 : ks ≠ [] → sl ∈ ks ∧ Slim sl ks ∧ ∃ ml, (∀ p ∈ ks, p.1 ≤ ml) ∧ ml ≤ 30 ∧ S = sl.1 * ml
  Sb : 0 ≤ S ∧ S ≤ 900
  rc0 : ks = [] → R = 0
  rc1 : ks ≠ [] → rc ∈ ks ∧ Rich rc ks ∧ ∃ mw, (∀ p ∈ ks, p.2 ≤ mw) ∧ mw ≤ 30 ∧ R = rc.2 * mw
  Rb : 0 ≤ R ∧ R ≤ 900
/-! #### asking -/
section
variable {s : Sl} {d : D} {r S R x : Int} {sl rc : Int × Int}
end
end T

/-! LS1: the laws' sources of numbers. -/
namespace T
open PySem L2 Mx
/-! ### the pot -/
theorem small_nat {i : Int} {n : Nat} (h0 : 0 ≤ i) (h1 : i < 2 ^ n) (hn : n ≤ 4000) : small i := by
  have h2 : (2 : Int) ^ n ≤ 2 ^ 4000 := by
    have := Nat.pow_le_pow_right (show 0 < 2 by decide) hn
    have e : ∀ k : Nat, ((2 : Int) ^ k) = ((2 ^ k : Nat) : Int) := fun k => by rw [Int.natCast_pow]; rfl
    rw [e, e]
    exact Int.ofNat_le.mpr this
  exact ⟨by have : (0 : Int) < 2 ^ 4000 := Int.pow_pos (by decide); omega, Int.lt_of_lt_of_le h1 h2⟩
theorem cell_pot {b c g : Int} {z : Prop} [Decidable z] (hb : 0 < b) (eg : g = (if c < 0 then -c else c) % b * (if z then 1 else 0)) : 0 ≤ g ∧ g < b ∧ 0 ≤ (if c < 0 then -c else c) % b ∧ (if c < 0 then -c else c) % b < b := by
  have a := Int.emod_nonneg (if c < 0 then -c else c) (show b ≠ 0 from Int.ne_of_gt hb)
  have b' := Int.emod_lt_of_pos (if c < 0 then -c else c) hb
  generalize (if c < 0 then -c else c) % b = t at *
  subst eg
  by_cases hz : z
  · rw [if_pos hz]; omega
  · rw [if_neg hz]; omega
theorem small_tf {z : Prop} [Decidable z] : small (if z then (1 : Int) else 0) := by
  split
  · exact small_nat (n := 1) (by decide) (by decide) (by decide)
  · exact small_nat (n := 1) (by decide) (by decide) (by decide)
theorem pow_i {i : Int} {n : Nat} (h : n ≤ 1000000) (h2 : i.natAbs < 2 ^ 64) : powO (.int i) (.int n) = some (.sh (.int (i ^ n))) := if_pos ⟨Int.natCast_nonneg _, by omega, h2⟩
theorem pow_10_18 : powO (.int 10) (.int 18) = some (.sh (.int 1000000000000000000)) := by
  have e : (10 : Int) ^ 18 = 1000000000000000000 := by decide
  rw [← e]
  exact pow_i (i := 10) (n := 18) (by decide) (by decide)
end T

/-! LS2: the laws' systems. -/
namespace T
open PySem L2 Mx
/-! ### kinds -/
/-- a system of at most n kinds -/
structure Sys (n : Nat) (ks : List (Int × Int)) : Prop where
  ne : ks ≠ []
  few : ks.length ≤ n
  good : Good ks
  asc : ks.Pairwise (fun p q => p.1 < q.1 ∨ (p.1 = q.1 ∧ p.2 < q.2))
end T

/-! PS6: the functions of the module of sums that raise nothing; repr of numbers. -/
namespace T
open PySem L2 Mx
variable {ks : List (Int × Int)}
section
variable {x : Int}
end
end T

/-! PS7: the worst moments, the least ring. -/
namespace T
open PySem L2 Mx
variable {ks sys : List (Int × Int)} {L : Int}
/-! ### index -/
def pyK (p : Int × Int) : PyData := .tuple [.int p.1, .int p.2]
theorem pys_kD : ∀ ks : List (Int × Int), D.pys (ks.map kD) = some (ks.map pyK)
  | [] => rfl
  | p :: r => by
    rw [List.map_cons]
    unfold D.pys
    rw [pys_kD r]
    rfl
theorem eqv_pyK {p q : Int × Int} : PyData.eqv (pyK p) (pyK q) = decide (p = q) := by
  rw [Bool.eq_iff_iff, decide_eq_true_iff]
  simp [pyK, PyData.eqv, PyData.eqvAll, Prod.ext_iff]
theorem shaped_kD (ks : List (Int × Int)) : SeqAt.shaped (.tuple (ks.map pyK)) = true := by
  obtain ⟨p, h1, h2, h3⟩ := nice_tup (n := 1) (ds := ks.map kD) fun d hd => by obtain ⟨q, _, rfl⟩ := List.mem_map.mp hd; exact nice_kD
  have : p = .tuple (ks.map pyK) := by
    unfold D.py at h1
    rw [pys_kD] at h1
    exact (Option.some.inj h1).symm
  subst this
  unfold SeqAt.shaped
  rw [h2, decide_eq_true (by omega)]; rfl
/-! ### usable -/
/-! ### greatest_length -/
/-! ### first_ones -/
end T

/-! PS8: the class of moments. -/
namespace T
open PySem L2 Mx
variable {ks sys : List (Int × Int)} {L : Int}
section
variable {dl fd : D} {v w : Int} {p : Int × Int}
end
section
variable {dl fd : D} {v : Int} {p : Int × Int}
end
end T

/-! PS9: moments made; the least ring. -/
namespace T
open PySem L2 Mx
variable {ks sys : List (Int × Int)} {L : Int}
section
variable {dl fd : D} {v : Int} {p : Int × Int}
end
end T

/-! M5: least rings compared. -/
namespace Mx
variable {A B ks sys : Ks} {x y w v L : Int} {p q : Int × Int}
/-- each kind of B is matched by one of A as long and no heavier -/
def Str (A B : Ks) : Prop := ∀ q ∈ B, ∃ p ∈ A, p.1 = q.1 ∧ p.2 ≤ q.2
theorem Str.us (h : Str A B) (L : Int) : Str (us A L) (us B L) := fun q hq => by
  obtain ⟨h1, h2⟩ := mem_us.mp hq
  obtain ⟨p, hp, e1, e2⟩ := h q h1
  exact ⟨p, mem_us.mpr ⟨hp, by omega⟩, e1, e2⟩
theorem Str.mix (h : Str A B) (hm : Mix B x w) : ∃ w', w' ≤ w ∧ Mix A x w' := by
  refine Mix.ind (P := fun x w => ∃ w', w' ≤ w ∧ Mix A x w') ⟨0, Int.le_refl _, .nil⟩ ?_ hm
  intro x w q hq _ ih
  obtain ⟨w', h1, h2⟩ := ih
  obtain ⟨p, hp, e1, e2⟩ := h q hq
  exact ⟨w' + p.2, by omega, by rw [← e1]; exact h2.add hp⟩
theorem Str.isS (h : Str A B) (hs : IsS B x) : IsS A x := by
  obtain ⟨w, hm⟩ := hs
  obtain ⟨w', _, h2⟩ := h.mix hm
  exact ⟨w', h2⟩
/-- a stronger system, a limit no less: shapes stay -/
theorem Occ.str {s : Shp} {k : Nat} {L' : Int} (h : Str A B) (hL : L ≤ L') (ho : Occ B L s k v) : ∃ s' k', Occ A L' s' k' v := by
  have hu : Str (us A L') (Mx.us B L) := fun q hq => by
    obtain ⟨h1, h2⟩ := mem_us.mp hq
    obtain ⟨p, hp, e1, e2⟩ := h q h1
    exact ⟨p, mem_us.mpr ⟨hp, by omega⟩, e1, e2⟩
  have find : ∀ {k : Nat} {q : Int × Int}, B[k]? = some q → q.2 ≤ L → ∃ (k' : Nat) (p : Int × Int), A[k']? = some p ∧ p.1 = q.1 ∧ p.2 ≤ q.2 ∧ p.2 ≤ L' := fun {k q} hk hq => by
    obtain ⟨p, hp, e1, e2⟩ := h q (List.mem_of_getElem? hk)
    obtain ⟨k', hk'⟩ := mem_at hp
    exact ⟨k', p, hk', e1, e2, by omega⟩
  cases s with
  | long =>
    obtain ⟨q, h1, h2, rfl⟩ := ho
    obtain ⟨k', p, a1, a2, a3, a4⟩ := find h1 h2
    exact ⟨.long, k', p, a1, a4, by omega⟩
  | endS a b =>
    obtain ⟨q, h1, h2, h3, h4, h5, ⟨w, hm, hw⟩, rfl⟩ := ho
    obtain ⟨k', p, a1, a2, a3, a4⟩ := find h1 h2
    obtain ⟨w', b1, b2⟩ := hu.mix hm
    exact ⟨.endS a b, k', p, a1, a4, hu.isS h3, by omega, h5, ⟨w', b2, by omega⟩, by omega⟩
  | newS a b c t =>
    obtain ⟨q, f, h1, h2, h3, h4, h5, h6, h7, h8, ⟨wb, wr, m1, m2, hw⟩, rfl⟩ := ho
    obtain ⟨k', p, a1, a2, a3, a4⟩ := find h1 h2
    obtain ⟨t', f', c1, c2, c3, c4⟩ := find h3 h4
    obtain ⟨wb', b1, b2⟩ := hu.mix m1
    obtain ⟨wr', d1, d2⟩ := hu.mix m2
    exact ⟨.newS a b c t', k', p, f', a1, a4, c1, c4, hu.isS h5, h6, by omega, h8, ⟨wb', wr', b2, by rw [c2]; exact d2, by omega⟩, by omega⟩
end Mx

/-! LS4: the law that asks all cells of a def; searches; slices. -/
namespace T
open PySem L2 Mx
/-! ### slices of systems -/
theorem cut_from {ds : List D} {i : Int} (h : 0 ≤ i) : cutD ds (some i) none = ds.drop i.toNat := by
  obtain ⟨k, rfl⟩ := Int.eq_ofNat_of_zero_le h
  unfold cutD
  rw [HT.sIx_none, HT.sIx_nat]
  by_cases c : k ≤ ds.length
  · rw [Nat.min_eq_left c, List.take_of_length_le (by simp)]; simp
  · rw [Nat.min_eq_right (by omega), List.drop_eq_nil_of_le (Nat.le_refl _), List.drop_eq_nil_of_le (by simp; omega)]; simp
theorem Sys.take {n m : Nat} {ks : List (Int × Int)} (h : Sys n ks) (hm : 0 < m) : Sys (min m n) (ks.take m) := by
  refine ⟨?_, ?_, ⟨fun p hp => h.good.at_ p (List.mem_of_mem_take hp)⟩, h.asc.sublist (List.take_sublist _ _)⟩
  · intro e
    have := h.ne
    rw [List.take_eq_nil_iff] at e
    rcases e with e | e
    · omega
    · exact this e
  · rw [List.length_take]
    have := h.few
    omega
theorem Sys.mono {n m : Nat} {ks : List (Int × Int)} (h : Sys n ks) (hm : n ≤ m) : Sys m ks := ⟨h.ne, Nat.le_trans h.few hm, h.good, h.asc⟩
/-! ### a comprehension over kinds -/
end T

namespace T
open PySem PySem.Spec PyProof.Rows L2
-- law_can_pay: 0=_law_kinds_here 1=_law_cap 2=_law_kind
-- law_yes: 0=_law_kinds_here 1=_law_many 2=_law_found 3=_law_total 4=_law_length 5=_law_heavy
-- law_floors: 0=_law_kinds_here 1=_law_many 2=_law_found 3=_law_total 4=_law_is_there
-- law_rich: 0=_law_kinds_here 1=_law_many 2=_law_found 3=_law_load 4=_law_length 5=_law_heavy
-- law_slim: 0=_law_kinds_here 1=_law_many 2=_law_found 3=_law_total 4=_law_some 5=_law_loads 6=_law_length 7=_law_heavy 8=_law_one
end T

namespace T
open PySem PySem.Spec PyProof.Rows L2
-- law_top_behind: 0=_law_free 1=_law_cap 2=_law_newer 3=_law_floors_here 4=_law_rich_here 5=_law_best 6=_law_total 7=_law_first 8=_law_load 9=_law_length 10=_law_heavy 11=_law_left
-- law_top: 0=_law_kinds_here 1=_law_cap 2=_law_free 3=_law_rich_here 4=_law_many 5=_law_floors_here 6=_law_slim_here 7=_law_best 8=_law_length 9=_law_heavy 10=_law_old 11=_law_total 12=_law_first 13=_law_load
end T

/-! LS5: the laws' own tables. -/
namespace T
open PySem L2 Mx
variable {ks : List (Int × Int)}
/-- kinds as a tuple or a list -/
def KXs (ks : List (Int × Int)) (x : D) : Prop := x = kDs ks ∨ x = .lst (ks.map kD)
theorem KXs.seq {x : D} (h : KXs ks x) : x.seq = some (ks.map kD) := by rcases h with rfl | rfl <;> rfl
end T

/-! M6: the greatest ring that refuses, by all moments. -/
namespace Mx
variable {sys : Ks} {L m : Int}
end Mx

/-! LS6: the laws' own greatest ring that refuses. -/
namespace T
open PySem L2 Mx
variable {ks sys : List (Int × Int)} {L : Int}
end T

/-! LS3: the law's outermost loop. -/
namespace T
open PySem L2 Mx
end T

/-! LS7: laws of two or more turns for each cell. -/
namespace T
open PySem L2 Mx
end T

/-! LS8: what repr can show. -/
namespace T
open PySem L2 Mx PyProof.Rows
/-- a text of at most n signs shows it, k levels deep -/
structure Shw (n k : Nat) (d : D) (p : PyData) : Prop where
  py : d.py = some p
  sh : p.showable = true
  ln : p.shown.length ≤ n
  nd : p.hasDict = false
  dp : p.depth ≤ k
theorem shw_int {i : Int} (h : i.natAbs < 2 ^ 200) : Shw 1921 0 (.int i) (.int i) := by
  have hl : i.natAbs.log2 < 1920 := by
    by_cases c : i.natAbs = 0
    · rw [c]; decide
    · exact (Nat.log2_lt c).mpr (Nat.lt_of_lt_of_le h (Nat.pow_le_pow_right (by decide) (by decide)))
  exact ⟨rfl, by simpa [PyData.showable] using hl, by simpa [PyData.shown] using int_text_len_1921 hl, by simp [PyData.hasDict], by simp [PyData.depth]⟩
theorem shw_non : Shw 1921 0 .non .none := ⟨rfl, by simp [PyData.showable], by simp [PyData.shown]; decide, by simp [PyData.hasDict], by simp [PyData.depth]⟩
theorem shw_all {n k : Nat} : ∀ {ds : List D}, (∀ d ∈ ds, ∃ p, Shw n k d p) → ∃ ps, D.pys ds = some ps ∧ PyData.showableAll ps = true ∧ PyData.hasDictAll ps = false ∧ PyData.depthAll ps ≤ k ∧ (∀ t ∈ PyData.shownAll ps, t.length ≤ n) ∧ (PyData.shownAll ps).length = ds.length
  | [], _ => ⟨[], rfl, rfl, rfl, Nat.zero_le _, by simp [PyData.shownAll], rfl⟩
  | d :: r, h => by
    obtain ⟨p, h1, h2, h3, h4, h5⟩ := h d List.mem_cons_self
    obtain ⟨ps, q1, q2, q3, q4, q5, q6⟩ := shw_all fun e he => h e (List.mem_cons_of_mem _ he)
    refine ⟨p :: ps, by unfold D.pys; rw [h1, q1]; rfl, by simp [PyData.showableAll, h2, q2], by simp [PyData.hasDictAll, h4, q3], by simp only [PyData.depthAll]; omega, fun t ht => ?_, by simp [PyData.shownAll, q6]⟩
    simp only [PyData.shownAll] at ht
    rcases List.mem_cons.mp ht with rfl | ht
    · exact h3
    · exact q5 t ht
theorem piled_le {n : Nat} : ∀ {ts : List Str}, (∀ t ∈ ts, t.length ≤ n) → piled ts ≤ ts.length * (n + 2)
  | [], _ => Nat.zero_le _
  | t :: r, h => by
    have h1 := h t List.mem_cons_self
    have h2 := piled_le (ts := r) fun s hs => h s (List.mem_cons_of_mem _ hs)
    rw [piled_cons, List.length_cons, Nat.add_mul]
    omega
theorem shw_tup {n k : Nat} {ds : List D} (h : ∀ d ∈ ds, ∃ p, Shw n k d p) : ∃ p, Shw (ds.length * (n + 2) + 3) (k + 1) (.tup ds) p := by
  obtain ⟨ps, q1, q2, q3, q4, q5, q6⟩ := shw_all h
  refine ⟨.tuple ps, by unfold D.py; rw [q1]; rfl, by simp [PyData.showable, q2], ?_, by simp [PyData.hasDict, q3], by simp only [PyData.depth]; omega⟩
  have e : (PyData.shown (.tuple ps)) = tupleText (PyData.shownAll ps) := by simp [PyData.shown]
  rw [e]
  generalize PyData.shownAll ps = ts at *
  have pl := piled_le q5
  rw [q6] at pl
  unfold tupleText
  rw [strLen_append, strLen_append]
  have l1 : ("(" : Str).length = 1 := rfl
  have l2 : ∀ b : Bool, ((if b then ",)" else ")" : String) : Str).length ≤ 2 := fun b => by cases b <;> decide
  have l3 := l2 (ts.length == 1)
  rw [l1]
  by_cases c : ts = []
  · have : (Str.join ", " ts).length = 0 := by rw [c]; rfl
    omega
  · have := join_length_add ts c
    omega
theorem repr_shw {n k : Nat} {d : D} {p : PyData} (h : Shw n k d p) (hn : n ≤ 16777216 := by decide) (hk : k ≤ 60 := by decide) : reprD [d] = some (.str p.shown) := by
  have ok : okR p := ⟨h.sh, by have := h.dp; omega, by have := h.ln; rw [sizeLine_eq]; omega, h.nd⟩
  unfold reprD
  show (Option.bind d.py _) = _
  rw [h.py]
  simp only [Option.bind_some]
  rw [if_pos ok]
theorem shw_kD {p : Int × Int} (h1 : p.1.natAbs < 2 ^ 200) (h2 : p.2.natAbs < 2 ^ 200) : ∃ q, Shw 3849 1 (kD p) q := by
  have := shw_tup (n := 1921) (k := 0) (ds := [.int p.1, .int p.2]) fun d hd => by
    rcases List.mem_cons.mp hd with rfl | hd
    · exact ⟨_, shw_int h1⟩
    · rw [List.mem_singleton.mp hd]; exact ⟨_, shw_int h2⟩
  exact this
end T

/-! LS9: one kind more; loops that go back at the first of some kind. -/
namespace T
open PySem L2 Mx
variable {ks : List (Int × Int)} {l w L : Int}
/-! ### one kind more -/
/-! ### the law's own way -/
end T

/-! M7: far limits. -/
namespace Mx
variable {sys : Ks} {L m r gl mr hv mw : Int} {rc p : Int × Int}
end Mx

/-! PS11: settled. -/
namespace T
open PySem L2 Mx
variable {ks : List (Int × Int)}
/-- what settled tells -/
structure Setl (ks : List (Int × Int)) (lim : Int) (rc : Int × Int) : Prop where
  mem : rc ∈ ks
  rich : Rich rc ks
  b0 : 0 ≤ lim
  b1 : lim ≤ 1000000
  per : ∀ L, lim ≤ L → ∀ n : Nat, lst ks (L + n * rc.2) = lst ks L + n * rc.1
end T

/-! M8: one kind; weights 1; weights that are the lengths. -/
namespace Mx
variable {sys ks : Ks} {l w L x y m d : Int} {p q f : Int × Int}
/-! ### one kind -/
/-! ### weights 1 -/
/-! ### weights that are the lengths -/
end Mx

/-! LS10: lengths drawn, systems made of lengths. -/
namespace T
open PySem L2 Mx
variable {ls : List Int} {g0 : Int → Int}
/-! ### lists of ints compared -/
/-! ### systems of lengths -/
/-! ### lengths drawn -/
/-- what a drawn system of lengths is -/
structure Lens (ls : List Int) (t : Int) : Prop where
  b : ∀ l ∈ ls, 1 ≤ l ∧ l ≤ 30
  few : ls.length ≤ 60
  top : t ∈ ls
  le : ∀ l ∈ ls, l ≤ t
end T

namespace T
open PySem PySem.Spec PyProof.Rows L2
-- lightest_messages: 0=system 1=limit 2=words 3=kinds 4=weights 5=here 6=some 7=found 8=fit 9=at 10=kind 11=length 12=weight
-- script_of: 0=heads 1=olds 2=newer 3=last 4=found 5=kind
-- script_for: 0=system 1=limit 2=shape 3=kind 4=words 5=heads 6=olds 7=newer 8=length
-- Play___init: 0=self 1=system 2=limit 3=words
-- Play_is_allowed: 0=self 1=request
-- Play_is_refused: 0=self 1=request 2=head
-- Play_pop: 0=self 1=start 2=kind
-- Play_do: 0=self 1=request 2=length 3=weight 4=start
-- shows_unsafe: 0=system 1=limit 2=words 3=value 4=play 5=request
end T

/-! LS11: shapes that can occur. -/
namespace T
open PySem L2 Mx
variable {sys ks : List (Int × Int)} {l w L x : Int} {p f : Int × Int} {dl : D}
theorem isi_int {i : Int} : isiD [.int i, .ty "int"] = some (.bl true) := rfl
theorem isi_intB {i : Int} : isiD [.int i, .ty "bool"] = some (.bl false) := rfl
theorem asg_kD {i j : Nat} {ρ : Ev} : asg (.t [.n i, .n j]) (kD p) ρ = some ((ρ.set i (.sh (.int p.1))).set j (.sh (.int p.2))) := by simp [kD]
/-! ### p in ks -/
/-! ### parts of can_occur -/
/-! ### can_occur of shapes of numbers -/
/-- the numbers of a shape -/
def nums : Shp → List Int
  | .long => []
  | .endS h b => [h, b]
  | .newS h b q t => [h, b, q, (t : Nat)]
def word : Shp → Str
  | .long => "long"
  | .endS _ _ => "short end"
  | .newS _ _ _ _ => "caught up"
/-- a shape whose numbers are small -/
structure Fits (s : Shp) : Prop where
  at_ : ∀ i ∈ nums s, 0 ≤ i ∧ i < 2 ^ 80
end T

/-! LS12: systems made: is_system, system_of, padded, best_unit. -/
namespace T
open PySem L2 Mx
variable {ks qs sys : List (Int × Int)} {L u l : Int} {p : Int × Int}
theorem integer_in {i a b : Int} : m_is_integer [.sh (.int i), .sh (.int a), .sh (.int b)] = some (.sh (.bl (decide (a ≤ i) && decide (i ≤ b))), [.no, .no, .no]) := by
  by_cases c : i < a
  · have c2 : ¬ a ≤ i := by omega
    simp [m_is_integer, mb_is_integer, isi_int, isi_intB, c, c2]
  · have c2 : a ≤ i := by omega
    simp [m_is_integer, mb_is_integer, isi_int, isi_intB, c, c2]
theorem kind_ok (h : 1 ≤ p.1 ∧ p.1 ≤ 30 ∧ 1 ≤ p.2 ∧ p.2 ≤ 30) : m_is_kind [.sh (kD p)] = some (.sh (.bl true), [.no]) := by
  have e1 := integer_in (i := p.1) (a := 1) (b := 30)
  have e2 := integer_in (i := p.2) (a := 1) (b := 30)
  rw [decide_eq_true h.1, decide_eq_true h.2.1] at e1
  rw [decide_eq_true h.2.2.1, decide_eq_true h.2.2.2] at e2
  have it : isiD [kD p, .ty "tuple"] = some (.bl true) := rfl
  have ln : lenD [kD p] = some (.int 2) := rfl
  have asg := fun {ρ : Ev} => asg_kD (p := p) (i := 1) (j := 2) (ρ := ρ)
  generalize kD p = x at *
  simp [m_is_kind, mb_is_kind, it, ln, asg, e1, e2]
theorem lex_kL2 {p q : Int × Int} (h : p.1 < q.1 ∨ (p.1 = q.1 ∧ p.2 < q.2)) : HT.lexLt [p.1, p.2] [q.1, q.2] = true := by
  unfold HT.lexLt
  rcases h with h | ⟨h1, h2⟩
  · rw [if_neg (by omega), decide_eq_true h]
  · rw [if_pos h1]
    unfold HT.lexLt
    rw [if_neg (by omega), decide_eq_true h2]
theorem pair_drop : ∀ {ks : List (Int × Int)}, pairD (ks.map kD) ((ks.drop 1).map kD) = (ks.zip (ks.drop 1)).map fun pq => D.tpw [kD pq.1, kD pq.2] := by
  have key : ∀ {as bs : List (Int × Int)}, pairD (as.map kD) (bs.map kD) = (as.zip bs).map fun pq => D.tpw [kD pq.1, kD pq.2] := by
    intro as
    induction as with
    | nil => intro bs; simp [pairD]
    | cons a r ih =>
      intro bs
      cases bs with
      | nil => simp [pairD]
      | cons b t => simp [pairD, ih]
  intro ks
  exact key
theorem zip_asc {α : Type} {R : α → α → Prop} : ∀ {ks : List α}, ks.Pairwise R → ∀ pq ∈ ks.zip (ks.drop 1), R pq.1 pq.2
  | [], _, pq, h => by simp at h
  | [a], _, pq, h => by simp at h
  | a :: b :: r, hp, pq, h => by
    obtain ⟨h1, h2⟩ := List.pairwise_cons.mp hp
    have h' : pq ∈ (a, b) :: (b :: r).zip r := h
    rcases List.mem_cons.mp h' with e | h'
    · rw [e]; exact h1 b List.mem_cons_self
    · exact zip_asc h2 pq h'
theorem is_system_ok {n : Nat} (hs : Sys n ks) (hn : n ≤ 6) : m_is_system [.sh (kDs ks)] = some (.sh (.bl true), [.no]) := by
  have l1 : 1 ≤ ks.length := List.length_pos_iff.mpr hs.ne
  have l6 : ks.length ≤ 6 := Nat.le_trans hs.few hn
  have it : isiD [kDs ks, .ty "tuple"] = some (.bl true) := rfl
  have ln : lenD [kDs ks] = some (.int ks.length) := by unfold kDs; rw [len_t, List.length_map]
  have c1 := eLc_map kD (as := ks) (vs := [1]) (t := .n 1) (src := iSeq (eVar 0)) (f := eCall m_is_kind [] [.e (eVar 1)]) (fun _ => .bl true) (ρ := [.sh (kDs ks), .no, .no]) (ρ0 := [.sh (kDs ks), .no, .no])
    (by simp [kDs]) (by simp) (by rw [sizeLine_eq]; omega) fun p hp => by
      have e := kind_ok (hs.good.at_ p hp)
      exact ⟨[.sh (kDs ks), .sh (kD p), .no], _, _, by simp, by simp [e]; exact ⟨rfl, rfl⟩, rfl, by simp⟩
  have sl : sliceO (kDs ks) (some 1) none = some (.sh (.tup ((ks.drop 1).map kD))) := by
    unfold kDs
    rw [slice_t, cut_from (by decide)]
    simp
  have zp : zipO (kDs ks) (.tup ((ks.drop 1).map kD)) = some ((ks.zip (ks.drop 1)).map fun pq => D.tpw [kD pq.1, kD pq.2]) := by
    show some (pairD _ _) = _
    rw [pair_drop]
  have c2 := eLc_map (fun pq : (Int × Int) × (Int × Int) => D.tpw [kD pq.1, kD pq.2]) (as := ks.zip (ks.drop 1)) (vs := [1, 2]) (t := .t [(.n 1), (.n 2)]) (src := iZp (eVar 0) (eSl sliceO (eVar 0) (oSome (eC (.int 1))) oNone)) (f := eBin ltTO (eVar 1) (eVar 2)) (fun _ => .bl true)
    (ρ := [.sh (kDs ks), .no, .no]) (ρ0 := [.sh (kDs ks), .no, .no]) (by
      simp [sl, zp, -List.drop_one, -List.map_drop]) (by simp) (by rw [sizeLine_eq]; simp; omega) fun pq hpq => by
      have hr := zip_asc hs.asc pq hpq
      have e := ltT_e (ns := [pq.1.1, pq.1.2]) (ms := [pq.2.1, pq.2.2])
      rw [lex_kL2 hr] at e
      have e' : ltTO (kD pq.1) (kD pq.2) = some (.sh (.bl true)) := e
      exact ⟨[.sh (kDs ks), .sh (kD pq.1), .sh (kD pq.2)], _, _, by simp, by simp [e']; exact ⟨rfl, rfl⟩, rfl, by simp⟩
  have all_true : ∀ {α : Type} {as : List α}, allD [.lst (as.map fun _ => D.bl true)] = some (.bl true) := fun {α as} => by
    rw [show (as.map fun _ => D.bl true) = (as.map fun _ => true).map .bl by rw [List.map_map]; rfl, all_l]
    simp
  have a1 := all_true (as := ks)
  have a2 := all_true (as := ks.zip (ks.drop 1))
  have c1' : mb_is_system_C1 [.sh (kDs ks), .no, .no] = _ := c1
  have c2' : mb_is_system_C2 [.sh (kDs ks), .no, .no] = _ := c2
  generalize (ks.map fun _ => D.bl true) = z1 at *
  generalize ((ks.zip (ks.drop 1)).map fun _ => D.bl true) = z2 at *
  generalize kDs ks = K at *
  have b1 : (1 : Int) ≤ ks.length := by omega
  have b2 : (ks.length : Int) ≤ 6 := by omega
  simp [m_is_system, mb_is_system, it, ln, b1, b2, c1', a1, c2', a2]
/-! ### padded -/
end T

/-! LS13: loops that may go back. -/
namespace T
open PySem L2 Mx
/-- a comprehension, its own slots holding anything before -/
theorem eLc_overW {α : Type} (enc : α → D) {as : List α} {vs : List Nat} {t : Tg} {src : FI} {c : FT} {f : FE} (P : α → Bool) (G : α → D) {ρ ρ1 ρ0 : Ev} (hs : src ρ = some (as.map enc, ρ1)) (hw1 : wipeE ρ1 vs = ρ0) (hw : wipeE ρ0 vs = ρ0) (hz : as.length ≤ sizeLine)
    (h : ∀ a ∈ as, ∃ ρ1 ρ2, asg t (enc a) ρ0 = some ρ1 ∧ c ρ1 = some (P a, ρ2) ∧ (P a = true → ∃ s ρ3, f ρ2 = some (s, ρ3) ∧ vl s = some (G a) ∧ wipeE ρ3 vs = ρ0) ∧ (P a = false → wipeE ρ2 vs = ρ0)) :
    eLc vs t src c f ρ = some (.ow (.lst ((as.filter P).map G)), ρ0) := by
  unfold eLc
  rw [hs]
  simp only [Option.bind_some]
  rw [hw1, lc_over enc (by simpa using hz) h]
  simp [hw]
end T

/-! M10: the sizes of all shapes together have no gap. -/
namespace Mx
variable {sys ks : Ks} {x y w v m n d L W : Int} {p f q : Int × Int}
end Mx

/-! M11: the states of a ring; a refusal can be reached exactly in rings of fewer words than the least one. -/
namespace Mx
/-- the weight of live messages -/
def load (sys : Ks) (live : List (Int × Nat)) : Int := sumF (fun m => ((sys[m.2]?).getD (0, 0)).2) live
/-- the start of a message that is pushed -/
def put (W here : Int) (live : List (Int × Nat)) (len : Int) : Option Int :=
  if W < len then none
  else match live with
    | [] => if here + len ≤ W then some here else some 0
    | m :: _ => if m.1 < here then (if here + len ≤ W then some here else if len ≤ m.1 then some 0 else none) else if here + len ≤ m.1 then some here else none
/-- the states that requests reach -/
inductive Rch (sys : Ks) (L W : Int) : Int → List (Int × Nat) → Prop
  | zero : Rch sys L W 0 []
  | pop {here : Int} {live : List (Int × Nat)} {m : Int × Nat} : Rch sys L W here (m :: live) → Rch sys L W here live
  | push {here s : Int} {live : List (Int × Nat)} {k : Nat} {p : Int × Int} : Rch sys L W here live → sys[k]? = some p → load sys live + p.2 ≤ L → put W here live p.1 = some s → Rch sys L W (s + p.1) (live ++ [(s, k)])
def Refus (sys : Ks) (L W : Int) : Prop := ∃ (here : Int) (live : List (Int × Nat)) (k : Nat) (p : Int × Int), Rch sys L W here live ∧ sys[k]? = some p ∧ load sys live + p.2 ≤ L ∧ put W here live p.1 = none
/-- messages one behind the other from a to b, their weight -/
inductive Run (sys : Ks) (L : Int) : Int → List (Int × Nat) → Int → Int → Prop
  | nil {a : Int} : Run sys L a [] a 0
  | cons {a b w : Int} {k : Nat} {p : Int × Int} {l : List (Int × Nat)} : sys[k]? = some p → p.2 ≤ L → Run sys L (a + p.1) l b w → Run sys L a ((a, k) :: l) b (w + p.2)
/-- how a state that is reached lies -/
inductive Ok (sys : Ks) (L W : Int) : Int → List (Int × Nat) → Prop
  | flat {h here w : Int} {live : List (Int × Nat)} : IsS (us sys L) h → Run sys L h live here w → here ≤ W → w ≤ L → Ok sys L W here live
  | wrap {h e w w' here : Int} {old new : List (Int × Nat)} {t : Nat} {f : Int × Int} : IsS (us sys L) h → Run sys L h old e w → old ≠ [] → Run sys L 0 ((0, t) :: new) here w' → sys[t]? = some f → here ≤ h → e ≤ W → W < e + f.1 → w + w' ≤ L → Ok sys L W here (old ++ (0, t) :: new)
variable {sys ks : Ks} {x y w v m n d L W h a b c e here s : Int} {p f q : Int × Int} {k t : Nat} {live old new l : List (Int × Nat)}
theorem Run.mix (r : Run sys L a l b w) : Mix (us sys L) (b - a) w := by
  induction r with
  | @nil a => rw [show a - a = 0 by omega]; exact .nil
  | @cons a b w k p l h1 h2 r ih =>
    have := ih.add (at_us' h1 h2)
    rw [show b - (a + p.1) + p.1 = b - a by omega] at this
    exact this
theorem Run.head (r : Run sys L a ((x, k) :: l) b w) : x = a ∧ ∃ p w', sys[k]? = some p ∧ p.2 ≤ L ∧ w = w' + p.2 ∧ Run sys L (a + p.1) l b w' := by
  cases r with
  | cons h1 h2 r => exact ⟨rfl, _, _, h1, h2, rfl, r⟩
theorem Run.empty (r : Run sys L a [] b w) : b = a ∧ w = 0 := by
  cases r
  exact ⟨rfl, rfl⟩
theorem Run.lt (g : Good sys) (r : Run sys L a l b w) (hl : l ≠ []) : a < b := by
  have hm := r.mix.bounds (us_good (L := L) g)
  cases r with
  | nil => exact absurd rfl hl
  | cons h1 h2 r =>
    have := r.mix.bounds (us_good (L := L) g)
    have := g.at_ _ (List.mem_of_getElem? h1)
    omega
/-! ### a shape is reached -/
end Mx

/-! M12: a search through all states of a ring. -/
namespace Mx
abbrev Sta := Int × List (Int × Nat)
variable {sys ks : Ks} {L W here s : Int} {p : Int × Int} {k : Nat} {live : List (Int × Nat)} {x y : Sta}
/-- the states behind a request; none for a refused push -/
def pops (x : Sta) : List (Option Sta) := match x.2 with
  | [] => []
  | _ :: r => [some (x.1, r)]
def pushO (sys : Ks) (L W : Int) (x : Sta) (q : (Int × Int) × Nat) : List (Option Sta) :=
  if load sys x.2 + q.1.2 ≤ L then [(put W x.1 x.2 q.1.1).map fun s => (s + q.1.1, x.2 ++ [(s, q.2)])] else []
def nexts (sys : Ks) (L W : Int) (x : Sta) : List (Option Sta) := pops x ++ sys.zipIdx.flatMap (pushO sys L W x)
theorem mem_zipI : (p, k) ∈ sys.zipIdx ↔ sys[k]? = some p := by
  rw [List.mem_zipIdx_iff_getElem?]
theorem mem_push {o : Option Sta} : o ∈ sys.zipIdx.flatMap (pushO sys L W x) ↔ ∃ k p, sys[k]? = some p ∧ load sys x.2 + p.2 ≤ L ∧ o = (put W x.1 x.2 p.1).map fun s => (s + p.1, x.2 ++ [(s, k)]) := by
  rw [List.mem_flatMap]
  constructor
  · rintro ⟨⟨p, k⟩, h1, h2⟩
    unfold pushO at h2
    split at h2
    · rename_i hw
      exact ⟨k, p, mem_zipI.mp h1, hw, List.mem_singleton.mp h2⟩
    · cases h2
  · rintro ⟨k, p, h1, h2, rfl⟩
    refine ⟨(p, k), mem_zipI.mpr h1, ?_⟩
    unfold pushO
    rw [if_pos h2]
    exact List.mem_singleton.mpr rfl
theorem next_rch (r : Rch sys L W x.1 x.2) (h : some y ∈ nexts sys L W x) : Rch sys L W y.1 y.2 := by
  obtain ⟨here, live⟩ := x
  rcases List.mem_append.mp h with h | h
  · unfold pops at h
    cases live with
    | nil => cases h
    | cons m r' =>
      have := List.mem_singleton.mp h
      cases this
      exact r.pop
  · obtain ⟨k, p, h1, h2, h3⟩ := mem_push.mp h
    obtain ⟨s, h4, h5⟩ := Option.map_eq_some_iff.mp h3.symm
    subst h5
    exact .push r h1 h2 h4
/-- what holds for the first state and goes on holds for all; no push is refused -/
theorem closed_all (S : Sta → Prop) (h0 : S (0, [])) (hc : ∀ x, S x → ∀ o ∈ nexts sys L W x, ∃ y, o = some y ∧ S y) : ∀ {here live}, Rch sys L W here live → S (here, live) := by
  intro here live r
  induction r with
  | zero => exact h0
  | @pop here live m r ih =>
    obtain ⟨y, e, h⟩ := hc _ ih (some (here, live)) (List.mem_append_left _ (List.mem_singleton.mpr rfl))
    cases e
    exact h
  | @push here s live k p r h1 h2 h3 ih =>
    obtain ⟨y, e, h⟩ := hc _ ih (some (s + p.1, live ++ [(s, k)])) (List.mem_append_right _ (mem_push.mpr ⟨k, p, h1, h2, by rw [h3]; rfl⟩))
    cases e
    exact h
theorem closed_not (S : Sta → Prop) (h0 : S (0, [])) (hc : ∀ x, S x → ∀ o ∈ nexts sys L W x, ∃ y, o = some y ∧ S y) : ¬ Refus sys L W := by
  rintro ⟨here, live, k, p, r, h1, h2, h3⟩
  obtain ⟨y, e, _⟩ := hc _ (closed_all S h0 hc r) none (List.mem_append_right _ (mem_push.mpr ⟨k, p, h1, h2, by rw [h3]; rfl⟩))
  cases e
theorem pops_len : (pops x).length ≤ 1 := by unfold pops; split <;> simp
theorem push_len : ∀ zs : List ((Int × Int) × Nat), (zs.flatMap (pushO sys L W x)).length ≤ zs.length := by
  intro zs
  induction zs with
  | nil => simp
  | cons z r ih =>
    rw [List.flatMap_cons, List.length_append]
    have : (pushO sys L W x z).length ≤ 1 := by unfold pushO; split <;> simp
    simp only [List.length_cons]
    omega
theorem nexts_len : (nexts sys L W x).length ≤ 1 + sys.length := by
  unfold nexts
  rw [List.length_append]
  have a := pops_len (x := x)
  have := push_len (sys := sys) (L := L) (W := W) (x := x) sys.zipIdx
  rw [List.length_zipIdx] at this
  omega
/-! ### the search -/
def seeAll : List (Option Sta) → List Sta → List Sta → Option (List Sta × List Sta)
  | [], K, w => some (K, w)
  | none :: _, _, _ => none
  | some y :: r, K, w => if y ∈ K then seeAll r K w else seeAll r (K ++ [y]) (w ++ [y])
theorem see_some {its : List (Option Sta)} : ∀ {K w K' w' : List Sta}, seeAll its K w = some (K', w') → K.Nodup →
    K'.Nodup ∧ K'.length + w.length = K.length + w'.length ∧ K.length ≤ K'.length ∧ K'.length ≤ K.length + its.length ∧ (∀ y ∈ K, y ∈ K') ∧ (∀ y ∈ w, y ∈ w') ∧ (∀ y ∈ K', y ∈ K ∨ (y ∈ w' ∧ some y ∈ its)) ∧ (∀ y ∈ w', y ∈ w ∨ y ∈ K') ∧ ∀ o ∈ its, ∃ y, o = some y ∧ y ∈ K' := by
  induction its with
  | nil =>
    intro K w K' w' h nd
    cases h
    exact ⟨nd, rfl, Nat.le_refl _, Nat.le_refl _, fun y h => h, fun y h => h, fun y h => .inl h, fun y h => .inl h, fun o h => by cases h⟩
  | cons o r ih =>
    intro K w K' w' h nd
    cases o with
    | none => cases h
    | some y =>
      rw [seeAll] at h
      split at h
      · rename_i hy
        obtain ⟨a, b, c, d, e, f, g, i, j⟩ := ih h nd
        refine ⟨a, b, c, by simp only [List.length_cons]; omega, e, f, fun z hz => ?_, i, fun o ho => ?_⟩
        · rcases g z hz with g | g
          · exact .inl g
          · exact .inr ⟨g.1, List.mem_cons_of_mem _ g.2⟩
        · rcases List.mem_cons.mp ho with rfl | ho
          · exact ⟨y, rfl, e y hy⟩
          · exact j o ho
      · rename_i hy
        have nd2 : (K ++ [y]).Nodup := by
          rw [List.nodup_append]
          exact ⟨nd, by simp, fun a ha b hb => by rw [List.mem_singleton.mp hb]; rintro rfl; exact hy ha⟩
        obtain ⟨a, b, c, d, e, f, g, i, j⟩ := ih h nd2
        simp only [List.length_append, List.length_singleton, List.length_cons, List.length_nil] at b c d ⊢
        refine ⟨a, by omega, by omega, by omega, fun z hz => e z (List.mem_append_left _ hz), fun z hz => f z (List.mem_append_left _ hz), fun z hz => ?_, fun z hz => ?_, fun o ho => ?_⟩
        · rcases g z hz with g | g
          · rcases List.mem_append.mp g with g | g
            · exact .inl g
            · rw [List.mem_singleton.mp g]
              exact .inr ⟨f y (List.mem_append_right _ (List.mem_singleton.mpr rfl)), List.mem_cons_self⟩
          · exact .inr ⟨g.1, List.mem_cons_of_mem _ g.2⟩
        · rcases i z hz with i | i
          · rcases List.mem_append.mp i with i | i
            · exact .inl i
            · rw [List.mem_singleton.mp i]
              exact .inr (e y (List.mem_append_right _ (List.mem_singleton.mpr rfl)))
          · exact .inr i
        · rcases List.mem_cons.mp ho with rfl | ho
          · exact ⟨y, rfl, e y (List.mem_append_right _ (List.mem_singleton.mpr rfl))⟩
          · exact j o ho
structure Srch (sys : Ks) (L W : Int) (K w : List Sta) : Prop where
  rch : ∀ x ∈ K, Rch sys L W x.1 x.2
  sub : ∀ x ∈ w, x ∈ K
  zero : (0, []) ∈ K
  nd : K.Nodup
  closed : ∀ x ∈ K, x ∈ w ∨ ∀ o ∈ nexts sys L W x, ∃ y, o = some y ∧ y ∈ K
theorem Srch.step {K w K' w' : List Sta} (h : Srch sys L W K (w ++ [x])) (e : seeAll (nexts sys L W x) K w = some (K', w')) :
    Srch sys L W K' w' ∧ K.length ≤ K'.length ∧ K'.length ≤ K.length + (1 + sys.length) ∧ K'.length + w.length = K.length + w'.length := by
  have hx := h.sub x (List.mem_append_right _ (List.mem_singleton.mpr rfl))
  obtain ⟨a, b, c, d, e2, f, g, i, j⟩ := see_some e h.nd
  have := nexts_len (sys := sys) (L := L) (W := W) (x := x)
  refine ⟨⟨fun y hy => ?_, fun y hy => ?_, e2 _ h.zero, a, fun y hy => ?_⟩, c, by omega, b⟩
  · rcases g y hy with g | g
    · exact h.rch y g
    · exact next_rch (h.rch x hx) g.2
  · rcases i y hy with i | i
    · exact e2 y (h.sub y (List.mem_append_left _ i))
    · exact i
  · rcases g y hy with g | g
    · rcases h.closed y g with q | q
      · rcases List.mem_append.mp q with q | q
        · exact .inl (f y q)
        · rw [List.mem_singleton.mp q]
          exact .inr j
      · exact .inr fun o ho => by
          obtain ⟨z, hz, hz2⟩ := q o ho
          exact ⟨z, hz, e2 z hz2⟩
    · exact .inl g.1
theorem Srch.done {K : List Sta} (h : Srch sys L W K []) : (¬ Refus sys L W) ∧ ∀ x, x ∈ K ↔ Rch sys L W x.1 x.2 := by
  have hc : ∀ x, x ∈ K → ∀ o ∈ nexts sys L W x, ∃ y, o = some y ∧ y ∈ K := fun x hx => by
    rcases h.closed x hx with q | q
    · cases q
    · exact q
  exact ⟨closed_not (fun x => x ∈ K) h.zero hc, fun x => ⟨h.rch x, fun r => closed_all (fun x => x ∈ K) h.zero hc r⟩⟩
end Mx

/-! M15: scripts: requests one behind the other. -/
namespace Mx
variable {sys ks : Ks} {L W here s h a b : Int} {p f : Int × Int} {k t : Nat} {live : List (Int × Nat)} {x y z : Sta} {rs qs : List (Option Nat)} {ms ns : List Nat}
/-- one request; none is a pop -/
def stp (sys : Ks) (L W : Int) (x : Sta) : Option Nat → Option Sta
  | none => match x.2 with
    | [] => none
    | _ :: r => some (x.1, r)
  | some k => (sys[k]?).bind fun p => if load sys x.2 + p.2 ≤ L then (put W x.1 x.2 p.1).map fun s => (s + p.1, x.2 ++ [(s, k)]) else none
def ply (sys : Ks) (L W : Int) : Sta → List (Option Nat) → Option Sta
  | x, [] => some x
  | x, r :: rs => (stp sys L W x r).bind fun y => ply sys L W y rs
/-- an allowed push that is refused -/
def Bad (sys : Ks) (L W : Int) (x : Sta) (k : Nat) : Prop := ∃ p, sys[k]? = some p ∧ load sys x.2 + p.2 ≤ L ∧ put W x.1 x.2 p.1 = none
def Scr (sys : Ks) (L W : Int) (rs : List (Option Nat)) (k : Nat) : Prop := ∃ x, ply sys L W (0, []) rs = some x ∧ Bad sys L W x k
/-! ### messages laid one behind the other -/
def lenK (sys : Ks) (k : Nat) : Int := ((sys[k]?).getD (0, 0)).1
def wtK (sys : Ks) (k : Nat) : Int := ((sys[k]?).getD (0, 0)).2
def lay (sys : Ks) : Int → List Nat → List (Int × Nat)
  | _, [] => []
  | a, k :: r => (a, k) :: lay sys (a + lenK sys k) r
def totK (sys : Ks) (ms : List Nat) : Int := sumF (lenK sys) ms
def hvK (sys : Ks) (ms : List Nat) : Int := sumF (wtK sys) ms
def Kin (sys : Ks) (ms : List Nat) : Prop := ∀ k ∈ ms, ∃ p, sys[k]? = some p
theorem lenK_eq (h : sys[k]? = some p) : lenK sys k = p.1 := by unfold lenK; rw [h]; rfl
theorem wtK_eq (h : sys[k]? = some p) : wtK sys k = p.2 := by unfold wtK; rw [h]; rfl
theorem totK_cons : totK sys (k :: ms) = lenK sys k + totK sys ms := rfl
theorem hvK_cons : hvK sys (k :: ms) = wtK sys k + hvK sys ms := rfl
theorem Kin.pos (g : Good sys) (h : Kin sys ms) : 0 ≤ totK sys ms ∧ 0 ≤ hvK sys ms ∧ (ms.length : Int) ≤ totK sys ms := by
  induction ms with
  | nil => exact ⟨Int.le_refl _, Int.le_refl _, Int.le_refl _⟩
  | cons k r ih =>
    have := ih fun q hq => h q (List.mem_cons_of_mem _ hq)
    obtain ⟨p, hp⟩ := h k List.mem_cons_self
    have := g.at_ p (List.mem_of_getElem? hp)
    rw [totK_cons, hvK_cons, lenK_eq hp, wtK_eq hp, List.length_cons]
    omega
theorem Kin.tl (h : Kin sys (k :: ms)) : Kin sys ms := fun q hq => h q (List.mem_cons_of_mem _ hq)
/-- a row of messages that fits behind what is live -/
def Fits (W a b : Int) (live : List (Int × Nat)) : Prop := match live with
  | [] => b ≤ W
  | m :: _ => (m.1 < a ∧ b ≤ W) ∨ (a ≤ m.1 ∧ b ≤ m.1 ∧ m.1 ≤ W)
/-! ### the scripts of the shapes -/
end Mx

/-! LS18: a ring that is led by requests (Play), scripts that show a ring unsafe. -/
namespace T
open PySem L2 Mx
variable {ks : List (Int × Int)} {W L here len s ld : Int} {k : Nat} {live : List (Int × Nat)} {x y : Sta} {p : Int × Int} {rs : List (Option Nat)}
/-- a comprehension that changes what stands before, step by step -/
theorem lc_run {α : Type} (enc : α → D) {as : List α} {vs : List Nat} {t : Tg} {f : FE} (I : List α → List D → Ev → Prop)
    (st : ∀ pre a post acc ρ, as = pre ++ a :: post → I pre acc ρ → ∃ ρ1 s ρ3 y, asg t (enc a) ρ = some ρ1 ∧ f ρ1 = some (s, ρ3) ∧ vl s = some y ∧ I (pre ++ [a]) (acc ++ [y]) (wipeE ρ3 vs)) :
    ∀ {rest pre : List α} {acc : List D} {ρ : Ev}, as = pre ++ rest → acc.length + rest.length ≤ sizeLine → I pre acc ρ → ∃ ys ρ', lcF vs t tTrue f (rest.map enc) acc ρ = some (ys, ρ') ∧ I as ys ρ'
  | [], pre, acc, ρ, e, hz, h => ⟨acc, ρ, by simp [lcF], by rw [e, List.append_nil]; exact h⟩
  | a :: r, pre, acc, ρ, e, hz, h => by
    obtain ⟨ρ1, s, ρ3, y, h1, h2, h3, h4⟩ := st pre a r acc ρ e h
    obtain ⟨ys, ρ', h5, h7⟩ := lc_run enc I st (rest := r) (pre := pre ++ [a]) (acc := acc ++ [y]) (by rw [e]; simp) (by simp at hz ⊢; omega) h4
    refine ⟨ys, ρ', ?_, h7⟩
    rw [List.map_cons]
    unfold lcF
    rw [h1]
    simp only [Option.bind_some, tTrue_e, if_true]
    rw [h2]
    simp only [Option.bind_some]
    rw [h3]
    simp only [Option.bind_some]
    rw [if_pos (by simp at hz; omega)]
    exact h5
theorem eLc_run {α : Type} (enc : α → D) {as : List α} {vs : List Nat} {t : Tg} {src : FI} {f : FE} {ρ ρ0 : Ev} (I : List α → List D → Ev → Prop) (hs : src ρ = some (as.map enc, ρ0)) (hz : as.length ≤ sizeLine) (h0 : I [] [] (wipeE ρ0 vs)) (hw : ∀ ys ρ, I as ys ρ → wipeE ρ vs = ρ)
    (st : ∀ pre a post acc ρ, as = pre ++ a :: post → I pre acc ρ → ∃ ρ1 s ρ3 y, asg t (enc a) ρ = some ρ1 ∧ f ρ1 = some (s, ρ3) ∧ vl s = some y ∧ I (pre ++ [a]) (acc ++ [y]) (wipeE ρ3 vs)) :
    ∃ ys ρ', eLc vs t src tTrue f ρ = some (.ow (.lst ys), ρ') ∧ I as ys ρ' := by
  obtain ⟨ys, ρ', h1, h2⟩ := lc_run enc I st (rest := as) (pre := []) (acc := []) (ρ := wipeE ρ0 vs) rfl (by simpa using hz) h0
  refine ⟨ys, ρ', ?_, h2⟩
  unfold eLc
  rw [hs]
  simp only [Option.bind_some]
  rw [h1]
  simp only [Option.map_some]
  rw [hw ys ρ' h2]
/-! ### requests, messages as data -/
def rqD : Option Nat → D
  | none => .non
  | some k => .int (k : Nat)
def headD (live : List (Int × Nat)) : D := match live with
  | [] => .non
  | m :: _ => .int m.1
/-! ### Play -/
theorem nice_rq {r : Option Nat} : Nice 1 (rqD r) := by
  cases r with
  | none => exact nice_non
  | some k => exact nice_int _
end T

/-! LS19: the lightest messages of a length; scripts for shapes. -/
namespace T
open PySem L2 Mx
variable {ks : List (Int × Int)} {W L x v w : Int} {k : Nat} {p : Int × Int} {ms ns hs os : List Nat}
def kk (ks : List (Int × Int)) (k : Nat) : Int × Int := (ks[k]?).getD (0, 0)
section
variable {a0 a1 a2 a3 a4 a5 a6 a7 a8 : Sl} {U : D}
def MsK (ks : List (Int × Int)) (L : Int) (ms : List Nat) : Prop := ∀ k ∈ ms, ∃ p, ks[k]? = some p ∧ p.2 ≤ L
theorem MsK.kin (h : MsK ks L ms) : Kin ks ms := fun j hj => by obtain ⟨p, h1, _⟩ := h j hj; exact ⟨p, h1⟩
theorem MsK.app (h : MsK ks L ms) (h2 : MsK ks L ns) : MsK ks L (ms ++ ns) := fun j hj => (List.mem_append.mp hj).elim (h j) (h2 j)
theorem seq_nx {f g : FS} {ρ ρ' : Ev} {r : Option Rs} (h : f ρ = some (.nx ρ')) (k : g ρ' = r) : sSeq f g ρ = r := by
  rw [sSeq_e, h]
  exact k
end
end T

/-! LS20: scripts for shapes. -/
namespace T
open PySem L2 Mx
variable {ks : List (Int × Int)} {W L x v w h b : Int} {k t : Nat} {p f : Int × Int} {ms ns hs os : List Nat}
/-! ### script_of -/
/-! ### script_for -/
end T

/-! LS21: scripts for shapes that can occur; sizes. -/
namespace T
open PySem L2 Mx
variable {ks : List (Int × Int)} {W L x v w h b : Int} {k t : Nat} {p f : Int × Int} {ms ns hs os : List Nat} {s : Shp}
/-- the state ahead of the refused push -/
def StOf (ks : List (Int × Int)) : Shp → Sta → Prop
  | .long, x => x = (0, [])
  | .endS h b, x => ∃ os, Kin ks os ∧ os ≠ [] ∧ totK ks os = b ∧ x = (h + b, lay ks h os)
  | .newS h b q t, x => ∃ os ns, Kin ks os ∧ os ≠ [] ∧ totK ks os = b ∧ Kin ks ns ∧ (∃ f, ks[t]? = some f) ∧ lenK ks t + totK ks ns = q ∧ x = (q, lay ks h os ++ lay ks 0 (t :: ns))
theorem MsK.wt (h : MsK ks L ms) : ∀ k ∈ ms, wtK ks k ≤ L := fun k hk => by
  obtain ⟨p, h1, h2⟩ := h k hk
  rw [wtK_eq h1]; exact h2
structure Played (ks : List (Int × Int)) (L W : Int) (s : Shp) (k : Nat) (rs : List (Option Nat)) : Prop where
  st : ∃ x, ply ks L W (0, []) rs = some x ∧ Bad ks L W x k ∧ StOf ks s x
  kin : ∀ j, some j ∈ rs → ∃ p, ks[j]? = some p
  len : (rs.length : Int) < 400000
theorem Played.scr {rs : List (Option Nat)} (h : Played ks L W s k rs) : Scr ks L W rs k := by
  obtain ⟨x, h1, h2, _⟩ := h.st
  exact ⟨x, h1, h2⟩
end T

/-! LS22a: states as tuples. -/
namespace T
open PySem L2 Mx
variable {ks : List (Int × Int)} {W L len v w h b : Int} {k t : Nat} {p f : Int × Int} {s : Shp} {x y : Sta} {live : List (Int × Nat)}
/-! ### states -/
variable {rs : List (Option Nat)} {os ns : List Nat}
end T

namespace T
open PySem PySem.Spec PyProof.Rows L2
-- Ring___init: 0=self 1=system 2=limit 3=words
-- Ring_keep: 0=self
-- Ring_pop: 0=self 1=first 2=rest
-- Ring_copy: 0=self 1=twin
-- Ring_head: 0=self
-- Ring_live: 0=self 1=start 2=kind
-- Ring_outcome: 0=self 1=kind 2=placed 3=refused 4=not_allowed 5=length 6=weight
-- Ring_take: 0=self 1=kind 2=placed 3=refused 4=not_allowed 5=told 6=length 7=start
-- Ring_push_all: 0=self 1=kinds 2=twin 3=starts 4=kind
-- Ring_push: 0=self 1=kind
-- Ring_filled: 0=self 1=start 2=kind
-- Ring_messages: 0=self
-- Ring_place: 0=self
end T

/-! LS25: a ring (the program's class): what its methods answer. -/
namespace T
open PySem L2 Mx
variable {ks : List (Int × Int)} {W L here len s : Int} {k : Nat} {live : List (Int × Nat)} {p : Int × Int} {past : List D}
theorem deq_str {a b : Str} : deq (.str a) (.str b) = some (decide (a = b)) := by
  by_cases h : a = b <;> simp [deq, h]
end T

/-! LS51: numbers and tables as texts. -/
namespace T
open PySem L2 Mx PyProof.Rows TL
/-- a number's text -/
abbrev num (n : Nat) : Str := Str.ofString (toString ((n : Nat) : Int))
theorem log_small {n : Nat} (h : n < 2 ^ 200) : ((n : Nat) : Int).natAbs.log2 < 1920 := by
  by_cases c : n = 0
  · rw [c]; decide
  · exact (Nat.log2_lt (by omega)).mpr (Nat.lt_of_lt_of_le (by omega : ((n : Nat) : Int).natAbs < 2 ^ 200) (Nat.pow_le_pow_right (by decide) (by decide)))
theorem str_num {n : Nat} (h : n < 2 ^ 200) : strD [.int (n : Nat)] = some (.str (num n)) := by
  show (if ((n : Nat) : Int).natAbs.log2 < 1920 then some (D.str _) else none) = _
  rw [if_pos (log_small h)]
theorem num_len {n k : Nat} (hk : 0 < k) (h : n < 10 ^ k) : (num n).length ≤ k := by
  rw [len_tl, tl_num]
  exact numL_len hk h
theorem num_pos {n : Nat} : 0 < (num n).length := by
  rw [len_tl, tl_num]
  exact List.length_pos_iff.mpr (numL_ne n)
theorem numL_head {n : Nat} (h : 1 ≤ n) : ∃ c r, numL n = c :: r ∧ c ≠ 48 := by
  induction n using Nat.strongRecOn with
  | _ n ih =>
    by_cases c : n < 10
    · exact ⟨48 + n, [], numL_lt c, by omega⟩
    · obtain ⟨c, r, e, hc⟩ := ih (n / 10) (by omega) (by omega)
      exact ⟨c, r ++ [48 + n % 10], by rw [numL_step (by omega), e]; rfl, hc⟩
/-! ### number_in -/
def isDig (c : Nat) : Bool := decide (48 ≤ c ∧ c ≤ 57)
theorem dig_mem {c : Nat} : decide (c ∈ ("0123456789" : Str).cps.toList) = isDig c := by
  have e : ("0123456789" : Str).cps.toList = [48, 49, 50, 51, 52, 53, 54, 55, 56, 57] := by decide +kernel
  rw [e]
  unfold isDig
  rw [Bool.eq_iff_iff, decide_eq_true_eq, decide_eq_true_eq]
  simp
  omega
/-- a word that writes a number of at most k digits -/
def isNum (x : Str) (k : Nat) : Bool := decide (0 < x.length ∧ x.length ≤ k) && (tl x).all isDig && (decide (x = "0") || decide ((tl x).head? ≠ some 48))
def numV (x : Str) (k : Nat) : D := if isNum x k = true then .int (NumText.digitsVal (tl x) : Nat) else .non
theorem number_C1 {x : Str} {k : Int} (hz : x.length ≤ sizeLine) : mb_number_in_C1 [.sh (.str x), .sh (.int k), .no] = some (.ow (.lst (((tl x).map isDig).map .bl)), [.sh (.str x), .sh (.int k), .no]) := by
  rw [List.map_map]
  refine eLc_map (fun c : Nat => D.str ⟨#[c]⟩) (as := tl x) (fun c => .bl (isDig c)) (ρ0 := [.sh (.str x), .sh (.int k), .no]) (by simp [signsD]) (by simp) (by rw [← len_tl]; exact hz) fun c h => ?_
  have e := inSO_e (c := c) (z := "0123456789")
  rw [dig_mem] at e
  exact ⟨[.sh (.str x), .sh (.int k), .sh (.str ⟨#[c]⟩)], .sh (.bl (isDig c)), [.sh (.str x), .sh (.int k), .sh (.str ⟨#[c]⟩)], by simp, by simp [e], rfl, by simp⟩
theorem str_head {x : Str} {c : Nat} {r : List Nat} (h : tl x = c :: r) (hz : x.length ≤ sizeLine) : dIx (.str x) (.int 0) = some (.sh (.str ⟨#[c]⟩)) := by
  have h : x.cps.toList = c :: r := h
  show (if x.length ≤ sizeLine then (atI x.cps.toList 0).map _ else none) = _
  rw [if_pos hz, h]
  show (L2.atI (c :: r) ((0 : Nat) : Int)).map _ = _
  rw [L2.atI_nat (show (c :: r)[0]? = some c from rfl)]
  rfl
theorem one_zero {c : Nat} : ((⟨#[c]⟩ : Str) = "0") ↔ c = 48 := by
  constructor
  · intro h
    have := congrArg tl h
    have e : tl ("0" : Str) = [48] := by decide +kernel
    rw [e] at this
    simpa [tl] using this
  · rintro rfl
    exact ext_tl (by decide +kernel)
theorem eq_strs {x y : Str} : eqO (.str x) (.str y) = some (.sh (.bl (decide (x = y)))) := by
  unfold eqO
  rw [deq_str]
  rfl
theorem ne_strs {x y : Str} : neO (.str x) (.str y) = some (.sh (.bl (!decide (x = y)))) := by
  unfold neO
  rw [deq_str]
  rfl
theorem number_in_eq {x : Str} {k : Nat} (hz : x.length ≤ sizeLine) (hk : k ≤ 640) : m_number_in [.sh (.str x), .sh (.int (k : Nat))] = some (.sh (numV x k), [.no, .no]) := by
  have c1 := number_C1 (k := (k : Nat)) hz
  have ln : lenD [.str x] = some (.int (x.length : Nat)) := by
    show (if x.length ≤ sizeLine then some (D.int x.length) else none) = _
    rw [if_pos hz]
  have al : allD [.lst (((tl x).map isDig).map .bl)] = some (.bl ((tl x).all isDig)) := by
    rw [all_l, List.all_map]
    rfl
  generalize hS : D.lst (((tl x).map isDig).map .bl) = S at *
  unfold numV isNum
  by_cases a1 : 0 < x.length ∧ x.length ≤ k
  · have a1' : (0 : Int) < (x.length : Nat) := by omega
    have a2' : ((x.length : Nat) : Int) ≤ (k : Nat) := by omega
    rw [decide_eq_true a1]
    cases a3 : (tl x).all isDig with
    | false =>
      rw [a3] at al
      simp [m_number_in, mb_number_in, ln, a1', a2', a1.1, a1.2, c1, al]
    | true =>
      rw [a3] at al
      obtain ⟨c, r, hr⟩ : ∃ c r, tl x = c :: r := by
        cases h : tl x with
        | nil => rw [len_tl, h] at a1; simp at a1
        | cons c r => exact ⟨c, r, rfl⟩
      have hd := str_head hr hz
      have hq := one_zero (c := c)
      have q1 := eq_strs (x := x) (y := "0")
      have q2 := ne_strs (x := ⟨#[c]⟩) (y := "0")
      have dg : NumText.AllDigits (tl x) := fun d hd => by
        have := List.all_eq_true.mp a3 d hd
        unfold isDig at this
        simpa using this
      have it : PySem.intText? x = some ((NumText.digitsVal (tl x) : Nat) : Int) := intText_digits dg (by rw [show x.cps.toList = c :: r from hr]; simp) (by omega)
      have iv := intSD_e it (by omega)
      have hh : (tl x).head? = some c := by rw [hr]; rfl
      rw [hh]
      generalize (NumText.digitsVal (tl x) : Nat) = v at *
      by_cases e1 : x = "0"
      · rw [decide_eq_true e1] at q1 ⊢
        simp [m_number_in, mb_number_in, ln, a1', a2', a1.1, a1.2, c1, al, q1, iv]
      · rw [decide_eq_false e1] at q1 ⊢
        by_cases e2 : c = 48
        · subst e2
          have e3 : (⟨#[48]⟩ : Str) = "0" := hq.mpr rfl
          simp [m_number_in, mb_number_in, ln, a1', a2', a1.1, a1.2, c1, al, q1, hd, e3]
        · have e3 : decide ((⟨#[c]⟩ : Str) = "0") = false := decide_eq_false fun z => e2 (hq.mp z)
          rw [e3] at q2
          simp [m_number_in, mb_number_in, ln, a1', a2', a1.1, a1.2, c1, al, q1, hd, q2, e2, iv]
  · rw [decide_eq_false a1]
    by_cases b1 : (0 : Int) < (x.length : Nat)
    · have b2 : ¬ ((x.length : Nat) : Int) ≤ (k : Nat) := by omega
      simp [m_number_in, mb_number_in, ln, (by omega : 0 < x.length), (by omega : ¬ x.length ≤ k), b1, b2]
    · simp [m_number_in, mb_number_in, ln, (by omega : x.length = 0)]
theorem numV_num {n k : Nat} (hk : 0 < k) (h : n < 10 ^ k) : numV (num n) k = .int (n : Nat) := by
  have h1 := num_len hk h
  have h2 := num_pos (n := n)
  have e : tl (num n) = numL n := tl_num n
  have dg := numL_digits n
  have a3 : (tl (num n)).all isDig = true := by
    rw [e]
    exact List.all_eq_true.mpr fun c hc => by unfold isDig; simpa using dg c hc
  have a4 : (decide (num n = "0") || decide ((tl (num n)).head? ≠ some 48)) = true := by
    by_cases z : n = 0
    · subst z
      have : num 0 = "0" := ext_tl (by rw [show tl (num 0) = numL 0 from tl_num 0, numL_lt (by decide)]; decide +kernel)
      rw [decide_eq_true this]; rfl
    · obtain ⟨c, r, hr, hc⟩ := numL_head (n := n) (by omega)
      have : (tl (num n)).head? ≠ some 48 := by
        rw [e, hr]
        simpa using hc
      rw [decide_eq_true this, Bool.or_true]
  have : isNum (num n) k = true := by
    unfold isNum
    rw [decide_eq_true ⟨h2, h1⟩, a3, a4]; rfl
  unfold numV
  rw [if_pos this, e, numL_val]
/-! ### numbers_in -/
def D.isN : D → Bool
  | .non => true
  | _ => false
theorem pys_isN : ∀ {ds : List D}, (∀ d ∈ ds, ∃ p, d.py = some p ∧ PyData.eqv p .none = d.isN) → ∃ ps, D.pys ds = some ps ∧ (ps.any fun z => PyData.eqv z .none) = ds.any D.isN
  | [], _ => ⟨[], rfl, rfl⟩
  | d :: r, h => by
    obtain ⟨p, h1, h2⟩ := h d List.mem_cons_self
    obtain ⟨ps, q1, q2⟩ := pys_isN fun e he => h e (List.mem_cons_of_mem _ he)
    exact ⟨p :: ps, by unfold D.pys; rw [h1, q1]; rfl, by rw [List.any_cons, List.any_cons, h2, q2]⟩
theorem in_none {ds : List D} {n : Nat} (hn : n ≤ 60) (h : ∀ d ∈ ds, Nice n d) (h2 : ∀ d ∈ ds, ∃ p, d.py = some p ∧ PyData.eqv p .none = d.isN) {neg : Bool} :
    inO neg .non (.lst ds) = some (.sh (.bl (cond neg (!ds.any D.isN) (ds.any D.isN)))) := by
  obtain ⟨ps, q1, q2⟩ := pys_isN h2
  have s1 : SeqAt.shaped (.list ps) = true := by
    obtain ⟨p, e1, e2, e3⟩ := nice_lst (n := n) h
    have e : p = .list ps := by
      unfold D.py at e1
      rw [q1] at e1
      exact (Option.some.inj e1).symm
    subst e
    unfold SeqAt.shaped
    rw [e2, decide_eq_true (by omega)]; rfl
  have s2 : SeqAt.shaped (.tuple ps) = true := by
    obtain ⟨p, e1, e2, e3⟩ := nice_tup (n := n) h
    have e : p = .tuple ps := by
      unfold D.py at e1
      rw [q1] at e1
      exact (Option.some.inj e1).symm
    subst e
    unfold SeqAt.shaped
    rw [e2, decide_eq_true (by omega)]; rfl
  unfold inO
  show (Option.bind (some PyData.none) fun q => (D.pys ds).bind _) = _
  rw [q1]
  simp only [Option.bind_some]
  rw [if_pos ⟨rfl, s1, s2⟩, q2]
theorem numV_nice {x : Str} {k n : Nat} : Nice n (numV x k) := by
  unfold numV
  split
  · exact nice_int _
  · exact nice_non
theorem numV_isN {x : Str} {k : Nat} : (numV x k).isN = !isNum x k := by
  unfold numV
  cases isNum x k <;> rfl
theorem numV_py {x : Str} {k : Nat} : ∃ p, (numV x k).py = some p ∧ PyData.eqv p .none = (numV x k).isN := by
  unfold numV
  split
  · exact ⟨_, rfl, by simp [PyData.eqv, D.isN]⟩
  · exact ⟨_, rfl, by simp [PyData.eqv, D.isN]⟩
def numsV (ys : List Str) (k : Nat) : D := if ys.all (isNum · k) = true then .tup (ys.map (numV · k)) else .non
theorem numbers_in_eq {ys : List Str} {k : Nat} (hz : ys.length ≤ sizeLine) (hy : ∀ y ∈ ys, y.length ≤ sizeLine) (hk : k ≤ 640) :
    m_numbers_in [.sh (.lst (ys.map .str)), .sh (.int (k : Nat))] = some (.sh (numsV ys k), [.no, .no]) := by
  have c1 : mb_numbers_in_C1 [.sh (.lst (ys.map .str)), .sh (.int (k : Nat)), .no, .no] = some (.ow (.lst (ys.map (numV · k))), [.sh (.lst (ys.map .str)), .sh (.int (k : Nat)), .no, .no]) := by
    refine eLc_map (fun y : Str => D.str y) (as := ys) (fun y => numV y k) (ρ0 := [.sh (.lst (ys.map .str)), .sh (.int (k : Nat)), .no, .no]) (by simp) (by simp) hz fun y h => ?_
    have e := number_in_eq (hy y h) hk
    generalize D.lst (ys.map .str) = S at *
    exact ⟨[.sh S, .sh (.int (k : Nat)), .no, .sh (.str y)], .sh (numV y k), [.sh S, .sh (.int (k : Nat)), .no, .sh (.str y)], by simp, by simp [e], rfl, by simp⟩
  have i1 := in_none (ds := ys.map (numV · k)) (n := 0) (by decide) (fun d hd => by obtain ⟨y, _, rfl⟩ := List.mem_map.mp hd; exact numV_nice)
    (fun d hd => by obtain ⟨y, _, rfl⟩ := List.mem_map.mp hd; exact numV_py) (neg := false)
  have a1 : (ys.map (numV · k)).any D.isN = !ys.all (isNum · k) := by
    rw [List.any_map, List.not_all_eq_any_not]
    congr 1
    funext y
    exact numV_isN
  rw [a1] at i1
  unfold numsV
  generalize D.lst (ys.map .str) = S at *
  generalize hR : ys.map (numV · k) = R at *
  cases hb : ys.all (isNum · k) with
  | true =>
    rw [hb] at i1
    simp [m_numbers_in, mb_numbers_in, c1, show inO false .non (.lst R) = some (.sh (.bl false)) from i1]
  | false =>
    rw [hb] at i1
    simp [m_numbers_in, mb_numbers_in, c1, show inO false .non (.lst R) = some (.sh (.bl true)) from i1]
/-! ### lines -/
theorem app_len {a b : Str} : (a ++ b).length = a.length + b.length := by rw [len_tl, tl_append, List.length_append, ← len_tl, ← len_tl]
theorem cat_strs {a b : Str} (h : a.length + b.length ≤ sizeLine) : catO (.str a) (.str b) = some (.sh (.str (a ++ b))) := by
  show (if a.length + b.length ≤ sizeLine then some (Sl.sh (.str (a ++ b))) else none) = _
  rw [if_pos h]
/-- a line of two numbers -/
def lineS (s : Str) (p : Nat × Nat) : Str := num p.1 ++ s ++ num p.2
theorem lineS_len {s : Str} {p : Nat × Nat} (hs : s.length = 1) (h1 : p.1 < 10 ^ 20) (h2 : p.2 < 10 ^ 20) : (lineS s p).length ≤ 41 := by
  have a := num_len (k := 20) (by decide) h1
  have b := num_len (k := 20) (by decide) h2
  unfold lineS
  rw [app_len, app_len]
  omega
theorem lineS_join {s : Str} {p : Nat × Nat} : lineS s p = Txt.join s [num p.1, num p.2] := by
  rw [join_eq]
  rfl
theorem sum_len {ys : List Str} {n : Nat} (h : ∀ y ∈ ys, y.length ≤ n) : (ys.map (·.length)).sum ≤ ys.length * n := by
  induction ys with
  | nil => simp
  | cons y r ih =>
    have h1 := h y List.mem_cons_self
    have h2 := ih fun z hz => h z (List.mem_cons_of_mem _ hz)
    rw [List.map_cons, List.sum_cons, List.length_cons, Nat.succ_mul]
    omega
/-! ### tables -/
def cast2 (p : Nat × Nat) : Int × Int := ((p.1 : Int), (p.2 : Int))
/-- pairs whose table can be written -/
structure Tbl (ps : List (Nat × Nat)) : Prop where
  ne : ps ≠ []
  few : ps.length ≤ 2000
  low : ∀ p ∈ ps, p.1 < 10 ^ 20 ∧ p.2 < 10 ^ 20
theorem Tbl.lines {ps : List (Nat × Nat)} (h : Tbl ps) : ∀ y ∈ ps.map (lineS " "), y.length ≤ 41 := fun y hy => by
  obtain ⟨p, hp, rfl⟩ := List.mem_map.mp hy
  exact lineS_len rfl (h.low p hp).1 (h.low p hp).2
theorem line_e {i j : Nat} {ρ ρ1 : Ev} {p : Nat × Nat} {s : Str} (hs : s.length = 1) (h1 : p.1 < 10 ^ 20) (h2 : p.2 < 10 ^ 20) (e1 : eVar i ρ = some (.sh (.int (p.1 : Nat)), ρ1)) (e2 : eVar j ρ1 = some (.sh (.int (p.2 : Nat)), ρ1)) :
    eBin catO (eBin catO (eFn (shO strD) [eVar i]) (eC (.str s))) (eFn (shO strD) [eVar j]) ρ = some (.sh (.str (lineS s p)), ρ1) := by
  have l1 := num_len (k := 20) (by decide) h1
  have l2 := num_len (k := 20) (by decide) h2
  have s1 := str_num (n := p.1) (Nat.lt_of_lt_of_le h1 (by decide +kernel))
  have s2 := str_num (n := p.2) (Nat.lt_of_lt_of_le h2 (by decide +kernel))
  have c1 := cat_strs (a := num p.1) (b := s) (by rw [sizeLine_eq]; omega)
  have c2 := cat_strs (a := num p.1 ++ s) (b := num p.2) (by rw [app_len, sizeLine_eq]; omega)
  unfold lineS
  generalize num p.1 = a at *
  generalize num p.2 = b at *
  simp [-eVar_e, e1, e2, s1, s2, c1, c2]
theorem num_free {n c : Nat} (h : c < 48 ∨ 57 < c) : c ∉ tl (num n) := by rw [show tl (num n) = numL n from tl_num n]; exact numL_free h
theorem split_line {p : Nat × Nat} {c : Nat} {s : Str} (hs : tl s = [c]) (h : c < 48) : Txt.split (lineS s p) s = [num p.1, num p.2] := by
  rw [lineS_join]
  refine split_join (s := c) (S := []) hs ?_ (by simp) fun q hq => ?_
  · rw [Array.all_eq_true_iff_forall_mem]
    intro x hx
    have : x ∈ tl s := Array.mem_toList_iff.mpr hx
    rw [hs] at this
    rw [List.mem_singleton.mp this]
    exact decide_eq_true (by omega)
  · simp only [List.mem_cons, List.not_mem_nil, or_false] at hq
    rcases hq with rfl | rfl <;> exact num_free (.inl h)
theorem tl_nl : tl ("\n" : Str) = [10] := by decide +kernel
theorem tl_sp : tl (" " : Str) = [32] := by decide +kernel
theorem tl_st : tl ("*" : Str) = [42] := by decide +kernel
theorem line_free {p : Nat × Nat} {s : Str} {c d : Nat} (hs : tl s = [d]) (h : c < 48) (hd : c ≠ d) : c ∉ tl (lineS s p) := by
  unfold lineS
  rw [tl_append, tl_append, hs]
  intro hm
  rcases List.mem_append.mp hm with hm | hm
  · rcases List.mem_append.mp hm with hm | hm
    · exact num_free (.inl h) hm
    · exact hd (List.mem_singleton.mp hm)
  · exact num_free (.inl h) hm
theorem lines_of_ok {x : Str} (hz : x.length ≤ 1000000) : m_lines_of [.sh (.str x)] = some (.ow (.lst ((Txt.split x "\n").map .str)), [.no]) := by
  have e : splitO (.str x) (.str "\n") = some (.ow (.lst ((Txt.split x "\n").map .str))) := by
    rw [splitO_e, if_pos ⟨rfl, by rw [sizeLine_eq]; omega⟩]
  have i : isiD [.str x, .ty "str"] = some (.bl true) := rfl
  simp [m_lines_of, mb_lines_of, e, i, -splitO_e]
end T

/-! LS40: the pots of the laws about rings (k47..): draws, picks, systems. -/
namespace T
open PySem L2 Mx
def potC : Int := 10 ^ 300
theorem potC_pos : 0 < potC := by unfold potC; exact Int.pow_pos (by decide)
theorem potC_bound : potC < 2 ^ 1000 := by unfold potC; decide +kernel
/-- a pot of which at most n numbers were drawn -/
def Pw (n : Nat) (d : D) : Prop := ∃ o m c : Int, d = .lst [.int o, .int m, .int c] ∧ 0 ≤ o ∧ o < potC ∧ 0 ≤ m ∧ m < 2305843009213693951 ∧ 0 ≤ c ∧ c ≤ n
theorem Pw.mono {n k : Nat} {d : D} (h : Pw n d) (hk : n ≤ k) : Pw k d := by
  obtain ⟨o, m, c, e, h1, h2, h3, h4, h5, h6⟩ := h
  exact ⟨o, m, c, e, h1, h2, h3, h4, h5, by omega⟩
theorem small_potC {i : Int} (h0 : 0 ≤ i) (h : i < potC) : small i := small_nat (n := 1000) h0 (Int.lt_trans h potC_bound) (by decide)
theorem draw_ok {n : Nat} {d : D} {u : Int} (h : Pw n d) (hn : n < 900000) (hu : 0 < u) (hu2 : u < 2 ^ 62) : ∃ (d' : D) (x : Int), Pw (n + 1) d' ∧ 0 ≤ x ∧ x < u ∧ m_law_draw [.io d, .sh (.int u)] = some (.sh (.int x), [.io d', .no]) := by
  obtain ⟨o, m, c, rfl, h1, h2, h3, h4, h5, h6⟩ := h
  have su : small u := small_nat (n := 62) (Int.le_of_lt hu) hu2 (by decide)
  by_cases k : 0 < o
  · refine ⟨.lst [.int (o / u), .int m, .int c], o % u, ⟨o / u, m, c, rfl, Int.ediv_nonneg h1 (Int.le_of_lt hu), Int.lt_of_le_of_lt (Int.ediv_le_self _ h1) h2, h3, h4, h5, by omega⟩, Int.emod_nonneg _ (by omega), Int.emod_lt_of_pos _ hu, ?_⟩
    simp [m_law_draw, mb_law_draw, k, sSub, ownLst, Sl.own, mod_i hu, div_i hu su, ixN, putLst]
  · have s0 : ∀ {k : Int}, 0 ≤ k → k < 2 ^ 62 → small k := fun h1 h2 => small_nat (n := 62) h1 h2 (by decide)
    obtain ⟨q, hq⟩ : ∃ q, q = (m * 1181783497276652981 + 87253 * (c + 1) + 17) % 2305843009213693951 := ⟨_, rfl⟩
    have q0 : 0 ≤ q := by rw [hq]; exact Int.emod_nonneg _ (by decide)
    have q1 : q < 2305843009213693951 := by rw [hq]; exact Int.emod_lt_of_pos _ (by decide)
    obtain ⟨z, hz⟩ : ∃ z, z = q / 65537 * (q % 65537 + 5) % 2305843009213693921 := ⟨_, rfl⟩
    obtain ⟨x, hx⟩ : ∃ x, x = z / 103 % u := ⟨_, rfl⟩
    refine ⟨.lst [.int o, .int q, .int (c + 1)], x, ⟨o, q, c + 1, rfl, h1, h2, q0, q1, by omega, by omega⟩, by rw [hx]; exact Int.emod_nonneg _ (by omega), by rw [hx]; exact Int.emod_lt_of_pos _ hu, ?_⟩
    have m1 := mul_i (s0 h3 (by omega : m < 2 ^ 62)) (s0 (k := 1181783497276652981) (by decide) (by decide))
    have m2 := mul_i (s0 (k := 87253) (by decide) (by decide)) (s0 (k := c + 1) (by omega) (by omega))
    have r0 := Int.emod_nonneg q (show (65537 : Int) ≠ 0 by decide)
    have r1 := Int.emod_lt_of_pos q (show (0 : Int) < 65537 by decide)
    have t0 : 0 ≤ q / 65537 := Int.ediv_nonneg q0 (by decide)
    have t1 : q / 65537 ≤ q := Int.ediv_le_self _ q0
    have m3 := mul_i (s0 t0 (by omega)) (s0 (k := q % 65537 + 5) (by omega) (by omega))
    have i2 : ∀ {a b e : D}, dIx (.lst [a, b, e]) (.int 2) = some (.sh e) := ix_l (k := 2) rfl
    have d1 := div_i (i := q) (j := 65537) (by decide) (s0 (by decide) (by decide))
    have d2 := div_i (i := z) (j := 103) (by decide) (s0 (by decide) (by decide))
    simp [m_law_draw, mb_law_draw, i2, k, sSub, ownLst, Sl.own, ixN, putLst, m1, m2, mod_i (j := 2305843009213693951) (by decide), ← hq, d1, mod_i (j := 65537) (by decide), m3, mod_i (j := 2305843009213693921) (by decide), ← hz, d2, mod_i hu, ← hx]
theorem pick_ok {n : Nat} {d : D} {ds : List D} (h : Pw n d) (hn : n < 900000) (hne : ds ≠ []) (hz : ds.length ≤ sizeLine) : ∃ (d' y : D), Pw (n + 1) d' ∧ y ∈ ds ∧ m_law_pick [.io d, .sh (.lst ds)] = some (.sh y, [.io d', .no]) := by
  have hl : 0 < ds.length := List.length_pos_iff.mpr hne
  rw [sizeLine_eq] at hz
  obtain ⟨d', x, hp, h0, h1, e⟩ := draw_ok (u := (ds.length : Int)) h hn (by omega) (by omega)
  obtain ⟨k, rfl⟩ := Int.eq_ofNat_of_zero_le h0
  have hk : k < ds.length := by omega
  refine ⟨d', ds[k], hp, List.getElem_mem hk, ?_⟩
  simp [m_law_pick, mb_law_pick, e, ix_l (List.getElem?_eq_getElem hk)]
noncomputable def potRs2 (P : FE) : FS := sSeq (sSet 3 (eBin mulO (eBin modO (eFnV absD 2) P) (eFn (shO intD) [(eBin geO (eFnV absD 2) (eBin powO (eC (.int 10)) (eC (.int 18))))])))
  (sRet (eLst [(eVar 3), (eBin modO (eBin mulO (eBin catO (eBin catO (eBin modO (eVar 2) (eC (.int 2305843009213693951))) (eBin mulO (eBin mulO (eC (.int 8117)) (eVar 1)) (eVar 1))) (eC (.int 37))) (eC (.int 69621))) (eC (.int 2305843009213693951))), (eC (.int 0))]))
theorem pot_rs2 {B c : Int} {P : FE} {k : Nat} {s : Sl} (hk : k < 64) (hb : 0 < B) (hB : ∀ {i : Int}, 0 ≤ i → i < B → small i) (hP : ∀ ρ, P ρ = some (.sh (.int B), ρ)) : ∃ o m : Int, 0 ≤ o ∧ o < B ∧ 0 ≤ m ∧ m < 2305843009213693951 ∧ potRs2 P [s, .sh (.int k), .sh (.int c), .no] = some (.rt (.ow (.lst [.int o, .int m, .int 0])) [s, .sh (.int k), .sh (.int c), .sh (.int o)]) := by
  have three : (3 : Nat) ≤ sizeLine := by rw [sizeLine_eq]; decide
  have s0 : ∀ {k : Int}, 0 ≤ k → k < 2 ^ 62 → small k := fun h1 h2 => small_nat (n := 62) h1 h2 (by decide)
  obtain ⟨a1, a2, a3, a4⟩ := cell_pot (c := c) (z := 1000000000000000000 ≤ if c < 0 then -c else c) hb rfl
  have b1 := Int.emod_nonneg c (show (2305843009213693951 : Int) ≠ 0 by decide)
  have b2 := Int.emod_lt_of_pos c (show (0 : Int) < 2305843009213693951 by decide)
  have kk : (8117 : Int) * (k : Int) * (k : Int) ≤ 8117 * 64 * 64 := by
    have : (k : Int) * (k : Int) ≤ 64 * 64 := Int.mul_le_mul (by omega) (by omega) (by omega) (by decide)
    rw [Int.mul_assoc]; omega
  have k0 : (0 : Int) ≤ 8117 * (k : Int) * (k : Int) := by
    have : (0 : Int) ≤ (k : Int) * (k : Int) := Int.mul_nonneg (by omega) (by omega)
    rw [Int.mul_assoc]; omega
  have t3 : small (8117 : Int) := s0 (by decide) (by decide)
  have t4 : small (k : Int) := s0 (by omega) (by omega)
  have m1 := mul_i t3 t4
  have m2 := mul_i (s0 (k := 8117 * (k : Int)) (by omega) (by omega)) t4
  have m3 := mul_i (s0 (k := c % 2305843009213693951 + 8117 * (k : Int) * (k : Int) + 37) (by omega) (by omega)) (s0 (k := 69621) (by decide) (by decide))
  refine ⟨_, (c % 2305843009213693951 + 8117 * (k : Int) * (k : Int) + 37) * 69621 % 2305843009213693951, a1, a2, Int.emod_nonneg _ (by decide), Int.emod_lt_of_pos _ (by decide), ?_⟩
  simp [potRs2, pow_10_18, hP, mod_i hb, mul_i (hB a3 a4) small_tf, mod_i (j := 2305843009213693951) (by decide), m1, m2, m3, three]
theorem pot_sp2 : mb_law_pot2 = sSeq (sSet 2 (eIf (tOf (eBin ltO (eVar 1) (eFnV lenD 0))) (eIxV 0 (eVar 1)) (eBin catO (eBin mulO (eC (.int 19)) (eVar 1)) (eC (.int 8))))) (potRs2 (eBin powWO (eBin powO (eC (.int 10)) (eC (.int 60))) (eC (.int 5)))) := by
  unfold mb_law_pot2 potRs2
  rfl
theorem pow_pot {ρ : Ev} : eBin powWO (eBin powO (eC (.int 10)) (eC (.int 60))) (eC (.int 5)) ρ = some (.sh (.int potC), ρ) := by
  have e1 : powO (.int 10) (.int 60) = some (.sh (.int ((10 : Int) ^ 60))) := pow_i (i := 10) (n := 60) (by decide) (by decide)
  have sm : small ((10 : Int) ^ 60) := small_nat (n := 1000) (Int.le_of_lt (Int.pow_pos (by decide))) (by decide +kernel) (by decide)
  have e2 : powWO (.int ((10 : Int) ^ 60)) (.int 5) = some (.sh (.int (((10 : Int) ^ 60) ^ 5))) := powW_i (n := 5) sm (by decide)
  have e3 : ((10 : Int) ^ 60) ^ 5 = potC := by rw [← Int.pow_mul]; rfl
  rw [e3] at e2
  generalize (10 : Int) ^ 60 = T at *
  simp [e1, e2]
theorem pot2_ok {ns : List Int} {k : Nat} (hk : k < 64) (hl : ns.length ≤ 63) : ∃ d : D, Pw 0 d ∧ m_law_pot2 [.sh (.scr (ns.map .int)), .sh (.int k)] = some (.ow d, [.no, .no]) := by
  have s5 : small (19 : Int) := small_nat (n := 62) (by decide) (by decide) (by decide)
  have t5 : small (k : Int) := small_nat (n := 62) (by omega) (by omega) (by decide)
  by_cases c : k < ns.length
  · obtain ⟨g, m, g0, g1, m0, m1, e⟩ := pot_rs2 (s := .sh (.scr (ns.map .int))) (c := ns[k]) hk potC_pos small_potC fun ρ => pow_pot
    have ix : dIx (.scr (ns.map .int)) (.int k) = some (.sh (.int ns[k])) := ix_s (by rw [List.getElem?_map, List.getElem?_eq_getElem c]; rfl)
    refine ⟨_, ⟨g, m, 0, rfl, g0, g1, m0, m1, by omega, by omega⟩, ?_⟩
    simp [m_law_pot2, pot_sp2, c, ix, e]
  · obtain ⟨g, m, g0, g1, m0, m1, e⟩ := pot_rs2 (s := .sh (.scr (ns.map .int))) (c := 19 * (k : Int) + 8) hk potC_pos small_potC fun ρ => pow_pot
    refine ⟨_, ⟨g, m, 0, rfl, g0, g1, m0, m1, by omega, by omega⟩, ?_⟩
    simp [m_law_pot2, pot_sp2, mul_i s5 t5, c, e]
/-! ### systems -/
theorem key2_inj {p q : Int × Int} (h : key2 p = key2 q) : p = q := by
  have := congrArg stt2 h
  rw [stt2_key, stt2_key] at this
  exact Option.some.inj this
theorem nodup_key2 {ks : List (Int × Int)} (h : ks.Nodup) : (ks.map key2).Nodup := List.pairwise_map.mpr (List.Pairwise.imp (fun hne e => hne (key2_inj e)) h)
theorem keyS_2 {a b : Int} : keyS (.tup [.int a, .int b]) = some (key2 (a, b)) := keyS_of (key2 (a, b))
theorem put2K {p : Int × Int} {ks : List (Int × Int)} {ds : List D} {y : D} (nd : ks.Nodup) : ∃ (ks' : List (Int × Int)) (ds' : List D), putKD (key2 p) y (ks.map key2) ds = .dit (ks'.map key2) ds' ∧ ks'.Nodup ∧ (∀ q, q ∈ ks' ↔ q ∈ ks ∨ q = p) ∧ ks'.length ≤ ks.length + 1 := by
  unfold putKD
  by_cases c : key2 p ∈ ks.map key2
  · rw [if_pos c]
    obtain ⟨q, hq, e⟩ := List.mem_map.mp c
    have := key2_inj e
    subst this
    exact ⟨ks, _, rfl, nd, fun q => ⟨.inl, fun h => h.elim id fun e => by rw [e]; exact hq⟩, by omega⟩
  · rw [if_neg c]
    refine ⟨ks ++ [p], _, by rw [List.map_append]; rfl, ?_, fun q => by simp, by simp⟩
    refine List.nodup_append.mpr ⟨nd, by simp, fun a ha b hb e => c ?_⟩
    rw [List.mem_singleton.mp hb] at e
    exact List.mem_map.mpr ⟨a, ha, by rw [e]⟩
theorem law_system_ok {n : Nat} {d : D} {most many : Int} (h : Pw n d) (hn : n < 800000) (m1 : 1 ≤ many) (m2 : many ≤ 50) (b1 : 1 ≤ most) (b2 : most ≤ 30) :
    ∃ (d' : D) (ks : List (Int × Int)), Pw (n + 200) d' ∧ Sys many.toNat ks ∧ (∀ p ∈ ks, p.1 ≤ most ∧ p.2 ≤ most) ∧ m_law_system [.io d, .sh (.int most), .sh (.int many)] = some (.sh (kDs ks), [.io d', .no, .no]) := by
  obtain ⟨d2, tn, p2, t0, t1, e2⟩ := draw_ok (u := many) h (by omega) (by omega) (by omega)
  have z2 : (2 : Nat) ≤ sizeLine := by rw [sizeLine_eq]; decide
  have z3 : (3 : Nat) ≤ sizeLine := by rw [sizeLine_eq]; decide
  obtain ⟨ρ', lp, I'⟩ := loop_nx (t := .n 4) (b := mb_law_system_L1)
    (I := fun k ρ => k ≤ 50 → ∃ (d' : D) (ks : List (Int × Int)) (ds : List D) (s4 s5 : Sl), Pw (n + 1 + 3 * k) d' ∧ ρ = [.io d', .sh (.int most), .sh (.int many), .ow (.dit (ks.map key2) ds), s4, s5] ∧ ks.length ≤ k ∧ ks.Nodup ∧ (1 ≤ k → ks ≠ []) ∧ ∀ p ∈ ks, 1 ≤ p.1 ∧ p.1 ≤ most ∧ 1 ≤ p.2 ∧ p.2 ≤ most)
    (xs := rangeD 0 (1 + tn).toNat) (k := 0) (ρ := [.io d2, .sh (.int most), .sh (.int many), .ow (.dit [] []), .no, .no])
    (fun _ => ⟨d2, [], [], .no, .no, p2, rfl, by simp, by simp, fun z => absurd z (by omega), fun p hp => absurd hp (by simp)⟩) fun i e ρ he hi => by
      have hi2 : i < (1 + tn).toNat := by
        have := (List.getElem?_eq_some_iff.mp he).1
        rwa [rangeD_len] at this
      obtain ⟨d', ks, ds, s4, s5, pd, rfl, hk, nd, _, hb⟩ := hi (by omega)
      obtain ⟨d3, x3, p3, a3, q3, e3⟩ := draw_ok (u := most) pd (by omega) (by omega) (by omega)
      obtain ⟨d4, x4, p4, a4, q4, e4⟩ := draw_ok (u := most) p3 (by omega) (by omega) (by omega)
      obtain ⟨d5, y, p5, hy, e5⟩ := pick_ok (ds := [.int (1 + x3), .int 1, .int (1 + x4)]) p4 (by omega) (by simp) z3
      have : ∃ v : Int, y = .int v ∧ 1 ≤ v ∧ v ≤ most := by
        simp only [List.mem_cons, List.not_mem_nil, or_false] at hy
        rcases hy with rfl | rfl | rfl <;> exact ⟨_, rfl, by omega, by omega⟩
      obtain ⟨v, rfl, v1, v2⟩ := this
      obtain ⟨ks', ds', ep, nd', mem, len⟩ := put2K (p := (1 + x3, v)) (ds := ds) (y := .bl true) nd
      have hz : (ks.map key2).length < sizeLine := by rw [List.length_map, sizeLine_eq]; omega
      have ndk := nodup_key2 nd
      have ky := keyS_2 (a := 1 + x3) (b := v)
      generalize ks.map key2 = KS at *
      refine ⟨[.io d', .sh (.int most), .sh (.int many), .ow (.dit KS ds), .sh e, s5], [.io d5, .sh (.int most), .sh (.int many), .ow (.dit (ks'.map key2) ds'), .sh e, .sh (.int (1 + x3))], by simp, ?_, fun _ => ⟨d5, ks', ds', .sh e, .sh (.int (1 + x3)), p5.mono (by omega), rfl, by omega, nd', fun _ => List.ne_nil_of_mem ((mem (1 + x3, v)).mpr (.inr rfl)), fun p hp => ?_⟩⟩
      · generalize ks'.map key2 = KS' at *
        simp [mb_law_system_L1, e3, e4, e5, z2, z3, ky, hz, ndk, ep, putSl, Sl.own]
      · rcases (mem p).mp hp with hp | rfl
        · exact hb p hp
        · exact ⟨by omega, by omega, v1, v2⟩
  obtain ⟨d6, ks, ds, s4, s5, p6, rfl, hk, nd, hne, hb⟩ := I' (by rw [rangeD_len]; omega)
  rw [rangeD_len] at hk hne
  have hne := hne (by omega)
  have rg := rg1 (f := eBin catO (eC (.int 1)) (eCall m_law_draw [] [.o 0, .e (eVar 2)])) (ρ := [.io d, .sh (.int most), .sh (.int many), .ow (.dit [] []), .no, .no]) (ρ' := [.io d2, .sh (.int most), .sh (.int many), .ow (.dit [] []), .no, .no]) (s := .sh (.int (1 + tn))) (n := 1 + tn) (by simp [e2]) rfl (by omega) (by omega)
  have st : srtTO [.dit (ks.map key2) ds] = some (.ow (.lst ((srtP ks).map kD))) := by
    show (stt2s (ks.map key2)).bind _ = _
    rw [stt2s_map]
    exact if_pos (nodup_key2 nd)
  have perm := srtP_perm ks
  have ndS : (srtP ks).Nodup := perm.nodup_iff.mpr nd
  refine ⟨d6, srtP ks, p6.mono (by rw [rangeD_len]; omega), ⟨fun hq => hne ?_, ?_, ⟨fun p hp => ?_⟩, ?_⟩, fun p hp => ?_, ?_⟩
  · have := perm.length_eq
    rw [hq] at this
    exact List.length_eq_zero_iff.mp this.symm
  · rw [perm.length_eq]; omega
  · have := hb p (perm.mem_iff.mp hp); omega
  · refine ((srtP_le ks).and ndS).imp fun {p q} h => ?_
    have h1 := SrtO.lexB_no.mp h.1
    by_cases c : p.1 < q.1
    · exact .inl c
    · refine .inr ⟨?_, ?_⟩
      · omega
      · have : p.2 ≠ q.2 := fun z => h.2 (Prod.ext (by omega) z)
        omega
  · have := hb p (perm.mem_iff.mp hp); omega
  · have tu : tupleO [.lst ((srtP ks).map kD)] = some (.sh (kDs (srtP ks))) := tuple_l
    generalize (srtP ks).map kD = QL at *
    generalize kDs (srtP ks) = Q at *
    generalize ks.map key2 = KS at *
    simp [m_law_system, mb_law_system, rg, lp, st, tu]
end T

/-! M20: the words of a ring's live messages. -/
namespace Mx
variable {sys ks : Ks} {x y w v m n d L W h a b c e here s len : Int} {p f q : Int × Int} {k t : Nat} {live old new l : List (Int × Nat)}
def irg (a n : Int) : List Int := (List.range n.toNat).map fun i : Nat => a + (i : Int)
theorem mem_irg : x ∈ irg a n ↔ a ≤ x ∧ x < a + n := by
  unfold irg
  rw [List.mem_map]
  constructor
  · rintro ⟨i, hi, rfl⟩
    have := List.mem_range.mp hi
    omega
  · rintro ⟨h1, h2⟩
    exact ⟨(x - a).toNat, List.mem_range.mpr (by omega), by omega⟩
theorem irg_len : (irg a n).length = n.toNat := by unfold irg; rw [List.length_map, List.length_range]
theorem irg_nodup : (irg a n).Nodup := by
  unfold irg
  exact List.pairwise_map.mpr (List.nodup_range.imp fun hne e => hne (by omega))
def wds (sys : Ks) (live : List (Int × Nat)) : List Int := live.flatMap fun m => irg m.1 (lenK sys m.2)
theorem lenK_at (h : sys[k]? = some p) : lenK sys k = p.1 := by unfold lenK; rw [h]; rfl
theorem wds_cons {m : Int × Nat} : wds sys (m :: l) = irg m.1 (lenK sys m.2) ++ wds sys l := by unfold wds; rw [List.flatMap_cons]
theorem wds_app : wds sys (l ++ old) = wds sys l ++ wds sys old := by unfold wds; rw [List.flatMap_append]
theorem Run.wds (g : Good sys) (r : Run sys L a l b w) : a ≤ b ∧ (∀ x, x ∈ wds sys l ↔ a ≤ x ∧ x < b) ∧ (wds sys l).Nodup ∧ ((wds sys l).length : Int) = b - a := by
  induction r with
  | nil => exact ⟨Int.le_refl _, fun x => by simp [Mx.wds], by simp [Mx.wds], by simp [Mx.wds]⟩
  | @cons a b w k p l h1 h2 r ih =>
    obtain ⟨i1, i2, i3, i4⟩ := ih
    have gp := g.at_ p (List.mem_of_getElem? h1)
    have le := lenK_at h1
    rw [wds_cons]
    simp only [le]
    refine ⟨by omega, fun x => ?_, ?_, ?_⟩
    · rw [List.mem_append, mem_irg, i2]; omega
    · refine List.nodup_append.mpr ⟨irg_nodup, i3, fun u hu v hv e => ?_⟩
      have := mem_irg.mp hu
      have := (i2 v).mp hv
      omega
    · rw [List.length_append, irg_len]; omega
theorem Run.last (r : Run sys L a l b w) {m : Int × Nat} (h : l.getLast? = some m) : b = m.1 + lenK sys m.2 := by
  induction r with
  | nil => cases h
  | @cons a b w k p l h1 h2 r ih =>
    cases l with
    | nil =>
      cases h
      have := (r.empty).1
      show b = a + lenK sys k
      rw [lenK_at h1]; omega
    | cons m' l' => exact ih (by rw [List.getLast?_cons_cons] at h; exact h)
theorem Run.adj (r : Run sys L a l b w) : ∀ q ∈ l.zip l.tail, q.2.1 = q.1.1 + lenK sys q.1.2 := by
  induction r with
  | nil => intro q hq; cases hq
  | @cons a b w k p l h1 h2 r ih =>
    intro q hq
    cases l with
    | nil => cases hq
    | cons m' l' =>
      have hq : q = ((a, k), m') ∨ q ∈ (m' :: l').zip l' := List.mem_cons.mp hq
      rcases hq with rfl | hq
      · obtain ⟨x, t⟩ := m'
        have := (r.head).1
        simp only
        rw [lenK_at h1]; omega
      · exact ih q hq
theorem zip_tail {m : Int × Nat} : ∀ {l : List (Int × Nat)} {q : (Int × Nat) × Int × Nat}, q ∈ (l ++ m :: new).zip (l ++ m :: new).tail → q ∈ l.zip l.tail ∨ q.2 = m ∨ q ∈ (m :: new).zip new
  | [], q, h => .inr (.inr h)
  | [x], q, h => by
    have h : q = (x, m) ∨ q ∈ (m :: new).zip new := List.mem_cons.mp h
    rcases h with rfl | h
    · exact .inr (.inl rfl)
    · exact .inr (.inr h)
  | x :: y :: r, q, h => by
    have h : q = (x, y) ∨ q ∈ ((y :: r) ++ m :: new).zip ((y :: r) ++ m :: new).tail := List.mem_cons.mp h
    rcases h with rfl | h
    · exact .inl List.mem_cons_self
    · rcases zip_tail (l := y :: r) h with h | h | h
      · exact .inl (List.mem_cons_of_mem _ h)
      · exact .inr (.inl h)
      · exact .inr (.inr h)
theorem lastB {z m : Int × Nat} (h : (l ++ z :: new).getLast? = some m) : (z :: new).getLast? = some m := by
  rw [List.getLast?_append] at h
  cases e : (z :: new).getLast? with
  | none => simp at e
  | some y => rw [e] at h; simpa using h
theorem isS_nn (h : IsS (us sys L) a) (g : Good sys) : 0 ≤ a := by
  obtain ⟨w, hm⟩ := h
  exact (hm.bounds (us_good (L := L) g)).1
/-- all of it of a state that is reached -/
structure Laid (sys : Ks) (W here : Int) (live : List (Int × Nat)) : Prop where
  nodup : (wds sys live).Nodup
  room : ∀ x ∈ wds sys live, 0 ≤ x ∧ x < W
  adj : ∀ q ∈ live.zip live.tail, q.2.1 = q.1.1 + lenK sys q.1.2 ∨ q.2.1 = 0
  last : ∀ m, live.getLast? = some m → here = m.1 + lenK sys m.2
  head : ∀ m r, live = m :: r → m.1 ≤ W
  free : ∀ len s, 1 ≤ len → put W here live len = some s → s = (if here + len ≤ W then here else 0) ∧ len ≤ W ∧ ∀ x ∈ irg (if here + len ≤ W then here else 0) len, x ∉ wds sys live
  not : ∀ len, 1 ≤ len → put W here live len = none → W < len ∨ ∃ x ∈ irg (if here + len ≤ W then here else 0) len, x ∈ wds sys live
theorem Ok.laid (g : Good sys) (o : Ok sys L W here live) : Laid sys W here live := by
  cases o with
  | @flat h here w live hs r hW hw =>
    obtain ⟨r1, r2, r3, r4⟩ := r.wds g
    have h0 := isS_nn hs g
    have hd : ∀ m r', live = m :: r' → m.1 = h ∧ h < here := fun m r' e => by
      subst e
      obtain ⟨x, t⟩ := m
      exact ⟨(r.head).1, r.lt g (by simp)⟩
    refine ⟨r3, fun x hx => by have := (r2 x).mp hx; omega, fun q hq => .inl (r.adj q hq), fun m hm => r.last hm, fun m r' e => by have := hd m r' e; omega, fun len s h1 hp => ?_, fun len h1 hp => ?_⟩
    · unfold put at hp
      by_cases c : W < len
      · rw [if_pos c] at hp; cases hp
      · rw [if_neg c] at hp
        cases live with
        | nil =>
          simp only at hp
          refine ⟨?_, by omega, fun x _ hx => by simp [Mx.wds] at hx⟩
          split at hp <;> (cases hp; rename_i c2; first | rw [if_pos c2] | rw [if_neg c2])
        | cons m r' =>
          obtain ⟨e1, e2⟩ := hd m r' rfl
          simp only [e1] at hp
          rw [if_pos e2] at hp
          by_cases c2 : here + len ≤ W
          · rw [if_pos c2] at hp ⊢
            cases hp
            exact ⟨rfl, by omega, fun x hx hx2 => by have := mem_irg.mp hx; have := (r2 x).mp hx2; omega⟩
          · rw [if_neg c2] at hp ⊢
            split at hp
            · cases hp
              exact ⟨rfl, by omega, fun x hx hx2 => by have := mem_irg.mp hx; have := (r2 x).mp hx2; omega⟩
            · cases hp
    · unfold put at hp
      by_cases c : W < len
      · exact .inl c
      · rw [if_neg c] at hp
        cases live with
        | nil =>
          simp only at hp
          split at hp <;> cases hp
        | cons m r' =>
          obtain ⟨e1, e2⟩ := hd m r' rfl
          simp only [e1] at hp
          rw [if_pos e2] at hp
          by_cases c2 : here + len ≤ W
          · rw [if_pos c2] at hp; cases hp
          · rw [if_neg c2] at hp
            split at hp
            · cases hp
            · rw [if_neg c2]
              exact .inr ⟨h, mem_irg.mpr (by omega), (r2 h).mpr (by omega)⟩
  | @wrap h e w w' here old new t f hs r hne r0 ht hh he hW hw =>
    obtain ⟨r1, r2, r3, r4⟩ := r.wds g
    obtain ⟨q1, q2, q3, q4⟩ := r0.wds g
    have h0 := isS_nn hs g
    have hlt := r.lt g hne
    have hpos := r0.lt g (by simp)
    have mem : ∀ x, x ∈ wds sys (old ++ (0, t) :: new) ↔ (h ≤ x ∧ x < e) ∨ (0 ≤ x ∧ x < here) := fun x => by rw [wds_app, List.mem_append, r2, q2]
    have hd : ∀ m r', old ++ (0, t) :: new = m :: r' → m.1 = h := fun m r' e' => by
      cases old with
      | nil => exact absurd rfl hne
      | cons m' o' =>
        obtain ⟨x, t'⟩ := m'
        have := (r.head).1
        cases e'
        exact this
    refine ⟨?_, fun x hx => by have := (mem x).mp hx; omega, fun q hq => ?_, fun m hm => r0.last (lastB hm), fun m r' e' => by have := hd m r' e'; omega, fun len s h1 hp => ?_, fun len h1 hp => ?_⟩
    · rw [wds_app]
      refine List.nodup_append.mpr ⟨r3, q3, fun u hu v hv e' => ?_⟩
      have := (r2 u).mp hu
      have := (q2 v).mp hv
      omega
    · rcases zip_tail hq with hq | hq | hq
      · exact .inl (r.adj q hq)
      · exact .inr (by rw [hq])
      · exact .inl (r0.adj q hq)
    · unfold put at hp
      by_cases c : W < len
      · rw [if_pos c] at hp; cases hp
      · rw [if_neg c] at hp
        cases hl : old ++ (0, t) :: new with
        | nil => simp at hl
        | cons m r' =>
          have e1 := hd m r' hl
          rw [hl] at hp
          simp only [e1] at hp
          rw [if_neg (by omega)] at hp
          split at hp
          · cases hp
            rw [if_pos (by omega)]
            refine ⟨rfl, by omega, fun x hx hx2 => ?_⟩
            rw [← hl] at hx2
            have := mem_irg.mp hx
            have := (mem x).mp hx2
            omega
          · cases hp
    · unfold put at hp
      by_cases c : W < len
      · exact .inl c
      · rw [if_neg c] at hp
        cases hl : old ++ (0, t) :: new with
        | nil => simp at hl
        | cons m r' =>
          have e1 := hd m r' hl
          rw [hl] at hp
          simp only [e1] at hp
          rw [if_neg (by omega)] at hp
          split at hp
          · cases hp
          · rename_i c2
            right
            by_cases c3 : here + len ≤ W
            · rw [if_pos c3]
              exact ⟨h, mem_irg.mpr (by omega), by rw [← hl]; exact (mem h).mpr (by omega)⟩
            · rw [if_neg c3]
              exact ⟨0, mem_irg.mpr (by omega), by rw [← hl]; exact (mem 0).mpr (by omega)⟩
end Mx

/-! LS41: what a ring's outcome is in all cases; dicts of ints with True. -/
namespace T
open PySem L2 Mx
variable {ks : List (Int × Int)} {W L here len s x : Int} {k : Nat} {live : List (Int × Nat)} {p : Int × Int} {past : List D}
/-! ### numbers as keys, True as values -/
theorem eLc_mw {α : Type} (enc : α → D) {as : List α} {vs : List Nat} {t : Tg} {src : FI} {f : FE} (G : α → D) {ρ ρ1 ρ0 : Ev} (hs : src ρ = some (as.map enc, ρ1)) (hw1 : wipeE ρ1 vs = ρ0) (hw : wipeE ρ0 vs = ρ0) (hz : as.length ≤ sizeLine)
    (h : ∀ a ∈ as, ∃ ρ1 s ρ3, asg t (enc a) ρ0 = some ρ1 ∧ f ρ1 = some (s, ρ3) ∧ vl s = some (G a) ∧ wipeE ρ3 vs = ρ0) : eLc vs t src tTrue f ρ = some (.ow (.lst (as.map G)), ρ0) := by
  rw [eLc_overW enc (fun _ => true) G hs hw1 hw hz fun a ha => ?_, List.filter_eq_self.mpr (by simp)]
  obtain ⟨ρ1, s, ρ3, h1, h2, h3, h4⟩ := h a ha
  exact ⟨ρ1, ρ1, h1, rfl, fun _ => ⟨s, ρ3, h2, h3, h4⟩, fun h => by cases h⟩
theorem for_src {t : Tg} {src : FI} {b : FS} {ρ ρ0 : Ev} {xs : List D} {r : Option Rs} (hs : src ρ = some (xs, ρ0)) (h : loopF t b xs ρ0 = r) : sFor t src b ρ = r := by rw [sFor_e, hs]; exact h
end T

/-! LS53: a drawn script. -/
namespace T
open PySem L2 Mx PyProof.Rows
variable {d : D} {n : Nat}
theorem law_script_ok {c m : Nat} (h : Pw n d) (hn : n < 500000) (hc : 1 ≤ c) (hc2 : c ≤ 100) (hm : m ≤ 1000) :
    ∃ (d' : D) (rs : List (Option Nat)), Pw (n + m + 2) d' ∧ rs.length ≤ m ∧ (∀ k, some k ∈ rs → k < c) ∧ m_law_script [.io d, .sh (.int (c : Nat)), .sh (.int (m : Nat))] = some (.sh (.tup (rs.map rqD)), [.io d', .no, .no]) := by
  obtain ⟨d1, t, p1, t0, t1, e1⟩ := draw_ok (u := (m : Int) + 1) h (by omega) (by omega) (by omega)
  have rg := rg1 (f := eCall m_law_draw [] [.o 0, .e (eBin catO (eVar 2) (eC (.int 1)))]) (ρ := [.io d, .sh (.int (c : Nat)), .sh (.int (m : Nat)), .no, .no, .no]) (ρ' := [.io d1, .sh (.int (c : Nat)), .sh (.int (m : Nat)), .no, .no, .no]) (s := .sh (.int t)) (n := t) (by simp [e1]) rfl (by omega) (by omega)
  obtain ⟨ys, ρ', e2, len, is, eys, hlen, hi, d2, p2, rfl⟩ := eLc_run (fun i : Nat => D.int (0 + (i : Nat))) (as := List.range t.toNat) (vs := [4]) (t := .n 4) (f := eCall m_law_draw [] [.o 0, .e (eBin catO (eBin catO (eVar 1) (eBin divO (eVar 1) (eC (.int 2)))) (eC (.int 1)))])
    (fun pre ys ρ => pre.length ≤ m ∧ ∃ is : List Nat, ys = is.map (fun i : Nat => D.int (i : Nat)) ∧ is.length = pre.length ∧ (∀ i ∈ is, i < 2 * c + 1) ∧ ∃ d', Pw (n + 1 + pre.length) d' ∧ ρ = [.io d', .sh (.int (c : Nat)), .sh (.int (m : Nat)), .no, .no, .no])
    rg (by rw [List.length_range, sizeLine_eq]; omega) ⟨Nat.zero_le _, [], rfl, rfl, (fun i h => by cases h), d1, p1, by simp⟩ (fun ys ρ ⟨_, _, _, _, _, _, _, e⟩ => by subst e; simp) (by
    rintro pre a post acc ρ ep ⟨q1, is, rfl, q2, q3, d', q4, rfl⟩
    have lt : pre.length < m := by
      have := congrArg List.length ep
      rw [List.length_range, List.length_append, List.length_cons] at this
      omega
    obtain ⟨d3, x, p3, x0, x1, ex⟩ := draw_ok (u := (c : Int) + (c : Int) / 2 + 1) q4 (by omega) (by omega) (by omega)
    obtain ⟨i, rfl⟩ := Int.eq_ofNat_of_zero_le x0
    have fd : divO (.int (c : Int)) (.int 2) = some (.sh (.int ((c : Int) / 2))) := if_pos ⟨by decide, small_nat (n := 2) (by decide) (by decide) (by decide)⟩
    refine ⟨[.io d', .sh (.int (c : Nat)), .sh (.int (m : Nat)), .no, .sh (.int (0 + (a : Nat))), .no], .sh (.int (i : Nat)), [.io d3, .sh (.int (c : Nat)), .sh (.int (m : Nat)), .no, .sh (.int (0 + (a : Nat))), .no], .int (i : Nat), by simp, by simp [fd, ex], rfl, by rw [List.length_append, List.length_singleton]; omega, is ++ [i], by simp, by rw [List.length_append, List.length_append, q2]; rfl, fun j hj => ?_, d3, p3.mono (by rw [List.length_append, List.length_singleton]; omega), by simp⟩
    rcases List.mem_append.mp hj with hj | hj
    · exact q3 j hj
    · rw [List.mem_singleton.mp hj]; omega)
  subst eys
  have c2 : mb_law_script_C2 [.io d2, .sh (.int (c : Nat)), .sh (.int (m : Nat)), .ow (.lst (is.map fun i : Nat => D.int (i : Nat))), .no, .no] = some (.ow (.lst (is.map fun i : Nat => if i < c then D.int (i : Nat) else .non)), [.io d2, .sh (.int (c : Nat)), .sh (.int (m : Nat)), .sh (.lst (is.map fun i : Nat => D.int (i : Nat))), .no, .no]) := by
    refine eLc_mw (fun i : Nat => D.int (i : Nat)) (as := is) (vs := [5]) (t := .n 5) (f := eIf (tOf (eBin ltO (eVar 5) (eVar 1))) (eVar 5) (eC .non)) (fun i : Nat => if i < c then D.int (i : Nat) else .non) (ρ1 := [.io d2, .sh (.int (c : Nat)), .sh (.int (m : Nat)), .sh (.lst (is.map fun i : Nat => D.int (i : Nat))), .no, .no]) (by simp) (by simp) (by simp) (by rw [List.length_range] at hlen; rw [sizeLine_eq]; omega) fun i hi => ?_
    refine ⟨[.io d2, .sh (.int (c : Nat)), .sh (.int (m : Nat)), .sh (.lst (is.map fun i : Nat => D.int (i : Nat))), .no, .sh (.int (i : Nat))], .sh (if i < c then D.int (i : Nat) else .non), [.io d2, .sh (.int (c : Nat)), .sh (.int (m : Nat)), .sh (.lst (is.map fun i : Nat => D.int (i : Nat))), .no, .sh (.int (i : Nat))], by simp, ?_, rfl, by simp⟩
    by_cases q : i < c
    · have q' : (i : Int) < (c : Int) := by omega
      simp [q, q']
    · have q' : ¬ (i : Int) < (c : Int) := by omega
      simp [q, q']
  rw [List.length_range] at hlen
  refine ⟨d2, is.map fun i => if i < c then some i else none, p2.mono (by rw [List.length_range]; omega), by rw [List.length_map]; omega, fun k hk => ?_, ?_⟩
  · obtain ⟨i, _, e⟩ := List.mem_map.mp hk
    split at e
    · cases e; assumption
    · cases e
  · have em : (is.map fun i => if i < c then some i else none).map rqD = is.map fun i : Nat => if i < c then D.int (i : Nat) else .non := by
      rw [List.map_map]
      refine List.map_congr_left fun i _ => ?_
      show rqD (if i < c then some i else none) = _
      split <;> rfl
    rw [em]
    have tu : tupleO [.lst (is.map fun i : Nat => if i < c then D.int (i : Nat) else .non)] = some (.sh (.tup (is.map fun i : Nat => if i < c then D.int (i : Nat) else .non))) := tuple_l
    have e2' : mb_law_script_C1 [.io d, .sh (.int (c : Nat)), .sh (.int (m : Nat)), .no, .no, .no] = _ := e2
    generalize (is.map fun i : Nat => if i < c then D.int (i : Nat) else .non) = R at *
    generalize (is.map fun i : Nat => D.int (i : Nat)) = Q at *
    simp [m_law_script, mb_law_script, e2', c2, tu]
end T

namespace T
open PySem PySem.Spec PyProof.Rows L2
-- law_is_closed: 0=_law_own 1=_law_words 2=_law_loads 3=_law_here 4=_law_length 5=_law_weight 6=_law_later 7=_law_load
-- law_meets_newer: 0=_law_own 1=_law_budget 2=_law_head 3=_law_first 4=_law_loads 5=_law_rest 6=_law_last 7=_law_weight 8=_law_newer
-- law_meets: 0=_law_own 1=_law_limit 2=_law_words 3=_law_loads 4=_law_head 5=_law_old 6=_law_length 7=_law_weight 8=_law_is_late 9=_law_left 10=_law_one
-- law_weights: 0=_law_thing 1=_law_one 2=_law_found 3=_law_part
-- law_is_table: 0=_law_system_here 1=_law_limit 2=_law_words 3=_law_thing 4=_law_loads 5=_law_own 6=_law_one
-- law_lightest: 0=_law_system_here 1=_law_limit 2=_law_words 3=_law_loads 4=_law_here 5=_law_some 6=_law_length 7=_law_weight
end T

namespace T
open PySem PySem.Spec PyProof.Rows L2
-- is_closed: 0=kinds 1=words 2=weights 3=length 4=weight 5=here 6=load 7=later
-- lightest_old: 0=weights 1=words 2=head 3=length 4=lowest 5=found 6=old
-- meets_end: 0=kinds 1=limit 2=words 3=weights 4=length 5=weight 6=head 7=old
-- meets_newer: 0=kinds 1=limit 2=words 3=weights 4=first 5=first_weight 6=olds 7=rest 8=load 9=newer 10=length 11=weight 12=budget 13=some 14=head 15=old
-- shows_safe: 0=system 1=limit 2=words 3=value 4=kinds 5=weights
end T

/-! M13: tables of lengths and weights. -/
namespace Mx
abbrev Tb := List (Int × Int)
variable {sys ks : Ks} {tb : Tb} {x v L W : Int} {p f q : Int × Int}
/-- the sums with their least weights -/
def SumT (ks : Ks) (W : Int) (tb : Tb) : Prop := ∀ x v, (x, v) ∈ tb ↔ lit ks x = some v ∧ x ≤ W
theorem SumT.mem (h : SumT ks W tb) (hq : q ∈ tb) : IsLit ks q.1 q.2 ∧ q.1 ≤ W := by
  have := (h q.1 q.2).mp hq
  exact ⟨lit_some this.1, this.2⟩
theorem SumT.of (g : Good ks) (h : SumT ks W tb) {w : Int} (hm : Mix ks x w) (hx : x ≤ W) : ∃ v, (x, v) ∈ tb ∧ v ≤ w := by
  obtain ⟨v, h1, h2⟩ := lit_ex g ⟨w, hm⟩
  exact ⟨v, (h x v).mpr ⟨h1, hx⟩, h2.2 w hm⟩
end Mx

/-! PT1: what the defs of the module tables compute. -/
namespace T
open PySem L2 Mx
variable {ks tb : List (Int × Int)} {W L x : Int} {p q : Int × Int} {i : Nat}
/-! ### walks, dicts made -/
section
variable {ρ : Ev} {i : Nat} {f : FE}
end
/-! ### the least weight of old messages -/
def lo0 (W h l : Int) : Int := if W - h - l + 1 > 1 then W - h - l + 1 else 1
def olds (tb : IP) (W h l : Int) : List Int := ((List.range (W - h + 1 - lo0 W h l).toNat).filter fun i : Nat => (look tb (lo0 W h l + i)).isSome).map fun i : Nat => (look tb (lo0 W h l + i)).getD 0
/-! ### pairs -/
def ArP (W : Int) (tb : List (Int × Int)) : Prop := (∃ r, tb = (0, 0) :: r) ∧ (∀ p ∈ tb.getLast?, p.1 ≤ W) ∧ tb.Pairwise fun p q => p.1 < q.1
end T

/-! PT2: shows_safe, table_for. -/
namespace T
open PySem L2 Mx
variable {ks tb sys : List (Int × Int)} {W L x : Int} {p q f : Int × Int} {i : Nat}
/-- a table whose lengths are small -/
structure TbOk (tb : List (Int × Int)) : Prop where
  nd : (tb.map (·.1)).Nodup
  lo : ∀ q ∈ tb, -1000 ≤ q.1 ∧ q.1 ≤ 10000
/-! ### is_closed -/
/-! ### meets_end -/
/-! ### dict comprehensions -/
/-! ### meets_newer -/
end T

/-! PT3: tables accepted, tables made. -/
namespace T
open PySem L2 Mx
variable {ks tb sys : List (Int × Int)} {W L x v : Int} {p q f : Int × Int} {i : Nat}
theorem ArP.keys (h : ArP W tb) : ∀ q ∈ tb, 0 ≤ q.1 ∧ q.1 ≤ W := by
  obtain ⟨⟨r, rfl⟩, h2, h3⟩ := h
  intro q hq
  constructor
  · rcases List.mem_cons.mp hq with rfl | hq
    · exact Int.le_refl _
    · exact Int.le_of_lt ((List.pairwise_cons.mp h3).1 q hq)
  · rcases List.eq_nil_or_concat ((0, 0) :: r) with e | ⟨tl, z, e⟩
    · cases e
    · rw [List.concat_eq_append] at e
      rw [e] at h2 h3 hq
      have hz := h2 z (by rw [List.getLast?_concat]; rfl)
      rcases List.mem_append.mp hq with hq | hq
      · have := (List.pairwise_append.mp h3).2.2 q hq z (List.mem_singleton.mpr rfl)
        omega
      · rw [List.mem_singleton.mp hq]; exact hz
theorem asc_nd (h : tb.Pairwise fun p q => p.1 < q.1) : (tb.map (·.1)).Nodup := by
  rw [List.nodup_iff_pairwise_ne, List.pairwise_map]
  exact h.imp fun h e => by omega
theorem ArP.ok (h : ArP W tb) (w2 : W ≤ 10000) : TbOk tb := ⟨asc_nd h.2.2, fun q hq => by have := h.keys q hq; omega⟩
/-! ### the sums -/
end T

/-! LS15: the laws' own look at tables. -/
namespace T
open PySem L2 Mx
variable {ks tb sys : List (Int × Int)} {W L x : Int} {p q f : Int × Int} {i : Nat} {O : D}
/-! ### closed -/
/-! ### met -/
/-! ### the weights of a table -/
end T

/-! K61a: systems and scripts as texts. -/
namespace T
open PySem L2 Mx PyProof.Rows TL
variable {n : Nat} {d : D}
/-! ### texts of systems -/
def sysS (ps : List (Nat × Nat)) : Str := Txt.join " " (ps.map (lineS "*"))
structure Sk (ps : List (Nat × Nat)) : Prop where
  ne : ps ≠ []
  few : ps.length ≤ 6
  low : ∀ p ∈ ps, p.1 < 10 ^ 2 ∧ p.2 < 10 ^ 2
theorem line_len2 {s : Str} {p : Nat × Nat} (hs : s.length = 1) (h1 : p.1 < 10 ^ 2) (h2 : p.2 < 10 ^ 2) : (lineS s p).length ≤ 5 := by
  have a := num_len (k := 2) (by decide) h1
  have b := num_len (k := 2) (by decide) h2
  unfold lineS
  rw [app_len, app_len]
  omega
theorem Sk.lines {ps : List (Nat × Nat)} (h : Sk ps) : ∀ y ∈ ps.map (lineS "*"), y.length ≤ 5 := fun y hy => by
  obtain ⟨p, hp, rfl⟩ := List.mem_map.mp hy
  exact line_len2 rfl (h.low p hp).1 (h.low p hp).2
theorem lt20 {n : Nat} (h : n < 10 ^ 2) : n < 10 ^ 20 := Nat.lt_of_lt_of_le h (by decide)
theorem show_system_ok {ps : List (Nat × Nat)} (h : Sk ps) : m_show_system [.sh (kDs (ps.map cast2))] = some (.sh (.str (sysS ps)), [.no]) := by
  have c1 : mb_show_system_C1 [.sh (kDs (ps.map cast2)), .no, .no] = some (.ow (.lst ((ps.map (lineS "*")).map .str)), [.sh (kDs (ps.map cast2)), .no, .no]) := by
    rw [List.map_map]
    have es : (kDs (ps.map cast2)).seq = some (ps.map fun p => kD (cast2 p)) := by
      show some _ = some _
      rw [List.map_map]; rfl
    refine eLc_map (fun p : Nat × Nat => kD (cast2 p)) (as := ps) (fun p => .str (lineS "*" p)) (ρ0 := [.sh (kDs (ps.map cast2)), .no, .no]) (by generalize kDs (ps.map cast2) = K at *; simp [es]) (by simp) (by have := h.few; rw [sizeLine_eq]; omega) fun p hp => ?_
    have e := line_e (i := 1) (j := 2) (ρ := [.sh (kDs (ps.map cast2)), .sh (.int (p.1 : Nat)), .sh (.int (p.2 : Nat))]) (ρ1 := [.sh (kDs (ps.map cast2)), .sh (.int (p.1 : Nat)), .sh (.int (p.2 : Nat))]) (s := "*") rfl (lt20 (h.low p hp).1) (lt20 (h.low p hp).2) (by simp) (by simp)
    generalize kDs (ps.map cast2) = K at *
    exact ⟨[.sh K, .sh (.int (p.1 : Nat)), .sh (.int (p.2 : Nat))], _, _, by simp [kD, cast2], e, rfl, by simp⟩
  have jn : joinO (.str " ") (.lst ((ps.map (lineS "*")).map .str)) = some (.sh (.str (sysS ps))) := by
    rw [joinO_l, if_pos]
    · rfl
    · have := sum_len h.lines
      have l := h.few
      rw [List.length_map] at this ⊢
      rw [show (" " : Str).length = 1 from rfl, Nat.mul_one]
      omega
  generalize kDs (ps.map cast2) = K at *
  generalize D.lst ((ps.map (lineS "*")).map .str) = S at *
  simp [m_show_system, mb_show_system, c1, jn]
theorem system_text_ok {ps : List (Nat × Nat)} (h : Sk ps) : m_law_system_text [.sh (kDs (ps.map cast2))] = some (.sh (.str (sysS ps)), [.no]) := show_system_ok h
theorem join_len {s : Str} {k : Nat} (hs : s.length = 1) : ∀ {ys : List Str}, (∀ y ∈ ys, y.length ≤ k) → (Txt.join s ys).length ≤ (k + 1) * ys.length := by
  intro ys
  induction ys with
  | nil => intro _; rw [join_eq]; exact Nat.le_refl _
  | cons y r ih =>
    intro hy
    have h1 := hy y List.mem_cons_self
    have h2 := ih fun z hz => hy z (List.mem_cons_of_mem _ hz)
    rw [join_eq] at h2 ⊢
    rw [List.length_cons, Nat.mul_succ]
    cases r with
    | nil => show y.length ≤ _; omega
    | cons z r =>
      show (y ++ s ++ Str.join s (z :: r)).length ≤ _
      rw [app_len, app_len, hs]
      omega
theorem sysS_len {ps : List (Nat × Nat)} (h : Sk ps) : (sysS ps).length ≤ 36 := by
  have := join_len (s := " ") rfl h.lines
  have l := h.few
  rw [List.length_map] at this
  exact Nat.le_trans this (by omega)
theorem split_sys {ps : List (Nat × Nat)} (h : Sk ps) : Txt.split (sysS ps) " " = ps.map (lineS "*") := by
  refine split_join (s := 32) (S := []) tl_sp (by decide +kernel) (by simpa using h.ne) fun q hq => ?_
  obtain ⟨p, _, rfl⟩ := List.mem_map.mp hq
  exact line_free tl_st (by decide) (by decide)
theorem mem_joinT {s : Str} {c : Nat} : ∀ {ys : List Str}, c ∈ tl (Txt.join s ys) → c ∈ tl s ∨ ∃ y ∈ ys, c ∈ tl y := by
  intro ys
  rw [join_eq]
  induction ys with
  | nil => intro h; cases h
  | cons y r ih =>
    intro h
    cases r with
    | nil => exact .inr ⟨y, List.mem_cons_self, h⟩
    | cons z r =>
      have h : c ∈ tl (y ++ s ++ Str.join s (z :: r)) := h
      rw [tl_append, tl_append] at h
      rcases List.mem_append.mp h with h | h
      · rcases List.mem_append.mp h with h | h
        · exact .inr ⟨y, List.mem_cons_self, h⟩
        · exact .inl h
      · rcases ih h with h | ⟨q, hq, hc⟩
        · exact .inl h
        · exact .inr ⟨q, List.mem_cons_of_mem _ hq, hc⟩
theorem num_ran {n c : Nat} (h : c ∈ tl (num n)) : 48 ≤ c ∧ c ≤ 57 := by
  by_cases q : 48 ≤ c ∧ c ≤ 57
  · exact q
  · exact absurd h (num_free (by omega))
theorem line_no {p : Nat × Nat} {c : Nat} (h : c ∈ tl (lineS "*" p)) : c = 42 ∨ 48 ≤ c ∧ c ≤ 57 := by
  unfold lineS at h
  rw [tl_append, tl_append, tl_st] at h
  rcases List.mem_append.mp h with h | h
  · rcases List.mem_append.mp h with h | h
    · exact .inr (num_ran h)
    · exact .inl (List.mem_singleton.mp h)
  · exact .inr (num_ran h)
theorem sysS_no {ps : List (Nat × Nat)} {c : Nat} (h : c ∈ tl (sysS ps)) : c = 32 ∨ c = 42 ∨ 48 ≤ c ∧ c ≤ 57 := by
  rcases mem_joinT h with h | ⟨y, hy, hc⟩
  · rw [tl_sp] at h
    exact .inl (List.mem_singleton.mp h)
  · obtain ⟨p, _, rfl⟩ := List.mem_map.mp hy
    exact .inr (line_no hc)
/-- a text of one line -/
theorem split_none {x : Str} (h : 10 ∉ tl x) : Txt.split x "\n" = [x] := by
  have e : x = Txt.join "\n" [x] := by rw [join_eq]; rfl
  conv => lhs; rw [e]
  exact split_join (s := 10) (S := []) tl_nl (by decide +kernel) (by simp) fun q hq => by rw [List.mem_singleton.mp hq]; exact h
theorem numV_2 {n : Nat} (h : n < 10 ^ 2) : numV (num n) 2 = .int (n : Nat) := numV_num (by decide) h
theorem numsV_p {p : Nat × Nat} (h1 : p.1 < 10 ^ 2) (h2 : p.2 < 10 ^ 2) : numsV [num p.1, num p.2] 2 = kD (cast2 p) := by
  have nv : ∀ n : Nat, n < 10 ^ 2 → isNum (num n) 2 = true := fun n hn => by
    have e := numV_num (k := 2) (by decide) hn
    unfold numV at e
    split at e
    · assumption
    · cases e
  unfold numsV
  rw [if_pos (by simp [nv _ h1, nv _ h2])]
  simp only [List.map_cons, List.map_nil]
  rw [numV_2 h1, numV_2 h2]
  rfl
theorem len30 {ρ : Ev} : eFn (shO lenD) [(eFn (shO strD) [(eC (.int 30))])] ρ = some (.sh (.int 2), ρ) := by
  have s := str_num (n := 30) (by decide)
  have l : lenD [.str (num 30)] = some (.int 2) := by
    have e : (num 30).length = 2 := by rw [len_tl, tl_num]; decide +kernel
    show (if (num 30).length ≤ sizeLine then some (D.int ((num 30).length : Nat)) else none) = _
    rw [e, if_pos (by rw [sizeLine_eq]; decide)]; rfl
  have s' : strD [.int 30] = some (.str (num 30)) := s
  generalize num 30 = x at *
  simp [s', l]
theorem kD_py (p : Int × Int) : ∃ q, (kD p).py = some q ∧ PyData.eqv q .none = (kD p).isN := ⟨_, rfl, by simp [PyData.eqv, D.isN, kD]⟩
theorem kD_noN (ps : List (Nat × Nat)) : (ps.map fun p => kD (cast2 p)).any D.isN = false := by
  rw [List.any_map]
  simp [Function.comp_def, kD, D.isN]
theorem system_in_ok {ps : List (Nat × Nat)} (h : Sk ps) (hs : Sys 6 (ps.map cast2)) : m_system_in [.sh (.str (sysS ps))] = some (.sh (kDs (ps.map cast2)), [.no]) := by
  have tz := sysS_len h
  have e0 : splitO (.str (sysS ps)) (.str " ") = some (.ow (.lst ((ps.map (lineS "*")).map .str))) := by
    rw [splitO_e, if_pos ⟨rfl, by rw [sizeLine_eq]; omega⟩, split_sys h]
  have c1 : mb_system_in_C1 [.sh (.str (sysS ps)), .no, .no] = some (.ow (.lst (ps.map fun p => kD (cast2 p))), [.sh (.str (sysS ps)), .no, .no]) := by
    generalize sysS ps = x at *
    rw [List.map_map] at e0
    refine eLc_map (fun p : Nat × Nat => D.str (lineS "*" p)) (as := ps) (fun p => kD (cast2 p)) (ρ0 := [.sh (.str x), .no, .no]) (by simp [-splitO_e, e0, Function.comp_def]) (by simp) (by have := h.few; rw [sizeLine_eq]; omega) fun p hp => ?_
    have l := line_len2 (s := "*") rfl (h.low p hp).1 (h.low p hp).2
    have sp := split_line (p := p) tl_st (by decide)
    have e1 : splitO (.str (lineS "*" p)) (.str "*") = some (.ow (.lst (([num p.1, num p.2] : List Str).map .str))) := by
      rw [splitO_e, if_pos ⟨rfl, by rw [sizeLine_eq]; omega⟩, sp]
    have n1 := num_len (k := 2) (by decide) (h.low p hp).1
    have n2 := num_len (k := 2) (by decide) (h.low p hp).2
    have e2 := numbers_in_eq (ys := [num p.1, num p.2]) (k := 2) (by rw [sizeLine_eq]; show 2 ≤ 16777216; decide) (fun y hy => by
      simp only [List.mem_cons, List.not_mem_nil, or_false] at hy
      rw [sizeLine_eq]
      rcases hy with rfl | rfl <;> omega) (by decide)
    rw [numsV_p (h.low p hp).1 (h.low p hp).2] at e2
    have e2' : m_numbers_in [.sh (.lst (([num p.1, num p.2] : List Str).map .str)), .sh (.int 2)] = some (.sh (kD (cast2 p)), [.no, .no]) := e2
    have l3 : ∀ ρ : Ev, eFn (shO lenD) [(eFn (shO strD) [(eC (.int 30))])] ρ = some (.sh (.int 2), ρ) := fun ρ => len30
    generalize eFn (shO lenD) [(eFn (shO strD) [(eC (.int 30))])] = F at *
    generalize (([num p.1, num p.2] : List Str).map D.str) = ys at *
    generalize kD (cast2 p) = q at *
    generalize lineS "*" p = y at *
    exact ⟨[.sh (.str x), .no, .sh (.str y)], .sh q, [.sh (.str x), .no, .sh (.str y)], by simp, by simp [-splitO_e, e1, e2', l3], rfl, by simp⟩
  have i1 := in_none (ds := ps.map fun p => kD (cast2 p)) (n := 1) (by decide) (fun d hd => by obtain ⟨p, _, rfl⟩ := List.mem_map.mp hd; exact nice_kD)
    (fun d hd => by obtain ⟨p, _, rfl⟩ := List.mem_map.mp hd; exact kD_py _) (neg := true)
  rw [kD_noN] at i1
  have i1' : inO true .non (.lst (ps.map fun p => kD (cast2 p))) = some (.sh (.bl true)) := i1
  have tu : tupleO [.lst (ps.map fun p => kD (cast2 p))] = some (.sh (kDs (ps.map cast2))) := by
    rw [tuple_l]
    show some (Sl.sh (.tup _)) = some (Sl.sh (.tup _))
    rw [List.map_map]; rfl
  have is := is_system_ok hs (by decide)
  generalize kDs (ps.map cast2) = K at *
  generalize sysS ps = x at *
  generalize (ps.map fun p => kD (cast2 p)) = R at *
  simp [m_system_in, mb_system_in, c1, i1', tu, is]
/-! ### one line -/
theorem only_line_ok {x : Str} {aF : Addr} {F : FF} {r : D} (hz : x.length ≤ 1000000) (h10 : 10 ∉ tl x) (hF : F [.sh (.str x)] = some (.sh r, [.no])) (hr : r.isNon = false) : m_only_line aF F [.sh (.str x), .sh (fnD aF)] = some (.sh r, [.no, .no]) := by
  have lo := lines_of_ok hz
  rw [split_none h10] at lo
  have lo' : m_lines_of [.sh (.str x)] = some (.ow (.lst [.str x]), [.no]) := lo
  have dn : deq (.lst []) (.lst []) = some true := deq_nil (n := 0) (fun d h => by cases h) (by decide)
  have ec : eCallL 1 aF F [.e (eVar 2)] [.sh (.str x), .sh (fnD aF), .sh (.str x), .ow (.lst []), .no] = some (.sh r, [.sh (.str x), .sh (fnD aF), .sh (.str x), .ow (.lst []), .no]) := by
    rw [eCallL_e rfl]
    simp [hF]
  simp [m_only_line, mb_only_line, lo', ec, hr, dn]
theorem read_system_ok {ps : List (Nat × Nat)} {a : Addr} (h : Sk ps) (hs : Sys 6 (ps.map cast2)) : m_read_system a [.sh (.str (sysS ps))] = some (.sh (kDs (ps.map cast2)), [.no]) := by
  have e := only_line_ok (aF := a) (F := m_system_in) (x := sysS ps) (by have := sysS_len h; omega) (fun hc => by have := sysS_no hc; omega) (system_in_ok h hs) rfl
  generalize kDs (ps.map cast2) = K at *
  generalize sysS ps = x at *
  simp [m_read_system, mb_read_system, e]
/-! ### texts of scripts -/
def wdS : Option Nat → Str
  | none => "pop"
  | some k => num k
def scrS (rs : List (Option Nat)) : Str := if rs = [] then "-" else Txt.join " " (rs.map wdS)
structure Qk (rs : List (Option Nat)) : Prop where
  few : rs.length ≤ 6000
  low : ∀ k, some k ∈ rs → k < 6
theorem wd_len {r : Option Nat} (h : ∀ k, r = some k → k < 6) : (wdS r).length ≤ 3 := by
  cases r with
  | none => show ("pop" : Str).length ≤ 3; decide +kernel
  | some k =>
    have := num_len (k := 1) (n := k) (by decide) (Nat.lt_of_lt_of_le (h k rfl) (by decide))
    show (num k).length ≤ 3
    omega
theorem Qk.words {rs : List (Option Nat)} (h : Qk rs) : ∀ y ∈ rs.map wdS, y.length ≤ 3 := fun y hy => by
  obtain ⟨r, hr, rfl⟩ := List.mem_map.mp hy
  exact wd_len fun k e => h.low k (e ▸ hr)
theorem tl_pop : tl ("pop" : Str) = [112, 111, 112] := by decide +kernel
theorem wd_mem {r : Option Nat} {c : Nat} (h : c ∈ tl (wdS r)) : 48 ≤ c := by
  cases r with
  | none =>
    have h : c ∈ tl ("pop" : Str) := h
    rw [tl_pop] at h
    simp only [List.mem_cons, List.not_mem_nil, or_false] at h
    omega
  | some k => exact (num_ran h).1
theorem tupR_ne {rs : List (Option Nat)} : neO (.tup (rs.map rqD)) (.tup []) = some (.sh (.bl (!rs.isEmpty))) := by
  have e := deq_tup0 (n := 0) (ds := rs.map rqD) fun d hd => by obtain ⟨r, _, rfl⟩ := List.mem_map.mp hd; exact nice_rq
  unfold neO
  rw [e, List.isEmpty_map]
  rfl
theorem show_script_ok {rs : List (Option Nat)} (h : Qk rs) : m_show_script [.sh (.tup (rs.map rqD))] = some (.sh (.str (scrS rs)), [.no]) := by
  have ne := tupR_ne (rs := rs)
  by_cases c : rs = []
  · subst c
    have ne' : neO (.tup []) (.tup []) = some (.sh (.bl false)) := ne
    simp [m_show_script, mb_show_script, ne', scrS]
  · have c1 : mb_show_script_C1 [.sh (.tup (rs.map rqD)), .no] = some (.ow (.lst ((rs.map wdS).map .str)), [.sh (.tup (rs.map rqD)), .no]) := by
      rw [List.map_map]
      have es : (D.tup (rs.map rqD)).seq = some (rs.map rqD) := rfl
      refine eLc_map rqD (as := rs) (fun r => .str (wdS r)) (ρ0 := [.sh (.tup (rs.map rqD)), .no]) (by generalize D.tup (rs.map rqD) = K at *; simp [es]) (by simp) (by have := h.few; rw [sizeLine_eq]; omega) fun r hr => ?_
      generalize D.tup (rs.map rqD) = K at *
      cases r with
      | none => exact ⟨[.sh K, .sh .non], .sh (.str "pop"), [.sh K, .sh .non], by simp [rqD], by simp, rfl, by simp⟩
      | some k =>
        have s := str_num (n := k) (Nat.lt_of_lt_of_le (h.low k hr) (by decide +kernel))
        exact ⟨[.sh K, .sh (.int (k : Nat))], .sh (.str (num k)), [.sh K, .sh (.int (k : Nat))], by simp [rqD], by simp [s], rfl, by simp⟩
    have jn : joinO (.str " ") (.lst ((rs.map wdS).map .str)) = some (.sh (.str (scrS rs))) := by
      rw [joinO_l, if_pos]
      · unfold scrS
        rw [if_neg c]
      · have := sum_len h.words
        have l := h.few
        rw [List.length_map] at this ⊢
        rw [show (" " : Str).length = 1 from rfl, Nat.mul_one]
        omega
    have hb : rs.isEmpty = false := by simpa using c
    rw [hb] at ne
    generalize D.tup (rs.map rqD) = K at *
    generalize D.lst ((rs.map wdS).map .str) = S at *
    simp [m_show_script, mb_show_script, ne, c1, jn]
theorem script_text_ok {rs : List (Option Nat)} (h : Qk rs) : m_law_script_text [.sh (.tup (rs.map rqD))] = some (.sh (.str (scrS rs)), [.no]) := show_script_ok h
theorem tl_dash : tl ("-" : Str) = [45] := by decide +kernel
theorem scrS_len {rs : List (Option Nat)} (h : Qk rs) : (scrS rs).length ≤ 24000 := by
  unfold scrS
  split
  · decide +kernel
  · have := join_len (s := " ") rfl h.words
    have l := h.few
    rw [List.length_map] at this
    exact Nat.le_trans this (by omega)
theorem scrS_mem {rs : List (Option Nat)} {c : Nat} (h : c ∈ tl (scrS rs)) : 32 ≤ c := by
  unfold scrS at h
  split at h
  · rw [tl_dash] at h
    rw [List.mem_singleton.mp h]; decide
  · rcases mem_joinT h with h | ⟨y, hy, hc⟩
    · rw [tl_sp] at h
      rw [List.mem_singleton.mp h]; decide
    · obtain ⟨r, _, rfl⟩ := List.mem_map.mp hy
      have := wd_mem hc
      omega
theorem scrS_high {rs : List (Option Nat)} {c : Nat} (h : c ∈ tl (scrS rs)) : c ≤ 112 := by
  unfold scrS at h
  split at h
  · rw [tl_dash] at h
    rw [List.mem_singleton.mp h]; decide
  · rcases mem_joinT h with h | ⟨y, hy, hc⟩
    · rw [tl_sp] at h
      rw [List.mem_singleton.mp h]; decide
    · obtain ⟨r, _, rfl⟩ := List.mem_map.mp hy
      cases r with
      | none =>
        have hc : c ∈ tl ("pop" : Str) := hc
        rw [tl_pop] at hc
        simp only [List.mem_cons, List.not_mem_nil, or_false] at hc
        omega
      | some k => have := (num_ran hc).2; omega
theorem scrS_dash {rs : List (Option Nat)} (h : rs ≠ []) : scrS rs ≠ "-" := by
  intro e
  have hm : 45 ∈ tl (scrS rs) := by rw [e, tl_dash]; exact List.mem_singleton.mpr rfl
  unfold scrS at hm
  rw [if_neg h] at hm
  rcases mem_joinT hm with hm | ⟨y, hy, hc⟩
  · rw [tl_sp] at hm
    simp at hm
  · obtain ⟨r, _, rfl⟩ := List.mem_map.mp hy
    have := wd_mem hc
    omega
theorem split_scr {rs : List (Option Nat)} (h : rs ≠ []) : Txt.split (scrS rs) " " = rs.map wdS := by
  unfold scrS
  rw [if_neg h]
  refine split_join (s := 32) (S := []) tl_sp (by decide +kernel) (by simpa using h) fun q hq => ?_
  obtain ⟨r, _, rfl⟩ := List.mem_map.mp hq
  intro hc
  have := wd_mem hc
  omega
theorem request_in_ok {r : Option Nat} (h : ∀ k, r = some k → k < 6) : m_request_in [.sh (.str (wdS r))] = some (.sh (.tup [rqD r]), [.no]) := by
  have z1 : (1 : Nat) ≤ sizeLine := by rw [sizeLine_eq]; decide
  cases r with
  | none =>
    have e := eq_strs (x := "pop") (y := "pop")
    rw [decide_eq_true rfl] at e
    show m_request_in [.sh (.str "pop")] = some (.sh (.tup [.non]), [.no])
    simp [m_request_in, mb_request_in, e, z1]
  | some k =>
    have hk := h k rfl
    have e := eq_strs (x := num k) (y := "pop")
    have ln := num_len (k := 1) (n := k) (by decide) (Nat.lt_of_lt_of_le hk (by decide))
    have ne : num k ≠ "pop" := fun e => by
      rw [e] at ln
      revert ln
      decide +kernel
    rw [decide_eq_false ne] at e
    have ni := number_in_eq (x := num k) (k := 1) (by rw [sizeLine_eq]; omega) (by decide)
    rw [numV_num (by decide) (Nat.lt_of_lt_of_le hk (by decide))] at ni
    have ni' : m_number_in [.sh (.str (num k)), .sh (.int 1)] = some (.sh (.int (k : Nat)), [.no, .no]) := ni
    show m_request_in [.sh (.str (num k))] = some (.sh (.tup [.int (k : Nat)]), [.no])
    have hk' : ((k : Nat) : Int) < 6 := by omega
    generalize num k = x at *
    simp [m_request_in, mb_request_in, e, ni', hk', z1]
theorem script_in_ok {rs : List (Option Nat)} (h : Qk rs) : m_script_in [.sh (.str (scrS rs))] = some (.sh (.tup (rs.map rqD)), [.no]) := by
  have tz := scrS_len h
  by_cases c : rs = []
  · subst c
    have e := eq_strs (x := "-") (y := "-")
    rw [decide_eq_true rfl] at e
    have : scrS [] = "-" := rfl
    rw [this]
    simp [m_script_in, mb_script_in, e]
  · have e := eq_strs (x := scrS rs) (y := "-")
    rw [decide_eq_false (scrS_dash c)] at e
    have e0 : splitO (.str (scrS rs)) (.str " ") = some (.ow (.lst ((rs.map wdS).map .str))) := by
      rw [splitO_e, if_pos ⟨rfl, by rw [sizeLine_eq]; omega⟩, split_scr c]
    have zl : rs.length ≤ sizeLine := by have := h.few; rw [sizeLine_eq]; omega
    have c1 : mb_script_in_C1 [.sh (.str (scrS rs)), .no, .no, .no] = some (.ow (.lst (rs.map fun r => .tup [rqD r])), [.sh (.str (scrS rs)), .no, .no, .no]) := by
      generalize scrS rs = x at *
      rw [List.map_map] at e0
      refine eLc_map (fun r => D.str (wdS r)) (as := rs) (fun r => .tup [rqD r]) (ρ0 := [.sh (.str x), .no, .no, .no]) (by simp [-splitO_e, e0, Function.comp_def]) (by simp) zl fun r hr => ?_
      have e3 := request_in_ok (r := r) fun k e => h.low k (e ▸ hr)
      generalize wdS r = w at *
      generalize D.tup [rqD r] = q at *
      exact ⟨[.sh (.str x), .no, .sh (.str w), .no], .sh q, [.sh (.str x), .no, .sh (.str w), .no], by simp, by simp [e3], rfl, by simp⟩
    have i1 := in_none (ds := rs.map fun r => .tup [rqD r]) (n := 2) (by decide) (fun d hd => by
        obtain ⟨r, _, rfl⟩ := List.mem_map.mp hd
        exact nice_tup fun d hd => by rw [List.mem_singleton.mp hd]; exact nice_rq)
      (fun d hd => by
        obtain ⟨r, _, rfl⟩ := List.mem_map.mp hd
        cases r <;> exact ⟨_, rfl, by simp [PyData.eqv, D.isN]⟩) (neg := false)
    have nn : (rs.map fun r => D.tup [rqD r]).any D.isN = false := by
      rw [List.any_map]
      simp [Function.comp_def, D.isN]
    rw [nn] at i1
    have i1' : inO false .non (.lst (rs.map fun r => .tup [rqD r])) = some (.sh (.bl false)) := i1
    have c2 : ∀ x : Str, mb_script_in_C2 [.sh (.str x), .sh (.lst (rs.map fun r => .tup [rqD r])), .no, .no] = some (.ow (.lst (rs.map rqD)), [.sh (.str x), .sh (.lst (rs.map fun r => .tup [rqD r])), .no, .no]) := fun x => by
      refine eLc_mw (fun r => D.tup [rqD r]) (as := rs) (vs := [3]) (t := .n 3) (f := eIxV 3 (eC (.int 0))) rqD (ρ1 := [.sh (.str x), .sh (.lst (rs.map fun r => D.tup [rqD r])), .no, .no]) (by simp) (by simp) (by simp) zl fun r hr => ?_
      generalize (rs.map fun r => D.tup [rqD r]) = R at *
      exact ⟨[.sh (.str x), .sh (.lst R), .no, .sh (.tup [rqD r])], .sh (rqD r), [.sh (.str x), .sh (.lst R), .no, .sh (.tup [rqD r])], by simp, by simp, rfl, by simp⟩
    have tu : tupleO [.lst (rs.map rqD)] = some (.sh (.tup (rs.map rqD))) := tuple_l
    generalize scrS rs = x at *
    have c2' := c2 x
    generalize (rs.map fun r => D.tup [rqD r]) = R at *
    generalize rs.map rqD = Q at *
    simp [m_script_in, mb_script_in, e, c1, i1', c2', tu]
theorem read_script_ok {rs : List (Option Nat)} {a : Addr} (h : Qk rs) : m_read_script a [.sh (.str (scrS rs))] = some (.sh (.tup (rs.map rqD)), [.no]) := by
  have e := only_line_ok (aF := a) (F := m_script_in) (x := scrS rs) (by have := scrS_len h; omega) (fun hc => by have := scrS_mem hc; omega) (script_in_ok h) rfl
  generalize D.tup (rs.map rqD) = K at *
  generalize scrS rs = x at *
  simp [m_read_script, mb_read_script, e]
theorem rqD_inj {a b : Option Nat} (h : rqD a = rqD b) : a = b := by
  cases a <;> cases b
  · rfl
  · cases h
  · cases h
  · cases h; rfl
theorem scrS_inj {rs qs : List (Option Nat)} (h : Qk rs) (h2 : Qk qs) (e : scrS rs = scrS qs) : rs = qs := by
  have e1 := script_in_ok h
  have e2 := script_in_ok h2
  rw [e, e2] at e1
  have : D.tup (qs.map rqD) = D.tup (rs.map rqD) := by
    have := (Prod.mk.inj (Option.some.inj e1)).1
    exact Sl.sh.inj this
  have := D.tup.inj this
  exact ((List.map_inj_right fun a b => rqD_inj).mp this).symm
theorem sysS_inj {ps qs : List (Nat × Nat)} (h : Sk ps) (hs : Sys 6 (ps.map cast2)) (h2 : Sk qs) (hs2 : Sys 6 (qs.map cast2)) (e : sysS ps = sysS qs) : ps.map cast2 = qs.map cast2 := by
  have e1 := system_in_ok h hs
  have e2 := system_in_ok h2 hs2
  rw [e, e2] at e1
  have : kDs (qs.map cast2) = kDs (ps.map cast2) := Sl.sh.inj (Prod.mk.inj (Option.some.inj e1)).1
  have := D.tup.inj this
  exact ((List.map_inj_right fun a b (h : kD a = kD b) => by
    have h := D.tup.inj h
    simp only [List.cons.injEq, D.int.injEq, and_true] at h
    exact Prod.ext h.1 h.2).mp this).symm
end T

/-! K61: systems and scripts as texts. -/
namespace T
open PySem L2 Mx PyProof.Rows TL
variable {n : Nat} {d : D} {A B : Addr}
theorem shw_strT {x : Str} {m : Nat} (h : ∀ c ∈ tl x, c < 16 ^ 8) (hz : 10 * x.length + 2 ≤ m) : ∃ p, Shw m 0 (.str x) p :=
  ⟨.str x, rfl, by simp [PyData.showable], by
    have e : (PyData.shown (.str x)) = reprText x := by simp [PyData.shown]
    rw [e]
    exact Nat.le_trans (PySem.StrLaws.reprText_len x h) hz, by simp [PyData.hasDict], by simp [PyData.depth]⟩
theorem repr_strT {x : Str} (h : ∀ c ∈ tl x, c < 16 ^ 8) (hz : x.length ≤ 1000000) : ∃ s, reprD [.str x] = some (.str s) := by
  obtain ⟨p, hp⟩ := shw_strT (m := 10000002) h (by omega)
  exact ⟨_, repr_shw hp⟩
theorem repr_sysS {ps : List (Nat × Nat)} (h : Sk ps) : ∃ s, reprD [.str (sysS ps)] = some (.str s) :=
  repr_strT (fun c hc => Nat.lt_of_le_of_lt (show c ≤ 57 by have := sysS_no hc; omega) (by decide)) (by have := sysS_len h; omega)
theorem repr_scrS {rs : List (Option Nat)} (h : Qk rs) : ∃ s, reprD [.str (scrS rs)] = some (.str s) :=
  repr_strT (fun c hc => Nat.lt_of_le_of_lt (scrS_high hc) (by decide)) (by have := scrS_len h; omega)
theorem repr_rsT {rs : List (Option Nat)} (h : Qk rs) : ∃ s, reprD [.tup (rs.map rqD)] = some (.str s) := by
  obtain ⟨p, hp⟩ := shw_tup (n := 1921) (k := 0) (ds := rs.map rqD) fun d hd => by
    obtain ⟨r, hr, rfl⟩ := List.mem_map.mp hd
    cases r with
    | none => exact ⟨_, shw_non⟩
    | some k => exact ⟨_, shw_int (Nat.lt_of_le_of_lt (show ((k : Nat) : Int).natAbs ≤ 6 by have := h.low k hr; omega) (by decide))⟩
  refine ⟨_, repr_shw hp ?_⟩
  rw [List.length_map]
  have := h.few
  omega
theorem sys_nat {m : Nat} {ks : List (Int × Int)} (h : Sys m ks) (hm : m ≤ 6) : ∃ ps, Sk ps ∧ ks = ps.map cast2 := by
  refine ⟨ks.map fun q => (q.1.toNat, q.2.toNat), ⟨?_, ?_, fun p hp => ?_⟩, ?_⟩
  · intro e
    exact h.ne (List.map_eq_nil_iff.mp e)
  · rw [List.length_map]; have := h.few; omega
  · obtain ⟨q, hq, rfl⟩ := List.mem_map.mp hp
    have := h.good.1 q hq
    refine ⟨?_, ?_⟩
    · show q.1.toNat < 10 ^ 2
      omega
    · show q.2.toNat < 10 ^ 2
      omega
  · rw [List.map_map]
    conv => lhs; rw [← List.map_id ks]
    refine List.map_congr_left fun q hq => ?_
    have := h.good.1 q hq
    show q = (((q.1.toNat : Nat) : Int), ((q.2.toNat : Nat) : Int))
    exact Prod.ext (by show q.1 = _; omega) (by show q.2 = _; omega)
theorem repr_sysD {m : Nat} {ks : List (Int × Int)} (h : Sys m ks) (hm : m ≤ 6) : ∃ s, reprD [kDs ks] = some (.str s) := by
  obtain ⟨p, hp⟩ := shw_tup (n := 3849) (k := 1) (ds := ks.map kD) fun d hd => by
    obtain ⟨q, hq, rfl⟩ := List.mem_map.mp hd
    have b := h.good.1 q hq
    exact shw_kD (Nat.lt_of_le_of_lt (show q.1.natAbs ≤ 30 by omega) (by decide)) (Nat.lt_of_le_of_lt (show q.2.natAbs ≤ 30 by omega) (by decide))
  refine ⟨_, repr_shw hp ?_⟩
  rw [List.length_map]
  have := h.few
  omega
theorem eq_sysD {as bs : List (Int × Int)} : eqO (kDs as) (kDs bs) = some (.sh (.bl (decide (as = bs)))) := by
  have e1 : ∀ as : List (Int × Int), (kDs as).py = some (.tuple (as.map pyK)) := fun as => by unfold kDs D.py; rw [pys_kD]; rfl
  have dd : deq (kDs as) (kDs bs) = (kDs as).py.bind fun a => (kDs bs).py.bind fun b => if SeqAt.shaped a = true ∧ SeqAt.shaped b = true then some (PyData.eqv a b) else none := rfl
  unfold eqO
  rw [dd, e1, e1]
  simp only [Option.bind_some]
  rw [if_pos ⟨shaped_kD _, shaped_kD _⟩]
  have key : ∀ as bs : List (Int × Int), PyData.eqvAll (as.map pyK) (bs.map pyK) = decide (as = bs) := by
    intro as
    induction as with
    | nil => intro bs; cases bs <;> simp [PyData.eqvAll]
    | cons a r ih =>
      intro bs
      cases bs with
      | nil => simp [PyData.eqvAll]
      | cons b t =>
        simp only [List.map_cons, PyData.eqvAll]
        rw [eqv_pyK, ih, Bool.eq_iff_iff]
        simp
  have e2 : PyData.eqv (.tuple (as.map pyK)) (.tuple (bs.map pyK)) = decide (as = bs) := by
    unfold PyData.eqv
    exact key as bs
  rw [e2]
  rfl
/-- one script there and back -/
theorem sent_ok {rs : List (Option Nat)} {s0 s1 s2 s3 s4 s5 : Sl} (h : Qk rs) : ∃ t3 t4, mb_law_right_L1 A B [s0, s1, s2, s3, s4, s5, .sh (.tup (rs.map rqD))] = some (.nx [s0, s1, s2, t3, t4, s5, .sh (.tup (rs.map rqD))]) := by
  obtain ⟨r1, e1⟩ := repr_rsT h
  obtain ⟨r2, e2⟩ := repr_scrS h
  have e3 := script_text_ok h
  have e4 := show_script_ok h
  have e5 := read_script_ok (a := A) h
  have n1 : ∀ a : Str, neO (.str a) (.str a) = some (.sh (.bl false)) := fun a => by rw [ne_strs]; simp
  refine ⟨.sh (.str r1), .sh (.str (scrS rs)), ?_⟩
  generalize D.tup (rs.map rqD) = Q at *
  generalize scrS rs = x at *
  simp [mb_law_right_L1, e1, e2, e3, e4, e5, n1]
theorem bl_ne {a b : Bool} : neO (.bl a) (.bl b) = some (.sh (.bl (!(a == b)))) := by
  cases a <;> cases b <;> rfl
theorem right61 (h : Pw n d) (hn : n < 300000) : ∃ d', Pw (n + 1000) d' ∧ m_law_right A B [.io d] = some (.sh (.bl true), [.io d']) := by
  obtain ⟨d1, ks, p1, hs, _, e1⟩ := law_system_ok (most := 30) (many := 6) h (by omega) (by decide) (by decide) (by decide) (by decide)
  obtain ⟨d2, qs, p2, hq, _, e2⟩ := law_system_ok (most := 9) (many := 6) p1 (by omega) (by decide) (by decide) (by decide) (by decide)
  have hs : Sys 6 ks := hs
  have hq : Sys 6 qs := hq
  obtain ⟨ps, sp, rfl⟩ := sys_nat hs (by decide)
  obtain ⟨us, sq, rfl⟩ := sys_nat hq (by decide)
  obtain ⟨d3, y, p3, hy, e3⟩ := pick_ok (ds := [.int 2, .int 9, .int 300]) p2 (by omega) (by simp) (by rw [sizeLine_eq]; decide)
  have : ∃ m : Nat, y = .int (m : Nat) ∧ m ≤ 300 := by
    simp only [List.mem_cons, List.not_mem_nil, or_false] at hy
    rcases hy with rfl | rfl | rfl
    · exact ⟨2, rfl, by decide⟩
    · exact ⟨9, rfl, by decide⟩
    · exact ⟨300, rfl, by decide⟩
  obtain ⟨m, rfl, hm⟩ := this
  obtain ⟨d4, rs, p4, hl, hk, e4⟩ := law_script_ok (c := 6) (m := m) p3 (by omega) (by decide) (by decide) (by omega)
  obtain ⟨r1, a1⟩ := repr_sysD hs (by decide)
  obtain ⟨r2, a2⟩ := repr_sysS sp
  have a3 := system_text_ok sp
  have a4 := show_system_ok sp
  have a5 := show_system_ok sq
  have a6 := read_system_ok (a := B) sp hs
  have n1 : ∀ a : Str, neO (.str a) (.str a) = some (.sh (.bl false)) := fun a => by rw [ne_strs]; simp
  have c1 := eq_strs (x := sysS us) (y := sysS ps)
  have c2 := eq_sysD (as := us.map cast2) (bs := ps.map cast2)
  have c3 : decide (us.map cast2 = ps.map cast2) = decide (sysS us = sysS ps) := by
    rw [Bool.eq_iff_iff, decide_eq_true_iff, decide_eq_true_iff]
    refine ⟨fun e => ?_, fun e => sysS_inj sq hq sp hs e⟩
    have e5 := show_system_ok sq
    rw [e, show_system_ok sp] at e5
    exact (D.str.inj (Sl.sh.inj (Prod.mk.inj (Option.some.inj e5)).1)).symm
  rw [c3] at c2
  have qk : Qk rs := ⟨by omega, hk⟩
  have qk1 : Qk (rs ++ [none]) := ⟨by rw [List.length_append, List.length_singleton]; omega, fun k hk' => by
    rcases List.mem_append.mp hk' with h | h
    · exact hk k h
    · simp at h⟩
  have qk2 : Qk [some 5] := ⟨by decide, fun k h => by simp at h; omega⟩
  have qk3 : Qk [none] := ⟨by decide, fun k h => by simp at h⟩
  have qk4 : Qk [] := ⟨by decide, fun k h => by cases h⟩
  have t1 : sPar 1 2 (eCall m_law_system [] [.o 0, .e (eC (.int 30)), .e (eC (.int 6))]) (eCall m_law_system [] [.o 0, .e (eC (.int 9)), .e (eC (.int 6))]) [.io d, .no, .no, .no, .no, .no, .no] = some (.nx [.io d2, .sh (kDs (ps.map cast2)), .sh (kDs (us.map cast2)), .no, .no, .no, .no]) := by
    generalize kDs (ps.map cast2) = K at *
    generalize kDs (us.map cast2) = K2 at *
    simp [e1, e2]
  have t2 : sPar 3 4 (eFnV reprD 1) (eCall m_law_system_text [] [.e (eVar 1)]) [.io d2, .sh (kDs (ps.map cast2)), .sh (kDs (us.map cast2)), .no, .no, .no, .no] = some (.nx [.io d2, .sh (kDs (ps.map cast2)), .sh (kDs (us.map cast2)), .sh (.str r1), .sh (.str (sysS ps)), .no, .no]) := by
    generalize kDs (ps.map cast2) = K at *
    generalize kDs (us.map cast2) = K2 at *
    generalize sysS ps = x at *
    simp [a1, a3]
  have t3 : sIf ((tOr' (tOf (eBin neO (eFn (shO reprD) [(eCall m_show_system [] [.e (eVar 1)])]) (eFnV reprD 4))) (tOr' (tOf (eBin neO (eFn (shO reprD) [(eCall (m_read_system B) [] [.e (eVar 4)])]) (eVar 3))) (tOf (eBin neO (eFnV reprD 1) (eVar 3)))))) (sRet (eC (.bl false))) sNil
      [.io d2, .sh (kDs (ps.map cast2)), .sh (kDs (us.map cast2)), .sh (.str r1), .sh (.str (sysS ps)), .no, .no] = some (.nx [.io d2, .sh (kDs (ps.map cast2)), .sh (kDs (us.map cast2)), .sh (.str r1), .sh (.str (sysS ps)), .no, .no]) := by
    generalize kDs (ps.map cast2) = K at *
    generalize kDs (us.map cast2) = K2 at *
    generalize sysS ps = x at *
    simp [a1, a2, a4, a6, n1]
  have t4 : sIf (tOf (eBin neO (eBin eqO (eCall m_show_system [] [.e (eVar 2)]) (eVar 4)) (eBin eqO (eVar 2) (eVar 1)))) (sRet (eC (.bl false))) sNil
      [.io d2, .sh (kDs (ps.map cast2)), .sh (kDs (us.map cast2)), .sh (.str r1), .sh (.str (sysS ps)), .no, .no] = some (.nx [.io d2, .sh (kDs (ps.map cast2)), .sh (kDs (us.map cast2)), .sh (.str r1), .sh (.str (sysS ps)), .no, .no]) := by
    generalize decide (sysS us = sysS ps) = b at *
    generalize kDs (ps.map cast2) = K at *
    generalize kDs (us.map cast2) = K2 at *
    generalize sysS ps = x at *
    have bb := bl_ne (a := b) (b := b)
    rw [beq_self_eq_true] at bb
    have bb : neO (.bl b) (.bl b) = some (.sh (.bl false)) := bb
    simp [a5, c1, c2, bb]
  have t5 : sSet 5 (eCall m_law_script [] [.o 0, .e (eC (.int 6)), .e (eCall m_law_pick [] [.o 0, .e (eLst [(eC (.int 2)), (eC (.int 9)), (eC (.int 300))])])]) [.io d2, .sh (kDs (ps.map cast2)), .sh (kDs (us.map cast2)), .sh (.str r1), .sh (.str (sysS ps)), .no, .no] =
      some (.nx [.io d4, .sh (kDs (ps.map cast2)), .sh (kDs (us.map cast2)), .sh (.str r1), .sh (.str (sysS ps)), .sh (.tup (rs.map rqD)), .no]) := by
    have z3 : (3 : Nat) ≤ sizeLine := by rw [sizeLine_eq]; decide
    have e4' : m_law_script [.io d3, .sh (.int 6), .sh (.int (m : Nat))] = some (.sh (.tup (rs.map rqD)), [.io d4, .no, .no]) := e4
    generalize kDs (ps.map cast2) = K at *
    generalize kDs (us.map cast2) = K2 at *
    generalize sysS ps = x at *
    generalize D.tup (rs.map rqD) = R at *
    simp [e3, e4', z3]
  have ct : catO (.tup (rs.map rqD)) (.tup [.non]) = some (.sh (.tup ((rs ++ [none]).map rqD))) := by
    rw [cat_t (by rw [List.length_map, sizeLine_eq]; show rs.length + 1 ≤ 16777216; omega), List.map_append]
    rfl
  have src : iSeq (eTup [(eVar 5), (eBin catO (eVar 5) (eTup [(eC .non)])), (eTup [(eC (.int 5))]), (eTup [(eC .non)]), (eTup [])]) [.io d4, .sh (kDs (ps.map cast2)), .sh (kDs (us.map cast2)), .sh (.str r1), .sh (.str (sysS ps)), .sh (.tup (rs.map rqD)), .no] =
      some (([rs, rs ++ [none], [some 5], [none], []] : List (List (Option Nat))).map fun r => D.tup (r.map rqD), [.io d4, .sh (kDs (ps.map cast2)), .sh (kDs (us.map cast2)), .sh (.str r1), .sh (.str (sysS ps)), .sh (.tup (rs.map rqD)), .no]) := by
    have z1 : (1 : Nat) ≤ sizeLine := by rw [sizeLine_eq]; decide
    have z5 : (5 : Nat) ≤ sizeLine := by rw [sizeLine_eq]; decide
    have em : (([rs, rs ++ [none], [some 5], [none], []] : List (List (Option Nat))).map fun r => D.tup (r.map rqD)) = [.tup (rs.map rqD), .tup ((rs ++ [none]).map rqD), .tup [.int 5], .tup [.non], .tup []] := rfl
    rw [em]
    generalize kDs (ps.map cast2) = K at *
    generalize kDs (us.map cast2) = K2 at *
    generalize sysS ps = x at *
    generalize D.tup (rs.map rqD) = R at *
    generalize D.tup ((rs ++ [none]).map rqD) = R2 at *
    simp [ct, z1, z5]
  obtain ⟨ρ', h6, t3', t4', t6', rfl⟩ := for_map (fun r : List (Option Nat) => D.tup (r.map rqD)) (t := .n 6) (b := mb_law_right_L1 A B) (as := [rs, rs ++ [none], [some 5], [none], []]) (ρ0 := [.io d4, .sh (kDs (ps.map cast2)), .sh (kDs (us.map cast2)), .sh (.str r1), .sh (.str (sysS ps)), .sh (.tup (rs.map rqD)), .no])
    (fun _ ρ => ∃ t3 t4 t6, ρ = [.io d4, .sh (kDs (ps.map cast2)), .sh (kDs (us.map cast2)), t3, t4, .sh (.tup (rs.map rqD)), t6]) ⟨_, _, _, rfl⟩ (by
    rintro pre a post ρ ea ⟨t3, t4, t6, rfl⟩
    have ha : Qk a := by
      have hm : a ∈ ([rs, rs ++ [none], [some 5], [none], []] : List (List (Option Nat))) := by rw [ea]; simp
      simp only [List.mem_cons, List.not_mem_nil, or_false] at hm
      rcases hm with rfl | rfl | rfl | rfl | rfl
      · exact qk
      · exact qk1
      · exact qk2
      · exact qk3
      · exact qk4
    obtain ⟨u3, u4, e⟩ := sent_ok (A := A) (B := B) (s0 := .io d4) (s1 := .sh (kDs (ps.map cast2))) (s2 := .sh (kDs (us.map cast2))) (s3 := t3) (s4 := t4) (s5 := .sh (.tup (rs.map rqD))) ha
    exact ⟨_, _, by simp, e, _, _, _, rfl⟩)
  have t6 := for_src (t := .n 6) (b := mb_law_right_L1 A B) src h6
  have g1 := show_script_ok qk
  have g2 := show_script_ok qk1
  have g3 : neO (.str (scrS rs)) (.str (scrS (rs ++ [none]))) = some (.sh (.bl true)) := by
    rw [ne_strs, decide_eq_false]
    · rfl
    · intro e
      have := congrArg List.length (scrS_inj qk qk1 e)
      rw [List.length_append, List.length_singleton] at this
      omega
  have z1 : (1 : Nat) ≤ sizeLine := by rw [sizeLine_eq]; decide
  refine ⟨d4, p4.mono (by omega), ?_⟩
  have b : mb_law_right A B [.io d, .no, .no, .no, .no, .no, .no] = some (.rt (.sh (.bl true)) [.io d4, .sh (kDs (ps.map cast2)), .sh (kDs (us.map cast2)), t3', t4', .sh (.tup (rs.map rqD)), t6']) := by
    unfold mb_law_right
    refine seq_nx t1 (seq_nx t2 (seq_nx t3 (seq_nx t4 (seq_nx t5 (seq_nx t6 ?_)))))
    generalize kDs (ps.map cast2) = K at *
    generalize kDs (us.map cast2) = K2 at *
    generalize D.tup (rs.map rqD) = R at *
    generalize D.tup ((rs ++ [none]).map rqD) = R2 at *
    simp [g1, g2, g3, ct, z1]
  show runDef 1 6 (mb_law_right A B) _ = _
  rw [runDef_e, if_pos (show ([Sl.io d] : List Sl).length = 1 from rfl)]
  show (mb_law_right A B [.io d, .no, .no, .no, .no, .no, .no]).bind _ = _
  rw [b]
  rfl
theorem all_true61 {α : Type} {l : List α} : allD [.lst (l.map fun _ => D.bl true)] = some (.bl true) := by
  have : (l.map fun _ => D.bl true) = (l.map fun _ => true).map .bl := by rw [List.map_map]; rfl
  rw [this, all_l]
  simp
theorem rights61 {S s1 s3 s4 : Sl} (h : Pw 0 d) : ∃ d' ys, mb_law_C1 A B [S, s1, .ow d, s3, s4, .no] = some (.ow (.lst ys), [S, s1, .ow d', s3, s4, .no]) ∧ allD [.lst ys] = some (.bl true) := by
  obtain ⟨ys, ρ', e, _, ey, d', p', rfl⟩ := eLc_run (fun i : Nat => D.int (0 + (i : Nat))) (as := List.range 6) (vs := [5]) (t := .n 5) (src := iRg1 (eC (.int 6))) (f := eCall (m_law_right A B) [] [.o 2]) (ρ := [S, s1, .ow d, s3, s4, .no]) (ρ0 := [S, s1, .ow d, s3, s4, .no])
    (fun pre ys ρ => pre.length ≤ 6 ∧ ys = pre.map (fun _ => D.bl true) ∧ ∃ d', Pw (1000 * pre.length) d' ∧ ρ = [S, s1, .ow d', s3, s4, .no]) (rg1 (n := 6) (s := .sh (.int 6)) (by simp) rfl (by decide) (by decide)) (by rw [sizeLine_eq]; decide) ⟨Nat.zero_le _, rfl, d, h, by simp⟩
    (fun pre ρ ⟨_, _, d', _, e⟩ => by subst e; simp) (by
    rintro pre a post acc ρ ep ⟨hl, rfl, d', p', rfl⟩
    have len : pre.length < 6 := by
      have := congrArg List.length ep
      rw [List.length_range, List.length_append, List.length_cons] at this
      omega
    obtain ⟨d2, p2, e2⟩ := right61 (A := A) (B := B) p' (by omega)
    exact ⟨[S, s1, .ow d', s3, s4, .sh (.int (0 + (a : Nat)))], .sh (.bl true), [S, s1, .ow d2, s3, s4, .sh (.int (0 + (a : Nat)))], .bl true, by simp, by simp [e2], rfl, by rw [List.length_append, List.length_singleton]; omega, by simp, d2, p2.mono (by rw [List.length_append, List.length_singleton]; omega), by simp⟩)
  refine ⟨d', ys, e, ?_⟩
  rw [ey]
  exact all_true61
theorem long_eq {a b : Nat} {k : Nat} : (List.replicate k [D.int (a : Nat), .non, .int (b : Nat)]).flatten = ((List.replicate k [some a, none, some b]).flatten).map rqD := by
  induction k with
  | zero => rfl
  | succ k ih => rw [List.replicate_succ, List.flatten_cons, ih, List.replicate_succ, List.flatten_cons, List.map_append]; rfl
theorem long_qk {a b k : Nat} (ha : a < 6) (hb : b < 6) (hk : k ≤ 2000) : Qk (List.replicate k [some a, none, some b]).flatten := by
  refine ⟨?_, fun j hj => ?_⟩
  · rw [PyProof.Rows.lm_len_rep_flat]
    show k * 3 ≤ 6000
    omega
  · obtain ⟨l, hl, hm⟩ := List.mem_flatten.mp hj
    rw [List.eq_of_mem_replicate hl] at hm
    simp at hm
    omega
theorem lawTrueA (A B : Addr) (ns : List Int) (h : ns.length ≤ 63) : m_lawA A B [.sh (.scr (ns.map .int))] = some (.sh (.bl true), [.no]) := by
  obtain ⟨c, hc, hc1, hc2⟩ : ∃ c : Int, (iRg1 (eFn (shO maxD) [(eC (.int 1)), (eFn (shO minD) [(eC (.int 3)), (eFnV lenD 0)])])) [.sh (.scr (ns.map .int)), .no, .no, .no, .no, .no] = some (rangeD 0 c.toNat, [.sh (.scr (ns.map .int)), .no, .no, .no, .no, .no]) ∧ c ≤ 3 ∧ 0 ≤ c := by
    generalize hL : (ns.length : Int) = L
    have hL2 : L ≤ 63 := by omega
    have hL3 : 0 ≤ L := by omega
    have e : eFnV lenD 0 [.sh (.scr (ns.map .int)), .no, .no, .no, .no, .no] = some (.sh (.int L), [.sh (.scr (ns.map .int)), .no, .no, .no, .no, .no]) := by rw [← hL]; simp
    refine ⟨if (if L < 3 then L else 3) > 1 then (if L < 3 then L else 3) else 1, ?_, by split <;> split <;> omega, by split <;> split <;> omega⟩
    exact rg1 (s := .sh (.int (if (if L < 3 then L else 3) > 1 then (if L < 3 then L else 3) else 1))) (by simp [-eFnV_e, e]) rfl (by split <;> split <;> omega) (by split <;> split <;> omega)
  obtain ⟨ρ', h1, s1, s2, rfl⟩ := for_rg (t := .n 1) (b := mb_law_L1 A B) (lo := 0) (n := c.toNat) (ρ0 := [.sh (.scr (ns.map .int)), .no, .no, .no, .no, .no])
    (fun i ρ => ∃ s1 s2, ρ = [.sh (.scr (ns.map .int)), s1, s2, .no, .no, .no]) ⟨.no, .no, rfl⟩ (by
    rintro i _ hi ⟨s1, s2, rfl⟩
    obtain ⟨d, pd, ep⟩ := pot2_ok (ns := ns) (k := i) (by omega) h
    obtain ⟨d', ys, e1, e2⟩ := rights61 (A := A) (B := B) (S := .sh (.scr (ns.map .int))) (s1 := .sh (.int (i : Nat))) (s3 := .no) (s4 := .no) pd
    have z : (0 : Int) + (i : Nat) = (i : Nat) := by omega
    refine ⟨[.sh (.scr (ns.map .int)), .sh (.int (i : Nat)), s2, .no, .no, .no], [.sh (.scr (ns.map .int)), .sh (.int (i : Nat)), .ow d', .no, .no, .no], by simp [z], ?_, _, _, rfl⟩
    generalize D.scr (ns.map .int) = S at *
    simp [mb_law_L1, ep, e1, e2])
  have lp : sFor (.n 1) (iRg1 (eFn (shO maxD) [(eC (.int 1)), (eFn (shO minD) [(eC (.int 3)), (eFnV lenD 0)])])) (mb_law_L1 A B) [.sh (.scr (ns.map .int)), .no, .no, .no, .no, .no] = some (.nx [.sh (.scr (ns.map .int)), s1, s2, .no, .no, .no]) := by rw [sFor_e, hc]; exact h1
  obtain ⟨d1, p1, e1⟩ := pot2_ok (ns := ns) (k := 0) (by decide) h
  obtain ⟨d2, a, p2, a0, a1, e2⟩ := draw_ok (u := 6) p1 (by omega) (by decide) (by decide)
  obtain ⟨d3, b, p3, b0, b1, e3⟩ := draw_ok (u := 6) p2 (by omega) (by decide) (by decide)
  obtain ⟨d4, m, p4, m0, m1, e4⟩ := draw_ok (u := 99) p3 (by omega) (by decide) (by decide)
  obtain ⟨a, rfl⟩ := Int.eq_ofNat_of_zero_le a0
  obtain ⟨b, rfl⟩ := Int.eq_ofNat_of_zero_le b0
  have qk := long_qk (a := a) (b := b) (k := (2000 - m).toNat) (by omega) (by omega) (by omega)
  have rp : repGO (.tup [.int (a : Nat), .non, .int (b : Nat)]) (.int (2000 - m)) = some (.sh (.tup ((List.replicate (2000 - m).toNat [some a, none, some b]).flatten.map rqD))) := by
    rw [← long_eq]
    show (if (2000 - m : Int) = 1 then _ else if _ then _ else none) = _
    rw [if_neg (by omega), if_pos ⟨by simp, by omega, by omega, by show 3 ≤ 100; decide⟩]
  obtain ⟨r1, g1⟩ := repr_rsT qk
  have g2 := script_text_ok qk
  have g3 := show_script_ok qk
  have g4 := read_script_ok (a := A) qk
  have q1 : ∀ a : Str, eqO (.str a) (.str a) = some (.sh (.bl true)) := fun a => by rw [eq_strs]; simp
  have e1' : m_law_pot2 [.sh (.scr (ns.map .int)), .sh (.int 0)] = some (.ow d1, [.no, .no]) := e1
  have z3 : (3 : Nat) ≤ sizeLine := by rw [sizeLine_eq]; decide
  generalize D.scr (ns.map .int) = S at *
  generalize scrS (List.replicate (2000 - m).toNat [some a, none, some b]).flatten = x at *
  generalize D.tup ((List.replicate (2000 - m).toNat [some a, none, some b]).flatten.map rqD) = R at *
  have e2' : m_law_draw [.io d1, .sh (.int 6)] = some (.sh (.int (a : Nat)), [.io d2, .no]) := e2
  have e3' : m_law_draw [.io d2, .sh (.int 6)] = some (.sh (.int (b : Nat)), [.io d3, .no]) := e3
  show runDef 1 5 (mb_law A B) _ = _
  simp [mb_law, -sFor_e, lp, e1', e2', e3', e4, rp, g1, g2, g3, g4, q1, z3]
open Classical in
/-- what the law answers, wherever the defs that it hands on stand -/
noncomputable def m_law : FF := fun sls => if ∃ ns : List Int, ns.length ≤ 63 ∧ sls = [.sh (.scr (ns.map .int))] then some (.sh (.bl true), [.no]) else none
theorem law_imp {K : Fg} {mg : Mg} {vs : List V} {H : Hp} {Q : VK} {E : XK} (h : spT K mg m_law vs H Q E) : spT K mg (m_lawA A B) vs H Q E := by
  obtain ⟨w, sls, h1, h2, s, outs, h3, h4⟩ := h
  refine ⟨w, sls, h1, h2, s, outs, ?_, h4⟩
  unfold m_law at h3
  split at h3
  · rename_i hq
    obtain ⟨ns, hl, rfl⟩ := hq
    rw [← h3]
    exact lawTrueA A B ns hl
  · cases h3
theorem law_true (ns : List Int) (h : ns.length ≤ 63) : ∃ outs, m_law [.sh (.scr (ns.map .int))] = some (.sh (.bl true), outs) :=
  ⟨[.no], if_pos ⟨ns, h, rfl⟩⟩
end T

namespace T
open PySem PySem.Spec PyProof.Rows L2
theorem u65 {k : Nat} {A : Around} (r : Room k A) : A.units + 65 < cLine := by have := r.un; omega
def topS (i : Nat) : Stmt := PySem.Challenge.pw_wholering_k61_systems_and_scripts_as_tex.main.body.getD i (.Pass ⟨0, 0, 0, 0⟩)
abbrev inS (s : Stmt) (j : Nat) : Stmt := inClass s j
abbrev st_law_draw : Stmt := topS 31
abbrev N_law_draw : List Str := ["_law_pot_here", "_law_count", "_law_digit", "_law_mixed"]
theorem sc_law_draw : FnScope N_law_draw ["_law_pot_here", "_law_count"] (defScope st_law_draw) := ⟨rfl, rfl, rfl, by decide +kernel, rfl, by decide +kernel, by decide +kernel⟩
abbrev st_law_pot2 : Stmt := topS 30
abbrev N_law_pot2 : List Str := ["_law_script_here", "_law_index", "_law_cell", "_law_own"]
theorem sc_law_pot2 : FnScope N_law_pot2 ["_law_script_here", "_law_index"] (defScope st_law_pot2) := ⟨rfl, rfl, rfl, by decide +kernel, rfl, by decide +kernel, by decide +kernel⟩
abbrev st_law_pick : Stmt := topS 32
abbrev N_law_pick : List Str := ["_law_pot_here", "_law_some"]
theorem sc_law_pick : FnScope N_law_pick ["_law_pot_here", "_law_some"] (defScope st_law_pick) := ⟨rfl, rfl, rfl, by decide +kernel, rfl, by decide +kernel, by decide +kernel⟩
abbrev st_law_script : Stmt := topS 36
abbrev N_law_script : List Str := ["_law_pot_here", "_law_count", "_law_most", "_law_some", "_law_turn", "_law_kind"]
theorem sc_law_script : FnScope N_law_script ["_law_pot_here", "_law_count", "_law_most"] (defScope st_law_script) := ⟨rfl, rfl, rfl, by decide +kernel, rfl, by decide +kernel, by decide +kernel⟩
abbrev st_law_script_text : Stmt := topS 35
abbrev N_law_script_text : List Str := ["_law_script_here", "_law_item"]
theorem sc_law_script_text : FnScope N_law_script_text ["_law_script_here"] (defScope st_law_script_text) := ⟨rfl, rfl, rfl, by decide +kernel, rfl, by decide +kernel, by decide +kernel⟩
abbrev st_law_system : Stmt := topS 33
abbrev N_law_system : List Str := ["_law_pot_here", "_law_most", "_law_many", "_law_found", "_law_turn", "_law_length"]
theorem sc_law_system : FnScope N_law_system ["_law_pot_here", "_law_most", "_law_many"] (defScope st_law_system) := ⟨rfl, rfl, rfl, by decide +kernel, rfl, by decide +kernel, by decide +kernel⟩
abbrev st_law_system_text : Stmt := topS 34
abbrev N_law_system_text : List Str := ["_law_system_here", "_law_length", "_law_weight"]
theorem sc_law_system_text : FnScope N_law_system_text ["_law_system_here"] (defScope st_law_system_text) := ⟨rfl, rfl, rfl, by decide +kernel, rfl, by decide +kernel, by decide +kernel⟩
abbrev st_lines_of : Stmt := topS 25
abbrev N_lines_of : List Str := ["text"]
theorem sc_lines_of : FnScope N_lines_of ["text"] (defScope st_lines_of) := ⟨rfl, rfl, rfl, by decide +kernel, rfl, by decide +kernel, by decide +kernel⟩
abbrev st_number_in : Stmt := topS 20
abbrev N_number_in : List Str := ["word", "digits", "sign"]
theorem sc_number_in : FnScope N_number_in ["word", "digits"] (defScope st_number_in) := ⟨rfl, rfl, rfl, by decide +kernel, rfl, by decide +kernel, by decide +kernel⟩
abbrev st_request_in : Stmt := topS 23
abbrev N_request_in : List Str := ["word", "number"]
theorem sc_request_in : FnScope N_request_in ["word"] (defScope st_request_in) := ⟨rfl, rfl, rfl, by decide +kernel, rfl, by decide +kernel, by decide +kernel⟩
abbrev st_script_in : Stmt := topS 24
abbrev N_script_in : List Str := ["line", "found", "word", "one"]
theorem sc_script_in : FnScope N_script_in ["line"] (defScope st_script_in) := ⟨rfl, rfl, rfl, by decide +kernel, rfl, by decide +kernel, by decide +kernel⟩
abbrev st_is_integer : Stmt := topS 8
abbrev N_is_integer : List Str := ["value", "least", "most"]
theorem sc_is_integer : FnScope N_is_integer ["value", "least", "most"] (defScope st_is_integer) := ⟨rfl, rfl, rfl, by decide +kernel, rfl, by decide +kernel, by decide +kernel⟩
abbrev st_is_kind : Stmt := topS 9
abbrev N_is_kind : List Str := ["value", "length", "weight"]
theorem sc_is_kind : FnScope N_is_kind ["value"] (defScope st_is_kind) := ⟨rfl, rfl, rfl, by decide +kernel, rfl, by decide +kernel, by decide +kernel⟩
abbrev st_is_system : Stmt := topS 10
abbrev N_is_system : List Str := ["value", "kind", "later"]
theorem sc_is_system : FnScope N_is_system ["value"] (defScope st_is_system) := ⟨rfl, rfl, rfl, by decide +kernel, rfl, by decide +kernel, by decide +kernel⟩
abbrev st_numbers_in : Stmt := topS 21
abbrev N_numbers_in : List Str := ["words", "digits", "numbers", "word"]
theorem sc_numbers_in : FnScope N_numbers_in ["words", "digits"] (defScope st_numbers_in) := ⟨rfl, rfl, rfl, by decide +kernel, rfl, by decide +kernel, by decide +kernel⟩
abbrev st_system_in : Stmt := topS 22
abbrev N_system_in : List Str := ["line", "kinds", "word"]
theorem sc_system_in : FnScope N_system_in ["line"] (defScope st_system_in) := ⟨rfl, rfl, rfl, by decide +kernel, rfl, by decide +kernel, by decide +kernel⟩
abbrev st_only_line : Stmt := topS 26
abbrev N_only_line : List Str := ["text", "read", "first", "rest", "found"]
theorem sc_only_line : FnScope N_only_line ["text", "read"] (defScope st_only_line) := ⟨rfl, rfl, rfl, by decide +kernel, rfl, by decide +kernel, by decide +kernel⟩
abbrev st_read_script : Stmt := topS 28
abbrev N_read_script : List Str := ["text"]
theorem sc_read_script : FnScope N_read_script ["text"] (defScope st_read_script) := ⟨rfl, rfl, rfl, by decide +kernel, rfl, by decide +kernel, by decide +kernel⟩
abbrev st_read_system : Stmt := topS 27
abbrev N_read_system : List Str := ["text"]
theorem sc_read_system : FnScope N_read_system ["text"] (defScope st_read_system) := ⟨rfl, rfl, rfl, by decide +kernel, rfl, by decide +kernel, by decide +kernel⟩
abbrev st_show_script : Stmt := topS 19
abbrev N_show_script : List Str := ["requests", "item"]
theorem sc_show_script : FnScope N_show_script ["requests"] (defScope st_show_script) := ⟨rfl, rfl, rfl, by decide +kernel, rfl, by decide +kernel, by decide +kernel⟩
abbrev st_show_system : Stmt := topS 18
abbrev N_show_system : List Str := ["system", "length", "weight"]
theorem sc_show_system : FnScope N_show_system ["system"] (defScope st_show_system) := ⟨rfl, rfl, rfl, by decide +kernel, rfl, by decide +kernel, by decide +kernel⟩
abbrev st_law_right : Stmt := topS 37
abbrev N_law_right : List Str := ["_law_pot_here", "_law_system_here", "_law_rival", "_law_held", "_law_page", "_law_plain", "_law_sent"]
theorem sc_law_right : FnScope N_law_right ["_law_pot_here"] (defScope st_law_right) := ⟨rfl, rfl, rfl, by decide +kernel, rfl, by decide +kernel, by decide +kernel⟩
abbrev st_law : Stmt := topS 38
abbrev N_law : List Str := ["_law_script_here", "_law_index", "_law_pot_here", "_law_long", "_law_page", "_law_turn"]
theorem sc_law : FnScope N_law ["_law_script_here"] (defScope st_law) := ⟨rfl, rfl, rfl, by decide +kernel, rfl, by decide +kernel, by decide +kernel⟩
set_option genInjectivity false in
set_option genSizeOf false in
structure Fx (w : World) (K : Fg) (mg : Mg) where
  f_law_draw : Addr
  d_law_draw : FuncData
  F_law_draw : Fun K "_law_draw" "_law_draw" st_law_draw f_law_draw d_law_draw
  g_law_draw : mg "_law_draw" = some (.ref f_law_draw)
  f_law_pot2 : Addr
  d_law_pot2 : FuncData
  F_law_pot2 : Fun K "_law_pot" "_law_pot" st_law_pot2 f_law_pot2 d_law_pot2
  g_law_pot2 : mg "_law_pot" = some (.ref f_law_pot2)
  f_law_pick : Addr
  d_law_pick : FuncData
  F_law_pick : Fun K "_law_pick" "_law_pick" st_law_pick f_law_pick d_law_pick
  g_law_pick : mg "_law_pick" = some (.ref f_law_pick)
  f_law_script : Addr
  d_law_script : FuncData
  F_law_script : Fun K "_law_script" "_law_script" st_law_script f_law_script d_law_script
  g_law_script : mg "_law_script" = some (.ref f_law_script)
  f_law_script_text : Addr
  d_law_script_text : FuncData
  F_law_script_text : Fun K "_law_script_text" "_law_script_text" st_law_script_text f_law_script_text d_law_script_text
  g_law_script_text : mg "_law_script_text" = some (.ref f_law_script_text)
  f_law_system : Addr
  d_law_system : FuncData
  F_law_system : Fun K "_law_system" "_law_system" st_law_system f_law_system d_law_system
  g_law_system : mg "_law_system" = some (.ref f_law_system)
  f_law_system_text : Addr
  d_law_system_text : FuncData
  F_law_system_text : Fun K "_law_system_text" "_law_system_text" st_law_system_text f_law_system_text d_law_system_text
  g_law_system_text : mg "_law_system_text" = some (.ref f_law_system_text)
  f_lines_of : Addr
  d_lines_of : FuncData
  F_lines_of : Fun K "lines_of" "lines_of" st_lines_of f_lines_of d_lines_of
  g_lines_of : mg "lines_of" = some (.ref f_lines_of)
  f_number_in : Addr
  d_number_in : FuncData
  F_number_in : Fun K "number_in" "number_in" st_number_in f_number_in d_number_in
  g_number_in : mg "number_in" = some (.ref f_number_in)
  f_request_in : Addr
  d_request_in : FuncData
  F_request_in : Fun K "request_in" "request_in" st_request_in f_request_in d_request_in
  g_request_in : mg "request_in" = some (.ref f_request_in)
  f_script_in : Addr
  d_script_in : FuncData
  F_script_in : Fun K "script_in" "script_in" st_script_in f_script_in d_script_in
  g_script_in : mg "script_in" = some (.ref f_script_in)
  f_is_integer : Addr
  d_is_integer : FuncData
  F_is_integer : FunD K "is_integer" "is_integer" (defArgs st_is_integer) (defBody st_is_integer) (defScope st_is_integer) [.non] [] f_is_integer d_is_integer
  g_is_integer : mg "is_integer" = some (.ref f_is_integer)
  f_is_kind : Addr
  d_is_kind : FuncData
  F_is_kind : Fun K "is_kind" "is_kind" st_is_kind f_is_kind d_is_kind
  g_is_kind : mg "is_kind" = some (.ref f_is_kind)
  f_is_system : Addr
  d_is_system : FuncData
  F_is_system : Fun K "is_system" "is_system" st_is_system f_is_system d_is_system
  g_is_system : mg "is_system" = some (.ref f_is_system)
  f_numbers_in : Addr
  d_numbers_in : FuncData
  F_numbers_in : Fun K "numbers_in" "numbers_in" st_numbers_in f_numbers_in d_numbers_in
  g_numbers_in : mg "numbers_in" = some (.ref f_numbers_in)
  f_system_in : Addr
  d_system_in : FuncData
  F_system_in : Fun K "system_in" "system_in" st_system_in f_system_in d_system_in
  g_system_in : mg "system_in" = some (.ref f_system_in)
  f_only_line : Addr
  d_only_line : FuncData
  F_only_line : Fun K "only_line" "only_line" st_only_line f_only_line d_only_line
  g_only_line : mg "only_line" = some (.ref f_only_line)
  f_read_script : Addr
  d_read_script : FuncData
  F_read_script : Fun K "read_script" "read_script" st_read_script f_read_script d_read_script
  g_read_script : mg "read_script" = some (.ref f_read_script)
  f_read_system : Addr
  d_read_system : FuncData
  F_read_system : Fun K "read_system" "read_system" st_read_system f_read_system d_read_system
  g_read_system : mg "read_system" = some (.ref f_read_system)
  f_show_script : Addr
  d_show_script : FuncData
  F_show_script : Fun K "show_script" "show_script" st_show_script f_show_script d_show_script
  g_show_script : mg "show_script" = some (.ref f_show_script)
  f_show_system : Addr
  d_show_system : FuncData
  F_show_system : Fun K "show_system" "show_system" st_show_system f_show_system d_show_system
  g_show_system : mg "show_system" = some (.ref f_show_system)
  f_law_right : Addr
  d_law_right : FuncData
  F_law_right : Fun K "_law_right" "_law_right" st_law_right f_law_right d_law_right
  g_law_right : mg "_law_right" = some (.ref f_law_right)
  f_law : Addr
  d_law : FuncData
  F_law : Fun K "law" "law" st_law f_law d_law
  g_law : mg "law" = some (.ref f_law)
  z_abs : mg "abs" = none
  z_all : mg "all" = none
  z_bool : mg "bool" = none
  z_int : mg "int" = none
  z_isinstance : mg "isinstance" = none
  z_len : mg "len" = none
  z_max : mg "max" = none
  z_min : mg "min" = none
  z_range : mg "range" = none
  z_repr : mg "repr" = none
  z_sorted : mg "sorted" = none
  z_str : mg "str" = none
  z_tuple : mg "tuple" = none
  z_zip : mg "zip" = none
  k_BLANK : ∃ t, mg "BLANK" = some (.str " " t)
  k_DIGITS : ∃ t, mg "DIGITS" = some (.str "0123456789" t)
  k_FEED : ∃ t, mg "FEED" = some (.str "\n" t)
  k_KIND_PARTS : ∃ t, mg "KIND_PARTS" = some (.int 2 t)
  k_MOST_KINDS : ∃ t, mg "MOST_KINDS" = some (.int 6 t)
  k_MOST_LENGTH : ∃ t, mg "MOST_LENGTH" = some (.int 30 t)
  k_MOST_WEIGHT : ∃ t, mg "MOST_WEIGHT" = some (.int 30 t)
  k_NOTHING : ∃ t, mg "NOTHING" = some (.str "-" t)
  k_POP : ∃ t, mg "POP" = some (.str "pop" t)
  k_STAR : ∃ t, mg "STAR" = some (.str "*" t)
section
variable {w : World} {K : Fg} {mg : Mg}
theorem b_law_draw (T : Fx w K mg) : L2.Binds K T.d_law_draw ["_law_pot_here", "_law_count"] [] := T.F_law_draw.binds (ps := ["_law_pot_here", "_law_count"]) fun _ _ _ _ _ _ us hl => match us, hl with | [_, _], _ => rfl
theorem b_law_pot2 (T : Fx w K mg) : L2.Binds K T.d_law_pot2 ["_law_script_here", "_law_index"] [] := T.F_law_pot2.binds (ps := ["_law_script_here", "_law_index"]) fun _ _ _ _ _ _ us hl => match us, hl with | [_, _], _ => rfl
theorem b_law_pick (T : Fx w K mg) : L2.Binds K T.d_law_pick ["_law_pot_here", "_law_some"] [] := T.F_law_pick.binds (ps := ["_law_pot_here", "_law_some"]) fun _ _ _ _ _ _ us hl => match us, hl with | [_, _], _ => rfl
theorem b_law_script (T : Fx w K mg) : L2.Binds K T.d_law_script ["_law_pot_here", "_law_count", "_law_most"] [] := T.F_law_script.binds (ps := ["_law_pot_here", "_law_count", "_law_most"]) fun _ _ _ _ _ _ us hl => match us, hl with | [_, _, _], _ => rfl
theorem b_law_script_text (T : Fx w K mg) : L2.Binds K T.d_law_script_text ["_law_script_here"] [] := T.F_law_script_text.binds (ps := ["_law_script_here"]) fun _ _ _ _ _ _ us hl => match us, hl with | [_], _ => rfl
theorem b_law_system (T : Fx w K mg) : L2.Binds K T.d_law_system ["_law_pot_here", "_law_most", "_law_many"] [] := T.F_law_system.binds (ps := ["_law_pot_here", "_law_most", "_law_many"]) fun _ _ _ _ _ _ us hl => match us, hl with | [_, _, _], _ => rfl
theorem b_law_system_text (T : Fx w K mg) : L2.Binds K T.d_law_system_text ["_law_system_here"] [] := T.F_law_system_text.binds (ps := ["_law_system_here"]) fun _ _ _ _ _ _ us hl => match us, hl with | [_], _ => rfl
theorem b_lines_of (T : Fx w K mg) : L2.Binds K T.d_lines_of ["text"] [] := T.F_lines_of.binds (ps := ["text"]) fun _ _ _ _ _ _ us hl => match us, hl with | [_], _ => rfl
theorem b_number_in (T : Fx w K mg) : L2.Binds K T.d_number_in ["word", "digits"] [] := T.F_number_in.binds (ps := ["word", "digits"]) fun _ _ _ _ _ _ us hl => match us, hl with | [_, _], _ => rfl
theorem b_request_in (T : Fx w K mg) : L2.Binds K T.d_request_in ["word"] [] := T.F_request_in.binds (ps := ["word"]) fun _ _ _ _ _ _ us hl => match us, hl with | [_], _ => rfl
theorem b_script_in (T : Fx w K mg) : L2.Binds K T.d_script_in ["line"] [] := T.F_script_in.binds (ps := ["line"]) fun _ _ _ _ _ _ us hl => match us, hl with | [_], _ => rfl
theorem b_is_integer_1 (T : Fx w K mg) : ∃ ds, Vals (([.non] : List V).drop 1) ds ∧ L2.Binds K T.d_is_integer ["value", "least", "most"] ds := bdD T.F_is_integer 3 1 (by simp) rfl fun _ _ _ _ _ _ _ us its hu hi => match us, its, hu, hi with | [_, _, _], [_], _, _ => ⟨_, rfl, rfl⟩
theorem b_is_kind (T : Fx w K mg) : L2.Binds K T.d_is_kind ["value"] [] := T.F_is_kind.binds (ps := ["value"]) fun _ _ _ _ _ _ us hl => match us, hl with | [_], _ => rfl
theorem b_is_system (T : Fx w K mg) : L2.Binds K T.d_is_system ["value"] [] := T.F_is_system.binds (ps := ["value"]) fun _ _ _ _ _ _ us hl => match us, hl with | [_], _ => rfl
theorem b_numbers_in (T : Fx w K mg) : L2.Binds K T.d_numbers_in ["words", "digits"] [] := T.F_numbers_in.binds (ps := ["words", "digits"]) fun _ _ _ _ _ _ us hl => match us, hl with | [_, _], _ => rfl
theorem b_system_in (T : Fx w K mg) : L2.Binds K T.d_system_in ["line"] [] := T.F_system_in.binds (ps := ["line"]) fun _ _ _ _ _ _ us hl => match us, hl with | [_], _ => rfl
theorem b_only_line (T : Fx w K mg) : L2.Binds K T.d_only_line ["text", "read"] [] := T.F_only_line.binds (ps := ["text", "read"]) fun _ _ _ _ _ _ us hl => match us, hl with | [_, _], _ => rfl
theorem b_read_script (T : Fx w K mg) : L2.Binds K T.d_read_script ["text"] [] := T.F_read_script.binds (ps := ["text"]) fun _ _ _ _ _ _ us hl => match us, hl with | [_], _ => rfl
theorem b_read_system (T : Fx w K mg) : L2.Binds K T.d_read_system ["text"] [] := T.F_read_system.binds (ps := ["text"]) fun _ _ _ _ _ _ us hl => match us, hl with | [_], _ => rfl
theorem b_show_script (T : Fx w K mg) : L2.Binds K T.d_show_script ["requests"] [] := T.F_show_script.binds (ps := ["requests"]) fun _ _ _ _ _ _ us hl => match us, hl with | [_], _ => rfl
theorem b_show_system (T : Fx w K mg) : L2.Binds K T.d_show_system ["system"] [] := T.F_show_system.binds (ps := ["system"]) fun _ _ _ _ _ _ us hl => match us, hl with | [_], _ => rfl
theorem b_law_right (T : Fx w K mg) : L2.Binds K T.d_law_right ["_law_pot_here"] [] := T.F_law_right.binds (ps := ["_law_pot_here"]) fun _ _ _ _ _ _ us hl => match us, hl with | [_], _ => rfl
theorem b_law (T : Fx w K mg) : L2.Binds K T.d_law ["_law_script_here"] [] := T.F_law.binds (ps := ["_law_script_here"]) fun _ _ _ _ _ _ us hl => match us, hl with | [_], _ => rfl
end
section
variable {P : Program} {w : World} {K : Fg} {mg : Mg} {base : Heap}
set_option maxHeartbeats 0
theorem ok_law_draw (T : Fx w K mg) (hb : base.NoDigits) : FnG P w K mg base CX0 1 T.f_law_draw T.d_law_draw ["_law_pot_here", "_law_count"] (spT K mg m_law_draw) := okT T.F_law_draw sc_law_draw fun cdv A outer s H E hr => by
  have hu := hr.rm.units
  exact (b_cons (s_if (t_cmp op_gt x_gt (e_ixV 0 (e_int)) (e_int) (nomark _)) (b_cons (s_set 2 sc_law_draw.nd (e_bin op_mod x_mod (e_ixV 0 (e_int)) (e_var 1)))
  (b_cons (s_sub (ps_asg (e_bin op_fdivW x_div (e_ixV 0 (e_int)) (e_var 1)) (pg_sub (pv 0) (e_int) set_list)))
  (b_one (s_retO 2)))) b_nil)
  (b_cons (s_sub (ps_asg (e_bin op_plus x_plus (e_ixV 0 (e_int)) (e_int)) (pg_sub (pv 0) (e_int) set_list)))
  (b_cons (s_set 3 sc_law_draw.nd (e_bin op_plus x_plus (e_bin op_plus x_plus (e_bin op_mulW x_mul (e_ixV 0 (e_int)) (e_int)) (e_bin op_mulW x_mul (e_int) (e_ixV 0 (e_int)))) (e_int)))
  (b_cons (s_sub (ps_asg (e_bin op_mod x_mod (e_var 3) (e_int)) (pg_sub (pv 0) (e_int) set_list)))
  (b_one (s_ret (e_bin op_mod x_mod (e_bin op_fdivW x_div (e_bin op_mod x_mod (e_bin op_mulW x_mul (e_bin op_fdivW x_div (e_ixV 0 (e_int)) (e_int)) (e_bin op_plus x_plus (e_bin op_mod x_mod (e_ixV 0 (e_int)) (e_int)) (e_int))) (e_int)) (e_int)) (e_var 1))))))))
theorem ok_law_pot2 (T : Fx w K mg) (hb : base.NoDigits) : FnG P w K mg base CX0 1 T.f_law_pot2 T.d_law_pot2 ["_law_script_here", "_law_index"] (spT K mg m_law_pot2) := okT T.F_law_pot2 sc_law_pot2 fun cdv A outer s H E hr => by
  have hu := hr.rm.units
  exact (b_cons (s_set 2 sc_law_pot2.nd (e_if (t_cmp op_lt x_lt (e_var 1) (e_fnV 0 c_len p_len rfl T.z_len PySem.boot_len) (nomark _)) (e_ixV 0 (e_var 1)) (e_bin op_plus x_plus (e_bin op_mulW x_mul (e_int) (e_var 1)) (e_int))))
  (b_cons (s_set 3 sc_law_pot2.nd (e_bin op_mulW x_mul (e_bin op_mod x_mod (e_fnV 2 call_abs p_abs rfl T.z_abs boot_abs) (e_bin op_powW x_powW (e_bin op_pow x_pow (e_int) (e_int)) (e_int))) (e_fnT call_int1 p_int.s rfl T.z_int boot_int (l_cons (e_cmp op_ge x_ge (e_fnV 2 call_abs p_abs rfl T.z_abs boot_abs) (e_bin op_pow x_pow (e_int) (e_int)) (nomark _)) l_nil))))
  (b_one (s_ret (e_lst (l_cons (e_var 3) (l_cons (e_bin op_mod x_mod (e_bin op_mulW x_mul (e_bin op_plus x_plus (e_bin op_plus x_plus (e_bin op_mod x_mod (e_var 2) (e_int)) (e_bin op_mulW x_mul (e_bin op_mulW x_mul (e_int) (e_var 1)) (e_var 1))) (e_int)) (e_int)) (e_int)) (l_cons (e_int) l_nil))))))))
theorem ok_law_pick (T : Fx w K mg) (hb : base.NoDigits) : FnG P w K mg base CX0 2 T.f_law_pick T.d_law_pick ["_law_pot_here", "_law_some"] (spT K mg m_law_pick) := okT T.F_law_pick sc_law_pick fun cdv A outer s H E hr => by
  have hu := hr.rm.units
  exact (b_one (s_ret (e_ixV 1 (e_call (ok_law_draw T hb) (hr.mono (by decide)) rfl T.g_law_draw T.F_law_draw.kp (b_law_draw T) .nil (fun _ _ => .nil) (ga_o 0 (ga_e (e_fnV 1 c_len p_len rfl T.z_len PySem.boot_len) ga_nil))))))
theorem ok_law_script (T : Fx w K mg) (hb : base.NoDigits) : FnG P w K mg base CX0 2 T.f_law_script T.d_law_script ["_law_pot_here", "_law_count", "_law_most"] (spT K mg m_law_script) := okT T.F_law_script sc_law_script fun cdv A outer s H E hr => by
  have hu := hr.rm.units
  exact (b_cons (s_setLc (by decide) (ps_setLc (i := 3) (own := [("_law_turn", 4)]) rfl sc_law_script.nd rfl rfl (sw_true rfl rfl rfl (by decide +kernel)) (i_rg1 rfl T.z_range (e_call (ok_law_draw T hb) (hr.mono (by decide)) rfl T.g_law_draw T.F_law_draw.kp (b_law_draw T) .nil (fun _ _ => .nil) (ga_o 0 (ga_e (e_bin op_plus x_plus (e_var 2) (e_int)) ga_nil)))) (blkOk_by (own := [("_law_turn", 4)]) (N := N_law_script) (sc := defScope st_law_script) (by decide +kernel)) (fun _ _ _ _ _ => (t_n 4 sc_law_script.nd)) (fun _ _ _ _ _ => ts_yes) (fun _ _ _ _ _ => (e_call (ok_law_draw T hb) (hr.mono (by decide)) rfl T.g_law_draw T.F_law_draw.kp (b_law_draw T) .nil (fun _ _ => .nil) (ga_o 0 (ga_e (e_bin op_plus x_plus (e_bin op_plus x_plus (e_var 1) (e_bin op_fdivW x_div (e_var 1) (e_int))) (e_int)) ga_nil))))))
  (b_one (s_ret (e_fnT call_tuple_ofB s_tuple rfl T.z_tuple boot_tuple (l_cons (e_lc (by decide) (pe_lc (own := [("_law_kind", 5)]) rfl sc_law_script.nd (i_seq (e_var 3)) (blkOk_by (own := [("_law_kind", 5)]) (N := N_law_script) (sc := defScope st_law_script) (by decide +kernel)) (fun _ _ _ _ _ => (t_n 5 sc_law_script.nd)) (fun _ _ _ _ _ => ts_yes) (fun _ _ _ _ _ => (e_if (t_cmp op_lt x_lt (e_var 5) (e_var 1) (nomark _)) (e_var 5) (e_non))))) l_nil)))))
theorem ok_law_script_text (T : Fx w K mg) (hb : base.NoDigits) : FnG P w K mg base CX0 1 T.f_law_script_text T.d_law_script_text ["_law_script_here"] (spT K mg m_law_script_text) := okT T.F_law_script_text sc_law_script_text fun cdv A outer s H E hr => by
  have hu := hr.rm.units
  exact (b_one (s_ret (e_if (t_cmp (op_neA hu) x_ne (e_var 0) (e_tup l_nil) (nomark _)) (e_joinO (pe_join (e_str) (e_lc (by decide) (pe_lc (own := [("_law_item", 1)]) rfl sc_law_script_text.nd (i_seq (e_var 0)) (blkOk_by (own := [("_law_item", 1)]) (N := N_law_script_text) (sc := defScope st_law_script_text) (by decide +kernel)) (fun _ _ _ _ _ => (t_n 1 sc_law_script_text.nd)) (fun _ _ _ _ _ => ts_yes) (fun _ _ _ _ _ => (e_if (t_cmp op_isN x_isN (e_var 1) (e_non) (nomark _)) (e_str) (e_fnT call_str_int p_str.s rfl T.z_str boot_str (l_cons (e_var 1) l_nil)))))))) (e_str))))
theorem ok_law_system (T : Fx w K mg) (hb : base.NoDigits) : FnG P w K mg base CX0 3 T.f_law_system T.d_law_system ["_law_pot_here", "_law_most", "_law_many"] (spT K mg m_law_system) := okT T.F_law_system sc_law_system fun cdv A outer s H E hr => by
  have hu := hr.rm.units
  exact (b_cons (s_set 3 sc_law_system.nd (e_sNew))
  (b_cons (s_for (by first | exact PassesOwn.never | exact passes_of rfl) rfl (i_rg1 rfl T.z_range (e_bin op_plus x_plus (e_int) (e_call (ok_law_draw T hb) (hr.mono (by decide)) rfl T.g_law_draw T.F_law_draw.kp (b_law_draw T) .nil (fun _ _ => .nil) (ga_o 0 (ga_e (e_var 2) ga_nil))))) (t_n 4 sc_law_system.nd) (b_cons (s_set 5 sc_law_system.nd (e_bin op_plus x_plus (e_int) (e_call (ok_law_draw T hb) (hr.mono (by decide)) rfl T.g_law_draw T.F_law_draw.kp (b_law_draw T) .nil (fun _ _ => .nil) (ga_o 0 (ga_e (e_var 1) ga_nil)))))
  (b_one (s_sputU 3 hu (e_tup (l_cons (e_var 5) (l_cons (e_call (ok_law_pick T hb) (hr.mono (by decide)) rfl T.g_law_pick T.F_law_pick.kp (b_law_pick T) .nil (fun _ _ => .nil) (ga_o 0 (ga_e (e_lst (l_cons (e_var 5) (l_cons (e_int) (l_cons (e_bin op_plus x_plus (e_int) (e_call (ok_law_draw T hb) (hr.mono (by decide)) rfl T.g_law_draw T.F_law_draw.kp (b_law_draw T) .nil (fun _ _ => .nil) (ga_o 0 (ga_e (e_var 1) ga_nil)))) l_nil)))) ga_nil))) l_nil))) (e_bl)))))
  (b_one (s_ret (e_fnT call_tuple_ofB s_tuple rfl T.z_tuple boot_tuple (l_cons (e_fnB (cr_sortTab rfl) s_sortTab rfl T.z_sorted boot_sorted (l_cons (e_var 3) l_nil)) l_nil))))))
theorem ok_law_system_text (T : Fx w K mg) (hb : base.NoDigits) : FnG P w K mg base CX0 1 T.f_law_system_text T.d_law_system_text ["_law_system_here"] (spT K mg m_law_system_text) := okT T.F_law_system_text sc_law_system_text fun cdv A outer s H E hr => by
  have hu := hr.rm.units
  exact (b_one (s_ret (e_joinO (pe_join (e_str) (e_lc (by decide) (pe_lc (own := [("_law_length", 1), ("_law_weight", 2)]) rfl sc_law_system_text.nd (i_seq (e_var 0)) (blkOk_by (own := [("_law_length", 1), ("_law_weight", 2)]) (N := N_law_system_text) (sc := defScope st_law_system_text) (by decide +kernel)) (fun _ _ _ _ _ => (t_t rfl (ts_cons (t_n 1 sc_law_system_text.nd) (ts_cons (t_n 2 sc_law_system_text.nd) ts_nil)))) (fun _ _ _ _ _ => ts_yes) (fun _ _ _ _ _ => (e_bin op_plus x_plus (e_bin op_plus x_plus (e_fnT call_str_int p_str.s rfl T.z_str boot_str (l_cons (e_var 1) l_nil)) (e_str)) (e_fnT call_str_int p_str.s rfl T.z_str boot_str (l_cons (e_var 2) l_nil))))))))))
theorem ok_lines_of (T : Fx w K mg) (hb : base.NoDigits) : FnG P w K mg base CX0 1 T.f_lines_of T.d_lines_of ["text"] (spT K mg m_lines_of) := okT T.F_lines_of sc_lines_of fun cdv A outer s H E hr => by
  have hu := hr.rm.units
  exact (b_cons (s_if (t_not (t_val (e_fnB call_isi p_isi.s rfl T.z_isinstance boot_isinstance (l_cons (e_var 0) (l_cons (e_ty rfl T.z_str boot_str) l_nil))))) (b_one s_no) b_nil)
  (b_one (s_ret (e_splitO (pe_split (e_var 0) (e_gstr rfl T.k_FEED))))))
theorem ok_number_in (T : Fx w K mg) (hb : base.NoDigits) : FnG P w K mg base CX0 1 T.f_number_in T.d_number_in ["word", "digits"] (spT K mg m_number_in) := okT T.F_number_in sc_number_in fun cdv A outer s H E hr => by
  have hu := hr.rm.units
  exact (b_cons (s_if (t_w (w_or (t_not (t_chain op_lt op_le x_lt x_le (e_int) (e_fnV 0 c_len p_len rfl T.z_len PySem.boot_len) (e_var 1))) (w_or1 (t_not (t_val (e_fnB (cr_all rfl) p_all.s rfl T.z_all boot_all (l_cons (e_lc (by decide) (pe_lc (own := [("sign", 2)]) rfl sc_number_in.nd (i_sgn (e_var 0)) (blkOk_by (own := [("sign", 2)]) (N := N_number_in) (sc := defScope st_number_in) (by decide +kernel)) (fun _ _ _ _ _ => (t_n 2 sc_number_in.nd)) (fun _ _ _ _ _ => ts_yes) (fun _ _ _ _ _ => (e_cmp op_inS x_inS (e_var 2) (e_gstr rfl T.k_DIGITS) (by rfl))))) l_nil))))))) (b_one (s_ret (e_non))) b_nil)
  (b_one (s_ret (e_if (t_w (w_or (t_cmp (op_eqA hu) x_eq (e_var 0) (e_str) (nomark _)) (w_or1 (t_cmp (op_neA hu) x_ne (e_ixV 0 (e_int)) (e_str) (nomark _))))) (e_fnT call_int_str p_intS.s rfl T.z_int boot_int (l_cons (e_var 0) l_nil)) (e_non)))))
theorem ok_request_in (T : Fx w K mg) (hb : base.NoDigits) : FnG P w K mg base CX0 2 T.f_request_in T.d_request_in ["word"] (spT K mg m_request_in) := okT T.F_request_in sc_request_in fun cdv A outer s H E hr => by
  have hu := hr.rm.units
  exact (b_cons (s_if (t_cmp (op_eqA hu) x_eq (e_var 0) (e_gstr rfl T.k_POP) (nomark _)) (b_one (s_ret (e_tup (l_cons (e_non) l_nil)))) b_nil)
  (b_cons (s_set 1 sc_request_in.nd (e_call (ok_number_in T hb) (hr.mono (by decide)) rfl T.g_number_in T.F_number_in.kp (b_number_in T) .nil (fun _ _ => .nil) (ga_e (e_var 0) (ga_e (e_int) ga_nil))))
  (b_one (s_ret (e_if (t_w (w_and (t_cmp op_notN x_notN (e_var 1) (e_non) (nomark _)) (w_and1 (t_cmp op_lt x_lt (e_var 1) (e_gint rfl T.k_MOST_KINDS) (nomark _))))) (e_tup (l_cons (e_var 1) l_nil)) (e_non))))))
theorem ok_script_in (T : Fx w K mg) (hb : base.NoDigits) : FnG P w K mg base CX0 3 T.f_script_in T.d_script_in ["line"] (spT K mg m_script_in) := okT T.F_script_in sc_script_in fun cdv A outer s H E hr => by
  have hu := hr.rm.units
  exact (b_cons (s_if (t_cmp (op_eqA hu) x_eq (e_var 0) (e_gstr rfl T.k_NOTHING) (nomark _)) (b_one (s_ret (e_tup l_nil))) b_nil)
  (b_cons (s_setLc (by decide) (ps_setLc (i := 1) (own := [("word", 2)]) rfl sc_script_in.nd rfl rfl (sw_true rfl rfl rfl (by decide +kernel)) (i_seq (e_splitO (pe_split (e_var 0) (e_gstr rfl T.k_BLANK)))) (blkOk_by (own := [("word", 2)]) (N := N_script_in) (sc := defScope st_script_in) (by decide +kernel)) (fun _ _ _ _ _ => (t_n 2 sc_script_in.nd)) (fun _ _ _ _ _ => ts_yes) (fun _ _ _ _ _ => (e_call (ok_request_in T hb) (hr.mono (by decide)) rfl T.g_request_in T.F_request_in.kp (b_request_in T) .nil (fun _ _ => .nil) (ga_e (e_var 2) ga_nil)))))
  (b_one (s_ret (e_if (t_cmp (op_inA (u65 hr.rm)) x_in (e_non) (e_var 1) (by rfl)) (e_non) (e_fnT call_tuple_ofB s_tuple rfl T.z_tuple boot_tuple (l_cons (e_lc (by decide) (pe_lc (own := [("one", 3)]) rfl sc_script_in.nd (i_seq (e_var 1)) (blkOk_by (own := [("one", 3)]) (N := N_script_in) (sc := defScope st_script_in) (by decide +kernel)) (fun _ _ _ _ _ => (t_n 3 sc_script_in.nd)) (fun _ _ _ _ _ => ts_yes) (fun _ _ _ _ _ => (e_ixV 3 (e_int))))) l_nil)))))))
theorem ok_is_integer (T : Fx w K mg) (hb : base.NoDigits) : FnG P w K mg base CX0 1 T.f_is_integer T.d_is_integer ["value", "least", "most"] (spT K mg m_is_integer) := okTD T.F_is_integer sc_is_integer fun cdv A outer s H E hr => by
  have hu := hr.rm.units
  exact (b_cons (s_if (t_w (w_or (t_not (t_val (e_fnB call_isi p_isi.s rfl T.z_isinstance boot_isinstance (l_cons (e_var 0) (l_cons (e_ty rfl T.z_int boot_int) l_nil))))) (w_or (t_val (e_fnB call_isi p_isi.s rfl T.z_isinstance boot_isinstance (l_cons (e_var 0) (l_cons (e_ty rfl T.z_bool boot_bool) l_nil)))) (w_or1 (t_cmp op_lt x_lt (e_var 0) (e_var 1) (nomark _)))))) (b_one (s_ret (e_bl))) b_nil)
  (b_one (s_ret ((e_or (e_cmp op_isN x_isN (e_var 2) (e_non) (nomark _)) (e_one (e_cmp op_le x_le (e_var 0) (e_var 2) (nomark _))))))))
theorem ok_is_kind (T : Fx w K mg) (hb : base.NoDigits) : FnG P w K mg base CX0 2 T.f_is_kind T.d_is_kind ["value"] (spT K mg m_is_kind) := okT T.F_is_kind sc_is_kind fun cdv A outer s H E hr => by
  have hu := hr.rm.units
  exact (b_cons (s_if (t_w (w_or (t_not (t_val (e_fnB call_isi p_isi.s rfl T.z_isinstance boot_isinstance (l_cons (e_var 0) (l_cons (e_ty rfl T.z_tuple boot_tuple) l_nil))))) (w_or1 (t_cmp (op_neA hu) x_ne (e_fnV 0 c_len p_len rfl T.z_len PySem.boot_len) (e_gint rfl T.k_KIND_PARTS) (nomark _))))) (b_one (s_ret (e_bl))) b_nil)
  (b_cons (s_asg (e_var 0) (t_t rfl (ts_cons (t_n 1 sc_is_kind.nd) (ts_cons (t_n 2 sc_is_kind.nd) ts_nil))))
  (b_one (s_ret ((e_and (e_call (ok_is_integer T hb) (hr.mono (by decide)) rfl T.g_is_integer T.F_is_integer.kp (b_is_integer_1 T).choose_spec.2 (b_is_integer_1 T).choose_spec.1 (fun _ _ => .nil) (ga_e (e_var 1) (ga_e (e_int) (ga_e (e_gint rfl T.k_MOST_LENGTH) ga_nil)))) (e_one (e_call (ok_is_integer T hb) (hr.mono (by decide)) rfl T.g_is_integer T.F_is_integer.kp (b_is_integer_1 T).choose_spec.2 (b_is_integer_1 T).choose_spec.1 (fun _ _ => .nil) (ga_e (e_var 2) (ga_e (e_int) (ga_e (e_gint rfl T.k_MOST_WEIGHT) ga_nil)))))))))))
theorem ok_is_system (T : Fx w K mg) (hb : base.NoDigits) : FnG P w K mg base CX0 3 T.f_is_system T.d_is_system ["value"] (spT K mg m_is_system) := okT T.F_is_system sc_is_system fun cdv A outer s H E hr => by
  have hu := hr.rm.units
  exact (b_cons (s_if (t_w (w_or (t_not (t_val (e_fnB call_isi p_isi.s rfl T.z_isinstance boot_isinstance (l_cons (e_var 0) (l_cons (e_ty rfl T.z_tuple boot_tuple) l_nil))))) (w_or1 (t_not (t_chain op_le op_le x_le x_le (e_int) (e_fnV 0 c_len p_len rfl T.z_len PySem.boot_len) (e_gint rfl T.k_MOST_KINDS)))))) (b_one (s_ret (e_bl))) b_nil)
  (b_cons (s_if (t_not (t_val (e_fnB (cr_all rfl) p_all.s rfl T.z_all boot_all (l_cons (e_lc (by decide) (pe_lc (own := [("kind", 1)]) rfl sc_is_system.nd (i_seq (e_var 0)) (blkOk_by (own := [("kind", 1)]) (N := N_is_system) (sc := defScope st_is_system) (by decide +kernel)) (fun _ _ _ _ _ => (t_n 1 sc_is_system.nd)) (fun _ _ _ _ _ => ts_yes) (fun _ _ _ _ _ => (e_call (ok_is_kind T hb) (hr.mono (by decide)) rfl T.g_is_kind T.F_is_kind.kp (b_is_kind T) .nil (fun _ _ => .nil) (ga_e (e_var 1) ga_nil))))) l_nil)))) (b_one (s_ret (e_bl))) b_nil)
  (b_one (s_ret (e_fnB (cr_all rfl) p_all.s rfl T.z_all boot_all (l_cons (e_lc (by decide) (pe_lc (own := [("kind", 1), ("later", 2)]) rfl sc_is_system.nd (i_zp rfl T.z_zip (e_var 0) (e_sl (pe_slice sl_U (e_var 0) (o_some (e_int)) o_none))) (blkOk_by (own := [("kind", 1), ("later", 2)]) (N := N_is_system) (sc := defScope st_is_system) (by decide +kernel)) (fun _ _ _ _ _ => (t_t rfl (ts_cons (t_n 1 sc_is_system.nd) (ts_cons (t_n 2 sc_is_system.nd) ts_nil)))) (fun _ _ _ _ _ => ts_yes) (fun _ _ _ _ _ => (e_cmp (op_ltT (ult hu)) x_ltT (e_var 1) (e_var 2) (nomark _))))) l_nil))))))
theorem ok_numbers_in (T : Fx w K mg) (hb : base.NoDigits) : FnG P w K mg base CX0 2 T.f_numbers_in T.d_numbers_in ["words", "digits"] (spT K mg m_numbers_in) := okT T.F_numbers_in sc_numbers_in fun cdv A outer s H E hr => by
  have hu := hr.rm.units
  exact (b_cons (s_setLc (by decide) (ps_setLc (i := 2) (own := [("word", 3)]) rfl sc_numbers_in.nd rfl rfl (sw_true rfl rfl rfl (by decide +kernel)) (i_seq (e_var 0)) (blkOk_by (own := [("word", 3)]) (N := N_numbers_in) (sc := defScope st_numbers_in) (by decide +kernel)) (fun _ _ _ _ _ => (t_n 3 sc_numbers_in.nd)) (fun _ _ _ _ _ => ts_yes) (fun _ _ _ _ _ => (e_call (ok_number_in T hb) (hr.mono (by decide)) rfl T.g_number_in T.F_number_in.kp (b_number_in T) .nil (fun _ _ => .nil) (ga_e (e_var 3) (ga_e (e_var 1) ga_nil))))))
  (b_one (s_ret (e_if (t_cmp (op_inA (u65 hr.rm)) x_in (e_non) (e_var 2) (by rfl)) (e_non) (e_fnT call_tuple_ofB s_tuple rfl T.z_tuple boot_tuple (l_cons (e_var 2) l_nil))))))
theorem ok_system_in (T : Fx w K mg) (hb : base.NoDigits) : FnG P w K mg base CX0 4 T.f_system_in T.d_system_in ["line"] (spT K mg m_system_in) := okT T.F_system_in sc_system_in fun cdv A outer s H E hr => by
  have hu := hr.rm.units
  exact (b_cons (s_setLc (by decide) (ps_setLc (i := 1) (own := [("word", 2)]) rfl sc_system_in.nd rfl rfl (sw_true rfl rfl rfl (by decide +kernel)) (i_seq (e_splitO (pe_split (e_var 0) (e_gstr rfl T.k_BLANK)))) (blkOk_by (own := [("word", 2)]) (N := N_system_in) (sc := defScope st_system_in) (by decide +kernel)) (fun _ _ _ _ _ => (t_n 2 sc_system_in.nd)) (fun _ _ _ _ _ => ts_yes) (fun _ _ _ _ _ => (e_call (ok_numbers_in T hb) (hr.mono (by decide)) rfl T.g_numbers_in T.F_numbers_in.kp (b_numbers_in T) .nil (fun _ _ => .nil) (ga_e (e_splitO (pe_split (e_var 2) (e_gstr rfl T.k_STAR))) (ga_e (e_fnB c_len p_len.s rfl T.z_len PySem.boot_len (l_cons (e_fnT call_str_int p_str.s rfl T.z_str boot_str (l_cons (e_gint rfl T.k_MOST_LENGTH) l_nil)) l_nil)) ga_nil))))))
  (b_one (s_ret (e_if (t_w (w_and (t_cmp (op_notInA (u65 hr.rm)) x_in (e_non) (e_var 1) (by rfl)) (w_and1 (t_val (e_call (ok_is_system T hb) (hr.mono (by decide)) rfl T.g_is_system T.F_is_system.kp (b_is_system T) .nil (fun _ _ => .nil) (ga_e (e_fnT call_tuple_ofB s_tuple rfl T.z_tuple boot_tuple (l_cons (e_var 1) l_nil)) ga_nil)))))) (e_fnT call_tuple_ofB s_tuple rfl T.z_tuple boot_tuple (l_cons (e_var 1) l_nil)) (e_non)))))
theorem ok_only_line (T : Fx w K mg) (hb : base.NoDigits) {aF : Addr} {d2 : FuncData} {F : FF} (hF : FnG P w K mg base CX0 4 aF d2 ["line"] (spT K mg F)) (hk2 : PySem.W.keepIn K (.ref aF) = true) (hb2 : L2.Binds K d2 ["line"] []) : FnG P w K mg base CX0 5 T.f_only_line T.d_only_line ["text", "read"] (spT K mg (m_only_line aF F)) := by
  have q := okT (k := 4) (body := mb_only_line aF F) (P := P) (w := w) (K := K) (mg := mg) (base := base) T.F_only_line sc_only_line fun cdv A outer s H E hr => by
    have hu := hr.rm.units
    exact (b_cons (s_restL 2 3 rfl sc_only_line.nd (e_call (ok_lines_of T hb) (hr.mono (by decide)) rfl T.g_lines_of T.F_lines_of.kp (b_lines_of T) .nil (fun _ _ => .nil) (ga_e (e_var 0) ga_nil)))
  (b_cons (s_set 4 sc_only_line.nd (e_callL 1 hF (hr.mono (by decide)) hk2 hb2 (ga_e (e_var 2) ga_nil)))
  (b_cons (s_if (t_cmp op_isN x_isN (e_var 4) (e_non) (nomark _)) (b_one s_no) b_nil)
  (b_cons (s_if (t_pc (c_neV 3 hu (e_lst l_nil))) (b_one s_no) b_nil)
  (b_one (s_retO 4))))))
  exact q
theorem ok_read_script (T : Fx w K mg) (hb : base.NoDigits) : FnG P w K mg base CX0 6 T.f_read_script T.d_read_script ["text"] (spT K mg (m_read_script T.f_script_in)) := okT T.F_read_script sc_read_script fun cdv A outer s H E hr => by
  have hu := hr.rm.units
  exact (b_one (s_ret (e_call (ok_only_line T hb ((ok_script_in T hb).mono (by decide)) T.F_script_in.kp (b_script_in T)) (hr.mono (by decide)) rfl T.g_only_line T.F_only_line.kp (b_only_line T) .nil (fun _ _ => .nil) (ga_e (e_var 0) (ga_e (e_fnv rfl T.g_script_in) ga_nil)))))
theorem ok_read_system (T : Fx w K mg) (hb : base.NoDigits) : FnG P w K mg base CX0 6 T.f_read_system T.d_read_system ["text"] (spT K mg (m_read_system T.f_system_in)) := okT T.F_read_system sc_read_system fun cdv A outer s H E hr => by
  have hu := hr.rm.units
  exact (b_one (s_ret (e_call (ok_only_line T hb ((ok_system_in T hb).mono (by decide)) T.F_system_in.kp (b_system_in T)) (hr.mono (by decide)) rfl T.g_only_line T.F_only_line.kp (b_only_line T) .nil (fun _ _ => .nil) (ga_e (e_var 0) (ga_e (e_fnv rfl T.g_system_in) ga_nil)))))
theorem ok_show_script (T : Fx w K mg) (hb : base.NoDigits) : FnG P w K mg base CX0 1 T.f_show_script T.d_show_script ["requests"] (spT K mg m_show_script) := okT T.F_show_script sc_show_script fun cdv A outer s H E hr => by
  have hu := hr.rm.units
  exact (b_one (s_ret (e_if (t_cmp (op_neA hu) x_ne (e_var 0) (e_tup l_nil) (nomark _)) (e_joinO (pe_join (e_gstr rfl T.k_BLANK) (e_lc (by decide) (pe_lc (own := [("item", 1)]) rfl sc_show_script.nd (i_seq (e_var 0)) (blkOk_by (own := [("item", 1)]) (N := N_show_script) (sc := defScope st_show_script) (by decide +kernel)) (fun _ _ _ _ _ => (t_n 1 sc_show_script.nd)) (fun _ _ _ _ _ => ts_yes) (fun _ _ _ _ _ => (e_if (t_cmp op_isN x_isN (e_var 1) (e_non) (nomark _)) (e_gstr rfl T.k_POP) (e_fnT call_str_int p_str.s rfl T.z_str boot_str (l_cons (e_var 1) l_nil)))))))) (e_gstr rfl T.k_NOTHING))))
theorem ok_show_system (T : Fx w K mg) (hb : base.NoDigits) : FnG P w K mg base CX0 1 T.f_show_system T.d_show_system ["system"] (spT K mg m_show_system) := okT T.F_show_system sc_show_system fun cdv A outer s H E hr => by
  have hu := hr.rm.units
  exact (b_one (s_ret (e_joinO (pe_join (e_gstr rfl T.k_BLANK) (e_lc (by decide) (pe_lc (own := [("length", 1), ("weight", 2)]) rfl sc_show_system.nd (i_seq (e_var 0)) (blkOk_by (own := [("length", 1), ("weight", 2)]) (N := N_show_system) (sc := defScope st_show_system) (by decide +kernel)) (fun _ _ _ _ _ => (t_t rfl (ts_cons (t_n 1 sc_show_system.nd) (ts_cons (t_n 2 sc_show_system.nd) ts_nil)))) (fun _ _ _ _ _ => ts_yes) (fun _ _ _ _ _ => (e_bin op_plus x_plus (e_bin op_plus x_plus (e_fnT call_str_int p_str.s rfl T.z_str boot_str (l_cons (e_var 1) l_nil)) (e_gstr rfl T.k_STAR)) (e_fnT call_str_int p_str.s rfl T.z_str boot_str (l_cons (e_var 2) l_nil))))))))))
theorem ok_law_right (T : Fx w K mg) (hb : base.NoDigits) : FnG P w K mg base CX0 7 T.f_law_right T.d_law_right ["_law_pot_here"] (spT K mg (m_law_right T.f_script_in T.f_system_in)) := okT T.F_law_right sc_law_right fun cdv A outer s H E hr => by
  have hu := hr.rm.units
  exact (b_cons (s_par (ps_par rfl sc_law_right.nd rfl rfl (by decide) rfl rfl (pa_cons (e_call (ok_law_system T hb) (hr.mono (by decide)) rfl T.g_law_system T.F_law_system.kp (b_law_system T) .nil (fun _ _ => .nil) (ga_o 0 (ga_e (e_int) (ga_e (e_int) ga_nil)))) (pa_cons (e_call (ok_law_system T hb) (hr.mono (by decide)) rfl T.g_law_system T.F_law_system.kp (b_law_system T) .nil (fun _ _ => .nil) (ga_o 0 (ga_e (e_int) (ga_e (e_int) ga_nil)))) pa_nil)) rfl))
  (b_cons (s_par (ps_par rfl sc_law_right.nd rfl rfl (by decide) rfl rfl (pa_cons (e_fnV 1 (c_repr hr.gd hr.rm.units) p_repr rfl T.z_repr boot_repr) (pa_cons (e_call (ok_law_system_text T hb) (hr.mono (by decide)) rfl T.g_law_system_text T.F_law_system_text.kp (b_law_system_text T) .nil (fun _ _ => .nil) (ga_e (e_var 1) ga_nil)) pa_nil)) rfl))
  (b_cons (s_if (t_w (w_or (t_cmp (op_neA hu) x_ne (e_fnB (c_repr hr.gd hr.rm.units) p_repr.s rfl T.z_repr boot_repr (l_cons (e_call (ok_show_system T hb) (hr.mono (by decide)) rfl T.g_show_system T.F_show_system.kp (b_show_system T) .nil (fun _ _ => .nil) (ga_e (e_var 1) ga_nil)) l_nil)) (e_fnV 4 (c_repr hr.gd hr.rm.units) p_repr rfl T.z_repr boot_repr) (nomark _)) (w_or (t_cmp (op_neA hu) x_ne (e_fnB (c_repr hr.gd hr.rm.units) p_repr.s rfl T.z_repr boot_repr (l_cons (e_call (ok_read_system T hb) (hr.mono (by decide)) rfl T.g_read_system T.F_read_system.kp (b_read_system T) .nil (fun _ _ => .nil) (ga_e (e_var 4) ga_nil)) l_nil)) (e_var 3) (nomark _)) (w_or1 (t_cmp (op_neA hu) x_ne (e_fnV 1 (c_repr hr.gd hr.rm.units) p_repr rfl T.z_repr boot_repr) (e_var 3) (nomark _)))))) (b_one (s_ret (e_bl))) b_nil)
  (b_cons (s_if (t_cmp (op_neA hu) x_ne (e_cmp (op_eqA hu) x_eq (e_call (ok_show_system T hb) (hr.mono (by decide)) rfl T.g_show_system T.F_show_system.kp (b_show_system T) .nil (fun _ _ => .nil) (ga_e (e_var 2) ga_nil)) (e_var 4) (nomark _)) (e_cmp (op_eqA hu) x_eq (e_var 2) (e_var 1) (nomark _)) (nomark _)) (b_one (s_ret (e_bl))) b_nil)
  (b_cons (s_set 5 sc_law_right.nd (e_call (ok_law_script T hb) (hr.mono (by decide)) rfl T.g_law_script T.F_law_script.kp (b_law_script T) .nil (fun _ _ => .nil) (ga_o 0 (ga_e (e_int) (ga_e (e_call (ok_law_pick T hb) (hr.mono (by decide)) rfl T.g_law_pick T.F_law_pick.kp (b_law_pick T) .nil (fun _ _ => .nil) (ga_o 0 (ga_e (e_lst (l_cons (e_int) (l_cons (e_int) (l_cons (e_int) l_nil)))) ga_nil))) ga_nil)))))
  (b_cons (s_for (by first | exact PassesOwn.never | exact passes_of rfl) rfl (i_seq (e_tup (l_cons (e_var 5) (l_cons (e_bin op_plus x_plus (e_var 5) (e_tup (l_cons (e_non) l_nil))) (l_cons (e_tup (l_cons (e_int) l_nil)) (l_cons (e_tup (l_cons (e_non) l_nil)) (l_cons (e_tup l_nil) l_nil))))))) (t_n 6 sc_law_right.nd) (b_cons (s_par (ps_par rfl sc_law_right.nd rfl rfl (by decide) rfl rfl (pa_cons (e_fnV 6 (c_repr hr.gd hr.rm.units) p_repr rfl T.z_repr boot_repr) (pa_cons (e_call (ok_law_script_text T hb) (hr.mono (by decide)) rfl T.g_law_script_text T.F_law_script_text.kp (b_law_script_text T) .nil (fun _ _ => .nil) (ga_e (e_var 6) ga_nil)) pa_nil)) rfl))
  (b_one (s_if (t_w (w_or (t_cmp (op_neA hu) x_ne (e_fnB (c_repr hr.gd hr.rm.units) p_repr.s rfl T.z_repr boot_repr (l_cons (e_call (ok_show_script T hb) (hr.mono (by decide)) rfl T.g_show_script T.F_show_script.kp (b_show_script T) .nil (fun _ _ => .nil) (ga_e (e_var 6) ga_nil)) l_nil)) (e_fnV 4 (c_repr hr.gd hr.rm.units) p_repr rfl T.z_repr boot_repr) (nomark _)) (w_or (t_cmp (op_neA hu) x_ne (e_fnB (c_repr hr.gd hr.rm.units) p_repr.s rfl T.z_repr boot_repr (l_cons (e_call (ok_read_script T hb) (hr.mono (by decide)) rfl T.g_read_script T.F_read_script.kp (b_read_script T) .nil (fun _ _ => .nil) (ga_e (e_var 4) ga_nil)) l_nil)) (e_var 3) (nomark _)) (w_or1 (t_cmp (op_neA hu) x_ne (e_fnV 6 (c_repr hr.gd hr.rm.units) p_repr rfl T.z_repr boot_repr) (e_var 3) (nomark _)))))) (b_one (s_ret (e_bl))) b_nil))))
  (b_one (s_ret (e_cmp (op_neA hu) x_ne (e_call (ok_show_script T hb) (hr.mono (by decide)) rfl T.g_show_script T.F_show_script.kp (b_show_script T) .nil (fun _ _ => .nil) (ga_e (e_var 5) ga_nil)) (e_call (ok_show_script T hb) (hr.mono (by decide)) rfl T.g_show_script T.F_show_script.kp (b_show_script T) .nil (fun _ _ => .nil) (ga_e (e_bin op_plus x_plus (e_var 5) (e_tup (l_cons (e_non) l_nil))) ga_nil)) (nomark _))))))))))
theorem ok_law (T : Fx w K mg) (hb : base.NoDigits) : FnG P w K mg base CX0 8 T.f_law T.d_law ["_law_script_here"] (spT K mg m_law) := by
  have q : FnG P w K mg base CX0 8 T.f_law T.d_law ["_law_script_here"] (spT K mg (m_lawA T.f_script_in T.f_system_in)) := okT T.F_law sc_law fun cdv A outer s H E hr => by
    have hu := hr.rm.units
    exact (b_cons (s_for (by first | exact PassesOwn.never | exact passes_of rfl) rfl (i_rg1 rfl T.z_range (e_fnB (p_max rfl).1 (p_max rfl).2.s rfl T.z_max boot_max (l_cons (e_int) (l_cons (e_fnB (p_min rfl).1 (p_min rfl).2.s rfl T.z_min boot_min (l_cons (e_int) (l_cons (e_fnV 0 c_len p_len rfl T.z_len PySem.boot_len) l_nil))) l_nil)))) (t_n 1 sc_law.nd) (b_cons (s_set 2 sc_law.nd (e_call (ok_law_pot2 T hb) (hr.mono (by decide)) rfl T.g_law_pot2 T.F_law_pot2.kp (b_law_pot2 T) .nil (fun _ _ => .nil) (ga_e (e_var 0) (ga_e (e_var 1) ga_nil))))
    (b_one (s_if (t_not (t_val (e_fnB (cr_all rfl) p_all.s rfl T.z_all boot_all (l_cons (e_lc (by decide) (pe_lc (own := [("_law_turn", 5)]) rfl sc_law.nd (i_rg1 rfl T.z_range (e_int)) (blkOk_by (own := [("_law_turn", 5)]) (N := N_law) (sc := defScope st_law) (by decide +kernel)) (fun _ _ _ _ _ => (t_n 5 sc_law.nd)) (fun _ _ _ _ _ => ts_yes) (fun _ _ _ _ _ => (e_call (ok_law_right T hb) (hr.mono (by decide)) rfl T.g_law_right T.F_law_right.kp (b_law_right T) .nil (fun _ _ => .nil) (ga_o 2 ga_nil))))) l_nil)))) (b_one (s_ret (e_bl))) b_nil))))
    (b_cons (s_set 2 sc_law.nd (e_call (ok_law_pot2 T hb) (hr.mono (by decide)) rfl T.g_law_pot2 T.F_law_pot2.kp (b_law_pot2 T) .nil (fun _ _ => .nil) (ga_e (e_var 0) (ga_e (e_int) ga_nil))))
    (b_cons (s_set 3 sc_law.nd (e_bin op_repG x_repG (e_tup (l_cons (e_call (ok_law_draw T hb) (hr.mono (by decide)) rfl T.g_law_draw T.F_law_draw.kp (b_law_draw T) .nil (fun _ _ => .nil) (ga_o 2 (ga_e (e_int) ga_nil))) (l_cons (e_non) (l_cons (e_call (ok_law_draw T hb) (hr.mono (by decide)) rfl T.g_law_draw T.F_law_draw.kp (b_law_draw T) .nil (fun _ _ => .nil) (ga_o 2 (ga_e (e_int) ga_nil))) l_nil)))) (e_bin op_sub x_sub (e_int) (e_call (ok_law_draw T hb) (hr.mono (by decide)) rfl T.g_law_draw T.F_law_draw.kp (b_law_draw T) .nil (fun _ _ => .nil) (ga_o 2 (ga_e (e_int) ga_nil))))))
    (b_cons (s_set 4 sc_law.nd (e_call (ok_law_script_text T hb) (hr.mono (by decide)) rfl T.g_law_script_text T.F_law_script_text.kp (b_law_script_text T) .nil (fun _ _ => .nil) (ga_e (e_var 3) ga_nil)))
    (b_one (s_ret ((e_and (e_cmp (op_eqA hu) x_eq (e_call (ok_show_script T hb) (hr.mono (by decide)) rfl T.g_show_script T.F_show_script.kp (b_show_script T) .nil (fun _ _ => .nil) (ga_e (e_var 3) ga_nil)) (e_var 4) (nomark _)) (e_one (e_cmp (op_eqA hu) x_eq (e_fnB (c_repr hr.gd hr.rm.units) p_repr.s rfl T.z_repr boot_repr (l_cons (e_call (ok_read_script T hb) (hr.mono (by decide)) rfl T.g_read_script T.F_read_script.kp (b_read_script T) .nil (fun _ _ => .nil) (ga_e (e_var 4) ga_nil)) l_nil)) (e_fnV 3 (c_repr hr.gd hr.rm.units) p_repr rfl T.z_repr boot_repr) (nomark _)))))))))))
  exact q.imp fun vs H Q E h => law_imp h
end
theorem fx_mk {l : PySem.W.OpenLaw} {w : World} {K : Fg} {h : Heap} {mg : Str → Option Value} {fa : Addr} {f1 f2 f3 f4 f5 f6 f7 f8 f9 f10 f11 f12 f13 f14 f15 f16 f17 f18 f19 f20 f21 f22 f23 : Addr} (hk : K.In h) (hg : h.Ns mainGlobals mg) (hfa : mg "law" = some (.ref fa))

    {t9 : Tok}
    {t8 : Tok}
    {t7 : Tok}
    {t6 : Tok}
    {t5 : Tok}
    {t4 : Tok}
    {t3 : Tok}
    {t2 : Tok}
    {t1 : Tok}
    {t0 : Tok}
    {TT12 : Addr} {tc12 : Value} {td12 : Option Addr} {ta12 : Array Value} {tn12 : Nat} {ts12 : Array (Option Value)}
    {od1 an1 od2 an2 od3 an3 od4 an4 od5 an5 od6 an6 od7 an7 od8 an8 od9 an9 od10 an10 od11 an11 od12 an12 od13 an13 od14 an14 od15 an15 od16 an16 od17 an17 od18 an18 od19 an19 od20 an20 od21 an21 od22 an22 od23 an23 : Option Addr} {sl1 sl2 sl3 sl4 sl5 sl6 sl7 sl8 sl9 sl10 sl11 sl12 sl13 sl14 sl15 sl16 sl17 sl18 sl19 sl20 sl21 sl22 sl23 : Array (Option Value)} {oc1 kV1 dc1 pm1 cd1 ct1 oc2 kV2 dc2 pm2 cd2 ct2 oc3 kV3 dc3 pm3 cd3 ct3 oc4 kV4 dc4 pm4 cd4 ct4 oc5 kV5 dc5 pm5 cd5 ct5 oc6 kV6 dc6 pm6 cd6 ct6 oc7 kV7 dc7 pm7 cd7 ct7 oc8 kV8 dc8 pm8 cd8 ct8 oc9 kV9 dc9 pm9 cd9 ct9 oc10 kV10 dc10 pm10 cd10 ct10 oc11 kV11 dc11 pm11 cd11 ct11 oc12 kV12 dc12 pm12 cd12 ct12 oc13 kV13 dc13 pm13 cd13 ct13 oc14 kV14 dc14 pm14 cd14 ct14 oc15 kV15 dc15 pm15 cd15 ct15 oc16 kV16 dc16 pm16 cd16 ct16 oc17 kV17 dc17 pm17 cd17 ct17 oc18 kV18 dc18 pm18 cd18 ct18 oc19 kV19 dc19 pm19 cd19 ct19 oc20 kV20 dc20 pm20 cd20 ct20 oc21 kV21 dc21 pm21 cd21 ct21 oc22 kV22 dc22 pm22 cd22 ct22 oc23 kV23 dc23 pm23 cd23 ct23 : Value}
    (a1 : PySem.W.nsIn K mainGlobals "_law_draw" = some (some (.ref f1)))
    (l1 : K.lookup f1 = some ⟨oc1, od1, .func (PySem.W.fnOf "_law_draw" "_law_draw" (defArgs st_law_draw) (defBody st_law_draw) (defScope st_law_draw) .none kV1 dc1 pm1 an1 cd1 ct1), sl1⟩) (c1 : PySem.W.codeIn K cd1 "_law_draw" = true) (k1 : PySem.W.keepIn K (.ref f1) = true)
    (a2 : PySem.W.nsIn K mainGlobals "_law_pot" = some (some (.ref f2)))
    (l2 : K.lookup f2 = some ⟨oc2, od2, .func (PySem.W.fnOf "_law_pot" "_law_pot" (defArgs st_law_pot2) (defBody st_law_pot2) (defScope st_law_pot2) .none kV2 dc2 pm2 an2 cd2 ct2), sl2⟩) (c2 : PySem.W.codeIn K cd2 "_law_pot" = true) (k2 : PySem.W.keepIn K (.ref f2) = true)
    (a3 : PySem.W.nsIn K mainGlobals "_law_pick" = some (some (.ref f3)))
    (l3 : K.lookup f3 = some ⟨oc3, od3, .func (PySem.W.fnOf "_law_pick" "_law_pick" (defArgs st_law_pick) (defBody st_law_pick) (defScope st_law_pick) .none kV3 dc3 pm3 an3 cd3 ct3), sl3⟩) (c3 : PySem.W.codeIn K cd3 "_law_pick" = true) (k3 : PySem.W.keepIn K (.ref f3) = true)
    (a4 : PySem.W.nsIn K mainGlobals "_law_script" = some (some (.ref f4)))
    (l4 : K.lookup f4 = some ⟨oc4, od4, .func (PySem.W.fnOf "_law_script" "_law_script" (defArgs st_law_script) (defBody st_law_script) (defScope st_law_script) .none kV4 dc4 pm4 an4 cd4 ct4), sl4⟩) (c4 : PySem.W.codeIn K cd4 "_law_script" = true) (k4 : PySem.W.keepIn K (.ref f4) = true)
    (a5 : PySem.W.nsIn K mainGlobals "_law_script_text" = some (some (.ref f5)))
    (l5 : K.lookup f5 = some ⟨oc5, od5, .func (PySem.W.fnOf "_law_script_text" "_law_script_text" (defArgs st_law_script_text) (defBody st_law_script_text) (defScope st_law_script_text) .none kV5 dc5 pm5 an5 cd5 ct5), sl5⟩) (c5 : PySem.W.codeIn K cd5 "_law_script_text" = true) (k5 : PySem.W.keepIn K (.ref f5) = true)
    (a6 : PySem.W.nsIn K mainGlobals "_law_system" = some (some (.ref f6)))
    (l6 : K.lookup f6 = some ⟨oc6, od6, .func (PySem.W.fnOf "_law_system" "_law_system" (defArgs st_law_system) (defBody st_law_system) (defScope st_law_system) .none kV6 dc6 pm6 an6 cd6 ct6), sl6⟩) (c6 : PySem.W.codeIn K cd6 "_law_system" = true) (k6 : PySem.W.keepIn K (.ref f6) = true)
    (a7 : PySem.W.nsIn K mainGlobals "_law_system_text" = some (some (.ref f7)))
    (l7 : K.lookup f7 = some ⟨oc7, od7, .func (PySem.W.fnOf "_law_system_text" "_law_system_text" (defArgs st_law_system_text) (defBody st_law_system_text) (defScope st_law_system_text) .none kV7 dc7 pm7 an7 cd7 ct7), sl7⟩) (c7 : PySem.W.codeIn K cd7 "_law_system_text" = true) (k7 : PySem.W.keepIn K (.ref f7) = true)
    (a8 : PySem.W.nsIn K mainGlobals "lines_of" = some (some (.ref f8)))
    (l8 : K.lookup f8 = some ⟨oc8, od8, .func (PySem.W.fnOf "lines_of" "lines_of" (defArgs st_lines_of) (defBody st_lines_of) (defScope st_lines_of) .none kV8 dc8 pm8 an8 cd8 ct8), sl8⟩) (c8 : PySem.W.codeIn K cd8 "lines_of" = true) (k8 : PySem.W.keepIn K (.ref f8) = true)
    (a9 : PySem.W.nsIn K mainGlobals "number_in" = some (some (.ref f9)))
    (l9 : K.lookup f9 = some ⟨oc9, od9, .func (PySem.W.fnOf "number_in" "number_in" (defArgs st_number_in) (defBody st_number_in) (defScope st_number_in) .none kV9 dc9 pm9 an9 cd9 ct9), sl9⟩) (c9 : PySem.W.codeIn K cd9 "number_in" = true) (k9 : PySem.W.keepIn K (.ref f9) = true)
    (a10 : PySem.W.nsIn K mainGlobals "request_in" = some (some (.ref f10)))
    (l10 : K.lookup f10 = some ⟨oc10, od10, .func (PySem.W.fnOf "request_in" "request_in" (defArgs st_request_in) (defBody st_request_in) (defScope st_request_in) .none kV10 dc10 pm10 an10 cd10 ct10), sl10⟩) (c10 : PySem.W.codeIn K cd10 "request_in" = true) (k10 : PySem.W.keepIn K (.ref f10) = true)
    (a11 : PySem.W.nsIn K mainGlobals "script_in" = some (some (.ref f11)))
    (l11 : K.lookup f11 = some ⟨oc11, od11, .func (PySem.W.fnOf "script_in" "script_in" (defArgs st_script_in) (defBody st_script_in) (defScope st_script_in) .none kV11 dc11 pm11 an11 cd11 ct11), sl11⟩) (c11 : PySem.W.codeIn K cd11 "script_in" = true) (k11 : PySem.W.keepIn K (.ref f11) = true)
    (a12 : PySem.W.nsIn K mainGlobals "is_integer" = some (some (.ref f12)))
    (l12 : K.lookup f12 = some ⟨oc12, od12, .func (PySem.W.fnOf "is_integer" "is_integer" (defArgs st_is_integer) (defBody st_is_integer) (defScope st_is_integer) (.ref TT12) kV12 dc12 pm12 an12 cd12 ct12), sl12⟩) (c12 : PySem.W.codeIn K cd12 "is_integer" = true) (k12 : PySem.W.keepIn K (.ref f12) = true)
    (lt12 : K.lookup TT12 = some ⟨tc12, td12, .seq ta12 tn12, ts12⟩) (vt12 : Vals ([.non] : List V) ta12.toList)
    (a13 : PySem.W.nsIn K mainGlobals "is_kind" = some (some (.ref f13)))
    (l13 : K.lookup f13 = some ⟨oc13, od13, .func (PySem.W.fnOf "is_kind" "is_kind" (defArgs st_is_kind) (defBody st_is_kind) (defScope st_is_kind) .none kV13 dc13 pm13 an13 cd13 ct13), sl13⟩) (c13 : PySem.W.codeIn K cd13 "is_kind" = true) (k13 : PySem.W.keepIn K (.ref f13) = true)
    (a14 : PySem.W.nsIn K mainGlobals "is_system" = some (some (.ref f14)))
    (l14 : K.lookup f14 = some ⟨oc14, od14, .func (PySem.W.fnOf "is_system" "is_system" (defArgs st_is_system) (defBody st_is_system) (defScope st_is_system) .none kV14 dc14 pm14 an14 cd14 ct14), sl14⟩) (c14 : PySem.W.codeIn K cd14 "is_system" = true) (k14 : PySem.W.keepIn K (.ref f14) = true)
    (a15 : PySem.W.nsIn K mainGlobals "numbers_in" = some (some (.ref f15)))
    (l15 : K.lookup f15 = some ⟨oc15, od15, .func (PySem.W.fnOf "numbers_in" "numbers_in" (defArgs st_numbers_in) (defBody st_numbers_in) (defScope st_numbers_in) .none kV15 dc15 pm15 an15 cd15 ct15), sl15⟩) (c15 : PySem.W.codeIn K cd15 "numbers_in" = true) (k15 : PySem.W.keepIn K (.ref f15) = true)
    (a16 : PySem.W.nsIn K mainGlobals "system_in" = some (some (.ref f16)))
    (l16 : K.lookup f16 = some ⟨oc16, od16, .func (PySem.W.fnOf "system_in" "system_in" (defArgs st_system_in) (defBody st_system_in) (defScope st_system_in) .none kV16 dc16 pm16 an16 cd16 ct16), sl16⟩) (c16 : PySem.W.codeIn K cd16 "system_in" = true) (k16 : PySem.W.keepIn K (.ref f16) = true)
    (a17 : PySem.W.nsIn K mainGlobals "only_line" = some (some (.ref f17)))
    (l17 : K.lookup f17 = some ⟨oc17, od17, .func (PySem.W.fnOf "only_line" "only_line" (defArgs st_only_line) (defBody st_only_line) (defScope st_only_line) .none kV17 dc17 pm17 an17 cd17 ct17), sl17⟩) (c17 : PySem.W.codeIn K cd17 "only_line" = true) (k17 : PySem.W.keepIn K (.ref f17) = true)
    (a18 : PySem.W.nsIn K mainGlobals "read_script" = some (some (.ref f18)))
    (l18 : K.lookup f18 = some ⟨oc18, od18, .func (PySem.W.fnOf "read_script" "read_script" (defArgs st_read_script) (defBody st_read_script) (defScope st_read_script) .none kV18 dc18 pm18 an18 cd18 ct18), sl18⟩) (c18 : PySem.W.codeIn K cd18 "read_script" = true) (k18 : PySem.W.keepIn K (.ref f18) = true)
    (a19 : PySem.W.nsIn K mainGlobals "read_system" = some (some (.ref f19)))
    (l19 : K.lookup f19 = some ⟨oc19, od19, .func (PySem.W.fnOf "read_system" "read_system" (defArgs st_read_system) (defBody st_read_system) (defScope st_read_system) .none kV19 dc19 pm19 an19 cd19 ct19), sl19⟩) (c19 : PySem.W.codeIn K cd19 "read_system" = true) (k19 : PySem.W.keepIn K (.ref f19) = true)
    (a20 : PySem.W.nsIn K mainGlobals "show_script" = some (some (.ref f20)))
    (l20 : K.lookup f20 = some ⟨oc20, od20, .func (PySem.W.fnOf "show_script" "show_script" (defArgs st_show_script) (defBody st_show_script) (defScope st_show_script) .none kV20 dc20 pm20 an20 cd20 ct20), sl20⟩) (c20 : PySem.W.codeIn K cd20 "show_script" = true) (k20 : PySem.W.keepIn K (.ref f20) = true)
    (a21 : PySem.W.nsIn K mainGlobals "show_system" = some (some (.ref f21)))
    (l21 : K.lookup f21 = some ⟨oc21, od21, .func (PySem.W.fnOf "show_system" "show_system" (defArgs st_show_system) (defBody st_show_system) (defScope st_show_system) .none kV21 dc21 pm21 an21 cd21 ct21), sl21⟩) (c21 : PySem.W.codeIn K cd21 "show_system" = true) (k21 : PySem.W.keepIn K (.ref f21) = true)
    (a22 : PySem.W.nsIn K mainGlobals "_law_right" = some (some (.ref f22)))
    (l22 : K.lookup f22 = some ⟨oc22, od22, .func (PySem.W.fnOf "_law_right" "_law_right" (defArgs st_law_right) (defBody st_law_right) (defScope st_law_right) .none kV22 dc22 pm22 an22 cd22 ct22), sl22⟩) (c22 : PySem.W.codeIn K cd22 "_law_right" = true) (k22 : PySem.W.keepIn K (.ref f22) = true)
    (a23 : PySem.W.nsIn K mainGlobals "law" = some (some (.ref f23)))
    (l23 : K.lookup f23 = some ⟨oc23, od23, .func (PySem.W.fnOf "law" "law" (defArgs st_law) (defBody st_law) (defScope st_law) .none kV23 dc23 pm23 an23 cd23 ct23), sl23⟩) (c23 : PySem.W.codeIn K cd23 "law" = true) (k23 : PySem.W.keepIn K (.ref f23) = true)
    (z_abs : PySem.W.nsIn K mainGlobals "abs" = some none)
    (z_all : PySem.W.nsIn K mainGlobals "all" = some none)
    (z_bool : PySem.W.nsIn K mainGlobals "bool" = some none)
    (z_int : PySem.W.nsIn K mainGlobals "int" = some none)
    (z_isinstance : PySem.W.nsIn K mainGlobals "isinstance" = some none)
    (z_len : PySem.W.nsIn K mainGlobals "len" = some none)
    (z_max : PySem.W.nsIn K mainGlobals "max" = some none)
    (z_min : PySem.W.nsIn K mainGlobals "min" = some none)
    (z_range : PySem.W.nsIn K mainGlobals "range" = some none)
    (z_repr : PySem.W.nsIn K mainGlobals "repr" = some none)
    (z_sorted : PySem.W.nsIn K mainGlobals "sorted" = some none)
    (z_str : PySem.W.nsIn K mainGlobals "str" = some none)
    (z_tuple : PySem.W.nsIn K mainGlobals "tuple" = some none)
    (z_zip : PySem.W.nsIn K mainGlobals "zip" = some none)
    (q_BLANK : PySem.W.nsIn K mainGlobals "BLANK" = some (some (.str " " t0)))
    (q_DIGITS : PySem.W.nsIn K mainGlobals "DIGITS" = some (some (.str "0123456789" t1)))
    (q_FEED : PySem.W.nsIn K mainGlobals "FEED" = some (some (.str "\n" t2)))
    (q_KIND_PARTS : PySem.W.nsIn K mainGlobals "KIND_PARTS" = some (some (.int 2 t3)))
    (q_MOST_KINDS : PySem.W.nsIn K mainGlobals "MOST_KINDS" = some (some (.int 6 t4)))
    (q_MOST_LENGTH : PySem.W.nsIn K mainGlobals "MOST_LENGTH" = some (some (.int 30 t5)))
    (q_MOST_WEIGHT : PySem.W.nsIn K mainGlobals "MOST_WEIGHT" = some (some (.int 30 t6)))
    (q_NOTHING : PySem.W.nsIn K mainGlobals "NOTHING" = some (some (.str "-" t7)))
    (q_POP : PySem.W.nsIn K mainGlobals "POP" = some (some (.str "pop" t8)))
    (q_STAR : PySem.W.nsIn K mainGlobals "STAR" = some (some (.str "*" t9)))
    : ∃ fd : FuncData, (∀ (s : Shared) (v : Value), BindsTo s fd ⟨[v], []⟩ [("_law_script_here", v)]) ∧ ∀ base : Heap, K.In base → base.Ns mainGlobals mg → base.NoDigits → FnG l.prog w K mg base CX0 8 fa fd ["_law_script_here"] (spT K mg m_law) := by
  have e := hfa.symm.trans (PySem.W.mg_of hk hg a23)
  cases e
  let T : Fx w K mg := ⟨f1, _, fun_mk (st := st_law_draw) l1 c1 k1, PySem.W.mg_of hk hg a1, f2, _, fun_mk (st := st_law_pot2) l2 c2 k2, PySem.W.mg_of hk hg a2, f3, _, fun_mk (st := st_law_pick) l3 c3 k3, PySem.W.mg_of hk hg a3, f4, _, fun_mk (st := st_law_script) l4 c4 k4, PySem.W.mg_of hk hg a4, f5, _, fun_mk (st := st_law_script_text) l5 c5 k5, PySem.W.mg_of hk hg a5, f6, _, fun_mk (st := st_law_system) l6 c6 k6, PySem.W.mg_of hk hg a6, f7, _, fun_mk (st := st_law_system_text) l7 c7 k7, PySem.W.mg_of hk hg a7, f8, _, fun_mk (st := st_lines_of) l8 c8 k8, PySem.W.mg_of hk hg a8, f9, _, fun_mk (st := st_number_in) l9 c9 k9, PySem.W.mg_of hk hg a9, f10, _, fun_mk (st := st_request_in) l10 c10 k10, PySem.W.mg_of hk hg a10, f11, _, fun_mk (st := st_script_in) l11 c11 k11, PySem.W.mg_of hk hg a11, f12, _, funD_mk (st := st_is_integer) l12 c12 k12 (dfl_mk (by simp) lt12 vt12), PySem.W.mg_of hk hg a12, f13, _, fun_mk (st := st_is_kind) l13 c13 k13, PySem.W.mg_of hk hg a13, f14, _, fun_mk (st := st_is_system) l14 c14 k14, PySem.W.mg_of hk hg a14, f15, _, fun_mk (st := st_numbers_in) l15 c15 k15, PySem.W.mg_of hk hg a15, f16, _, fun_mk (st := st_system_in) l16 c16 k16, PySem.W.mg_of hk hg a16, f17, _, fun_mk (st := st_only_line) l17 c17 k17, PySem.W.mg_of hk hg a17, f18, _, fun_mk (st := st_read_script) l18 c18 k18, PySem.W.mg_of hk hg a18, f19, _, fun_mk (st := st_read_system) l19 c19 k19, PySem.W.mg_of hk hg a19, f20, _, fun_mk (st := st_show_script) l20 c20 k20, PySem.W.mg_of hk hg a20, f21, _, fun_mk (st := st_show_system) l21 c21 k21, PySem.W.mg_of hk hg a21, f22, _, fun_mk (st := st_law_right) l22 c22 k22, PySem.W.mg_of hk hg a22, _, _, fun_mk (st := st_law) l23 c23 k23, PySem.W.mg_of hk hg a23, PySem.W.mg_none_of hk hg z_abs, PySem.W.mg_none_of hk hg z_all, PySem.W.mg_none_of hk hg z_bool, PySem.W.mg_none_of hk hg z_int, PySem.W.mg_none_of hk hg z_isinstance, PySem.W.mg_none_of hk hg z_len, PySem.W.mg_none_of hk hg z_max, PySem.W.mg_none_of hk hg z_min, PySem.W.mg_none_of hk hg z_range, PySem.W.mg_none_of hk hg z_repr, PySem.W.mg_none_of hk hg z_sorted, PySem.W.mg_none_of hk hg z_str, PySem.W.mg_none_of hk hg z_tuple, PySem.W.mg_none_of hk hg z_zip, ⟨t0, PySem.W.mg_of hk hg q_BLANK⟩, ⟨t1, PySem.W.mg_of hk hg q_DIGITS⟩, ⟨t2, PySem.W.mg_of hk hg q_FEED⟩, ⟨t3, PySem.W.mg_of hk hg q_KIND_PARTS⟩, ⟨t4, PySem.W.mg_of hk hg q_MOST_KINDS⟩, ⟨t5, PySem.W.mg_of hk hg q_MOST_LENGTH⟩, ⟨t6, PySem.W.mg_of hk hg q_MOST_WEIGHT⟩, ⟨t7, PySem.W.mg_of hk hg q_NOTHING⟩, ⟨t8, PySem.W.mg_of hk hg q_POP⟩, ⟨t9, PySem.W.mg_of hk hg q_STAR⟩⟩
  exact ⟨PySem.W.fnOf "law" "law" (defArgs st_law) (defBody st_law) (defScope st_law) .none kV23 dc23 pm23 an23 cd23 ct23, fun s v => .of_eq rfl, fun base _ _ hb => ok_law T hb⟩
end T
open PySem PySem.W PyProof.Rows
set_option maxHeartbeats 0 in
theorem PySem.Challenge.cw_wholering_k61_systems_and_scripts_as_tex_holds : PySem.Challenge.rw_wholering_k61_systems_and_scripts_as_tex.Holds := by
  refine T0head ?_
  k_fill
  refine T.walkG (l := PySem.Challenge.rw_wholering_k61_systems_and_scripts_as_tex) (n := 63) (k := 8) (x := "_law_script_here") (F := T.m_law) rfl (by decide) rfl ⟨⟨rfl, by decide, by decide⟩, rfl⟩ (fun w h Y => PySem.W.kIn_of Y) ?F (fun ns h => T.law_true ns h)
  case F =>
    intro w mg fa h KX G hmg
    refine' T.fx_mk KX G hmg ?a1 ?l1 ?c1 ?k1 ?a2 ?l2 ?c2 ?k2 ?a3 ?l3 ?c3 ?k3 ?a4 ?l4 ?c4 ?k4 ?a5 ?l5 ?c5 ?k5 ?a6 ?l6 ?c6 ?k6 ?a7 ?l7 ?c7 ?k7 ?a8 ?l8 ?c8 ?k8 ?a9 ?l9 ?c9 ?k9 ?a10 ?l10 ?c10 ?k10 ?a11 ?l11 ?c11 ?k11 ?a12 ?l12 ?c12 ?k12 ?lt12 ?vt12 ?a13 ?l13 ?c13 ?k13 ?a14 ?l14 ?c14 ?k14 ?a15 ?l15 ?c15 ?k15 ?a16 ?l16 ?c16 ?k16 ?a17 ?l17 ?c17 ?k17 ?a18 ?l18 ?c18 ?k18 ?a19 ?l19 ?c19 ?k19 ?a20 ?l20 ?c20 ?k20 ?a21 ?l21 ?c21 ?k21 ?a22 ?l22 ?c22 ?k22 ?a23 ?l23 ?c23 ?k23 ?z_abs ?z_all ?z_bool ?z_int ?z_isinstance ?z_len ?z_max ?z_min ?z_range ?z_repr ?z_sorted ?z_str ?z_tuple ?z_zip ?q_BLANK ?q_DIGITS ?q_FEED ?q_KIND_PARTS ?q_MOST_KINDS ?q_MOST_LENGTH ?q_MOST_WEIGHT ?q_NOTHING ?q_POP ?q_STAR
    (case a1 => k_is); (case l1 => k_is); (case c1 => k_is); (case k1 => k_is); (case a2 => k_is); (case l2 => k_is); (case c2 => k_is); (case k2 => k_is); (case a3 => k_is); (case l3 => k_is); (case c3 => k_is); (case k3 => k_is); (case a4 => k_is); (case l4 => k_is); (case c4 => k_is); (case k4 => k_is); (case a5 => k_is); (case l5 => k_is); (case c5 => k_is); (case k5 => k_is); (case a6 => k_is); (case l6 => k_is); (case c6 => k_is); (case k6 => k_is); (case a7 => k_is); (case l7 => k_is); (case c7 => k_is); (case k7 => k_is); (case a8 => k_is); (case l8 => k_is); (case c8 => k_is); (case k8 => k_is); (case a9 => k_is); (case l9 => k_is); (case c9 => k_is); (case k9 => k_is); (case a10 => k_is); (case l10 => k_is); (case c10 => k_is); (case k10 => k_is); (case a11 => k_is); (case l11 => k_is); (case c11 => k_is); (case k11 => k_is); (case a12 => k_is); (case l12 => k_is); (case c12 => k_is); (case k12 => k_is); (case lt12 => k_is); (case vt12 => exact .cons rfl (.nil)); (case a13 => k_is); (case l13 => k_is); (case c13 => k_is); (case k13 => k_is); (case a14 => k_is); (case l14 => k_is); (case c14 => k_is); (case k14 => k_is); (case a15 => k_is); (case l15 => k_is); (case c15 => k_is); (case k15 => k_is); (case a16 => k_is); (case l16 => k_is); (case c16 => k_is); (case k16 => k_is); (case a17 => k_is); (case l17 => k_is); (case c17 => k_is); (case k17 => k_is); (case a18 => k_is); (case l18 => k_is); (case c18 => k_is); (case k18 => k_is); (case a19 => k_is); (case l19 => k_is); (case c19 => k_is); (case k19 => k_is); (case a20 => k_is); (case l20 => k_is); (case c20 => k_is); (case k20 => k_is); (case a21 => k_is); (case l21 => k_is); (case c21 => k_is); (case k21 => k_is); (case a22 => k_is); (case l22 => k_is); (case c22 => k_is); (case k22 => k_is); (case a23 => k_is); (case l23 => k_is); (case c23 => k_is); (case k23 => k_is); (case z_abs => k_is); (case z_all => k_is); (case z_bool => k_is); (case z_int => k_is); (case z_isinstance => k_is); (case z_len => k_is); (case z_max => k_is); (case z_min => k_is); (case z_range => k_is); (case z_repr => k_is); (case z_sorted => k_is); (case z_str => k_is); (case z_tuple => k_is); (case z_zip => k_is); (case q_BLANK => k_is); (case q_DIGITS => k_is); (case q_FEED => k_is); (case q_KIND_PARTS => k_is); (case q_MOST_KINDS => k_is); (case q_MOST_LENGTH => k_is); (case q_MOST_WEIGHT => k_is); (case q_NOTHING => k_is); (case q_POP => k_is); (case q_STAR => k_is)
