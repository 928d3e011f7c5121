import PyProof.Rows.All
import Wide.All
import OpenK.AllK
import Wide.FinOn
import HandS.Base
import HandS.Call
import HandS.Words
import HandS.Ends
import HandS.Comp
import HandS.List
import HandS.Wide
import HandS.TupAny
import HandS.TupSets
import HandS.IsInst
import HandS.Style
import KE.GoesMore
import HandS.Zip
import PyProof.Conv_int
import KE.IntTextText
import KE.KIntText
import HandS.Text
import PySem.Challenge.RW_wholering_k70_sizes_of_shapes
set_option Elab.async false
set_option linter.all false
set_option maxRecDepth 100000
/-! T1: plain data D, how it lies in the heap (Rp), the frame of a def by plain data (SR). -/
namespace T
open PySem L2

/-- plain data -/
inductive D where
  | non | bl (b : Bool) | int (i : Int) | str (x : Str)
  | tup (xs : List D) | lst (xs : List D) | scr (xs : List D)
  | obj (c : Str) (ns : List Str) (ds : List D)
  | ty (n : String)

abbrev Fg := PySem.W.Frag
abbrev Mg := Str → Option Value
abbrev AP := Addr → Prop

/-- a list, a tuple of the written part -/
def KL (K : Fg) (a : Addr) (vs : List V) : Prop := SqL K (fun _ => none) a vs
def KT (K : Fg) (a : Addr) (vs : List V) : Prop := SqT K (fun _ => none) a vs
theorem KL.at {K : Fg} {a : Addr} {vs : List V} (h : KL K a vs) (H : Hp) : SqL K H a vs := by
  rcases h with (h | ⟨o, h⟩) | h
  · cases h
  · cases h
  · exact .inr h
theorem KT.at {K : Fg} {a : Addr} {vs : List V} (h : KT K a vs) (H : Hp) : SqT K H a vs := by
  rcases h with (h | ⟨o, h⟩) | h
  · cases h
  · cases h
  · exact .inr h

mutual
/-- v lies in H as the data d; no list, tuple, object of it stands where O says -/
inductive Rp (K : Fg) (mg : Mg) (O : AP) (H : Hp) : D → V → Prop
  | non : Rp K mg O H .non .non
  | bl (b : Bool) : Rp K mg O H (.bl b) (.bl b)
  | int (i : Int) : Rp K mg O H (.int i) (.int i)
  | str (x : Str) : Rp K mg O H (.str x) (.str x)
  | ty (n : String) : Rp K mg O H (.ty n) (.ty n)
  | tup {a : Addr} {vs : List V} {ds : List D} : (H a = some (.tup vs) ∧ ¬ O a) ∨ KT K a vs → Rps K mg O H ds vs → Rp K mg O H (.tup ds) (.ref a)
  | lst {a : Addr} {vs : List V} {ds : List D} : H a = some (.lst vs) ∧ ¬ O a → Rps K mg O H ds vs → Rp K mg O H (.lst ds) (.ref a)
  | scr {a : Addr} {vs : List V} {ds : List D} : (Rd H a (.lst vs) ∧ ¬ O a) ∨ KL K a vs → Rps K mg O H ds vs → Rp K mg O H (.scr ds) (.ref a)
  | obj {a C dx : Addr} {c : Str} {fs : List (Str × V)} {ns : List Str} {ds : List D} {vs : List V} : ¬ O a → mg c = some (.ref C) → H a = some (.ins C dx fs) → fs.map (·.1) = ns → fs.map (·.2) = vs → Rps K mg O H ds vs → Rp K mg O H (.obj c ns ds) (.ref a)
inductive Rps (K : Fg) (mg : Mg) (O : AP) (H : Hp) : List D → List V → Prop
  | nil : Rps K mg O H [] []
  | cons {d : D} {v : V} {ds : List D} {vs : List V} : Rp K mg O H d v → Rps K mg O H ds vs → Rps K mg O H (d :: ds) (v :: vs)
end

section
variable {K : Fg} {mg : Mg} {O O' : AP} {H H' : Hp}
theorem rd_step {a : Addr} {u : HO} (hk : ∀ a o, ¬ O a → H a = some o → H' a = some o) (ho : ∀ a o, O' a → H a = some o → O a) (h : Rd H a u ∧ ¬ O a) : Rd H' a u ∧ ¬ O' a := by
  obtain ⟨h, n⟩ := h
  rcases h with h | ⟨o, h⟩
  · exact ⟨.inl (hk _ _ n h), fun z => n (ho _ _ z h)⟩
  · exact ⟨.inr ⟨o, hk _ _ n h⟩, fun z => n (ho _ _ z h)⟩
theorem at_step {a : Addr} {u : HO} (hk : ∀ a o, ¬ O a → H a = some o → H' a = some o) (ho : ∀ a o, O' a → H a = some o → O a) (h : H a = some u ∧ ¬ O a) : H' a = some u ∧ ¬ O' a := ⟨hk _ _ h.2 h.1, fun z => h.2 (ho _ _ z h.1)⟩
mutual
theorem Rp.step (hk : ∀ a o, ¬ O a → H a = some o → H' a = some o) (ho : ∀ a o, O' a → H a = some o → O a) : ∀ {d : D} {v : V}, Rp K mg O H d v → Rp K mg O' H' d v
  | _, _, .non => .non
  | _, _, .bl b => .bl b
  | _, _, .int i => .int i
  | _, _, .str x => .str x
  | _, _, .ty n => .ty n
  | _, _, .tup h r => .tup (h.imp (at_step hk ho) id) (Rps.step hk ho r)
  | _, _, .lst h r => .lst (at_step hk ho h) (Rps.step hk ho r)
  | _, _, .scr h r => .scr (h.imp (rd_step hk ho) id) (Rps.step hk ho r)
  | _, _, .obj n m h e e2 r => .obj (fun z => n (ho _ _ z h)) m (hk _ _ n h) e e2 (Rps.step hk ho r)
theorem Rps.step (hk : ∀ a o, ¬ O a → H a = some o → H' a = some o) (ho : ∀ a o, O' a → H a = some o → O a) : ∀ {ds : List D} {vs : List V}, Rps K mg O H ds vs → Rps K mg O' H' ds vs
  | _, _, .nil => .nil
  | _, _, .cons h r => .cons (Rp.step hk ho h) (Rps.step hk ho r)
end
theorem Rp.sub (ho : ∀ a, O' a → O a) {d : D} {v : V} (h : Rp K mg O H d v) : Rp K mg O' H d v := h.step (fun _ _ _ e => e) fun a _ z _ => ho a z
theorem Rps.sub (ho : ∀ a, O' a → O a) {ds : List D} {vs : List V} (h : Rps K mg O H ds vs) : Rps K mg O' H ds vs := h.step (fun _ _ _ e => e) fun a _ z _ => ho a z
theorem Rps.len : ∀ {ds : List D} {vs : List V}, Rps K mg O H ds vs → ds.length = vs.length
  | _, _, .nil => rfl
  | _, _, .cons _ r => congrArg (· + 1) r.len
theorem Rps.get : ∀ {ds : List D} {vs : List V} {i : Nat} {d : D}, Rps K mg O H ds vs → ds[i]? = some d → ∃ v, vs[i]? = some v ∧ Rp K mg O H d v
  | _, _, _, _, .nil, e => by simp at e
  | _, _, 0, _, .cons h _, e => by simp at e; subst e; exact ⟨_, rfl, h⟩
  | _, _, i + 1, _, .cons _ r, e => by
    obtain ⟨v, h1, h2⟩ := r.get (i := i) (by simpa using e)
    exact ⟨v, by simpa using h1, h2⟩
theorem Rps.getV : ∀ {ds : List D} {vs : List V} {i : Nat} {v : V}, Rps K mg O H ds vs → vs[i]? = some v → ∃ d, ds[i]? = some d ∧ Rp K mg O H d v
  | _, _, _, _, .nil, e => by simp at e
  | _, _, 0, _, .cons h _, e => by simp at e; subst e; exact ⟨_, rfl, h⟩
  | _, _, i + 1, _, .cons _ r, e => by
    obtain ⟨d, h1, h2⟩ := r.getV (i := i) (by simpa using e)
    exact ⟨d, by simpa using h1, h2⟩
theorem Rps.app : ∀ {ds es : List D} {vs us : List V}, Rps K mg O H ds vs → Rps K mg O H es us → Rps K mg O H (ds ++ es) (vs ++ us)
  | _, _, _, _, .nil, s => s
  | _, _, _, _, .cons h r, s => .cons h (r.app s)
theorem Rps.set {d : D} {v : V} (h : Rp K mg O H d v) : ∀ {ds : List D} {vs : List V} (i : Nat), Rps K mg O H ds vs → Rps K mg O H (ds.set i d) (vs.set i v)
  | _, _, _, .nil => .nil
  | _, _, 0, .cons _ r => .cons h r
  | _, _, i + 1, .cons q r => .cons q (Rps.set h i r)
theorem Rps.take : ∀ {ds : List D} {vs : List V} (n : Nat), Rps K mg O H ds vs → Rps K mg O H (ds.take n) (vs.take n)
  | _, _, 0, _ => .nil
  | _, _, _ + 1, .nil => .nil
  | _, _, n + 1, .cons h r => .cons h (r.take n)
theorem Rps.drop : ∀ {ds : List D} {vs : List V} (n : Nat), Rps K mg O H ds vs → Rps K mg O H (ds.drop n) (vs.drop n)
  | _, _, 0, r => r
  | _, _, _ + 1, .nil => .nil
  | _, _, n + 1, .cons _ r => r.drop n
theorem Rps.one {d : D} {v : V} (h : Rp K mg O H d v) : Rps K mg O H [d] [v] := .cons h .nil
theorem Rp.tupAt {ds : List D} {v : V} (h : Rp K mg O H (.tup ds) v) : ∃ a vs, v = .ref a ∧ SqT K H a vs ∧ Rps K mg O H ds vs := by
  cases h with
  | tup h r =>
    rcases h with h | h
    · exact ⟨_, _, rfl, .inl (.inl h.1), r⟩
    · exact ⟨_, _, rfl, h.at H, r⟩
theorem Rp.lstAt {ds : List D} {v : V} (h : Rp K mg O H (.lst ds) v) : ∃ a vs, v = .ref a ∧ H a = some (.lst vs) ∧ Rps K mg O H ds vs := by
  cases h with
  | lst h r => exact ⟨_, _, rfl, h.1, r⟩
/-- a list in the wide sense: one of the program's, or the script -/
def D.items : D → Option (List D)
  | .lst ds => some ds
  | .scr ds => some ds
  | _ => none
theorem Rp.itemsAt {d : D} {ds : List D} {v : V} (h : Rp K mg O H d v) (e : d.items = some ds) : ∃ a vs, v = .ref a ∧ SqL K H a vs ∧ Rps K mg O H ds vs := by
  cases h with
  | lst h r => cases e; exact ⟨_, _, rfl, .inl (.inl h.1), r⟩
  | scr h r =>
    cases e
    rcases h with h | h
    · exact ⟨_, _, rfl, .inl h.1, r⟩
    · exact ⟨_, _, rfl, h.at H, r⟩
  | _ => cases e
end

/-- a list, an object that stands at a and may be written: nobody else holds it -/
def Own (K : Fg) (mg : Mg) (O : AP) (H : Hp) (d : D) (a : Addr) : Prop := match d with
  | .lst ds => ∃ vs, H a = some (.lst vs) ∧ Rps K mg O H ds vs
  | .obj c ns ds => ∃ (C dx : Addr) (fs : List (Str × V)) (vs : List V), mg c = some (.ref C) ∧ H a = some (.ins C dx fs) ∧ fs.map (·.1) = ns ∧ fs.map (·.2) = vs ∧ Rps K mg O H ds vs
  | _ => False
section
variable {K : Fg} {mg : Mg} {O O' : AP} {H H' : Hp} {d : D} {a : Addr}
theorem Own.tr (h : Own K mg O H d a) : ∃ o, H a = some o := by
  cases d with
  | lst ds => obtain ⟨vs, h, _⟩ := h; exact ⟨_, h⟩
  | obj c ns ds => obtain ⟨C, dx, fs, vs, _, h, _⟩ := h; exact ⟨_, h⟩
  | _ => exact h.elim
theorem Own.step (hk : ∀ a o, ¬ O a → H a = some o → H' a = some o) (ho : ∀ a o, O' a → H a = some o → O a) (ha : ∀ o, H a = some o → H' a = some o) (h : Own K mg O H d a) : Own K mg O' H' d a := by
  cases d with
  | lst ds => obtain ⟨vs, h, r⟩ := h; exact ⟨vs, ha _ h, r.step hk ho⟩
  | obj c ns ds => obtain ⟨C, dx, fs, vs, m, h, e, e2, r⟩ := h; exact ⟨C, dx, fs, vs, m, ha _ h, e, e2, r.step hk ho⟩
  | _ => exact h.elim
theorem Own.sub (ho : ∀ a, O' a → O a) (h : Own K mg O H d a) : Own K mg O' H d a := h.step (fun _ _ _ e => e) (fun a _ z _ => ho a z) fun _ e => e
/-- from now on nobody writes it -/
theorem Own.shared (ho : ∀ b, O' b → O b) (n : ¬ O' a) (h : Own K mg O H d a) : Rp K mg O' H d (.ref a) := by
  cases d with
  | lst ds => obtain ⟨vs, h, r⟩ := h; exact .lst ⟨h, n⟩ (r.sub ho)
  | obj c ns ds => obtain ⟨C, dx, fs, vs, m, h, e, e2, r⟩ := h; exact .obj n m h e e2 (r.sub ho)
  | _ => exact h.elim
end

/-- a slot of the frame: nothing is known; shared data; data of its own, made here; data of the caller's that may be written -/
inductive Sl where
  | no | sh (d : D) | ow (d : D) | io (d : D)
abbrev Ev := List Sl

def Sl.own : Sl → Option D
  | .ow d => some d
  | .io d => some d
  | _ => none
/-- what the frame's slots own -/
def Ownd (ρ : Ev) (σ : St) (a : Addr) : Prop := ∃ (i : Nat) (s : Sl) (d : D), ρ[i]? = some s ∧ s.own = some d ∧ σ[i]? = some (some (.ref a))
def Ex (E : AP) (ρ : Ev) (σ : St) (a : Addr) : Prop := E a ∨ Ownd ρ σ a

/-- the world around a def: R what stays as it is, E what is reserved, N what was not there at the entry, B the arguments -/
structure Wd where
  R : Hp
  E : AP
  N : AP
  B : St
def Wd.plus (w : Wd) (p : Addr) : Wd := { w with E := fun a => w.E a ∨ a = p }

def SlotR (K : Fg) (mg : Mg) (w : Wd) (O : AP) (H : Hp) (s : Sl) (v : Option V) : Prop := match s with
  | .no => True
  | .sh d => ∃ x, v = some x ∧ Rp K mg O H d x
  | .ow d => ∃ a, v = some (.ref a) ∧ w.R a = none ∧ w.N a ∧ Own K mg O H d a
  | .io d => ∃ a, v = some (.ref a) ∧ w.R a = none ∧ Own K mg O H d a

structure SR (K : Fg) (mg : Mg) (w : Wd) (ρ : Ev) (σ : St) (H : Hp) : Prop where
  len : ρ.length = σ.length
  slot : ∀ (i : Nat) (s : Sl) (v : Option V), ρ[i]? = some s → σ[i]? = some v → SlotR K mg w (Ex w.E ρ σ) H s v
  inj : ∀ (i j : Nat) (s t : Sl) (d e : D) (a : Addr), ρ[i]? = some s → s.own = some d → ρ[j]? = some t → t.own = some e → σ[i]? = some (some (.ref a)) → σ[j]? = some (some (.ref a)) → i = j
  exo : ∀ a, Ownd ρ σ a → ¬ w.E a
  keep : ∀ a o, w.R a = some o → H a = some o
  fresh : ∀ a, H a = none → w.N a
  etr : ∀ a, w.E a → ∃ o, H a = some o
  iob : ∀ (i : Nat) (d : D), ρ[i]? = some (.io d) → σ[i]? = w.B[i]?

section
variable {K : Fg} {mg : Mg} {w : Wd} {ρ ρ' : Ev} {σ σ' : St} {H H' : Hp} {a p : Addr} {d : D} {v : V} {i : Nat}
theorem SR.at (S : SR K mg w ρ σ H) {s : Sl} (h : ρ[i]? = some s) : ∃ v, σ[i]? = some v ∧ SlotR K mg w (Ex w.E ρ σ) H s v := by
  have hl : i < σ.length := by rw [← S.len]; exact (List.getElem?_eq_some_iff.mp h).1
  exact ⟨σ[i], List.getElem?_eq_getElem hl, S.slot i s _ h (List.getElem?_eq_getElem hl)⟩
theorem SR.sh (S : SR K mg w ρ σ H) (h : ρ[i]? = some (.sh d)) : ∃ v, σ[i]? = some (some v) ∧ Rp K mg (Ex w.E ρ σ) H d v := by
  obtain ⟨v, e, x, rfl, r⟩ := S.at h
  exact ⟨x, e, r⟩
theorem SR.ow (S : SR K mg w ρ σ H) {s : Sl} (h : ρ[i]? = some s) (hs : s.own = some d) : ∃ a, σ[i]? = some (some (.ref a)) ∧ w.R a = none ∧ Own K mg (Ex w.E ρ σ) H d a := by
  obtain ⟨v, e, r⟩ := S.at h
  cases s with
  | ow d' => cases hs; obtain ⟨a, rfl, h1, h2, h3⟩ := r; exact ⟨a, e, h1, h3⟩
  | io d' => cases hs; obtain ⟨a, rfl, h1, h3⟩ := r; exact ⟨a, e, h1, h3⟩
  | no => cases hs
  | sh d' => cases hs
theorem SR.ownd (S : SR K mg w ρ σ H) (h : Ownd ρ σ a) : w.R a = none ∧ ∃ o, H a = some o := by
  obtain ⟨i, s, d, h1, h2, h3⟩ := h
  obtain ⟨b, e, r, o⟩ := S.ow h1 h2
  rw [h3] at e
  cases e
  exact ⟨r, o.tr⟩
theorem SR.ex_tr (S : SR K mg w ρ σ H) (h : Ex w.E ρ σ a) : ∃ o, H a = some o := by
  rcases h with h | h
  · exact S.etr a h
  · exact (S.ownd h).2
theorem SR.not_ex (S : SR K mg w ρ σ H) (h : H a = none) : ¬ Ex w.E ρ σ a := fun z => by
  obtain ⟨o, e⟩ := S.ex_tr z
  rw [h] at e
  cases e
theorem SR.r_none (S : SR K mg w ρ σ H) (h : H a = none) : w.R a = none := by
  cases e : w.R a with
  | none => rfl
  | some o => rw [S.keep a o e] at h; cases h

open Classical in
/-- all that stands but what the frame owns -/
noncomputable def full (ρ : Ev) (σ : St) (H : Hp) : Hp := fun a => if Ownd ρ σ a then none else H a
theorem full_of {o : HO} (n : ¬ Ownd ρ σ a) (h : H a = some o) : full ρ σ H a = some o := by unfold full; rw [if_neg n]; exact h
theorem full_own (n : Ownd ρ σ a) : full ρ σ H a = none := by unfold full; rw [if_pos n]
theorem of_full {o : HO} (h : full ρ σ H a = some o) : ¬ Ownd ρ σ a ∧ H a = some o := by
  unfold full at h
  split at h
  · cases h
  · rename_i n; exact ⟨n, h⟩
noncomputable def Wd.fill (w : Wd) (ρ : Ev) (σ : St) (H : Hp) : Wd := { w with R := full ρ σ H }
theorem SlotR.world {O : AP} {s : Sl} {x : Option V} {w' : Wd} (hR : ∀ a, x = some (.ref a) → s.own.isSome = true → w.R a = none → w'.R a = none) (hN : ∀ a, w.N a → w'.N a) (h : SlotR K mg w O H s x) : SlotR K mg w' O H s x := by
  cases s with
  | no => trivial
  | sh d => exact h
  | ow d => obtain ⟨a, e, h1, h2, h3⟩ := h; exact ⟨a, e, hR a e rfl h1, hN a h2, h3⟩
  | io d => obtain ⟨a, e, h1, h3⟩ := h; exact ⟨a, e, hR a e rfl h1, h3⟩
theorem SlotR.step {O O' : AP} {s : Sl} {x : Option V} (hk : ∀ a o, ¬ O a → H a = some o → H' a = some o) (ho : ∀ a o, O' a → H a = some o → O a) (ha : ∀ a o, x = some (.ref a) → s.own.isSome = true → H a = some o → H' a = some o)
    (h : SlotR K mg w O H s x) : SlotR K mg w O' H' s x := by
  cases s with
  | no => trivial
  | sh d => obtain ⟨y, e, r⟩ := h; exact ⟨y, e, r.step hk ho⟩
  | ow d => obtain ⟨a, e, h1, h2, h3⟩ := h; exact ⟨a, e, h1, h2, h3.step hk ho fun o => ha a o e rfl⟩
  | io d => obtain ⟨a, e, h1, h3⟩ := h; exact ⟨a, e, h1, h3.step hk ho fun o => ha a o e rfl⟩
/-- what stands is kept from here on -/
theorem SR.fill (S : SR K mg w ρ σ H) : SR K mg (w.fill ρ σ H) ρ σ H :=
  ⟨S.len, fun i s v h1 h2 => SlotR.world (w := w) (w' := w.fill ρ σ H) (fun a e ho _ => by
      obtain ⟨d, hd⟩ := Option.isSome_iff_exists.mp ho
      exact full_own ⟨i, s, d, h1, hd, by rw [h2, e]⟩) (fun _ z => z) (S.slot i s v h1 h2), S.inj, S.exo, fun a o h => (of_full h).2, S.fresh, S.etr, S.iob⟩
theorem SR.in_full (S : SR K mg w ρ σ H) {o : HO} (h : w.R a = some o) : full ρ σ H a = some o := full_of (fun z => by rw [(S.ownd z).1] at h; cases h) (S.keep a o h)
theorem SR.thin {w' : Wd} (S : SR K mg w' ρ σ H) (hE : w'.E = w.E) (hN : w'.N = w.N) (hB : w'.B = w.B) (hR : ∀ a o, w.R a = some o → w'.R a = some o) : SR K mg w ρ σ H := by
  obtain ⟨R, E, N, B⟩ := w
  obtain ⟨R', E', N', B'⟩ := w'
  cases hE; cases hN; cases hB
  exact ⟨S.len, fun i s v h1 h2 => SlotR.world (w := ⟨R', E, N, B⟩) (w' := ⟨R, E, N, B⟩) (fun a _ _ h => by
      show R a = none
      cases e : R a with
      | none => rfl
      | some o =>
        have h' : R' a = none := h
        rw [show R' a = some o from hR a o e] at h'; cases h') (fun _ z => z) (S.slot i s v h1 h2), S.inj, S.exo, fun a o h => S.keep a o (hR a o h), S.fresh, S.etr, S.iob⟩
/-- back from the fuller world -/
theorem SR.back (S : SR K mg w ρ σ H) (S2 : SR K mg (w.fill ρ σ H) ρ' σ' H') : SR K mg w ρ' σ' H' := S2.thin rfl rfl rfl fun _ _ h => S.in_full h
/-- what was known of data is known still -/
theorem SR.keeps (S : SR K mg w ρ σ H) {w2 : Wd} (S2 : SR K mg w2 ρ' σ' H') (hR : w2.R = full ρ σ H) (hE : ∀ a o, w2.E a → H a = some o → Ex w.E ρ σ a) : (∀ a o, ¬ Ex w.E ρ σ a → H a = some o → H' a = some o) ∧ (∀ a o, Ex w2.E ρ' σ' a → H a = some o → Ex w.E ρ σ a) := by
  refine ⟨fun a o n h => S2.keep a o ?_, fun a o z h => ?_⟩
  · rw [hR]; exact full_of (fun q => n (.inr q)) h
  · rcases z with z | z
    · exact hE a o z h
    · have q := (S2.ownd z).1
      rw [hR] at q
      by_cases c : Ownd ρ σ a
      · exact .inr c
      · rw [full_of c h] at q; cases q
theorem SR.carry (S : SR K mg w ρ σ H) (S2 : SR K mg (w.fill ρ σ H) ρ' σ' H') (h : Rp K mg (Ex w.E ρ σ) H d v) : Rp K mg (Ex w.E ρ' σ') H' d v :=
  let q := S.keeps S2 rfl fun _ _ z _ => .inl z
  h.step q.1 q.2
theorem SR.carrys {ds : List D} {vs : List V} (S : SR K mg w ρ σ H) (S2 : SR K mg (w.fill ρ σ H) ρ' σ' H') (h : Rps K mg (Ex w.E ρ σ) H ds vs) : Rps K mg (Ex w.E ρ' σ') H' ds vs :=
  let q := S.keeps S2 rfl fun _ _ z _ => .inl z
  h.step q.1 q.2

/-! ### values -/
def VR (K : Fg) (mg : Mg) (w : Wd) (ρ : Ev) (σ : St) (H : Hp) (s : Sl) (v : V) : Prop := match s with
  | .sh d => SR K mg w ρ σ H ∧ Rp K mg (Ex w.E ρ σ) H d v
  | .ow d => ∃ p, v = .ref p ∧ w.R p = none ∧ w.N p ∧ ¬ w.E p ∧ ¬ Ownd ρ σ p ∧ SR K mg (w.plus p) ρ σ H ∧ Own K mg (Ex (w.plus p).E ρ σ) H d p
  | _ => False
/-- the data of a value -/
def vl : Sl → Option D
  | .sh d => some d
  | .ow d => some d
  | _ => none
theorem SR.minus (S : SR K mg (w.plus p) ρ σ H) : SR K mg w ρ σ H := by
  have ex : ∀ a, Ex w.E ρ σ a → Ex (w.plus p).E ρ σ a := fun a z => z.imp .inl id
  exact ⟨S.len, fun i s v h1 h2 => ((S.slot i s v h1 h2).step (fun _ _ _ e => e) (fun a _ z _ => ex a z) fun _ _ _ _ e => e).world (fun _ _ _ e => e) fun _ e => e, S.inj, fun a z e => S.exo a z (.inl e), S.keep, S.fresh, fun a e => S.etr a (.inl e), S.iob⟩
theorem VR.sh {s : Sl} (h : VR K mg w ρ σ H s v) (hd : vl s = some d) : SR K mg w ρ σ H ∧ Rp K mg (Ex w.E ρ σ) H d v := by
  cases s with
  | sh d' => cases hd; exact h
  | ow d' =>
    cases hd
    obtain ⟨p, rfl, _, _, n1, n2, S, o⟩ := h
    exact ⟨S.minus, o.shared (fun a z => z.imp .inl id) fun z => z.elim n1 n2⟩
  | no => cases hd
  | io d' => cases hd
/-- a new thing -/
theorem SR.push {o : HO} (S : SR K mg w ρ σ H) (hp : H p = none) : SR K mg (w.plus p) ρ σ (upd H p o) := by
  have np : ∀ {a o}, H a = some o → a ≠ p := fun {a o} e z => by rw [z, hp] at e; cases e
  have up : ∀ a o', H a = some o' → upd H p o a = some o' := fun a o' e => by rw [upd_ne (np e)]; exact e
  have ex : ∀ a o', Ex (w.plus p).E ρ σ a → H a = some o' → Ex w.E ρ σ a := fun a o' z e => by
    rcases z with (z | z) | z
    · exact .inl z
    · exact absurd z (np e)
    · exact .inr z
  refine ⟨S.len, fun i s v h1 h2 => ((S.slot i s v h1 h2).step (fun a o' _ e => up a o' e) ex fun a o' _ _ e => up a o' e).world (fun _ _ _ e => e) fun _ e => e, S.inj, fun a z e => ?_, fun a o' e => up a o' (S.keep a o' e), fun a e => S.fresh a ?_, fun a e => ?_, S.iob⟩
  · rcases e with e | e
    · exact S.exo a z e
    · obtain ⟨_, o', h⟩ := S.ownd z
      exact np h e
  · cases q : H a with
    | none => rfl
    | some o' => rw [up a o' q] at e; cases e
  · rcases e with e | e
    · obtain ⟨o', h⟩ := S.etr a e
      exact ⟨o', up a o' h⟩
    · exact ⟨o, by rw [e, upd_same]⟩
theorem Rps.push {o : HO} {ds : List D} {vs : List V} (S : SR K mg w ρ σ H) (hp : H p = none) (h : Rps K mg (Ex w.E ρ σ) H ds vs) : Rps K mg (Ex (w.plus p).E ρ σ) (upd H p o) ds vs := by
  have np : ∀ {a o}, H a = some o → a ≠ p := fun {a o} e z => by rw [z, hp] at e; cases e
  refine h.step (fun a o' _ e => by rw [upd_ne (np e)]; exact e) fun a o' z e => ?_
  rcases z with (z | z) | z
  · exact .inl z
  · exact absurd z (np e)
  · exact .inr z
theorem Rp.push {o : HO} (S : SR K mg w ρ σ H) (hp : H p = none) (h : Rp K mg (Ex w.E ρ σ) H d v) : Rp K mg (Ex (w.plus p).E ρ σ) (upd H p o) d v := by
  have q := Rps.push (o := o) S hp (.one h)
  cases q with
  | cons h _ => exact h
theorem VR.newL {ds : List D} {vs : List V} (S : SR K mg w ρ σ H) (hp : H p = none) (h : Rps K mg (Ex w.E ρ σ) H ds vs) : VR K mg w ρ σ (upd H p (.lst vs)) (.ow (.lst ds)) (.ref p) :=
  have n := S.not_ex hp
  ⟨p, rfl, S.r_none hp, S.fresh p hp, fun z => n (.inl z), fun z => n (.inr z), S.push hp, vs, upd_same, h.push S hp⟩
theorem VR.newT {ds : List D} {vs : List V} (S : SR K mg w ρ σ H) (hp : H p = none) (h : Rps K mg (Ex w.E ρ σ) H ds vs) : VR K mg w ρ σ (upd H p (.tup vs)) (.sh (.tup ds)) (.ref p) :=
  ⟨(S.push hp).minus, .tup (.inl ⟨upd_same, S.not_ex hp⟩) ((h.push S hp).sub fun a z => z.imp .inl id)⟩

/-! ### slots stored -/
theorem own_set {s : Sl} {x : Option V} (h : Ownd (ρ.set i s) (σ.set i x) a) : (s.own.isSome = true ∧ x = some (.ref a) ∧ i < ρ.length) ∨ ∃ (j : Nat) (t : Sl) (d : D), j ≠ i ∧ ρ[j]? = some t ∧ t.own = some d ∧ σ[j]? = some (some (.ref a)) := by
  obtain ⟨j, t, d, h1, h2, h3⟩ := h
  by_cases hj : j = i
  · subst hj
    have hl : j < ρ.length := by simpa using (List.getElem?_eq_some_iff.mp h1).1
    have hl2 : j < σ.length := by simpa using (List.getElem?_eq_some_iff.mp h3).1
    rw [List.getElem?_set_self hl] at h1
    rw [List.getElem?_set_self hl2] at h3
    cases h1
    exact .inl ⟨by rw [h2]; rfl, Option.some.inj h3, hl⟩
  · rw [List.getElem?_set_ne (Ne.symm hj)] at h1 h3
    exact .inr ⟨j, t, d, hj, h1, h2, h3⟩
theorem SR.setSh (S : SR K mg w ρ σ H) (h : Rp K mg (Ex w.E ρ σ) H d v) : SR K mg w (ρ.set i (.sh d)) (σ.set i (some v)) H := by
  have ow : ∀ a, Ownd (ρ.set i (.sh d)) (σ.set i (some v)) a → Ownd ρ σ a := fun a z => by
    rcases own_set z with ⟨z, _⟩ | ⟨j, t, d, _, h1, h2, h3⟩
    · cases z
    · exact ⟨j, t, d, h1, h2, h3⟩
  have ex : ∀ a, Ex w.E (ρ.set i (.sh d)) (σ.set i (some v)) a → Ex w.E ρ σ a := fun a z => z.imp id (ow a)
  refine ⟨by simpa using S.len, fun j s x h1 h2 => ?_, fun j k s t d e a h1 h2 h3 h4 h5 h6 => ?_, fun a z => S.exo a (ow a z), S.keep, S.fresh, S.etr, fun j d' h => ?_⟩
  · by_cases hj : j = i
    · subst hj
      have hl : j < ρ.length := by simpa using (List.getElem?_eq_some_iff.mp h1).1
      rw [List.getElem?_set_self hl] at h1
      rw [List.getElem?_set_self (by rw [← S.len]; exact hl)] at h2
      cases h1; cases h2
      exact ⟨v, rfl, h.sub ex⟩
    · rw [List.getElem?_set_ne (Ne.symm hj)] at h1 h2
      exact (S.slot j s x h1 h2).step (fun _ _ _ e => e) (fun a _ z _ => ex a z) fun _ _ _ _ e => e
  · by_cases hj : j = i
    · subst hj
      have hl : j < ρ.length := by simpa using (List.getElem?_eq_some_iff.mp h1).1
      rw [List.getElem?_set_self hl] at h1
      cases h1; cases h2
    · by_cases hk : k = i
      · subst hk
        have hl : k < ρ.length := by simpa using (List.getElem?_eq_some_iff.mp h3).1
        rw [List.getElem?_set_self hl] at h3
        cases h3; cases h4
      · rw [List.getElem?_set_ne (Ne.symm hj)] at h1 h5
        rw [List.getElem?_set_ne (Ne.symm hk)] at h3 h6
        exact S.inj j k s t d e a h1 h2 h3 h4 h5 h6
  · by_cases hj : j = i
    · subst hj
      have hl : j < ρ.length := by simpa using (List.getElem?_eq_some_iff.mp h).1
      rw [List.getElem?_set_self hl] at h
      cases h
    · rw [List.getElem?_set_ne (Ne.symm hj)] at h ⊢
      exact S.iob j d' h
/-- the slot takes the new thing over -/
theorem SR.setOw (S : SR K mg (w.plus p) ρ σ H) (h1 : w.R p = none) (h2 : w.N p) (h3 : ¬ w.E p) (h4 : ¬ Ownd ρ σ p) (h : Own K mg (Ex (w.plus p).E ρ σ) H d p) : SR K mg w (ρ.set i (.ow d)) (σ.set i (some (.ref p))) H := by
  have ow : ∀ a, Ownd (ρ.set i (.ow d)) (σ.set i (some (.ref p))) a → (a = p ∧ i < ρ.length) ∨ Ownd ρ σ a := fun a z => by
    rcases own_set z with ⟨_, z, l⟩ | ⟨j, t, d, _, h1, h2, h3⟩
    · cases z; exact .inl ⟨rfl, l⟩
    · exact .inr ⟨j, t, d, h1, h2, h3⟩
  have ex : ∀ a, Ex w.E (ρ.set i (.ow d)) (σ.set i (some (.ref p))) a → Ex (w.plus p).E ρ σ a := fun a z => by
    rcases z with z | z
    · exact .inl (.inl z)
    · rcases ow a z with z | z
      · exact .inl (.inr z.1)
      · exact .inr z
  refine ⟨by simpa using S.len, fun j s x e1 e2 => ?_, fun j k s t d' e a e1 e2 e3 e4 e5 e6 => ?_, fun a z => ?_, S.keep, S.fresh, fun a z => S.etr a (.inl z), fun j d' e => ?_⟩
  · by_cases hj : j = i
    · subst hj
      have hl : j < ρ.length := by simpa using (List.getElem?_eq_some_iff.mp e1).1
      rw [List.getElem?_set_self hl] at e1
      rw [List.getElem?_set_self (by rw [← S.len]; exact hl)] at e2
      cases e1; cases e2
      exact ⟨p, rfl, h1, h2, h.sub ex⟩
    · rw [List.getElem?_set_ne (Ne.symm hj)] at e1 e2
      exact ((S.slot j s x e1 e2).step (fun _ _ _ e => e) (fun a _ z _ => ex a z) fun _ _ _ _ e => e).world (fun _ _ _ e => e) fun _ e => e
  · have hn : ∀ m (u : Sl) (g : D), m ≠ i → (ρ.set i (.ow d))[m]? = some u → u.own = some g → (σ.set i (some (V.ref p)))[m]? = some (some (V.ref p)) → False := fun m u g hm q1 q2 q3 => by
      rw [List.getElem?_set_ne (Ne.symm hm)] at q1 q3
      exact h4 ⟨m, u, g, q1, q2, q3⟩
    have hs : ∀ {m : Nat} {b : Addr}, m = i → (σ.set i (some (V.ref p)))[m]? = some (some (V.ref b)) → b = p := fun {m b} hm q => by
      subst hm
      have hl : m < σ.length := by simpa using (List.getElem?_eq_some_iff.mp q).1
      rw [List.getElem?_set_self hl] at q
      cases q; rfl
    by_cases hj : j = i
    · by_cases hk : k = i
      · rw [hj, hk]
      · have q := hs hj e5
        subst q
        exact (hn k t e hk e3 e4 e6).elim
    · by_cases hk : k = i
      · have q := hs hk e6
        subst q
        exact (hn j s d' hj e1 e2 e5).elim
      · rw [List.getElem?_set_ne (Ne.symm hj)] at e1 e5
        rw [List.getElem?_set_ne (Ne.symm hk)] at e3 e6
        exact S.inj j k s t d' e a e1 e2 e3 e4 e5 e6
  · rcases ow a z with ⟨z, _⟩ | z
    · rw [z]; exact h3
    · exact fun e => S.exo a z (.inl e)
  · by_cases hj : j = i
    · subst hj
      have hl : j < ρ.length := by simpa using (List.getElem?_eq_some_iff.mp e).1
      rw [List.getElem?_set_self hl] at e
      cases e
    · rw [List.getElem?_set_ne (Ne.symm hj)] at e ⊢
      exact S.iob j d' e
/-- a slot is forgotten -/
theorem SR.setNo (S : SR K mg w ρ σ H) : SR K mg w (ρ.set i .no) σ H := by
  have sub : ∀ {j : Nat} {s : Sl}, (ρ.set i .no)[j]? = some s → s = .no ∨ ρ[j]? = some s := fun {j s} h => by
    by_cases hj : j = i
    · subst hj
      have hl : j < ρ.length := by simpa using (List.getElem?_eq_some_iff.mp h).1
      rw [List.getElem?_set_self hl] at h
      exact .inl (Option.some.inj h).symm
    · rw [List.getElem?_set_ne (Ne.symm hj)] at h
      exact .inr h
  have sub' : ∀ {j : Nat} {s : Sl} {e : D}, (ρ.set i .no)[j]? = some s → s.own = some e → ρ[j]? = some s := fun {j s e} h q => by
    rcases sub h with rfl | h
    · cases q
    · exact h
  have ow : ∀ a, Ownd (ρ.set i .no) σ a → Ownd ρ σ a := fun a ⟨j, s, d, h1, h2, h3⟩ => ⟨j, s, d, sub' h1 h2, h2, h3⟩
  refine ⟨by simpa using S.len, fun j s x h1 h2 => ?_, fun j k s t d e a h1 h2 h3 h4 h5 h6 => S.inj j k s t d e a (sub' h1 h2) h2 (sub' h3 h4) h4 h5 h6, fun a z => S.exo a (ow a z), S.keep, S.fresh, S.etr, fun j d' h => ?_⟩
  · rcases sub h1 with rfl | h1
    · trivial
    · exact (S.slot j s x h1 h2).step (fun _ _ _ e => e) (fun a _ z _ => z.imp id (ow a)) fun _ _ _ _ e => e
  · rcases sub h with h | h
    · cases h
    · exact S.iob j d' h
/-- a slot's own thing, handed out -/
theorem SR.out (S : SR K mg w ρ σ H) (h : ρ[i]? = some (.ow d)) : ∃ a, σ[i]? = some (some (.ref a)) ∧ VR K mg w (ρ.set i .no) σ H (.ow d) (.ref a) := by
  obtain ⟨v, e, a, rfl, h1, h2, h3⟩ := S.at h
  have ho : Ownd ρ σ a := ⟨i, _, d, h, rfl, e⟩
  have hn : ¬ Ownd (ρ.set i .no) σ a := fun ⟨j, s, d', q1, q2, q3⟩ => by
    by_cases hj : j = i
    · subst hj
      have hl : j < ρ.length := by simpa using (List.getElem?_eq_some_iff.mp q1).1
      rw [List.getElem?_set_self hl] at q1
      cases q1; cases q2
    · rw [List.getElem?_set_ne (Ne.symm hj)] at q1
      exact hj (S.inj j i s _ d' d a q1 q2 h rfl q3 e)
  have sub : ∀ {j : Nat} {s : Sl} {e : D}, (ρ.set i .no)[j]? = some s → s.own = some e → ρ[j]? = some s := fun {j s e'} q1 q2 => by
    by_cases hj : j = i
    · subst hj
      have hl : j < ρ.length := by simpa using (List.getElem?_eq_some_iff.mp q1).1
      rw [List.getElem?_set_self hl] at q1
      cases q1; cases q2
    · rw [List.getElem?_set_ne (Ne.symm hj)] at q1
      exact q1
  have ow : ∀ b, Ownd (ρ.set i .no) σ b → Ownd ρ σ b := fun b ⟨j, s, d', q1, q2, q3⟩ => ⟨j, s, d', sub q1 q2, q2, q3⟩
  have ex : ∀ b, Ex (w.plus a).E (ρ.set i .no) σ b → Ex w.E ρ σ b := fun b z => by
    rcases z with (z | z) | z
    · exact .inl z
    · exact .inr (by rw [z]; exact ho)
    · exact .inr (ow b z)
  have S0 := S.setNo (i := i)
  refine ⟨a, e, a, rfl, h1, h2, S.exo a ho, hn, ⟨S0.len, fun j s x q1 q2 => ?_, S0.inj, fun b z q => ?_, S.keep, S.fresh, fun b z => ?_, S0.iob⟩, h3.sub ex⟩
  · by_cases hj : j = i
    · subst hj
      have hl : j < ρ.length := by simpa using (List.getElem?_eq_some_iff.mp q1).1
      rw [List.getElem?_set_self hl] at q1
      cases q1; trivial
    · rw [List.getElem?_set_ne (Ne.symm hj)] at q1
      exact ((S.slot j s x q1 q2).step (fun _ _ _ e => e) (fun b _ z _ => ex b z) fun _ _ _ _ e => e).world (fun _ _ _ e => e) fun _ e => e
  · rcases q with q | q
    · exact S.exo b (ow b z) q
    · rw [q] at z; exact hn z
  · rcases z with z | z
    · exact S.etr b z
    · rw [z]; exact h3.tr
/-- the own thing of a slot is shared from here on -/
theorem SR.share (S : SR K mg w ρ σ H) (h : ρ[i]? = some (.ow d)) : ∃ v, σ[i]? = some (some v) ∧ SR K mg w (ρ.set i (.sh d)) σ H ∧ Rp K mg (Ex w.E (ρ.set i (.sh d)) σ) H d v := by
  obtain ⟨a, e, q⟩ := S.out h
  obtain ⟨S1, r⟩ := VR.sh q rfl
  have hi : i < ρ.length := (List.getElem?_eq_some_iff.mp h).1
  have es : σ.set i (some (.ref a)) = σ := by
    refine List.ext_getElem? fun j => ?_
    by_cases hj : i = j
    · subst hj
      rw [List.getElem?_set_self (by rw [← S.len]; exact hi), e]
    · rw [List.getElem?_set_ne hj]
  have S2 := S1.setSh (i := i) r
  rw [List.set_set, es] at S2
  obtain ⟨v, e2, r2⟩ := S2.sh (i := i) (List.getElem?_set_self hi)
  rw [e] at e2
  cases e2
  exact ⟨.ref a, e, S2, r2⟩
/-- the thing of a slot is written -/
theorem SR.write {s s' : Sl} {d' : D} {o : HO} (S : SR K mg w ρ σ H) (h : ρ[i]? = some s) (hs : s.own = some d) (hs' : (s = .ow d ∧ s' = .ow d') ∨ (s = .io d ∧ s' = .io d')) (hv : σ[i]? = some (some (.ref a)))
    (hn : ∀ H2, (∀ b o', b ≠ a → H b = some o' → H2 b = some o') → H2 a = some o → Own K mg (Ex w.E ρ σ) H2 d' a) : SR K mg w (ρ.set i s') σ (upd H a o) := by
  have hi : i < ρ.length := (List.getElem?_eq_some_iff.mp h).1
  have ho : Ownd ρ σ a := ⟨i, s, d, h, hs, hv⟩
  have hs2 : s'.own = some d' := by rcases hs' with ⟨_, rfl⟩ | ⟨_, rfl⟩ <;> rfl
  have ow : ∀ b, Ownd (ρ.set i s') σ b → Ownd ρ σ b := fun b ⟨j, t, e, q1, q2, q3⟩ => by
    by_cases hj : j = i
    · subst hj; exact ⟨j, s, d, h, hs, q3⟩
    · rw [List.getElem?_set_ne (Ne.symm hj)] at q1
      exact ⟨j, t, e, q1, q2, q3⟩
  have ow' : ∀ {j : Nat} {t : Sl} {e : D}, (ρ.set i s')[j]? = some t → t.own = some e → ∃ u g, ρ[j]? = some u ∧ u.own = some g := fun {j t e} q1 q2 => by
    by_cases hj : j = i
    · subst hj; exact ⟨s, d, h, hs⟩
    · rw [List.getElem?_set_ne (Ne.symm hj)] at q1
      exact ⟨t, e, q1, q2⟩
  have ex : ∀ b, Ex w.E (ρ.set i s') σ b → Ex w.E ρ σ b := fun b z => z.imp id (ow b)
  have up : ∀ b o', b ≠ a → H b = some o' → upd H a o b = some o' := fun b o' n e => by rw [upd_ne n]; exact e
  refine ⟨by simpa using S.len, fun j t x q1 q2 => ?_, fun j k t u e1 e2 b q1 q2 q3 q4 q5 q6 => ?_, fun b z => S.exo b (ow b z), fun b o' e => up b o' (fun z => ?_) (S.keep b o' e), fun b e => S.fresh b ?_, fun b e => ?_, fun j e q => ?_⟩
  · by_cases hj : j = i
    · subst hj
      rw [List.getElem?_set_self hi] at q1
      cases q1
      rw [hv] at q2
      cases q2
      have hO := (hn (upd H a o) up upd_same).sub ex
      have q := S.slot j s _ h hv
      rcases hs' with ⟨rfl, rfl⟩ | ⟨rfl, rfl⟩
      · obtain ⟨b, e, g1, g2, _⟩ := q
        cases e
        exact ⟨a, rfl, g1, g2, hO⟩
      · obtain ⟨b, e, g1, _⟩ := q
        cases e
        exact ⟨a, rfl, g1, hO⟩
    · rw [List.getElem?_set_ne (Ne.symm hj)] at q1
      refine (S.slot j t x q1 q2).step (fun b o' n e => up b o' (fun z => n (by rw [z]; exact .inr ho)) e) (fun b _ z _ => ex b z) fun b o' e1 e2 e3 => up b o' (fun z => ?_) e3
      obtain ⟨g, hg⟩ := Option.isSome_iff_exists.mp e2
      rw [z] at e1
      rw [e1] at q2
      exact hj (S.inj j i t s g d a q1 hg h hs q2 hv)
  · obtain ⟨t1, g1, r1, r2⟩ := ow' q1 q2
    obtain ⟨t2, g2, r3, r4⟩ := ow' q3 q4
    exact S.inj j k t1 t2 g1 g2 b r1 r2 r3 r4 q5 q6
  · rw [z, (S.ownd ho).1] at e; cases e
  · by_cases hb : b = a
    · rw [hb, upd_same] at e; cases e
    · rw [upd_ne hb] at e; exact e
  · obtain ⟨o', h'⟩ := S.etr b e
    exact ⟨o', up b o' (fun z => S.exo a ho (by rw [← z]; exact e)) h'⟩
  · by_cases hj : j = i
    · subst hj
      rw [List.getElem?_set_self hi] at q
      rcases hs' with ⟨rfl, rfl⟩ | ⟨rfl, rfl⟩
      · cases q
      · exact S.iob j d h
    · rw [List.getElem?_set_ne (Ne.symm hj)] at q
      exact S.iob j e q
end
end T

/-! T2: promises of defs, with the guards of repr known (FnG), and promises over plain data (spT). -/
namespace T
open PySem PySem.Spec PyProof.Rows L2

structure RoomG (k : Nat) (A : Around) : Prop where
  rm : Room k A
  gd : A.guards = some []
theorem RoomG.mono {j k : Nat} {A : Around} (r : RoomG k A) (h : j ≤ k) : RoomG j A := ⟨r.rm.mono h, r.gd⟩
theorem RoomG.deeper {k : Nat} {A : Around} (r : RoomG (k + 1) A) (env : Env) : RoomG k (A.deeper env) := ⟨r.rm.deeper env, r.gd⟩
theorem RoomG.make {k : Nat} {A : Around} (r : RoomG (k + 1) A) (C : Addr) (us : List Value) (kw : List (Str × Value)) : RoomG k (A.under (.builtin "type.__call__" ⟨.ref C :: us, kw⟩)) := by
  refine ⟨r.rm.make C us kw, ?_⟩
  have q : (Code.builtin "type.__call__" ⟨.ref C :: us, kw⟩).guards = [] := by
    unfold Code.guards Code.isGuard
    rw [if_neg (show ¬ guardIds.contains "type.__call__" = true by decide +kernel)]
  show pushGuards (Code.builtin "type.__call__" ⟨.ref C :: us, kw⟩).guards A.guards = some []
  rw [q, r.gd]
  all_goals rfl

structure FnG (P : Program) (w : World) (K : Fg) (mg : Mg) (base : Heap) (CX : CXT) (k : Nat) (f : Addr) (fd : FuncData) (ps : List Str) (sp : Sp) : Prop where
  len : ∀ vs H Q E, sp vs H Q E → vs.length = ps.length
  run : ∀ (A : Around) (outer : List Env) (s : Shared) (H : Hp) (args : Args) (us : List Value) (vs : List V) (Q : VK) (E : XK), RoomG k A → Env0 P w K mg base A outer s H →
    BindsTo s fd args (ps.zip us) → Vals vs us → sp vs H Q E → codeAny (model P w) A (.call (.ref f) args) (CR CX outer P w H s Q E) s
theorem FnG.of {P : Program} {w : World} {K : Fg} {mg : Mg} {base : Heap} {CX : CXT} {k : Nat} {f : Addr} {fd : FuncData} {ps : List Str} {sp : Sp} (F : FnOk P w K mg base CX k f fd ps sp) : FnG P w K mg base CX k f fd ps sp :=
  ⟨F.len, fun A outer s H args us vs Q E hr => F.run A outer s H args us vs Q E hr.rm⟩
theorem FnG.mono {P : Program} {w : World} {K : Fg} {mg : Mg} {base : Heap} {CX : CXT} {j k : Nat} {f : Addr} {fd : FuncData} {ps : List Str} {sp : Sp} (F : FnG P w K mg base CX j f fd ps sp) (h : j ≤ k) : FnG P w K mg base CX k f fd ps sp :=
  ⟨F.len, fun A outer s H args us vs Q E hr => F.run A outer s H args us vs Q E (hr.mono h)⟩
theorem FnG.imp {P : Program} {w : World} {K : Fg} {mg : Mg} {base : Heap} {CX : CXT} {k : Nat} {f : Addr} {fd : FuncData} {ps : List Str} {sp sp' : Sp} (F : FnG P w K mg base CX k f fd ps sp)
    (h : ∀ vs H Q E, sp' vs H Q E → sp vs H Q E) : FnG P w K mg base CX k f fd ps sp' :=
  ⟨fun vs H Q E q => F.len vs H Q E (h _ _ _ _ q), fun A outer s H args us vs Q E hr he hb hv hs => F.run A outer s H args us vs Q E hr he hb hv (h _ _ _ _ hs)⟩

/-- a def of the text keeps its promise, by its body -/
theorem Fun.okG {P : Program} {w : World} {K : Fg} {mg : Mg} {base : Heap} {CX : CXT} {x qual : Str} {st : Stmt} {f : Addr} {fd : FuncData} {N ps : List Str} {k : Nat} {sp : Sp} (F : Fun K x qual st f fd) (S : FnScope N ps (defScope st))
    (len : ∀ vs H Q E, sp vs H Q E → vs.length = ps.length)
    (hbody : ∀ (cdv : Value) (A : Around) (outer : List Env) (s : Shared) (H : Hp) (vs : List V) (Q : VK) (E : XK), RoomG k (A.deeper (envOfC qual (defScope st) s.heap.objs.size f cdv)) → sp vs H Q E →
      ∃ t, PSs (cxOf CX P w K mg base N qual (defScope st) f cdv A outer s H E) (defBody st) t ∧ t { nx := fun _ H' => Q .non H', rt := Q } (start N vs) H) : FnG P w K mg base CX (k + 1) f fd ps sp := by
  obtain ⟨oc, od, kV, doc, pm, an, cdv, ct, osl, rfl, lk, hcd⟩ := F.ex
  refine ⟨len, fun A outer s H args us vs Q E hr e0 hb r hsp => ?_⟩
  have kin : K.In s.heap := e0.mod.kin.keeps fun b o e => (e0.bs b o e).1
  have nol : s.heap.NoLimit := e0.mod.nolimit.keeps fun b o e => (e0.bs b o e).1
  have kinds : ∀ y ∈ ps.zip us, (defScope st).names.lookup y.1 = some .local ∨ ((defScope st).names.lookup y.1 = some .cell ∧ ((cellsFrom (s.heap.objs.size + 1) (defScope st).names []).lookup y.1).isSome = true) := fun y hy =>
    (S.par y.1 (List.of_mem_zip hy).1).imp id fun q => ⟨q, PySem.W.cellsFrom_some _ _ _ (.inl q)⟩
  refine codeAny_call_function hr.rm.depth (kin _ _ lk) rfl S.co S.gen rfl (PySem.W.codeRec_of kin hcd) (hb _ _ _ _ ?_)
  refine wpAny_newFunctionEnv_cells S.kind kinds fun env he s1 ic => ?_
  subst he
  refine ⟨nol.keeps ic.toInCall.keep, codeAny_func ?_⟩
  obtain ⟨t, ht, hq⟩ := hbody cdv A outer s H vs Q E (hr.deeper _) hsp
  have I := inv_start (CX := CX) (P := P) (w := w) (E := E) S hr.rm.hd e0 (len _ _ _ _ hsp) r ic
  refine wpAny_mono (ht.run [] s1 (start N vs) H _ I hq) (fun fl s' hs => ?_) fun e s' hs => hs
  cases fl with
  | ret u =>
    obtain ⟨v, σ', H', J, rv, q⟩ := hs
    exact ⟨v, H', J.os, J.bare, J.base, J.hok, rv, q⟩
  | next =>
    obtain ⟨σ', H', J, q⟩ := hs
    exact ⟨V.non, H', J.os, J.bare, J.base, J.hok, rfl, q⟩
  | brk => obtain ⟨_, _, _, q⟩ := hs; exact q.elim
  | cont => obtain ⟨_, _, _, q⟩ := hs; exact q.elim

section
variable {X : Cx} {CX : CXT} {k : Nat} {f C : Addr} {fd : FuncData} {ps ks : List Str} {sp : Sp} {dvs : List V} {ds : List Value} {E : XK} {x m : Str} {p pos apos : Pos} {e o : Expr} {es : List Expr} {ta : TE} {t tk : TA}
abbrev FnX (X : Cx) (CX : CXT) (k : Nat) (f : Addr) (fd : FuncData) (ps : List Str) (sp : Sp) : Prop := FnG X.prog X.w X.K X.mg X.base CX k f fd ps sp
theorem ended {pins : List (Addr × Obj)} {σ : L2.St} {H : Hp} {s : Shared} {Q : VK} (hx : Passes CX X E) (I : Inv X pins σ H s) {r : Result} {s' : Shared} (h : CR CX X.stack X.prog X.w H s Q E r s') :
    match r with | .ok (.ret u) => EP X pins σ Q u s' | .ok _ => False | .error e => X.xe e s' := by
  cases r with
  | error e => exact hx pins σ H s e s' I h
  | ok fl =>
    cases fl with
    | ret u => exact I.after h
    | next => exact h.elim
    | brk => exact h.elim
    | cont => exact h.elim
theorem goG {pins : List (Addr × Obj)} {σ : L2.St} {H : Hp} {s : Shared} {Q : VK} {us : List Value} {vs : List V} (F : FnX X CX k f fd ps sp) (hr : RoomG k X.A) (hb : Binds X.K fd ps ds) (hd : Vals dvs ds) (hx : Passes CX X E)
    (I : Inv X pins σ H s) (r : Vals vs us) (h : sp (vs ++ dvs) H Q E) : wpAny (model X.prog X.w) X.A (call (.ref f) us) (EP X pins σ Q) X.xe s := by
  have r2 : Vals (vs ++ dvs) (us ++ ds) := r.append hd
  have hl : (us ++ ds).length = ps.length := r2.length.symm.trans (F.len _ _ _ _ h)
  refine wpAny_call (codeAny_mono (F.run X.A X.stack s H ⟨us, []⟩ _ _ Q E hr I.env0 (hb s us I.kIn hl) r2 h) fun r s' hq => ?_)
  have z := ended hx I hq
  cases r with
  | error e => exact z
  | ok fl => cases fl <;> exact z
/-- f(..) -/
theorem peG_call (F : FnX X CX k f fd ps sp) (hr : RoomG k X.A) (hg : Gl X x) (hm : X.mg x = some (.ref f)) (hk : PySem.W.keepIn X.K (.ref f) = true) (hb : Binds X.K fd ps ds) (hd : Vals dvs ds) (hx : Passes CX X E)
    (ha : PA X (e :: es) t) (hdb : (x == ("__debug__" : Str)) = false := by decide) (he : starEach (e :: es) X.env = (false, eval e X.env) :: starEach es X.env := by rfl) (hpl : (backTo pos (starEach es X.env)).any (·.1) = false := by rfl) :
    PE X (.Call (.Name x p) (e :: es) [] pos) (tCall sp dvs E t) := by
  refine ⟨fun pins s σ H Q I h => wpAny_Call_Name_kw (ld_glob I hg hm ?_ hdb)⟩
  refine PySem.W.callWith_K (h₀ := X.base) I.ok.mod.kin hk (thn (ha.run pos pins s σ H _ I h) fun us s1 hh => ?_) he hpl
  obtain ⟨vs, H1, I1, r, q⟩ := hh
  exact ⟨I1.kIn, goG F hr hb hd hx I1 r q⟩
theorem peG_call0 (F : FnX X CX k f fd ps sp) (hr : RoomG k X.A) (hg : Gl X x) (hm : X.mg x = some (.ref f)) (hk : PySem.W.keepIn X.K (.ref f) = true) (hb : Binds X.K fd ps ds) (hd : Vals dvs ds) (hx : Passes CX X E)
    (hdb : (x == ("__debug__" : Str)) = false := by decide) : PE X (.Call (.Name x p) [] [] pos) (tCall sp dvs E tNil) :=
  ⟨fun pins s σ H Q I h => wpAny_Call_Name_kw (ld_glob I hg hm (PySem.W.callWith_K0 I.kIn hk (goG (us := []) F hr hb hd hx I .nil h)) hdb)⟩
/-- o.m(..) -/
theorem peG_meth {pl : Sem Bool} (he : PE X o ta) (c : Cls X.K C) (hm : Meth X.K C m f) (F : FnX X CX k f fd ps sp) (hr : RoomG k X.A) (hb : Binds X.K fd ps ds) (hd : Vals dvs ds) (hx : Passes CX X E) (ha : PA X (e :: es) t)
    (hst : starEach (e :: es) X.env = (false, eval e X.env) :: starEach es X.env := by rfl) (hpl : (backTo pos (starEach es X.env)).any (·.1) = false := by rfl)
    (ht : eval (.Call (.Attribute o m apos) (e :: es) [] pos) X.env = (do
      let ov ← eval o X.env
      standAt apos.atName
      let (f, first) ← holding [ov] (getMethod ov m pl)
      callWith pos f first (backTo pos (starEach (e :: es) X.env)) (backToKw pos (keywordEach [] X.env))) := by rfl) :
    PE X (.Call (.Attribute o m apos) (e :: es) [] pos) (tMeth C m sp dvs E ta t) := by
  refine ⟨fun pins s σ H Q I h => PySem.W.methodCall_KW (pl := pl) (thn (he.run pins s σ H _ I h) fun u s1 hh => ?_) ht⟩
  obtain ⟨x, H1, I1, rx, a, dx, fs, ex, ea, l, q⟩ := hh
  subst ex
  obtain rfl : u = Value.ref a := rx
  refine getmeth_ok I1 ea c hm l (PySem.W.callWith_K (first := [.ref a]) (h₀ := X.base) I.ok.mod.kin hm.kp (thn (ha.run pos pins s1 σ H1 _ I1 q) fun us s2 hh => ?_) hst hpl)
  obtain ⟨vs, H2, I2, r, q2⟩ := hh
  exact ⟨I2.kIn, goG (us := .ref a :: us) (vs := .ref a :: vs) F hr hb hd hx I2 (.cons rfl r) q2⟩
theorem peG_meth0 {pl : Sem Bool} (he : PE X o ta) (c : Cls X.K C) (hm : Meth X.K C m f) (F : FnX X CX k f fd ps sp) (hr : RoomG k X.A) (hb : Binds X.K fd ps ds) (hd : Vals dvs ds) (hx : Passes CX X E)
    (ht : eval (.Call (.Attribute o m apos) [] [] pos) X.env = (do
      let ov ← eval o X.env
      standAt apos.atName
      let (f, first) ← holding [ov] (getMethod ov m pl)
      callWith pos f first (backTo pos (starEach [] X.env)) (backToKw pos (keywordEach [] X.env))) := by rfl) :
    PE X (.Call (.Attribute o m apos) [] [] pos) (tMeth C m sp dvs E ta tNil) := by
  refine ⟨fun pins s σ H Q I h => PySem.W.methodCall_KW (pl := pl) (thn (he.run pins s σ H _ I h) fun u s1 hh => ?_) ht⟩
  obtain ⟨x, H1, I1, rx, a, dx, fs, ex, ea, l, q⟩ := hh
  subst ex
  obtain rfl : u = Value.ref a := rx
  exact getmeth_ok I1 ea c hm l (PySem.W.callWith_K0 (first := [.ref a]) I1.kIn hm.kp (goG (us := [.ref a]) (vs := [.ref a]) F hr hb hd hx I1 (.cons rfl .nil) q))
/-- C(..) -/
theorem makeG {pins : List (Addr × Obj)} {σ : L2.St} {H : Hp} {s : Shared} {Q : VK} {us : List Value} {vs : List V} (M : Mk X.K C f) (F : FnX X CX k f fd ps sp) (hr : RoomG (k + 1) X.A) (hb : Binds X.K fd ps ds) (hd : Vals dvs ds) (hx : Passes CX X E)
    (I : Inv X pins σ H s) (r : Vals vs us) (h : ∀ x dx, H x = none → H dx = none → dx ≠ x → sp (.ref x :: (vs ++ dvs)) (upd (upd H dx (.own x)) x (.ins C dx [])) (fun v H2 => v = .non ∧ Q (.ref x) H2) E) :
    wpAny (model X.prog X.w) X.A (call (.ref C) us) (EP X pins σ Q) X.xe s := by
  have n := s.heap.objs.size
  have hq := h (s.heap.objs.size + 1) s.heap.objs.size (I.hok.fresh (Nat.le_succ _)) (I.hok.fresh (Nat.le_refl _)) (Nat.ne_of_lt (Nat.lt_succ_self _))
  have I2 := Inv.made (C := C) I
  have r2 : Vals (V.ref (s.heap.objs.size + 1) :: (vs ++ dvs)) (Value.ref (s.heap.objs.size + 1) :: (us ++ ds)) := .cons rfl (r.append hd)
  have hl : (Value.ref (s.heap.objs.size + 1) :: us ++ ds).length = ps.length := by
    have e := r2.length
    rw [F.len _ _ _ _ hq] at e
    exact e.symm
  have run := F.run _ X.stack _ _ ⟨Value.ref (s.heap.objs.size + 1) :: us, []⟩ _ _ _ E (hr.make C us []) (I2.env0.make C us []) (hb _ (Value.ref (s.heap.objs.size + 1) :: us) I2.kIn hl) r2 hq
  refine wpAny_call (make_map (f := f) I.kIn M.makes M.init (beq_iff_eq.mp M.fn) (codeAny_mono run fun r s' hq' => ?_))
  cases r with
  | error e => exact hx pins σ _ _ e s' I2 hq'
  | ok fl =>
    cases fl with
    | ret u =>
      obtain ⟨v, H', I3, rv, ev, q3⟩ := I2.after hq'
      subst ev
      exact ⟨rv, .ref (s.heap.objs.size + 1), H', I3, rfl, q3⟩
    | next => exact hq'.elim
    | brk => exact hq'.elim
    | cont => exact hq'.elim
theorem peG_make (M : Mk X.K C f) (F : FnX X CX k f fd ps sp) (hr : RoomG (k + 1) X.A) (hg : Gl X x) (hm : X.mg x = some (.ref C)) (hb : Binds X.K fd ps ds) (hd : Vals dvs ds) (hx : Passes CX X E)
    (ha : PA X (e :: es) t) (hdb : (x == ("__debug__" : Str)) = false := by decide) (he : starEach (e :: es) X.env = (false, eval e X.env) :: starEach es X.env := by rfl) (hpl : (backTo pos (starEach es X.env)).any (·.1) = false := by rfl) :
    PE X (.Call (.Name x p) (e :: es) [] pos) (tMake C sp dvs E t) := by
  refine ⟨fun pins s σ H Q I h => wpAny_Call_Name_kw (ld_glob I hg hm ?_ hdb)⟩
  refine PySem.W.callWith_K (h₀ := X.base) I.ok.mod.kin M.kp (thn (ha.run pos pins s σ H _ I h) fun us s1 hh => ?_) he hpl
  obtain ⟨vs, H1, I1, r, q⟩ := hh
  exact ⟨I1.kIn, makeG M F hr hb hd hx I1 r q⟩
end
end T

/-! T3: what expressions, arguments, calls are worth over plain data. -/
namespace T
open PySem L2

abbrev FE := Ev → Option (Sl × Ev)
abbrev FT := Ev → Option (Bool × Ev)
/-- a def by plain data: the arguments; its answer, the arguments behind it -/
abbrev FF := List Sl → Option (Sl × List Sl)

def denE (K : Fg) (mg : Mg) (f : FE) : TE := fun σ H Q => ∃ (w : Wd) (ρ : Ev), SR K mg w ρ σ H ∧ ∃ (s : Sl) (ρ' : Ev), f ρ = some (s, ρ') ∧ ∀ v H', VR K mg w ρ' σ H' s v → Q v H'
def denT (K : Fg) (mg : Mg) (f : FT) : TT := fun σ H Q => ∃ (w : Wd) (ρ : Ev), SR K mg w ρ σ H ∧ ∃ (b : Bool) (ρ' : Ev), f ρ = some (b, ρ') ∧ ∀ H', SR K mg w ρ' σ H' → Q b H'
abbrev EX (X : Cx) (e : Expr) (f : FE) : Prop := PE X e (denE X.K X.mg f)
abbrev TX (X : Cx) (e : Expr) (f : FT) : Prop := PT X e (denT X.K X.mg f)
theorem pe_imp {X : Cx} {e : Expr} {t u : TE} (h : PE X e t) (k : ∀ σ H Q, u σ H Q → t σ H Q) : PE X e u := ⟨fun pins s σ H Q I q => h.run pins s σ H Q I (k σ H Q q)⟩
theorem pt_imp {X : Cx} {e : Expr} {t u : TT} (h : PT X e t) (k : ∀ σ H Q, u σ H Q → t σ H Q) : PT X e u := ⟨fun pins s σ H Q I q => h.run pins s σ H Q I (k σ H Q q)⟩
theorem pa_imp {X : Cx} {es : List Expr} {t u : TA} (h : PA X es t) (k : ∀ σ H Q, u σ H Q → t σ H Q) : PA X es u := ⟨fun pos pins s σ H Q I q => h.run pos pins s σ H Q I (k σ H Q q)⟩

section
variable {K : Fg} {mg : Mg} {w : Wd} {ρ ρ1 ρ2 : Ev} {σ : L2.St} {H : Hp} {f g : FE} {s1 s2 : Sl} {d1 d2 : D}
/-- one value, shared -/
theorem one {R : V → Hp → Prop} (S : SR K mg w ρ σ H) (hf : f ρ = some (s1, ρ1)) (hd : vl s1 = some d1) (k : ∀ v H1, SR K mg w ρ1 σ H1 → Rp K mg (Ex w.E ρ1 σ) H1 d1 v → R v H1) : denE K mg f σ H R :=
  ⟨w, ρ, S, s1, ρ1, hf, fun v H1 h => let q := VR.sh h hd; k v H1 q.1 q.2⟩
theorem two {R : V → V → Hp → Prop} (S : SR K mg w ρ σ H) (hf : f ρ = some (s1, ρ1)) (hd : vl s1 = some d1) (hg : g ρ1 = some (s2, ρ2)) (hd2 : vl s2 = some d2)
    (k : ∀ v1 v2 H2, SR K mg w ρ2 σ H2 → Rp K mg (Ex w.E ρ2 σ) H2 d1 v1 → Rp K mg (Ex w.E ρ2 σ) H2 d2 v2 → R v1 v2 H2) : denE K mg f σ H fun v1 H1 => denE K mg g σ H1 fun v2 H2 => R v1 v2 H2 :=
  one S hf hd fun v1 H1 S1 r1 => one S1.fill hg hd2 fun v2 H2 S2 r2 => k v1 v2 H2 (S1.back S2) (S1.carry S2 r1) r2
end

/-! ### arguments -/
abbrev AV := Sum D Nat
inductive Ag where
  | e (f : FE) | o (i : Nat)
def Sl.some? : Sl → Bool
  | .no => false
  | _ => true
def evg : List Ag → Ev → Option (List AV × Ev)
  | [], ρ => some ([], ρ)
  | .e f :: r, ρ => (f ρ).bind fun p => (vl p.1).bind fun d => (evg r p.2).map fun q => (.inl d :: q.1, q.2)
  | .o i :: r, ρ => (ρ[i]?).bind fun s => if s.some? then (evg r ρ).map fun q => (.inr i :: q.1, q.2) else none
inductive AVs (K : Fg) (mg : Mg) (O : AP) (σ : L2.St) (H : Hp) : List AV → List V → Prop
  | nil : AVs K mg O σ H [] []
  | inl {d : D} {v : V} {r : List AV} {vs : List V} : Rp K mg O H d v → AVs K mg O σ H r vs → AVs K mg O σ H (.inl d :: r) (v :: vs)
  | inr {i : Nat} {v : V} {r : List AV} {vs : List V} : σ[i]? = some (some v) → AVs K mg O σ H r vs → AVs K mg O σ H (.inr i :: r) (v :: vs)
def denG (K : Fg) (mg : Mg) (as : List Ag) : TA := fun σ H Q => ∃ (w : Wd) (ρ : Ev), SR K mg w ρ σ H ∧ ∃ (avs : List AV) (ρ' : Ev), evg as ρ = some (avs, ρ') ∧ ∀ vs H', SR K mg w ρ' σ H' → AVs K mg (Ex w.E ρ' σ) σ H' avs vs → Q vs H'
abbrev GX (X : Cx) (es : List Expr) (as : List Ag) : Prop := PA X es (denG X.K X.mg as)
section
variable {X : Cx} {e : Expr} {es : List Expr} {f : FE} {as : List Ag} {x : Str} {pos : Pos}
theorem ga_nil : GX X [] [] := pa_imp pa_nil fun σ H Q h => by
  obtain ⟨w, ρ, S, avs, ρ', hf, k⟩ := h
  cases hf
  exact k [] H S .nil
theorem ga_e (ha : EX X e f) (hr : GX X es as) (hs : starEach (e :: es) X.env = (false, eval e X.env) :: starEach es X.env := by rfl) : GX X (e :: es) (.e f :: as) := pa_imp (pa_cons ha hr hs) fun σ H Q h => by
  obtain ⟨w, ρ, S, avs, ρ', hf, k⟩ := h
  unfold evg at hf
  obtain ⟨⟨s1, ρ1⟩, h1, hf⟩ := Option.bind_eq_some_iff.mp hf
  obtain ⟨d, hd, hf⟩ := Option.bind_eq_some_iff.mp hf
  obtain ⟨⟨r, ρ2⟩, h2, e2⟩ := Option.map_eq_some_iff.mp hf
  cases e2
  refine one S h1 hd fun v H1 S1 r1 => ⟨_, ρ1, S1.fill, r, ρ2, h2, fun vs H2 S2 r2 => k (v :: vs) H2 (S1.back S2) ?_⟩
  exact .inl (S1.carry S2 r1) r2
theorem ga_o (i : Nat) (hr : GX X es as) (hN : X.N[i]? = some x := by rfl) (hv : Vis X.env.scope x := by first | exact Or.inl rfl | exact Or.inr (Or.inl rfl) | exact Or.inr (Or.inr rfl)) (hd : (x == ("__debug__" : Str)) = false := by decide)
    (hcd : (x == ("__classdict__" : Str)) = false := by decide) (hs : starEach (.Name x pos :: es) X.env = (false, eval (.Name x pos) X.env) :: starEach es X.env := by rfl) : GX X (.Name x pos :: es) (.o i :: as) :=
  pa_imp (pa_cons (pe_var hN hv hd hcd) hr hs) fun σ H Q h => by
  obtain ⟨w, ρ, S, avs, ρ', hf, k⟩ := h
  unfold evg at hf
  obtain ⟨s, h1, hf⟩ := Option.bind_eq_some_iff.mp hf
  split at hf
  · rename_i hs
    obtain ⟨⟨r, ρ2⟩, h2, e2⟩ := Option.map_eq_some_iff.mp hf
    cases e2
    obtain ⟨v, hv, q⟩ := S.at h1
    obtain ⟨x, rfl⟩ : ∃ x, v = some x := by
      cases s with
      | no => cases hs
      | sh d => obtain ⟨x, e, _⟩ := q; exact ⟨x, e⟩
      | ow d => obtain ⟨a, e, _⟩ := q; exact ⟨_, e⟩
      | io d => obtain ⟨a, e, _⟩ := q; exact ⟨_, e⟩
    exact ⟨x, hv, w, ρ, S, r, ρ2, h2, fun vs H2 S2 r2 => k (x :: vs) H2 S2 (.inr hv r2)⟩
  · cases hf
end

/-! ### the call of a def -/
def spT (K : Fg) (mg : Mg) (F : FF) : Sp := fun vs H Q _ => ∃ (w : Wd) (sls : List Sl), SR K mg w sls (vs.map some) H ∧ w.B = vs.map some ∧ ∃ (s : Sl) (outs : List Sl), F sls = some (s, outs) ∧ ∀ v H', VR K mg w outs (vs.map some) H' s v → Q v H'
def slOf (ρ : Ev) : AV → Sl
  | .inl d => .sh d
  | .inr i => match ρ[i]? with
    | some (.sh d) => .sh d
    | some (.ow d) => .io d
    | some (.io d) => .io d
    | _ => .no
def outSl (s o : Sl) : Sl := match s, o with
  | .ow _, .io d => .ow d
  | .io _, .io d => .io d
  | .sh d, _ => .sh d
  | _, _ => .no
def upd1 (ρ : Ev) (p : AV × Sl) : Ev := match p.1 with
  | .inl _ => ρ
  | .inr i => match ρ[i]? with
    | some s => ρ.set i (outSl s p.2)
    | none => ρ
def updA (ρ : Ev) (avs : List AV) (outs : List Sl) : Ev := (avs.zip outs).foldl upd1 ρ
def ownIx : List AV → List Nat
  | [] => []
  | .inl _ :: r => ownIx r
  | .inr i :: r => i :: ownIx r
/-- what behind the call stands for slot j -/
def pick (j : Nat) : List AV → List Sl → Option Sl
  | .inr i :: r, o :: os => if i = j then some o else pick j r os
  | .inl _ :: r, _ :: os => pick j r os
  | _, _ => none
theorem ownIx_mem : ∀ {avs : List AV} {k i : Nat}, avs[k]? = some (.inr i) → i ∈ ownIx avs
  | [], _, _, h => by simp at h
  | .inl _ :: r, 0, i, h => by simp at h
  | .inr j :: r, 0, i, h => by
    have e : j = i := by simpa using h
    rw [e]; exact List.mem_cons_self
  | .inl _ :: r, k + 1, i, h => ownIx_mem (avs := r) (k := k) (by simpa using h)
  | .inr j :: r, k + 1, i, h => List.mem_cons_of_mem _ (ownIx_mem (avs := r) (k := k) (by simpa using h))
theorem ownIx_inj : ∀ {avs : List AV} {k l i : Nat}, (ownIx avs).Nodup → avs[k]? = some (.inr i) → avs[l]? = some (.inr i) → k = l
  | [], _, _, _, _, h, _ => by simp at h
  | .inl _ :: r, 0, _, _, _, h, _ => by simp at h
  | .inl _ :: r, k + 1, 0, _, _, _, h => by simp at h
  | .inl _ :: r, k + 1, l + 1, i, n, h, h' => congrArg (· + 1) (ownIx_inj (avs := r) n (by simpa using h) (by simpa using h'))
  | .inr j :: r, 0, 0, _, _, _, _ => rfl
  | .inr j :: r, 0, l + 1, i, n, h, h' => by
    have e : j = i := by simpa using h
    have q := ownIx_mem (avs := r) (k := l) (i := i) (by simpa using h')
    rw [e] at n
    exact absurd q (List.nodup_cons.mp n).1
  | .inr j :: r, k + 1, 0, i, n, h, h' => by
    have e : j = i := by simpa using h'
    have q := ownIx_mem (avs := r) (k := k) (i := i) (by simpa using h)
    rw [e] at n
    exact absurd q (List.nodup_cons.mp n).1
  | .inr j :: r, k + 1, l + 1, i, n, h, h' => congrArg (· + 1) (ownIx_inj (avs := r) (List.nodup_cons.mp n).2 (by simpa using h) (by simpa using h'))
theorem pick_none {j : Nat} : ∀ {avs : List AV} {outs : List Sl}, j ∉ ownIx avs → pick j avs outs = none
  | [], _, _ => by simp [pick]
  | .inl _ :: r, [], _ => rfl
  | .inr _ :: r, [], _ => rfl
  | .inl _ :: r, o :: os, h => pick_none (avs := r) h
  | .inr i :: r, o :: os, h => by
    have h' : ¬ (j = i ∨ j ∈ ownIx r) := fun z => h (List.mem_cons.mpr z)
    show (if i = j then some o else pick j r os) = none
    rw [if_neg fun e => h' (.inl e.symm)]
    exact pick_none (avs := r) fun z => h' (.inr z)
theorem pick_at {j : Nat} {o : Sl} : ∀ {avs : List AV} {outs : List Sl}, pick j avs outs = some o → ∃ k : Nat, avs[k]? = some (Sum.inr j) ∧ outs[k]? = some o
  | [], _, h => by simp [pick] at h
  | .inl _ :: r, [], h => by cases h
  | .inr _ :: r, [], h => by cases h
  | .inl _ :: r, p :: os, h => by
    obtain ⟨k, h1, h2⟩ := pick_at (avs := r) h
    exact ⟨k + 1, by simpa using h1, by simpa using h2⟩
  | .inr i :: r, p :: os, h => by
    have h' : (if i = j then some p else pick j r os) = some o := h
    split at h'
    · rename_i e
      rw [e]
      exact ⟨0, rfl, by simpa using h'⟩
    · obtain ⟨k, h1, h2⟩ := pick_at (avs := r) h'
      exact ⟨k + 1, by simpa using h1, by simpa using h2⟩
theorem pick_some {j : Nat} : ∀ {avs : List AV} {outs : List Sl} {k : Nat}, avs.length ≤ outs.length → avs[k]? = some (.inr j) → ∃ o, pick j avs outs = some o
  | [], _, _, _, h => by simp at h
  | .inl _ :: r, [], _, l, _ => by simp at l
  | .inr _ :: r, [], _, l, _ => by simp at l
  | .inl _ :: r, p :: os, 0, _, h => by simp at h
  | .inl _ :: r, p :: os, k + 1, l, h => pick_some (avs := r) (outs := os) (k := k) (by simpa using l) (by simpa using h)
  | .inr i :: r, p :: os, 0, _, h => by
    have e : i = j := by simpa using h
    exact ⟨p, if_pos e⟩
  | .inr i :: r, p :: os, k + 1, l, h => by
    show ∃ o, (if i = j then some p else pick j r os) = some o
    split
    · exact ⟨p, rfl⟩
    · exact pick_some (avs := r) (outs := os) (k := k) (by simpa using l) (by simpa using h)
theorem upd1_get (ρ : Ev) (i j : Nat) (o : Sl) : (upd1 ρ (.inr i, o))[j]? = if i = j then (ρ[j]?).map fun s => outSl s o else ρ[j]? := by
  unfold upd1
  cases h : ρ[i]? with
  | none =>
    simp only [h]
    split
    · rename_i e; subst e; rw [h]; rfl
    · rfl
  | some s =>
    simp only [h]
    by_cases e : i = j
    · subst e
      rw [List.getElem?_set_self (List.getElem?_eq_some_iff.mp h).1, if_pos rfl, h]
      rfl
    · rw [List.getElem?_set_ne e, if_neg e]
theorem updA_get {j : Nat} : ∀ {avs : List AV} {outs : List Sl} {ρ : Ev}, (ownIx avs).Nodup → (updA ρ avs outs)[j]? = match pick j avs outs with | some o => (ρ[j]?).map fun s => outSl s o | none => ρ[j]?
  | [], _, ρ, _ => by simp [updA, pick]
  | .inl _ :: r, [], ρ, _ => by simp [updA, pick]
  | .inr _ :: r, [], ρ, _ => by simp [updA, pick]
  | .inl _ :: r, o :: os, ρ, n => by
    have q := updA_get (j := j) (avs := r) (outs := os) (ρ := ρ) n
    exact q
  | .inr i :: r, o :: os, ρ, n => by
    have q := updA_get (j := j) (avs := r) (outs := os) (ρ := upd1 ρ (.inr i, o)) (List.nodup_cons.mp n).2
    show (updA (upd1 ρ (.inr i, o)) r os)[j]? = match (if i = j then some o else pick j r os) with | some o => (ρ[j]?).map fun s => outSl s o | none => ρ[j]?
    rw [q, upd1_get]
    by_cases e : i = j
    · subst e
      rw [if_pos rfl, if_pos rfl, pick_none (List.nodup_cons.mp n).1]
    · rw [if_neg e, if_neg e]
theorem upd1_len (ρ : Ev) (p : AV × Sl) : (upd1 ρ p).length = ρ.length := by
  unfold upd1
  split
  · rfl
  · split
    · simp
    · rfl
theorem updA_len (ρ : Ev) (avs : List AV) (outs : List Sl) : (updA ρ avs outs).length = ρ.length := by
  unfold updA
  generalize avs.zip outs = l
  induction l generalizing ρ with
  | nil => rfl
  | cons p l ih => rw [List.foldl_cons, ih, upd1_len]
theorem outSl_own {s o : Sl} {d : D} (h : (outSl s o).own = some d) : (∃ e, s.own = some e) ∧ o = .io d ∧ ((∃ e, s = .ow e) ∧ outSl s o = .ow d ∨ (∃ e, s = .io e) ∧ outSl s o = .io d) := by
  match s, o, h with
  | .no, _, h => cases h
  | .sh _, _, h => cases h
  | .ow _, .no, h => cases h
  | .ow _, .sh _, h => cases h
  | .ow _, .ow _, h => cases h
  | .ow e, .io g, h => cases h; exact ⟨⟨_, rfl⟩, rfl, .inl ⟨⟨_, rfl⟩, rfl⟩⟩
  | .io _, .no, h => cases h
  | .io _, .sh _, h => cases h
  | .io _, .ow _, h => cases h
  | .io e, .io g, h => cases h; exact ⟨⟨_, rfl⟩, rfl, .inr ⟨⟨_, rfl⟩, rfl⟩⟩

section
variable {K : Fg} {mg : Mg} {w : Wd} {ρ : Ev} {σ : L2.St} {H H2 : Hp} {avs : List AV} {vs : List V}
theorem AVs.len {O : AP} : ∀ {avs : List AV} {vs : List V}, AVs K mg O σ H avs vs → avs.length = vs.length
  | _, _, .nil => rfl
  | _, _, .inl _ r => congrArg (· + 1) r.len
  | _, _, .inr _ r => congrArg (· + 1) r.len
theorem AVs.at {O : AP} : ∀ {avs : List AV} {vs : List V} {k : Nat} {a : AV}, AVs K mg O σ H avs vs → avs[k]? = some a → ∃ v, vs[k]? = some v ∧ match a with | .inl d => Rp K mg O H d v | .inr i => σ[i]? = some (some v)
  | _, _, _, _, .nil, h => by simp at h
  | _, _, 0, _, .inl r _, h => by
    simp at h; subst h; exact ⟨_, rfl, r⟩
  | _, _, 0, _, .inr r _, h => by
    simp at h; subst h; exact ⟨_, rfl, r⟩
  | _, _, k + 1, a, .inl _ r, h => by
    obtain ⟨v, h1, h2⟩ := r.at (k := k) (a := a) (by simpa using h)
    exact ⟨v, by simpa using h1, h2⟩
  | _, _, k + 1, a, .inr _ r, h => by
    obtain ⟨v, h1, h2⟩ := r.at (k := k) (a := a) (by simpa using h)
    exact ⟨v, by simpa using h1, h2⟩

/-- the callee's world -/
noncomputable def calleeW (w : Wd) (ρ : Ev) (σ : L2.St) (H : Hp) (sls : List Sl) (vs : List V) : Wd :=
  { R := full sls (vs.map some) H, E := fun a => Ex w.E ρ σ a ∧ ¬ Ownd sls (vs.map some) a, N := fun a => H a = none, B := vs.map some }
theorem passed (A : AVs K mg (Ex w.E ρ σ) σ H avs vs) {a : Addr} (h : Ownd (avs.map (slOf ρ)) (vs.map some) a) :
    ∃ (k i : Nat) (s : Sl) (d : D), avs[k]? = some (.inr i) ∧ vs[k]? = some (.ref a) ∧ σ[i]? = some (some (.ref a)) ∧ ρ[i]? = some s ∧ s.own = some d := by
  obtain ⟨k, s, d, h1, h2, h3⟩ := h
  rw [List.getElem?_map] at h1 h3
  obtain ⟨x, hx, e⟩ := Option.map_eq_some_iff.mp h1
  obtain ⟨v, hv, e3⟩ := Option.map_eq_some_iff.mp h3
  cases e3
  obtain ⟨v', hv', q⟩ := A.at hx
  rw [hv] at hv'; cases hv'
  cases x with
  | inl d' => subst e; cases h2
  | inr i =>
    have e' : (match ρ[i]? with | some (.sh d) => Sl.sh d | some (.ow d) => .io d | some (.io d) => .io d | _ => .no) = s := e
    cases hr : ρ[i]? with
    | none => rw [hr] at e'; subst e'; cases h2
    | some t =>
      rw [hr] at e'
      cases t with
      | no => subst e'; cases h2
      | sh d' => subst e'; cases h2
      | ow d' => exact ⟨k, i, _, d', hx, hv, q, hr, rfl⟩
      | io d' => exact ⟨k, i, _, d', hx, hv, q, hr, rfl⟩
theorem passed_ownd (A : AVs K mg (Ex w.E ρ σ) σ H avs vs) {a : Addr} (h : Ownd (avs.map (slOf ρ)) (vs.map some) a) : Ownd ρ σ a := by
  obtain ⟨k, i, s, d, _, _, h1, h2, h3⟩ := passed A h
  exact ⟨i, s, d, h2, h3, h1⟩
theorem callee_start (S : SR K mg w ρ σ H) (A : AVs K mg (Ex w.E ρ σ) σ H avs vs) (n : (ownIx avs).Nodup) : SR K mg (calleeW w ρ σ H (avs.map (slOf ρ)) vs) (avs.map (slOf ρ)) (vs.map some) H := by
  have ex : ∀ a, Ex (calleeW w ρ σ H (avs.map (slOf ρ)) vs).E (avs.map (slOf ρ)) (vs.map some) a → Ex w.E ρ σ a := fun a z => by
    rcases z with z | z
    · exact z.1
    · exact .inr (passed_ownd A z)
  refine ⟨by simp [A.len], fun k s v h1 h2 => ?_, fun k l s t d e a h1 h2 h3 h4 h5 h6 => ?_, fun a z q => q.2 z, fun a o h => (of_full h).2, fun a h => h, fun a z => S.ex_tr z.1, fun _ _ _ => rfl⟩
  · have g1 := h1
    rw [List.getElem?_map] at h1
    obtain ⟨x, hx, e⟩ := Option.map_eq_some_iff.mp h1
    have g2 := h2
    rw [List.getElem?_map] at h2
    obtain ⟨v', hv, e2⟩ := Option.map_eq_some_iff.mp h2
    cases e2
    obtain ⟨v2, hv2, q⟩ := A.at hx
    rw [hv] at hv2; cases hv2
    cases x with
    | inl d => subst e; exact ⟨v', rfl, Rp.sub ex q⟩
    | inr i =>
      cases hr : ρ[i]? with
      | none =>
        have e' : Sl.no = s := by rw [← e]; show Sl.no = match ρ[i]? with | some (.sh d) => Sl.sh d | some (.ow d) => .io d | some (.io d) => .io d | _ => .no; rw [hr]
        subst e'; trivial
      | some t =>
        have e' : (match some t with | some (.sh d) => Sl.sh d | some (.ow d) => .io d | some (.io d) => .io d | _ => .no) = s := by rw [← hr]; exact e
        have q2 := S.slot i t (some v') hr q
        cases t with
        | no => subst e'; trivial
        | sh d => subst e'; obtain ⟨y, ey, r⟩ := q2; cases ey; exact ⟨v', rfl, r.sub ex⟩
        | ow d =>
          subst e'
          obtain ⟨a, ea, _, _, o⟩ := q2
          cases ea
          exact ⟨a, rfl, full_own ⟨k, _, d, g1, rfl, g2⟩, o.sub ex⟩
        | io d =>
          subst e'
          obtain ⟨a, ea, _, o⟩ := q2
          cases ea
          exact ⟨a, rfl, full_own ⟨k, _, d, g1, rfl, g2⟩, o.sub ex⟩
  · have own : ∀ {k : Nat} {s : Sl} {d : D}, (avs.map (slOf ρ))[k]? = some s → s.own = some d → (vs.map some)[k]? = some (some (V.ref a)) → ∃ (i : Nat) (s : Sl) (d : D), avs[k]? = some (.inr i) ∧ σ[i]? = some (some (.ref a)) ∧ ρ[i]? = some s ∧ s.own = some d := by
      intro k s d h1 h2 h3
      rw [List.getElem?_map] at h1 h3
      obtain ⟨x, hx, e⟩ := Option.map_eq_some_iff.mp h1
      obtain ⟨v, hv, e3⟩ := Option.map_eq_some_iff.mp h3
      cases e3
      obtain ⟨v', hv', q⟩ := A.at hx
      rw [hv] at hv'; cases hv'
      cases x with
      | inl d' => subst e; cases h2
      | inr i =>
        have e' : (match ρ[i]? with | some (.sh d) => Sl.sh d | some (.ow d) => .io d | some (.io d) => .io d | _ => .no) = s := e
        cases hr : ρ[i]? with
        | none => rw [hr] at e'; subst e'; cases h2
        | some t =>
          rw [hr] at e'
          cases t with
          | no => subst e'; cases h2
          | sh d' => subst e'; cases h2
          | ow d' => exact ⟨i, _, d', hx, q, hr, rfl⟩
          | io d' => exact ⟨i, _, d', hx, q, hr, rfl⟩
    obtain ⟨i, s1, e1, a1, a2, a3, a4⟩ := own h1 h2 h5
    obtain ⟨j, s2, e2, b1, b2, b3, b4⟩ := own h3 h4 h6
    have ij := S.inj i j s1 s2 e1 e2 a a3 a4 b3 b4 a2 b2
    subst ij
    exact ownIx_inj n a1 b1
/-- behind the call -/
theorem callee_end {outs : List Sl} {wE cE : Wd} {E2 : AP} (S : SR K mg w ρ σ H) (A : AVs K mg (Ex w.E ρ σ) σ H avs vs) (n : (ownIx avs).Nodup) (hl : avs.length = outs.length)
    (e1 : wE.R = w.R) (e2 : wE.N = w.N) (e3 : wE.B = w.B) (e4 : ∀ a, wE.E a ↔ w.E a ∨ E2 a)
    (c1 : cE.R = full (avs.map (slOf ρ)) (vs.map some) H) (c2 : cE.N = fun a => H a = none) (c4 : ∀ a, cE.E a ↔ (Ex w.E ρ σ a ∧ ¬ Ownd (avs.map (slOf ρ)) (vs.map some) a) ∨ E2 a)
    (hE : ∀ a, E2 a → H a = none) (C : SR K mg cE outs (vs.map some) H2) :
    SR K mg wE (updA ρ avs outs) σ H2 ∧ ∀ a, Ex wE.E (updA ρ avs outs) σ a → Ex cE.E outs (vs.map some) a := by
  have kp : ∀ a o, H a = some o → ¬ Ownd (avs.map (slOf ρ)) (vs.map some) a → H2 a = some o := fun a o h q => C.keep a o (by rw [c1]; exact full_of q h)
  have nE : ∀ {a o}, H a = some o → ¬ E2 a := fun {a o} h z => by rw [hE a z] at h; cases h
  -- slot j is not handed over: nobody else handed its thing over
  have alone : ∀ {j : Nat} {s : Sl} {d : D} {a : Addr}, ρ[j]? = some s → s.own = some d → σ[j]? = some (some (.ref a)) → pick j avs outs = none → ¬ Ownd (avs.map (slOf ρ)) (vs.map some) a := fun {j s d a} h1 h2 h3 hp z => by
    obtain ⟨k, i, t, e, q1, _, q3, q4, q5⟩ := passed A z
    have ij := S.inj i j t s e d a q4 q5 h1 h2 q3 h3
    subst ij
    obtain ⟨o, ho⟩ := pick_some (outs := outs) (Nat.le_of_eq hl) q1
    rw [hp] at ho; cases ho
  -- an owned slot behind the call
  have back : ∀ {j : Nat} {s : Sl} {d : D}, (updA ρ avs outs)[j]? = some s → s.own = some d → (ρ[j]? = some s ∧ pick j avs outs = none) ∨ ∃ (t : Sl) (e : D) (k : Nat), ρ[j]? = some t ∧ t.own = some e ∧ avs[k]? = some (.inr j) ∧ outs[k]? = some (.io d) ∧ ((∃ e, t = .ow e) ∧ s = .ow d ∨ (∃ e, t = .io e) ∧ s = .io d) := fun {j s d} h1 h2 => by
    rw [updA_get n] at h1
    cases hp : pick j avs outs with
    | none => rw [hp] at h1; exact .inl ⟨h1, rfl⟩
    | some o =>
      rw [hp] at h1
      obtain ⟨t, ht, e⟩ := Option.map_eq_some_iff.mp h1
      subst e
      obtain ⟨⟨e, he⟩, ho, hc⟩ := outSl_own h2
      obtain ⟨k, k1, k2⟩ := pick_at hp
      exact .inr ⟨t, e, k, ht, he, k1, by rw [k2, ho], hc⟩
  have ownB : ∀ a, Ownd (updA ρ avs outs) σ a → Ownd ρ σ a := fun a ⟨j, s, d, h1, h2, h3⟩ => by
    rcases back h1 h2 with ⟨q, _⟩ | ⟨t, e, k, q1, q2, _⟩
    · exact ⟨j, s, d, q, h2, h3⟩
    · exact ⟨j, t, e, q1, q2, h3⟩
  have vsAt : ∀ {k j : Nat} {v : V}, avs[k]? = some (.inr j) → σ[j]? = some (some v) → vs[k]? = some v := fun {k j v} h1 h2 => by
    obtain ⟨v', h3, h4⟩ := A.at h1
    have h4 : σ[j]? = some (some v') := h4
    rw [h2] at h4; cases h4
    exact h3
  have exB : ∀ a, Ex wE.E (updA ρ avs outs) σ a → Ex cE.E outs (vs.map some) a := fun a z => by
    rcases z with z | z
    · rcases (e4 a).mp z with z | z
      · exact .inl ((c4 a).mpr (.inl ⟨.inl z, fun q => S.exo a (passed_ownd A q) z⟩))
      · exact .inl ((c4 a).mpr (.inr z))
    · obtain ⟨j, s, d, h1, h2, h3⟩ := z
      rcases back h1 h2 with ⟨q, hp⟩ | ⟨t, e, k, q1, q2, q3, q4, _⟩
      · exact .inl ((c4 a).mpr (.inl ⟨.inr ⟨j, s, d, q, h2, h3⟩, alone q h2 h3 hp⟩))
      · exact .inr ⟨k, _, d, q4, rfl, by rw [List.getElem?_map, vsAt q3 h3]; rfl⟩
  have hk : ∀ a o, ¬ Ex w.E ρ σ a → H a = some o → H2 a = some o := fun a o q h => kp a o h fun z => q (.inr (passed_ownd A z))
  have ho : ∀ a o, Ex wE.E (updA ρ avs outs) σ a → H a = some o → Ex w.E ρ σ a := fun a o z h => by
    rcases z with z | z
    · rcases (e4 a).mp z with z | z
      · exact .inl z
      · exact absurd z (nE h)
    · exact .inr (ownB a z)
  refine ⟨⟨(updA_len ρ avs outs).trans S.len, fun j s v h1 h2 => ?_, fun i j s t d e a h1 h2 h3 h4 h5 h6 => ?_, fun a z q => ?_, fun a o h => ?_, fun a h => ?_, fun a z => ?_, fun j d h => ?_⟩, exB⟩
  · have h1' := h1
    rw [updA_get n] at h1
    have keepIt : ∀ {t : Sl}, ρ[j]? = some t → (t.own.isSome = true → pick j avs outs = none) → SlotR K mg wE (Ex wE.E (updA ρ avs outs) σ) H2 t v := fun {t} ht hq => by
      have q := (S.slot j t v ht h2).step hk ho fun a o ea eo h => kp a o h ?_
      · exact q.world (fun a _ _ h => by rw [e1]; exact h) fun a h => by rw [e2]; exact h
      · obtain ⟨d, hd⟩ := Option.isSome_iff_exists.mp eo
        exact alone ht hd (by rw [h2, ea]) (hq eo)
    cases hp : pick j avs outs with
    | none => rw [hp] at h1; exact keepIt h1 fun _ => hp
    | some o =>
      rw [hp] at h1
      obtain ⟨t, ht, e⟩ := Option.map_eq_some_iff.mp h1
      subst e
      cases hso : (outSl t o).own with
      | some d =>
        obtain ⟨⟨g, hg⟩, eo, hc⟩ := outSl_own hso
        obtain ⟨k, k1, k2⟩ := pick_at hp
        obtain ⟨a, ha, r0, o0⟩ := S.ow ht hg
        rw [h2] at ha; cases ha
        have hv := vsAt k1 h2
        rw [eo] at k2
        have q := C.slot k _ (some (V.ref a)) k2 (by rw [List.getElem?_map, hv]; rfl)
        obtain ⟨b, eb, _, ob⟩ := q
        cases eb
        have ob2 : Own K mg (Ex wE.E (updA ρ avs outs) σ) H2 d a := ob.sub exB
        have q0 := S.slot j t _ ht h2
        rcases hc with ⟨⟨g', rfl⟩, hc⟩ | ⟨⟨g', rfl⟩, hc⟩
        · rw [hc]
          obtain ⟨b, eb, _, nb, _⟩ := q0
          cases eb
          exact ⟨a, rfl, by rw [e1]; exact r0, by rw [e2]; exact nb, ob2⟩
        · rw [hc]
          exact ⟨a, rfl, by rw [e1]; exact r0, ob2⟩
      | none =>
        cases t with
        | sh d => exact keepIt ht fun z => by cases z
        | no => trivial
        | ow d => cases o <;> first | trivial | cases hso
        | io d => cases o <;> first | trivial | cases hso
  · have un : ∀ {j : Nat} {s : Sl} {d : D}, (updA ρ avs outs)[j]? = some s → s.own = some d → ∃ t e, ρ[j]? = some t ∧ t.own = some e := fun {j s d} q1 q2 => by
      rcases back q1 q2 with ⟨q, _⟩ | ⟨t, e, k, r1, r2, _⟩
      · exact ⟨s, d, q, q2⟩
      · exact ⟨t, e, r1, r2⟩
    obtain ⟨t1, d1, a1, a2⟩ := un h1 h2
    obtain ⟨t2, d2, b1, b2⟩ := un h3 h4
    exact S.inj i j t1 t2 d1 d2 a a1 a2 b1 b2 h5 h6
  · rcases (e4 a).mp q with q | q
    · exact S.exo a (ownB a z) q
    · obtain ⟨_, o, h⟩ := S.ownd (ownB a z)
      exact nE h q
  · rw [e1] at h
    exact kp a o (S.keep a o h) fun z => by rw [(S.ownd (passed_ownd A z)).1] at h; cases h
  · have q := C.fresh a h
    rw [c2] at q
    rw [e2]
    exact S.fresh a q
  · rcases (e4 a).mp z with z | z
    · obtain ⟨o, h⟩ := S.etr a z
      exact ⟨o, kp a o h fun q => S.exo a (passed_ownd A q) z⟩
    · exact C.etr a ((c4 a).mpr (.inr z))
  · rw [e3]
    rw [updA_get n] at h
    cases hp : pick j avs outs with
    | none => rw [hp] at h; exact S.iob j d h
    | some o =>
      rw [hp] at h
      obtain ⟨t, ht, e⟩ := Option.map_eq_some_iff.mp h
      obtain ⟨_, _, hc⟩ := outSl_own (s := t) (o := o) (d := d) (by rw [e]; rfl)
      rw [e] at hc
      rcases hc with ⟨_, hc⟩ | ⟨⟨g, rfl⟩, _⟩
      · cases hc
      · exact S.iob j g ht
theorem call_T {F : FF} {s : Sl} {outs : List Sl} {Q : VK} {E : XK} (S : SR K mg w ρ σ H) (A : AVs K mg (Ex w.E ρ σ) σ H avs vs) (n : (ownIx avs).Nodup) (hF : F (avs.map (slOf ρ)) = some (s, outs)) (hl : avs.length = outs.length)
    (k : ∀ v H', VR K mg w (updA ρ avs outs) σ H' s v → Q v H') : spT K mg F vs H Q E := by
  refine ⟨_, avs.map (slOf ρ), callee_start S A n, rfl, s, outs, hF, fun v H2 h => k v H2 ?_⟩
  cases s with
  | sh d =>
    obtain ⟨C, r⟩ := h
    obtain ⟨S2, ex⟩ := callee_end (E2 := fun _ => False) (wE := w) S A n hl rfl rfl rfl (fun a => by simp) rfl rfl (fun a => by simp [calleeW]) (fun _ z => z.elim) C
    exact ⟨S2, r.sub ex⟩
  | ow d =>
    obtain ⟨p, rfl, h1, h2, h3, h4, C, o⟩ := h
    have hp : H p = none := h2
    obtain ⟨S2, ex⟩ := callee_end (E2 := fun a => a = p) (wE := w.plus p) S A n hl rfl rfl rfl (fun a => Iff.rfl) rfl rfl (fun a => Iff.rfl) (fun a z => by rw [z]; exact hp) C
    refine ⟨p, rfl, S.r_none hp, S.fresh p hp, fun z => S.not_ex hp (.inl z), fun z => ?_, S2, o.sub ex⟩
    exact S2.exo p z (.inr rfl)
  | no => exact h.elim
  | io d => exact h.elim
end
end T

/-! T4: statements over plain data, the body of a def. -/
namespace T
open PySem L2

inductive Rs where
  | nx (ρ : Ev) | bk (ρ : Ev) | ct (ρ : Ev) | rt (s : Sl) (ρ : Ev)
abbrev FS := Ev → Option Rs
def Fin (K : Fg) (mg : Mg) (w : Wd) (r : Rs) (D : Ends) : Prop := match r with
  | .nx ρ => ∀ σ H, SR K mg w ρ σ H → D.nx σ H
  | .bk ρ => ∀ σ H, SR K mg w ρ σ H → D.bk σ H
  | .ct ρ => ∀ σ H, SR K mg w ρ σ H → D.ct σ H
  | .rt s ρ => ∀ v σ H, VR K mg w ρ σ H s v → D.rt v H
def denS (K : Fg) (mg : Mg) (f : FS) : TS := fun D σ H => ∃ (w : Wd) (ρ : Ev), SR K mg w ρ σ H ∧ ∃ r : Rs, f ρ = some r ∧ Fin K mg w r D
abbrev SX (X : Cx) (st : Stmt) (f : FS) : Prop := PS X st (denS X.K X.mg f)
abbrev BX (X : Cx) (st : List Stmt) (f : FS) : Prop := PSs X st (denS X.K X.mg f)
theorem ps_imp {X : Cx} {st : Stmt} {t u : TS} (h : PS X st t) (k : ∀ D σ H, u D σ H → t D σ H) : PS X st u := ⟨fun pins s σ H D I q => h.run pins s σ H D I (k D σ H q)⟩
theorem pss_imp {X : Cx} {st : List Stmt} {t u : TS} (h : PSs X st t) (k : ∀ D σ H, u D σ H → t D σ H) : PSs X st u := ⟨fun pins s σ H D I q => h.run pins s σ H D I (k D σ H q)⟩

/-! ### blocks, if, return -/
def sNil : FS := fun ρ => some (.nx ρ)
def sSeq (f g : FS) : FS := fun ρ => (f ρ).bind fun r => match r with
  | .nx ρ' => g ρ'
  | r => some r
def sIf (c : FT) (f g : FS) : FS := fun ρ => (c ρ).bind fun p => if p.1 = true then f p.2 else g p.2
def sRet (f : FE) : FS := fun ρ => (f ρ).map fun p => .rt p.1 p.2
def sRetO (i : Nat) : FS := fun ρ => match ρ[i]? with
  | some (.ow d) => some (.rt (.ow d) (ρ.set i .no))
  | some (.sh d) => some (.rt (.sh d) ρ)
  | _ => none
def sRetN : FS := fun ρ => some (.rt (.sh .non) ρ)
def sBreak : FS := fun ρ => some (.bk ρ)
def sCont : FS := fun ρ => some (.ct ρ)
def sDrop (f : FE) : FS := fun ρ => (f ρ).map fun p => .nx p.2
section
variable {X : Cx} {st : Stmt} {rest : List Stmt} {f g : FS} {c : FT} {e : Expr} {fe : FE} {pos : Pos}
theorem Fin.nx {K : Fg} {mg : Mg} {w : Wd} {r : Rs} {D D' : Ends} (h : Fin K mg w r D) (h1 : ∀ ρ, r = .nx ρ → Fin K mg w r D') (h2 : D'.bk = D.bk) (h3 : D'.ct = D.ct) (h4 : D'.rt = D.rt) : Fin K mg w r D' := by
  cases r with
  | nx ρ => exact h1 ρ rfl
  | bk ρ => intro σ H S; rw [h2]; exact h σ H S
  | ct ρ => intro σ H S; rw [h3]; exact h σ H S
  | rt s ρ => intro v σ H S; rw [h4]; exact h v σ H S
theorem b_nil : BX X [] sNil := pss_imp pss_nil fun D σ H h => by
  obtain ⟨w, ρ, S, r, hf, k⟩ := h
  cases hf
  exact k σ H S
theorem b_one (h : SX X st f) : BX X [st] f := pss_one h
theorem b_cons (h : SX X st f) (hr : BX X rest g) : BX X (st :: rest) (sSeq f g) := pss_imp (pss_cons h hr) fun D σ H h => by
  obtain ⟨w, ρ, S, r, hf, k⟩ := h
  obtain ⟨r1, h1, hf⟩ := Option.bind_eq_some_iff.mp hf
  refine ⟨w, ρ, S, r1, h1, ?_⟩
  cases r1 with
  | nx ρ1 => exact fun σ1 H1 S1 => ⟨w, ρ1, S1, r, hf, k⟩
  | bk ρ1 => cases hf; exact k
  | ct ρ1 => cases hf; exact k
  | rt s ρ1 => cases hf; exact k
theorem s_if {a b : List Stmt} (hc : TX X e c) (ha : BX X a f) (hb : BX X b g) : SX X (.If e a b pos) (sIf c f g) := ps_imp (ps_if hc ha hb) fun D σ H h => by
  obtain ⟨w, ρ, S, r, hf, k⟩ := h
  obtain ⟨⟨b, ρ1⟩, h1, hf⟩ := Option.bind_eq_some_iff.mp hf
  refine ⟨w, ρ, S, b, ρ1, h1, fun H1 S1 => ?_⟩
  cases b with
  | true => exact ⟨w, ρ1, S1, r, hf, k⟩
  | false => exact ⟨w, ρ1, S1, r, hf, k⟩
theorem s_ret (he : EX X e fe) : SX X (.Return (some e) pos) (sRet fe) := ps_imp (ps_ret he) fun D σ H h => by
  obtain ⟨w, ρ, S, r, hf, k⟩ := h
  obtain ⟨⟨s, ρ1⟩, h1, e1⟩ := Option.map_eq_some_iff.mp hf
  subst e1
  exact ⟨w, ρ, S, s, ρ1, h1, fun v H1 hv => k v σ H1 hv⟩
theorem s_retO (i : Nat) {x : Str} {p : Pos} (hN : X.N[i]? = some x := by rfl) (hv : Vis X.env.scope x := by first | exact Or.inl rfl | exact Or.inr (Or.inl rfl) | exact Or.inr (Or.inr rfl)) (hd : (x == ("__debug__" : Str)) = false := by decide)
    (hcd : (x == ("__classdict__" : Str)) = false := by decide) : SX X (.Return (some (.Name x p)) pos) (sRetO i) := ps_imp (ps_ret (pe_var hN hv hd hcd)) fun D σ H h => by
  obtain ⟨w, ρ, S, r, hf, k⟩ := h
  unfold sRetO at hf
  split at hf
  · rename_i d hs
    cases hf
    obtain ⟨a, e, q⟩ := S.out hs
    exact ⟨.ref a, e, k (.ref a) σ H q⟩
  · rename_i d hs
    cases hf
    obtain ⟨v, e, q⟩ := S.sh hs
    exact ⟨v, e, k v σ H ⟨S, q⟩⟩
  · cases hf
theorem s_retN : SX X (.Return none pos) sRetN := ps_imp ps_retN fun D σ H h => by
  obtain ⟨w, ρ, S, r, hf, k⟩ := h
  cases hf
  exact k .non σ H ⟨S, .non⟩
theorem s_break : SX X (.Break pos) sBreak := ps_imp ps_break fun D σ H h => by
  obtain ⟨w, ρ, S, r, hf, k⟩ := h
  cases hf
  exact k σ H S
theorem s_cont : SX X (.Continue pos) sCont := ps_imp ps_continue fun D σ H h => by
  obtain ⟨w, ρ, S, r, hf, k⟩ := h
  cases hf
  exact k σ H S
theorem s_pass : SX X (.Pass pos) sNil := ps_imp ps_pass fun D σ H h => by
  obtain ⟨w, ρ, S, r, hf, k⟩ := h
  cases hf
  exact k σ H S
theorem VR.S {K : Fg} {mg : Mg} {w : Wd} {ρ : Ev} {σ : L2.St} {H : Hp} {s : Sl} {v : V} (h : VR K mg w ρ σ H s v) : SR K mg w ρ σ H := by
  cases s with
  | sh d => exact h.1
  | ow d => exact (VR.sh h rfl).1
  | no => exact h.elim
  | io d => exact h.elim
theorem s_expr (he : EX X e fe) (hs : swapsWith e none pos.line X.env = pure false := by rfl) : SX X (.Expr e pos) (sDrop fe) := ps_imp (ps_expr he hs) fun D σ H h => by
  obtain ⟨w, ρ, S, r, hf, k⟩ := h
  obtain ⟨⟨s, ρ1⟩, h1, e1⟩ := Option.map_eq_some_iff.mp hf
  subst e1
  exact ⟨w, ρ, S, s, ρ1, h1, fun v H1 hv => k σ H1 hv.S⟩
end

/-! ### targets -/
inductive Tg where
  | n (i : Nat) | t (ts : List Tg)
mutual
def asg : Tg → D → Ev → Option Ev
  | .n i, d, ρ => some (ρ.set i (.sh d))
  | .t ts, .tup ds, ρ => asgs ts ds ρ
  | .t _, _, _ => none
def asgs : List Tg → List D → Ev → Option Ev
  | [], [], ρ => some ρ
  | t :: ts, d :: ds, ρ => (asg t d ρ).bind (asgs ts ds)
  | _, _, _ => none
end
mutual
def Tg.ixs : Tg → List Nat
  | .n i => [i]
  | .t ts => Tg.ixss ts
def Tg.ixss : List Tg → List Nat
  | [] => []
  | u :: us => u.ixs ++ Tg.ixss us
end
def wiped (is : List Nat) (σ σ' : L2.St) : Prop := ∀ vs : List Nat, (∀ i ∈ is, i ∈ vs) → wipe σ' vs = wipe σ vs
structure Asgd (is : List Nat) (ρ ρ' : Ev) (σ σ' : L2.St) : Prop where
  wip : wiped is σ σ'
  sub : ∀ a, Ownd ρ' σ' a → Ownd ρ σ a
def denP (K : Fg) (mg : Mg) (t : Tg) : TG := fun v σ H Q => ∃ (w : Wd) (ρ : Ev) (d : D), SR K mg w ρ σ H ∧ Rp K mg (Ex w.E ρ σ) H d v ∧ ∃ ρ', asg t d ρ = some ρ' ∧ ∀ σ', SR K mg w ρ' σ' H → Asgd t.ixs ρ ρ' σ σ' → Q σ' H
def denPs (K : Fg) (mg : Mg) (ts : List Tg) : TGs := fun vs σ H Q => ∃ (w : Wd) (ρ : Ev) (ds : List D), SR K mg w ρ σ H ∧ Rps K mg (Ex w.E ρ σ) H ds vs ∧ ∃ ρ', asgs ts ds ρ = some ρ' ∧ ∀ σ', SR K mg w ρ' σ' H → Asgd (Tg.ixss ts) ρ ρ' σ σ' → Q σ' H
abbrev GXt (X : Cx) (e : Expr) (t : Tg) : Prop := PG X e (denP X.K X.mg t)
abbrev GXs (X : Cx) (es : List Expr) (ts : List Tg) : Prop := PGs X es (denPs X.K X.mg ts)
theorem pg_imp {X : Cx} {e : Expr} {t u : TG} (h : PG X e t) (k : ∀ v σ H Q, u v σ H Q → t v σ H Q) : PG X e u := ⟨fun pins s σ H v v' Q I r q => h.run pins s σ H v v' Q I r (k v σ H Q q)⟩
theorem pgs_imp {X : Cx} {es : List Expr} {t u : TGs} (h : PGs X es t) (k : ∀ v σ H Q, u v σ H Q → t v σ H Q) : PGs X es u := ⟨fun pins s σ H vs us Q I r q => h.run pins s σ H vs us Q I r (k vs σ H Q q)⟩
theorem wipe_set {i : Nat} {x : Option V} : ∀ {vs : List Nat} {σ : L2.St}, i ∈ vs → wipe (σ.set i x) vs = wipe σ vs
  | [], _, h => by cases h
  | j :: vs, σ, h => by
    by_cases e : i ∈ vs
    · show (wipe (σ.set i x) vs).set j none = (wipe σ vs).set j none
      rw [wipe_set e]
    · have ej : j = i := by
        rcases List.mem_cons.mp h with h | h
        · exact h.symm
        · exact absurd h e
      subst ej
      show (wipe (σ.set j x) vs).set j none = (wipe σ vs).set j none
      refine List.ext_getElem? fun k => ?_
      have key : ∀ {vs : List Nat} {σ : L2.St}, j ∉ vs → ∀ k, k ≠ j → (wipe (σ.set j x) vs)[k]? = (wipe σ vs)[k]? := by
        intro vs
        induction vs with
        | nil => intro σ _ k hk; exact List.getElem?_set_ne (Ne.symm hk)
        | cons m vs ih =>
          intro σ hm k hk
          show ((wipe (σ.set j x) vs).set m none)[k]? = ((wipe σ vs).set m none)[k]?
          have hv : j ∉ vs := fun z => hm (List.mem_cons_of_mem _ z)
          by_cases hkm : m = k
          · subst hkm
            rw [List.getElem?_set, List.getElem?_set, wipe_length, wipe_length]
            simp
          · rw [List.getElem?_set_ne hkm, List.getElem?_set_ne hkm]
            exact ih hv k hk
      by_cases hk : k = j
      · subst hk
        rw [List.getElem?_set, List.getElem?_set, wipe_length, wipe_length]
        simp
      · rw [List.getElem?_set_ne (Ne.symm hk), List.getElem?_set_ne (Ne.symm hk)]
        exact key e k hk
section
variable {X : Cx} {e : Expr} {es : List Expr} {t : Tg} {ts : List Tg} {pos : Pos}
theorem t_n (i : Nat) {x : Str} (hN : X.N.Nodup) (hi : X.N[i]? = some x := by rfl) (hx : Loc X.env.scope x := by first | exact Or.inl rfl | exact Or.inr rfl) (hf : X.fn x = true ∨ X.env.scope.names.lookup x = some .local := by first | exact .inl rfl | exact .inr rfl | assumption) :
    GXt X (.Name x pos) (.n i) := pg_imp (pg_name hN hi hx hf) fun v σ H Q h => by
  obtain ⟨w, ρ, d, S, r, ρ', ha, k⟩ := h
  cases ha
  refine k _ (S.setSh r) ⟨fun vs hv => wipe_set (hv i (by simp [Tg.ixs])), fun a z => ?_⟩
  rcases own_set z with ⟨z, _⟩ | ⟨j, s, d, _, h1, h2, h3⟩
  · cases z
  · exact ⟨j, s, d, h1, h2, h3⟩
theorem ts_nil : GXs X [] [] := pgs_imp pgs_nil fun v σ H Q h => by
  obtain ⟨w, ρ, ds, S, r, ρ', ha, k⟩ := h
  cases r with
  | nil => cases ha; exact ⟨rfl, k σ S ⟨fun _ _ => rfl, fun _ z => z⟩⟩
  | cons _ _ => cases ha
theorem ts_cons (h : GXt X e t) (hr : GXs X es ts) (hs : (assignEach (e :: es) X.env).map (·.2) = assign e X.env :: (assignEach es X.env).map (·.2) := by rfl) : GXs X (e :: es) (t :: ts) := pgs_imp (pgs_cons h hr hs) fun v σ H Q h => by
  obtain ⟨w, ρ, ds, S, r, ρ', ha, k⟩ := h
  cases r with
  | nil => cases ha
  | cons r1 r2 =>
    unfold asgs at ha
    obtain ⟨ρ1, h1, h2⟩ := Option.bind_eq_some_iff.mp ha
    refine ⟨_, _, rfl, w, ρ, _, S, r1, ρ1, h1, fun σ1 S1 a1 => ⟨w, ρ1, _, S1, r2.sub fun a z => z.imp id (a1.sub a), ρ', h2, fun σ2 S2 a2 => k σ2 S2 ⟨fun vs hv => ?_, fun a z => a1.sub a (a2.sub a z)⟩⟩⟩
    rw [a2.wip vs fun i hi => hv i (List.mem_append_right _ hi)]
    exact a1.wip vs fun i hi => hv i (List.mem_append_left _ hi)
theorem asgs_len : ∀ {ts : List Tg} {ds : List D} {ρ ρ' : Ev}, asgs ts ds ρ = some ρ' → ds.length = ts.length
  | [], [], _, _, _ => rfl
  | [], _ :: _, _, _, h => by cases h
  | _ :: _, [], _, _, h => by cases h
  | t :: ts, d :: ds, ρ, ρ', h => by
    unfold asgs at h
    obtain ⟨ρ1, _, h2⟩ := Option.bind_eq_some_iff.mp h
    exact congrArg (· + 1) (asgs_len h2)
theorem t_t {k : Nat} (hc : X.calm = true) (h : GXs X es ts) (hn : (assignEach es X.env).length = ts.length := by rfl) (hst : (assignEach es X.env).findIdx? (·.1) = none := by rfl) : GXt X (.Tuple es k pos) (.t ts) :=
  pg_imp (pg_tup hc h hn hst) fun v σ H Q h => by
  obtain ⟨w, ρ, d, S, r, ρ', ha, k⟩ := h
  cases d with
  | tup ds =>
    obtain ⟨a, vs, e, hq, rr⟩ := r.tupAt
    exact ⟨a, vs, e, hq, rr.len.symm.trans (asgs_len ha), w, ρ, ds, S, rr, ρ', ha, k⟩
  | _ => cases ha
end

/-! ### assignments -/
def sSet (i : Nat) (f : FE) : FS := fun ρ => (f ρ).map fun p => .nx (p.2.set i p.1)
def sAsg (t : Tg) (f : FE) : FS := fun ρ => (f ρ).bind fun p => (vl p.1).bind fun d => (asg t d p.2).map .nx
def opt2 (f g : FE) (ρ : Ev) : Option (D × D × Ev) := (f ρ).bind fun p => (vl p.1).bind fun x => (g p.2).bind fun q => (vl q.1).map fun y => (x, y, q.2)
/-- a, b = x, y -/
def sPar (i j : Nat) (f g : FE) : FS := fun ρ => (f ρ).bind fun p => (g p.2).map fun q => .nx ((q.2.set i p.1).set j q.1)
section
variable {X : Cx} {st : Stmt} {f g : FE} {e : Expr} {pos pos' : Pos} {x y : Str}
theorem VR.set {K : Fg} {mg : Mg} {w : Wd} {ρ : Ev} {σ : L2.St} {H : Hp} {s : Sl} {v : V} (i : Nat) (h : VR K mg w ρ σ H s v) : SR K mg w (ρ.set i s) (σ.set i (some v)) H := by
  cases s with
  | sh d => exact h.1.setSh h.2
  | ow d =>
    obtain ⟨p, rfl, h1, h2, h3, h4, S, o⟩ := h
    exact S.setOw h1 h2 h3 h4 o
  | no => exact h.elim
  | io d => exact h.elim
theorem s_set (i : Nat) (hN : X.N.Nodup) (he : EX X e f) (hi : X.N[i]? = some x := by rfl) (hx : Loc X.env.scope x := by first | exact Or.inl rfl | exact Or.inr rfl) (hs : swapsWith e (some (.Name x pos')) pos.line X.env = pure false := by rfl)
    (hf : X.fn x = true ∨ X.env.scope.names.lookup x = some .local := by first | exact .inl rfl | exact .inr rfl | assumption) : SX X (.Assign [.Name x pos'] e pos) (sSet i f) := ps_imp (ps_set hN hi hx he hs hf) fun D σ H h => by
  obtain ⟨w, ρ, S, r, hf, k⟩ := h
  obtain ⟨⟨s, ρ1⟩, h1, e1⟩ := Option.map_eq_some_iff.mp hf
  subst e1
  exact ⟨w, ρ, S, s, ρ1, h1, fun v H1 hv => k _ H1 (hv.set i)⟩
theorem s_asg {tg : Expr} {t : Tg} (he : EX X e f) (hg : GXt X tg t) (hs : swapsWithSole [tg] e pos.line X.env = pure false := by rfl) (hw : swappedStores [tg] e X.env = pure none := by rfl)
    (h1 : (assignEach [tg] X.env).map (·.2) = [assign tg X.env] := by rfl) : SX X (.Assign [tg] e pos) (sAsg t f) := ps_imp (ps_asg he hg hs hw h1) fun D σ H h => by
  obtain ⟨w, ρ, S, r, hf, k⟩ := h
  obtain ⟨⟨s, ρ1⟩, h1, hf⟩ := Option.bind_eq_some_iff.mp hf
  obtain ⟨d, hd, hf⟩ := Option.bind_eq_some_iff.mp hf
  obtain ⟨ρ2, h2, e2⟩ := Option.map_eq_some_iff.mp hf
  subst e2
  exact one S h1 hd fun v H1 S1 r1 => ⟨w, ρ1, d, S1, r1, ρ2, h2, fun σ2 S2 _ => k σ2 H1 S2⟩
end

/-! ### the body of a def -/
def outIo : Sl → Sl
  | .io d => .io d
  | _ => .no
def takeN : Nat → Ev → List Sl
  | 0, _ => []
  | n + 1, [] => .no :: takeN n []
  | n + 1, s :: r => outIo s :: takeN n r
def runDef (n m : Nat) (body : FS) : FF := fun sls => if sls.length = n then (body (sls ++ List.replicate m .no)).bind fun r => match r with
  | .rt s ρ => some (s, takeN n ρ)
  | .nx ρ => some (.sh .non, takeN n ρ)
  | _ => none else none
theorem takeN_len : ∀ (n : Nat) (ρ : Ev), (takeN n ρ).length = n
  | 0, _ => rfl
  | n + 1, [] => congrArg (· + 1) (takeN_len n [])
  | n + 1, _ :: r => congrArg (· + 1) (takeN_len n r)
theorem takeN_io : ∀ {n : Nat} {ρ : Ev} {k : Nat} {s : Sl} {d : D}, (takeN n ρ)[k]? = some s → s ≠ .no → s = .io d ∨ (∃ e, s = .io e) 
  | 0, _, _, _, _, h, _ => by simp [takeN] at h
  | n + 1, [], 0, s, d, h, q => by
    have e : Sl.no = s := by simpa [takeN] using h
    exact absurd e.symm q
  | n + 1, [], k + 1, s, d, h, q => takeN_io (n := n) (ρ := []) (k := k) (by simpa [takeN] using h) q
  | n + 1, t :: r, 0, s, d, h, q => by
    have e : outIo t = s := by simpa [takeN] using h
    cases t with
    | io g => exact .inr ⟨g, e.symm⟩
    | no => exact absurd e.symm q
    | sh g => exact absurd e.symm q
    | ow g => exact absurd e.symm q
  | n + 1, t :: r, k + 1, s, d, h, q => takeN_io (n := n) (ρ := r) (k := k) (by simpa [takeN] using h) q
theorem takeN_at : ∀ {n : Nat} {ρ : Ev} {k : Nat} {d : D}, (takeN n ρ)[k]? = some (.io d) → ρ[k]? = some (.io d) ∧ k < n
  | 0, _, _, _, h => by simp [takeN] at h
  | n + 1, [], 0, d, h => by simp [takeN] at h
  | n + 1, [], k + 1, d, h => by
    have q := takeN_at (n := n) (ρ := []) (k := k) (d := d) (by simpa [takeN] using h)
    simp at q
  | n + 1, t :: r, 0, d, h => by
    have e : outIo t = .io d := by simpa [takeN] using h
    cases t <;> cases e
    exact ⟨rfl, Nat.succ_pos n⟩
  | n + 1, t :: r, k + 1, d, h => by
    have q := takeN_at (n := n) (ρ := r) (k := k) (d := d) (by simpa [takeN] using h)
    exact ⟨by simpa using q.1, Nat.succ_lt_succ q.2⟩
theorem takeN_own {n : Nat} {ρ : Ev} {k : Nat} {s : Sl} {d : D} (h : (takeN n ρ)[k]? = some s) (hd : s.own = some d) : s = .io d ∧ ρ[k]? = some (.io d) ∧ k < n := by
  have q : s = .io d := by
    rcases takeN_io (d := d) h (fun z => by rw [z] at hd; cases hd) with q | ⟨e, q⟩
    · exact q
    · rw [q] at hd ⊢; cases hd; rfl
  subst q
  exact ⟨rfl, takeN_at h⟩

section
variable {K : Fg} {mg : Mg} {w : Wd} {ρ : Ev} {σ : L2.St} {H : Hp} {vs : List V} {sls : List Sl} {s : Sl} {v : V}
theorem get_app_none {m i : Nat} {x : Option V} (h : (vs.map some ++ List.replicate m none)[i]? = some x) : (vs.map some)[i]? = some x ∨ (x = none ∧ vs.length ≤ i) := by
  by_cases hi : i < vs.length
  · rw [List.getElem?_append_left (by simpa using hi)] at h
    exact .inl h
  · rw [List.getElem?_append_right (by simpa using hi)] at h
    exact .inr ⟨(List.getElem?_replicate.symm.trans h |> fun q => by simp only [List.getElem?_replicate] at h; split at h <;> first | (exact (Option.some.inj h).symm) | cases h), by omega⟩
theorem SR.ext {m : Nat} (S : SR K mg w sls (vs.map some) H) (hB : w.B = vs.map some) : SR K mg w (sls ++ List.replicate m .no) (vs.map some ++ List.replicate m none) H := by
  have hl : sls.length = vs.length := by simpa using S.len
  have un : ∀ {i : Nat} {s : Sl}, (sls ++ List.replicate m Sl.no)[i]? = some s → (s = .no) ∨ (sls[i]? = some s ∧ i < sls.length) := fun {i s} h => by
    by_cases hi : i < sls.length
    · rw [List.getElem?_append_left hi] at h
      exact .inr ⟨h, hi⟩
    · rw [List.getElem?_append_right (by omega), List.getElem?_replicate] at h
      split at h
      · exact .inl (Option.some.inj h).symm
      · cases h
  have unV : ∀ {i : Nat}, i < sls.length → (vs.map some ++ List.replicate m (none : Option V))[i]? = (vs.map some)[i]? := fun {i} hi => List.getElem?_append_left (by simpa [← hl] using hi)
  have ow : ∀ a, Ownd (sls ++ List.replicate m .no) (vs.map some ++ List.replicate m none) a → Ownd sls (vs.map some) a := fun a ⟨i, s, d, h1, h2, h3⟩ => by
    rcases un h1 with rfl | ⟨h1, hi⟩
    · cases h2
    · rw [unV hi] at h3
      exact ⟨i, s, d, h1, h2, h3⟩
  refine ⟨by simp [hl], fun i s v h1 h2 => ?_, fun i j s t d e a h1 h2 h3 h4 h5 h6 => ?_, fun a z => S.exo a (ow a z), S.keep, S.fresh, S.etr, fun i d h => ?_⟩
  · rcases un h1 with rfl | ⟨h1, hi⟩
    · trivial
    · rw [unV hi] at h2
      exact (S.slot i s v h1 h2).step (fun _ _ _ e => e) (fun a _ z _ => z.imp id (ow a)) fun _ _ _ _ e => e
  · rcases un h1 with rfl | ⟨h1, hi⟩
    · cases h2
    · rcases un h3 with rfl | ⟨h3, hj⟩
      · cases h4
      · rw [unV hi] at h5
        rw [unV hj] at h6
        exact S.inj i j s t d e a h1 h2 h3 h4 h5 h6
  · rcases un h with h | ⟨h, hi⟩
    · cases h
    · rw [unV hi]
      exact S.iob i d h
theorem SR.cut {wE : Wd} (S : SR K mg wE ρ σ H) (hB : wE.B = vs.map some) : SR K mg wE (takeN vs.length ρ) (vs.map some) H ∧ ∀ a, Ownd (takeN vs.length ρ) (vs.map some) a → Ownd ρ σ a := by
  have un : ∀ {k : Nat} {s : Sl} {d : D}, (takeN vs.length ρ)[k]? = some s → s.own = some d → s = .io d ∧ ρ[k]? = some (.io d) ∧ σ[k]? = (vs.map some)[k]? := fun {k s d} h hd => by
    obtain ⟨h1, h2, _⟩ := takeN_own h hd
    exact ⟨h1, h2, (S.iob k d h2).trans (by rw [hB])⟩
  have ow : ∀ a, Ownd (takeN vs.length ρ) (vs.map some) a → Ownd ρ σ a := fun a ⟨k, s, d, h1, h2, h3⟩ => by
    obtain ⟨rfl, g1, g2⟩ := un h1 h2
    exact ⟨k, _, d, g1, rfl, by rw [g2]; exact h3⟩
  refine ⟨⟨by rw [takeN_len]; simp, fun k s v h1 h2 => ?_, fun i j s t d e a h1 h2 h3 h4 h5 h6 => ?_, fun a z => S.exo a (ow a z), S.keep, S.fresh, S.etr, fun k d h => by rw [hB]⟩, ow⟩
  · by_cases hs : s = .no
    · rw [hs]; trivial
    · obtain ⟨e, rfl⟩ : ∃ e, s = .io e := by
        rcases takeN_io (d := .non) h1 hs with q | q
        · exact ⟨_, q⟩
        · exact q
      obtain ⟨_, g1, g2⟩ := un h1 rfl
      exact (S.slot k _ v g1 (by rw [g2]; exact h2)).step (fun _ _ _ e => e) (fun a _ z _ => z.imp id (ow a)) fun _ _ _ _ e => e
  · obtain ⟨rfl, g1, g2⟩ := un h1 h2
    obtain ⟨rfl, g3, g4⟩ := un h3 h4
    exact S.inj i j _ _ d e a g1 rfl g3 rfl (by rw [g2]; exact h5) (by rw [g4]; exact h6)
theorem VR.cut (h : VR K mg w ρ σ H s v) (hB : w.B = vs.map some) : VR K mg w (takeN vs.length ρ) (vs.map some) H s v := by
  cases s with
  | sh d =>
    obtain ⟨S, r⟩ := h
    obtain ⟨S2, ow⟩ := S.cut hB
    exact ⟨S2, r.sub fun a z => z.imp id (ow a)⟩
  | ow d =>
    obtain ⟨p, rfl, h1, h2, h3, h4, S, o⟩ := h
    obtain ⟨S2, ow⟩ := SR.cut (wE := w.plus p) S hB
    exact ⟨p, rfl, h1, h2, h3, fun z => h4 (ow p z), S2, o.sub fun a z => z.imp id (ow a)⟩
  | no => exact h.elim
  | io d => exact h.elim
end

theorem runDef_len {n m : Nat} {body : FS} {sls : List Sl} {r : Sl × List Sl} (h : runDef n m body sls = some r) : sls.length = n := by
  unfold runDef at h
  split at h
  · assumption
  · cases h
open PyProof.Rows (envOfC) in
/-- a def of the text that nothing leaves but by its end -/
theorem okT {P : Program} {w : World} {K : Fg} {mg : Mg} {base : Heap} {x qual : Str} {st : Stmt} {f : Addr} {fd : FuncData} {N ps : List Str} {k : Nat} {body : FS} (F : Fun K x qual st f fd) (S : FnScope N ps (defScope st))
    (hbody : ∀ (cdv : Value) (A : Around) (outer : List Env) (s : Shared) (H : Hp) (E : XK), RoomG k (A.deeper (envOfC qual (defScope st) s.heap.objs.size f cdv)) →
      BX (cxOf CX0 P w K mg base N qual (defScope st) f cdv A outer s H E).nox (defBody st) body) : FnG P w K mg base CX0 (k + 1) f fd ps (spT K mg (runDef ps.length (N.length - ps.length) body)) := by
  have hlen : ∀ vs H Q E, spT K mg (runDef ps.length (N.length - ps.length) body) vs H Q E → vs.length = ps.length := fun vs H Q E h => by
    obtain ⟨w, sls, S, hB, s, outs, hF, k⟩ := h
    have e := S.len
    rw [runDef_len hF] at e
    simpa using e.symm
  refine Fun.okG F S hlen fun cdv A outer s H vs Q E hr h => ?_
  have hl := hlen _ _ _ _ h
  obtain ⟨wd, sls, SS, hB, sl, outs, hF, k⟩ := h
  refine ⟨_, (hbody cdv A outer s H E hr).nox, wd, sls ++ List.replicate (N.length - ps.length) .no, ?_, ?_⟩
  · have q := SS.ext (m := N.length - ps.length) hB
    unfold L2.start
    rw [hl]
    exact q
  · unfold runDef at hF
    split at hF
    · obtain ⟨r, h1, h2⟩ := Option.bind_eq_some_iff.mp hF
      refine ⟨r, h1, ?_⟩
      cases r with
      | rt s ρ =>
        cases h2
        intro v σ H hv
        refine k v H ?_
        rw [← hl]
        exact hv.cut hB
      | nx ρ =>
        cases h2
        intro σ H hv
        refine k .non H ?_
        rw [← hl]
        exact VR.cut (s := .sh .non) ⟨hv, .non⟩ hB
      | bk ρ => cases h2
      | ct ρ => cases h2
    · cases hF
end T

/-! T5: what is walked; for, while, comprehensions over plain data. -/
namespace T
open PySem L2

abbrev FI := Ev → Option (List D × Ev)
def Sub (C H : Hp) : Prop := ∀ a o, C a = some o → H a = some o
/-- J yields the data xs as long as C stands -/
structure ItS (K : Fg) (mg : Mg) (C : Hp) (xs : List D) (J : It) : Prop where
  stop : ∀ H, Sub C H → J.stop xs.length H
  go : ∀ i, i < xs.length → ∀ H, Sub C H → J.go i H
  yld : ∀ (i : Nat) (d : D), xs[i]? = some d → ∀ (w : Wd) (ρ : Ev) (σ : L2.St) (H : Hp) (x : V) (H' : Hp), SR K mg w ρ σ H → Sub C w.R → (∀ a o, w.E a → C a = some o → False) → J.yld i H x H' →
    SR K mg w ρ σ H' ∧ Rp K mg (Ex w.E ρ σ) H' d x ∧ Sub H H'
def denI (K : Fg) (mg : Mg) (f : FI) : TI := fun σ H R => ∃ (w : Wd) (ρ : Ev), SR K mg w ρ σ H ∧ ∃ (xs : List D) (ρ' : Ev), f ρ = some (xs, ρ') ∧
  ∀ (J : It) (H' C : Hp), SR K mg w ρ' σ H' → (∀ a o, C a = some o → H' a = some o ∧ ¬ Ex w.E ρ' σ a) → ItS K mg C xs J → R J H'
abbrev IX (X : Cx) (tg e : Expr) (f : FI) : Prop := PI X tg e (denI X.K X.mg f)
theorem pi_imp {X : Cx} {tg e : Expr} {t u : TI} (h : PI X tg e t) (k : ∀ σ H R, u σ H R → t σ H R) : PI X tg e u := ⟨fun pins s σ H R I q => h.run pins s σ H R I (k σ H R q)⟩

/-- the items of a list, of a tuple -/
def iLst (f : FE) : FI := fun ρ => (f ρ).bind fun p => (vl p.1).bind fun d => d.items.map fun ds => (ds, p.2)
def iTup' (f : FE) : FI := fun ρ => (f ρ).bind fun p => match vl p.1 with
  | some (.tup ds) => some (ds, p.2)
  | _ => none
def rangeD (lo : Int) (n : Nat) : List D := (List.range n).map fun i => .int (lo + (i : Nat))
def iRg1 (f : FE) : FI := fun ρ => (f ρ).bind fun p => match vl p.1 with
  | some (.int n) => if -(2 ^ 62) ≤ n ∧ n < 2 ^ 62 then some (rangeD 0 n.toNat, p.2) else none
  | _ => none
def iRg2 (f g : FE) : FI := fun ρ => (opt2 f g ρ).bind fun q => match q with
  | (.int a, .int b, ρ') => if -(2 ^ 62) ≤ a ∧ a < 2 ^ 62 ∧ -(2 ^ 62) ≤ b ∧ b < 2 ^ 62 then some (rangeD a (b - a).toNat, ρ') else none
  | _ => none
open Classical in
/-- what of H the walk leans on -/
noncomputable def solid (O : AP) (H : Hp) : Hp := fun a => if O a then none else H a
theorem of_solid {O : AP} {H : Hp} {a : Addr} {o : HO} (h : solid O H a = some o) : H a = some o ∧ ¬ O a := by
  unfold solid at h
  split at h
  · cases h
  · rename_i n; exact ⟨h, n⟩
theorem solid_of {O : AP} {H : Hp} {a : Addr} {o : HO} (n : ¬ O a) (h : H a = some o) : solid O H a = some o := by unfold solid; rw [if_neg n]; exact h
section
variable {K : Fg} {mg : Mg} {w w' : Wd} {ρ ρ' : Ev} {σ σ' : L2.St} {H H' : Hp} {O : AP} {d : D} {x : V}
theorem Rp.keepSolid (h : Rp K mg O H d x) (S : SR K mg w ρ σ H') (hC : Sub (solid O H) w.R) (hE : ∀ a o, w.E a → solid O H a = some o → False) : Rp K mg (Ex w.E ρ σ) H' d x := by
  refine h.step (fun a o n e => S.keep a o (hC a o (solid_of n e))) fun a o z e => ?_
  by_cases n : O a
  · exact n
  · have q := solid_of n e
    rcases z with z | z
    · exact (hE a o z q).elim
    · have r := hC a o q
      rw [(S.ownd z).1] at r; cases r
theorem Rp.itl {d : D} {ds : List D} {a : Addr} (h : Rp K mg O H d (.ref a)) (e : d.items = some ds) : ItS K mg (solid O H) ds (Itl K a) := by
  obtain ⟨vs, hs, r⟩ : ∃ vs, (∀ H', Sub (T.solid O H) H' → SqL K H' a vs) ∧ Rps K mg O H ds vs := by
    cases h with
    | lst h r => cases e; exact ⟨_, fun H' hC => .inl (.inl (hC _ _ (solid_of h.2 h.1))), r⟩
    | scr h r =>
      cases e
      refine ⟨_, fun H' hC => ?_, r⟩
      rcases h with ⟨h, n⟩ | h
      · rcases h with h | ⟨o, h⟩
        · exact .inl (.inl (hC _ _ (solid_of n h)))
        · exact .inl (.inr ⟨o, hC _ _ (solid_of n h)⟩)
      · exact h.at H'
    | _ => cases e
  refine ⟨fun H' hC => ⟨vs, hs H' hC, Nat.le_of_eq r.len.symm⟩, fun i hi H' hC => ?_, fun i d hd w ρ σ H1 x H2 S hC hE hy => ?_⟩
  · obtain ⟨v, hv, _⟩ := r.get (List.getElem?_eq_getElem hi)
    exact ⟨vs, v, hs H' hC, hv⟩
  · obtain ⟨e, hv⟩ := hy
    subst e
    obtain ⟨v, h1, h2⟩ := r.get hd
    have q := hv vs (hs _ fun a o e => S.keep a o (hC a o e))
    rw [h1] at q; cases q
    exact ⟨S, Rp.keepSolid h2 S hC hE, fun _ _ e => e⟩
theorem Rp.itt {ds : List D} {a : Addr} (h : Rp K mg O H (.tup ds) (.ref a)) : ItS K mg (solid O H) ds (Itt K a) := by
  obtain ⟨vs, hs, r⟩ : ∃ vs, (∀ H', Sub (T.solid O H) H' → SqT K H' a vs) ∧ Rps K mg O H ds vs := by
    cases h with
    | tup h r =>
      refine ⟨_, fun H' hC => ?_, r⟩
      rcases h with ⟨h, n⟩ | h
      · exact .inl (.inl (hC _ _ (solid_of n h)))
      · exact h.at H'
  refine ⟨fun H' hC => ⟨vs, hs H' hC, Nat.le_of_eq r.len.symm⟩, fun i hi H' hC => ?_, fun i d hd w ρ σ H1 x H2 S hC hE hy => ?_⟩
  · obtain ⟨v, hv, _⟩ := r.get (List.getElem?_eq_getElem hi)
    exact ⟨vs, v, hs H' hC, hv⟩
  · obtain ⟨e, hv⟩ := hy
    subst e
    obtain ⟨v, h1, h2⟩ := r.get hd
    have q := hv vs (hs _ fun a o e => S.keep a o (hC a o e))
    rw [h1] at q; cases q
    exact ⟨S, Rp.keepSolid h2 S hC hE, fun _ _ e => e⟩
theorem rangeD_get {lo : Int} {n i : Nat} {d : D} (h : (rangeD lo n)[i]? = some d) : i < n ∧ d = .int (lo + (i : Nat)) := by
  unfold rangeD at h
  rw [List.getElem?_map] at h
  obtain ⟨j, hj, e⟩ := Option.map_eq_some_iff.mp h
  obtain ⟨h1, h2⟩ := List.getElem?_eq_some_iff.mp hj
  rw [List.getElem_range] at h2
  subst h2
  exact ⟨by simpa using h1, e.symm⟩
theorem its_range (lo : Int) (n : Nat) : ItS K mg (fun _ => none) (rangeD lo n) (Itr lo n) := by
  have hl : (rangeD lo n).length = n := by simp [rangeD]
  refine ⟨fun H _ => by rw [hl]; exact Nat.le_refl n, fun i hi H _ => by rw [hl] at hi; exact hi, fun i d hd w ρ σ H x H' S _ _ hy => ?_⟩
  obtain ⟨rfl, rfl⟩ := hy
  obtain ⟨_, rfl⟩ := rangeD_get hd
  exact ⟨S, .int _, fun _ _ e => e⟩
end
section
variable {X : Cx} {tg e a b : Expr} {f g : FE} {p pos : Pos}
theorem i_lst (he : EX X e f) : IX X tg e (iLst f) := pi_imp (pi_list he) fun σ H R h => by
  obtain ⟨w, ρ, S, xs, ρ', hf, k⟩ := h
  obtain ⟨⟨s, ρ1⟩, h1, hf⟩ := Option.bind_eq_some_iff.mp hf
  obtain ⟨d, hd, hf⟩ := Option.bind_eq_some_iff.mp hf
  obtain ⟨ds, he, e2⟩ := Option.map_eq_some_iff.mp hf
  cases e2
  refine one S h1 hd fun v H1 S1 r1 => ?_
  obtain ⟨a, vs, rfl, hs, _⟩ := r1.itemsAt he
  exact ⟨a, rfl, ⟨vs, hs⟩, k _ H1 _ S1 (fun a o h => of_solid h) (r1.itl he)⟩
theorem i_tup (he : EX X e f) : IX X tg e (iTup' f) := pi_imp (pi_tup he) fun σ H R h => by
  obtain ⟨w, ρ, S, xs, ρ', hf, k⟩ := h
  obtain ⟨⟨s, ρ1⟩, h1, hf⟩ := Option.bind_eq_some_iff.mp hf
  split at hf
  · rename_i ds hd
    cases hf
    refine one S h1 hd fun v H1 S1 r1 => ?_
    obtain ⟨a, vs, rfl, hs, _⟩ := r1.tupAt
    exact ⟨a, rfl, ⟨vs, hs⟩, k _ H1 _ S1 (fun a o h => of_solid h) r1.itt⟩
  · cases hf
theorem opt2_some {f g : FE} {ρ ρ2 : Ev} {x y : D} (h : opt2 f g ρ = some (x, y, ρ2)) : ∃ s1 ρ1 s2, f ρ = some (s1, ρ1) ∧ vl s1 = some x ∧ g ρ1 = some (s2, ρ2) ∧ vl s2 = some y := by
  obtain ⟨⟨s1, ρ1⟩, h1, h⟩ := Option.bind_eq_some_iff.mp h
  obtain ⟨x', hx, h⟩ := Option.bind_eq_some_iff.mp h
  obtain ⟨⟨s2, ρ2'⟩, h2, h⟩ := Option.bind_eq_some_iff.mp h
  obtain ⟨y', hy, h⟩ := Option.map_eq_some_iff.mp h
  cases h
  exact ⟨s1, ρ1, s2, h1, hx, h2, hy⟩
theorem i_rg1 (hg : Gl X "range") (hm : X.mg "range" = none) (ha : EX X a f) (hs : starEach [a] X.env = [(false, eval a X.env)] := by rfl) : IX X tg (.Call (.Name "range" p) [a] [] pos) (iRg1 f) :=
  pi_imp (pi_range1 hg hm (pa_cons ha pa_nil (by rw [hs]; rfl)) hs) fun σ H R h => by
  obtain ⟨w, ρ, S, xs, ρ', hf, k⟩ := h
  obtain ⟨⟨s, ρ1⟩, h1, hf⟩ := Option.bind_eq_some_iff.mp hf
  split at hf
  · rename_i n hd
    split at hf
    · rename_i hn
      cases hf
      refine one S h1 hd fun v H1 S1 r1 => ?_
      cases r1
      exact ⟨n, rfl, hn.1, hn.2, k _ H1 _ S1 (fun a o h => by cases h) (its_range 0 n.toNat)⟩
    · cases hf
  · cases hf
theorem i_rg2 (hg : Gl X "range") (hm : X.mg "range" = none) (ha : EX X a f) (hb : EX X b g) (hs : starEach [a, b] X.env = [(false, eval a X.env), (false, eval b X.env)] := by rfl) (hs2 : starEach [b] X.env = [(false, eval b X.env)] := by rfl) :
    IX X tg (.Call (.Name "range" p) [a, b] [] pos) (iRg2 f g) :=
  pi_imp (pi_range2 hg hm (pa_cons ha (pa_cons hb pa_nil (by rw [hs2]; rfl)) (by rw [hs, hs2])) hs hs2) fun σ H R h => by
  obtain ⟨w, ρ, S, xs, ρ', hf, k⟩ := h
  obtain ⟨q, h1, hf⟩ := Option.bind_eq_some_iff.mp hf
  split at hf
  · rename_i i j ρ2
    split at hf
    · rename_i hn
      cases hf
      obtain ⟨s1, ρ1, s2, g1, g2, g3, g4⟩ := opt2_some h1
      refine two S g1 g2 g3 g4 fun v1 v2 H2 S2 r1 r2 => ?_
      cases r1; cases r2
      exact ⟨i, j, rfl, hn, k _ H2 _ S2 (fun a o h => by cases h) (its_range i _)⟩
    · cases hf
  · cases hf
end

/-! ### for -/
def loopF (t : Tg) (body : FS) : List D → Ev → Option Rs
  | [], ρ => some (.nx ρ)
  | d :: r, ρ => (asg t d ρ).bind fun ρ1 => (body ρ1).bind fun q => match q with
    | .nx ρ2 => loopF t body r ρ2
    | .ct ρ2 => loopF t body r ρ2
    | .bk ρ2 => some (.nx ρ2)
    | .rt s ρ2 => some (.rt s ρ2)
def sFor (t : Tg) (src : FI) (body : FS) : FS := fun ρ => (src ρ).bind fun p => loopF t body p.1 p.2
theorem VR.back {K : Fg} {mg : Mg} {w : Wd} {ρ ρ' : Ev} {σ σ' : L2.St} {H H' : Hp} {s : Sl} {v : V} (S : SR K mg w ρ σ H) (h : VR K mg (w.fill ρ σ H) ρ' σ' H' s v) : VR K mg w ρ' σ' H' s v := by
  cases s with
  | sh d => exact ⟨S.back h.1, h.2⟩
  | ow d =>
    obtain ⟨p, rfl, h1, h2, h3, h4, S2, o⟩ := h
    refine ⟨p, rfl, ?_, h2, h3, h4, S2.thin rfl rfl rfl fun _ _ h => S.in_full h, o⟩
    cases e : w.R p with
    | none => rfl
    | some u =>
      have h1' : full ρ σ H p = none := h1
      rw [S.in_full e] at h1'; cases h1'
  | no => exact h.elim
  | io d => exact h.elim
theorem Fin.back {K : Fg} {mg : Mg} {w : Wd} {ρ : Ev} {σ : L2.St} {H : Hp} {r : Rs} {D : Ends} (S : SR K mg w ρ σ H) (h : Fin K mg w r D) : Fin K mg (w.fill ρ σ H) r D := by
  cases r with
  | nx ρ => exact fun σ' H' S' => h σ' H' (S.back S')
  | bk ρ => exact fun σ' H' S' => h σ' H' (S.back S')
  | ct ρ => exact fun σ' H' S' => h σ' H' (S.back S')
  | rt s ρ => exact fun v σ' H' S' => h v σ' H' (VR.back S S')
theorem s_for {X : Cx} {tg iter : Expr} {body : List Stmt} {t : Tg} {src : FI} {f : FS} {pos : Pos} (hp : PassesOwn (model X.prog X.w) X.A X.env X.xe) (hc : X.calm = true) (hi : IX X tg iter src) (hg : GXt X tg t) (hb : BX X body f)
    (hs : ∀ x, foldedSetIterable iter X.env x = pure x := by intro _; rfl) : SX X (.For tg iter body [] pos) (sFor t src f) := ps_imp (ps_for hp hc hi hg hb hs) fun D σ H h => by
  obtain ⟨w, ρ, S, r, hf, k⟩ := h
  obtain ⟨⟨xs, ρ1⟩, h1, hf⟩ := Option.bind_eq_some_iff.mp hf
  have hf : loopF t f xs ρ1 = some r := hf
  refine ⟨w, ρ, S, xs, ρ1, h1, fun J H1 C S1 hC I => ?_⟩
  have hCR : Sub C (w.fill ρ1 σ H1).R := fun a o e => full_of (fun z => (hC a o e).2 (.inr z)) (hC a o e).1
  have hCE : ∀ a o, (w.fill ρ1 σ H1).E a → C a = some o → False := fun a o z e => (hC a o e).2 (.inl z)
  have kb := k.back S1
  refine ⟨fun i m σ' H' => m = xs.length - i ∧ i ≤ xs.length ∧ ∃ ρ', SR X.K X.mg (w.fill ρ1 σ H1) ρ' σ' H' ∧ loopF t f (xs.drop i) ρ' = some r, ⟨_, rfl, Nat.zero_le _, ρ1, S1.fill, hf⟩, ?_⟩
  rintro i m σ' H' ⟨rfl, hi, ρ', S', hl⟩
  have hS : Sub C H' := fun a o e => S'.keep a o (hCR a o e)
  by_cases hlt : i < xs.length
  · rw [List.drop_eq_getElem_cons hlt] at hl
    unfold loopF at hl
    obtain ⟨ρ2, h2, hl⟩ := Option.bind_eq_some_iff.mp hl
    obtain ⟨q, h3, hl⟩ := Option.bind_eq_some_iff.mp hl
    refine .inr ⟨I.go i hlt H' hS, fun σ2 H2 => ∃ ρ3, SR X.K X.mg (w.fill ρ1 σ H1) ρ3 σ2 H2 ∧ loopF t f (xs.drop (i + 1)) ρ3 = some r, fun σ2 H2 hN => ⟨xs.length - (i + 1), by omega, rfl, hlt, hN⟩, fun x H2 hy => ?_⟩
    obtain ⟨S2, r2, _⟩ := I.yld i xs[i] (List.getElem?_eq_getElem hlt) _ ρ' σ' H' x H2 S' hCR hCE hy
    refine ⟨_, ρ', xs[i], S2, r2, ρ2, h2, fun σ2 S3 _ => ⟨_, ρ2, S3, q, h3, ?_⟩⟩
    cases q with
    | nx ρ3 => exact fun σ3 H3 S4 => ⟨ρ3, S4, hl⟩
    | ct ρ3 => exact fun σ3 H3 S4 => ⟨ρ3, S4, hl⟩
    | bk ρ3 => cases hl; exact kb
    | rt s ρ3 => cases hl; exact kb
  · have e : i = xs.length := by omega
    subst e
    rw [List.drop_length] at hl
    cases hl
    exact .inl ⟨I.stop H' hS, kb σ' H' S'⟩

/-! ### while -/
def whF (c : FT) (body : FS) : Nat → Ev → Option Rs
  | 0, _ => none
  | n + 1, ρ => (c ρ).bind fun p => if p.1 = true then (body p.2).bind fun q => match q with
    | .nx ρ2 => whF c body n ρ2
    | .ct ρ2 => whF c body n ρ2
    | .bk ρ2 => some (.nx ρ2)
    | .rt s ρ2 => some (.rt s ρ2) else some (.nx p.2)
/-- turns that no loop here comes to -/
def many : Nat := 2 ^ 4000
def sWhile (c : FT) (body : FS) : FS := fun ρ => whF c body many ρ
theorem s_while {X : Cx} {e : Expr} {body : List Stmt} {c : FT} {f : FS} {pos : Pos} (hp : PassesOwn (model X.prog X.w) X.A X.env X.xe) (hc : TX X e c) (hb : BX X body f) : SX X (.While e body [] pos) (sWhile c f) := ps_imp (ps_while hp hc hb) fun D σ H h => by
  obtain ⟨w, ρ, S, r, hf, k⟩ := h
  refine ⟨fun m σ' H' => ∃ ρ', SR X.K X.mg w ρ' σ' H' ∧ whF c f m ρ' = some r, ⟨many, ρ, S, hf⟩, ?_⟩
  rintro m σ' H' ⟨ρ', S', hl⟩
  cases m with
  | zero => cases hl
  | succ m =>
    unfold whF at hl
    obtain ⟨⟨b, ρ1⟩, h1, hl⟩ := Option.bind_eq_some_iff.mp hl
    refine ⟨w, ρ', S', b, ρ1, h1, fun H1 S1 => ?_⟩
    cases b with
    | false =>
      cases hl
      exact k σ' H1 S1
    | true =>
      obtain ⟨q, h2, hl⟩ := Option.bind_eq_some_iff.mp hl
      refine ⟨fun σ2 H2 => ∃ ρ3, SR X.K X.mg w ρ3 σ2 H2 ∧ whF c f m ρ3 = some r, fun σ2 H2 hN => ⟨m, Nat.lt_succ_self m, hN⟩, w, ρ1, S1, q, h2, ?_⟩
      cases q with
      | nx ρ3 => exact fun σ3 H3 S4 => ⟨ρ3, S4, hl⟩
      | ct ρ3 => exact fun σ3 H3 S4 => ⟨ρ3, S4, hl⟩
      | bk ρ3 => cases hl; exact k
      | rt s ρ3 => cases hl; exact k

/-! ### comprehensions -/
def tTrue : FT := fun ρ => some (true, ρ)
def wipeE (ρ : Ev) : List Nat → Ev
  | [] => ρ
  | i :: vs => (wipeE ρ vs).set i .no
def lcF (vs : List Nat) (t : Tg) (c : FT) (f : FE) : List D → List D → Ev → Option (List D × Ev)
  | [], acc, ρ => some (acc, ρ)
  | d :: r, acc, ρ => (asg t d ρ).bind fun ρ1 => (c ρ1).bind fun p => if p.1 = true then
      (f p.2).bind fun q => (vl q.1).bind fun y => if acc.length < sizeLine then lcF vs t c f r (acc ++ [y]) (wipeE q.2 vs) else none
    else lcF vs t c f r acc (wipeE p.2 vs)
def eLc (vs : List Nat) (t : Tg) (src : FI) (c : FT) (f : FE) : FE := fun ρ => (src ρ).bind fun p => (lcF vs t c f p.1 [] (wipeE p.2 vs)).map fun q => (.ow (.lst q.1), wipeE q.2 vs)
section
variable {K : Fg} {mg : Mg} {w : Wd} {ρ ρ' : Ev} {σ σ' : L2.St} {H : Hp} {p : Addr}
/-- slots of which nothing is known may hold anything -/
theorem SR.swap (S : SR K mg w ρ σ H) (hl : σ'.length = σ.length) (h : ∀ (j : Nat) (s : Sl), ρ[j]? = some s → s ≠ .no → σ'[j]? = σ[j]?) : SR K mg w ρ σ' H := by
  have ho : ∀ {j : Nat} {s : Sl} {d : D}, ρ[j]? = some s → s.own = some d → σ'[j]? = σ[j]? := fun {j s d} h1 h2 => h j s h1 fun z => by rw [z] at h2; cases h2
  have ow : ∀ a, Ownd ρ σ' a → Ownd ρ σ a := fun a ⟨j, s, d, h1, h2, h3⟩ => ⟨j, s, d, h1, h2, by rw [← ho h1 h2]; exact h3⟩
  refine ⟨S.len.trans hl.symm, fun j s v h1 h2 => ?_, fun i j s t d e a h1 h2 h3 h4 h5 h6 => S.inj i j s t d e a h1 h2 h3 h4 (by rw [← ho h1 h2]; exact h5) (by rw [← ho h3 h4]; exact h6), fun a z => S.exo a (ow a z), S.keep, S.fresh, S.etr, fun j d e => ?_⟩
  · by_cases hs : s = .no
    · rw [hs]; trivial
    · exact (S.slot j s v h1 (by rw [← h j s h1 hs]; exact h2)).step (fun _ _ _ e => e) (fun a _ z _ => z.imp id (ow a)) fun _ _ _ _ e => e
  · rw [h j _ e (fun z => by cases z)]
    exact S.iob j d e
theorem SR.setNo' {i : Nat} {x : Option V} (S : SR K mg w ρ σ H) : SR K mg w (ρ.set i .no) (σ.set i x) H := by
  refine (S.setNo (i := i)).swap (by simp) fun j s h1 h2 => ?_
  by_cases e : i = j
  · subst e
    have hl : i < ρ.length := by simpa using (List.getElem?_eq_some_iff.mp h1).1
    rw [List.getElem?_set_self hl] at h1
    cases h1
    exact absurd rfl h2
  · rw [List.getElem?_set_ne e]
theorem wipeE_len (ρ : Ev) : ∀ vs : List Nat, (wipeE ρ vs).length = ρ.length
  | [] => rfl
  | i :: vs => by show ((wipeE ρ vs).set i .no).length = _; rw [List.length_set, wipeE_len ρ vs]
theorem SR.wipes (S : SR K mg w ρ σ H) : ∀ vs : List Nat, SR K mg w (wipeE ρ vs) (wipe σ vs) H
  | [] => S
  | _ :: vs => (S.wipes vs).setNo'
theorem wipeE_no {i : Nat} {s : Sl} : ∀ {vs : List Nat}, (wipeE ρ vs)[i]? = some s → s ≠ .no → i ∉ vs ∧ ρ[i]? = some s
  | [], h, _ => ⟨by simp, h⟩
  | j :: vs, h, hs => by
    have h : ((wipeE ρ vs).set j .no)[i]? = some s := h
    by_cases e : j = i
    · subst e
      have hl : j < (wipeE ρ vs).length := by simpa using (List.getElem?_eq_some_iff.mp h).1
      rw [List.getElem?_set_self hl] at h
      cases h; exact absurd rfl hs
    · rw [List.getElem?_set_ne e] at h
      obtain ⟨h1, h2⟩ := wipeE_no h hs
      exact ⟨fun z => (List.mem_cons.mp z).elim (fun q => e q.symm) h1, h2⟩
theorem wipe_keep {i : Nat} : ∀ {vs : List Nat}, i ∉ vs → (wipe σ vs)[i]? = σ[i]?
  | [], _ => rfl
  | j :: vs, h => by
    show ((wipe σ vs).set j none)[i]? = _
    rw [List.getElem?_set_ne (fun e => h (by rw [e]; exact List.mem_cons_self))]
    exact wipe_keep fun z => h (List.mem_cons_of_mem _ z)
theorem SR.unwipe {vs : List Nat} (S : SR K mg w ρ (wipe σ vs) H) : SR K mg w (wipeE ρ vs) σ H := by
  have S2 : SR K mg w (wipeE ρ vs) (wipe (wipe σ vs) vs) H := S.wipes vs
  refine S2.swap (by rw [wipe_length, wipe_length]) fun j s h1 h2 => ?_
  obtain ⟨n, _⟩ := wipeE_no h1 h2
  rw [wipe_keep n, wipe_keep n]
/-- a reserved thing is written -/
theorem SR.poke {o : HO} (S : SR K mg w ρ σ H) (hE : w.E p) (hR : w.R p = none) : SR K mg w ρ σ (upd H p o) := by
  have no : ¬ Ownd ρ σ p := fun z => S.exo p z hE
  have up : ∀ a o', a ≠ p → H a = some o' → upd H p o a = some o' := fun a o' n e => by rw [upd_ne n]; exact e
  refine ⟨S.len, fun i s v h1 h2 => ?_, S.inj, S.exo, fun a o' e => up a o' (fun z => by rw [z, hR] at e; cases e) (S.keep a o' e), fun a e => S.fresh a ?_, fun a z => ?_, S.iob⟩
  · refine (S.slot i s v h1 h2).step (fun a o' n e => up a o' (fun z => n (by rw [z]; exact .inl hE)) e) (fun a _ z _ => z) fun a o' ea eo e => up a o' (fun z => ?_) e
    obtain ⟨d, hd⟩ := Option.isSome_iff_exists.mp eo
    exact no ⟨i, s, d, h1, hd, by rw [h2, ea, z]⟩
  · by_cases hb : a = p
    · rw [hb, upd_same] at e; cases e
    · rw [upd_ne hb] at e; exact e
  · by_cases hb : a = p
    · exact ⟨o, by rw [hb, upd_same]⟩
    · obtain ⟨o', h⟩ := S.etr a z
      exact ⟨o', up a o' hb h⟩
theorem Rps.poke {o : HO} {O : AP} {ds : List D} {vs : List V} (h : Rps K mg O H ds vs) (hO : O p) : Rps K mg O (upd H p o) ds vs :=
  h.step (fun a o' n e => by rw [upd_ne (fun z => n (by rw [z]; exact hO))]; exact e) fun _ _ z _ => z
end
theorem lc_den {K : Fg} {mg : Mg} {tg : Tg} {src : FI} {c : FT} {f : FE} {vs : List Nat} (hv : ∀ i ∈ tg.ixs, i ∈ vs) {σ : L2.St} {H : Hp} {Q : VK} (h : denE K mg (eLc vs tg src c f) σ H Q) :
    tLc (denI K mg src) (denP K mg tg) (denT K mg c) (denE K mg f) vs σ H Q := by
  obtain ⟨w, ρ, S, sl, ρf, hf, k⟩ := h
  obtain ⟨⟨xs, ρ1⟩, h1, hf⟩ := Option.bind_eq_some_iff.mp hf
  obtain ⟨⟨fin, ρ2⟩, h2, e2⟩ := Option.map_eq_some_iff.mp hf
  cases e2
  refine ⟨w, ρ, S, xs, ρ1, h1, fun J H1 C S1 hC I p hp => ?_⟩
  have nE := S1.not_ex hp
  -- the base world: all that stood is kept, the new list is reserved
  let wb : Wd := (w.fill ρ1 σ H1).plus p
  have hwR : wb.R p = none := by
    show full ρ1 σ H1 p = none
    unfold full
    split
    · rfl
    · exact hp
  have Sb : SR K mg wb ρ1 σ (upd H1 p (.lst [])) := (S1.fill).push hp
  have hCR : Sub C wb.R := fun a o e => full_of (fun z => (hC a o e).2 (.inr z)) (hC a o e).1
  have hCE : ∀ a o, wb.E a → C a = some o → False := fun a o z e => by
    rcases z with z | z
    · exact (hC a o e).2 (.inl z)
    · rw [z] at e
      have q := (hC p o e).1
      rw [hp] at q; cases q
  refine ⟨fun i m H' => m = xs.length - i ∧ i ≤ xs.length ∧ ∃ (ρ' : Ev) (acc : List D) (us : List V), SR K mg wb ρ' (wipe σ vs) H' ∧ H' p = some (.lst us) ∧ Rps K mg (Ex wb.E ρ' (wipe σ vs)) H' acc us ∧ lcF vs tg c f (xs.drop i) acc ρ' = some (fin, ρ2),
    ⟨_, rfl, Nat.zero_le _, _, [], [], Sb.wipes vs, upd_same, .nil, h2⟩, ?_⟩
  rintro i m H' ⟨rfl, hi, ρ', acc, us, S', hpu, ra, hl⟩
  have hS : Sub C H' := fun a o e => S'.keep a o (hCR a o e)
  by_cases hlt : i < xs.length
  · rw [List.drop_eq_getElem_cons hlt] at hl
    unfold lcF at hl
    obtain ⟨ρ3, h3, hl⟩ := Option.bind_eq_some_iff.mp hl
    obtain ⟨⟨b, ρ4⟩, h4, hl⟩ := Option.bind_eq_some_iff.mp hl
    refine .inr ⟨I.go i hlt H' hS, fun H2 => ∃ (ρ' : Ev) (acc : List D) (us : List V), SR K mg wb ρ' (wipe σ vs) H2 ∧ H2 p = some (.lst us) ∧ Rps K mg (Ex wb.E ρ' (wipe σ vs)) H2 acc us ∧ lcF vs tg c f (xs.drop (i + 1)) acc ρ' = some (fin, ρ2),
      fun H2 hN => ⟨xs.length - (i + 1), by omega, rfl, hlt, hN⟩, fun x H2 hy => ?_⟩
    -- this turn's world: what stands now is kept
    have St := S'.fill
    have hin : ∀ a o, wb.R a = some o → (wb.fill ρ' (wipe σ vs) H').R a = some o := fun a o e => S'.in_full e
    obtain ⟨S2, r2, kp⟩ := I.yld i xs[i] (List.getElem?_eq_getElem hlt) (wb.fill ρ' (wipe σ vs) H') ρ' (wipe σ vs) H' x H2 St (fun a o e => hin a o (hCR a o e)) hCE hy
    have npo : ¬ Ownd ρ' (wipe σ vs) p := fun z => S'.exo p z (.inr rfl)
    have pin : (wb.fill ρ' (wipe σ vs) H').R p = some (.lst us) := full_of npo hpu
    refine ⟨_, ρ', xs[i], S2, r2, ρ3, h3, fun σ3 S3 a3 => ?_⟩
    have ew : wipe σ3 vs = wipe (wipe σ vs) vs := a3.wip vs hv
    have ww : wipe (wipe σ vs) vs = wipe σ vs := by
      refine List.ext_getElem? fun j => ?_
      by_cases hj : j ∈ vs
      · have key : ∀ (l : List Nat) (τ : L2.St), j ∈ l → (wipe τ l)[j]? = if j < τ.length then some none else none := by
          intro l
          induction l with
          | nil => intro τ h; cases h
          | cons m l ih =>
            intro τ h
            show ((wipe τ l).set m none)[j]? = _
            by_cases e : m = j
            · subst e
              rw [List.getElem?_set, wipe_length]
              simp
            · rw [List.getElem?_set_ne e]
              exact ih τ ((List.mem_cons.mp h).elim (fun q => absurd q.symm e) id)
        rw [key vs _ hj, key vs _ hj, wipe_length]
      · rw [wipe_keep hj]
    refine ⟨ew.trans ww, _, ρ3, S3, b, ρ4, h4, fun H3 S4 => ?_⟩
    have Sback : ∀ {ρ5 : Ev} {H5 : Hp}, SR K mg (wb.fill ρ' (wipe σ vs) H') ρ5 σ3 H5 → SR K mg (wb.fill ρ' (wipe σ vs) H') (wipeE ρ5 vs) (wipe σ vs) H5 := fun {ρ5 H5} q => by
      have q2 := q.wipes vs
      rw [ew, ww] at q2
      exact q2
    cases b with
    | false =>
      have hl : lcF vs tg c f (xs.drop (i + 1)) acc (wipeE ρ4 vs) = some (fin, ρ2) := hl
      have S5 := Sback S4
      exact ⟨_, acc, us, S'.back S5, S5.keep p _ pin, S'.carrys S5 ra, hl⟩
    | true =>
      have hl : ((f ρ4).bind fun q => (vl q.1).bind fun y => if acc.length < sizeLine then lcF vs tg c f (xs.drop (i + 1)) (acc ++ [y]) (wipeE q.2 vs) else none) = some (fin, ρ2) := hl
      obtain ⟨⟨s5, ρ5⟩, h5, hl⟩ := Option.bind_eq_some_iff.mp hl
      obtain ⟨y, hy5, hl⟩ := Option.bind_eq_some_iff.mp hl
      split at hl
      · rename_i hz
        show denE K mg f σ3 H3 _
        refine one S4 h5 hy5 fun v H5 S5 r5 => ?_
        have S6 := Sback S5
        have r6 : Rp K mg (Ex wb.E (wipeE ρ5 vs) (wipe σ vs)) H5 y v := by
          refine r5.sub fun a z => ?_
          rcases z with z | ⟨j, s, d, z1, z2, z3⟩
          · exact .inl z
          · obtain ⟨n, z4⟩ := wipeE_no z1 (fun q => by rw [q] at z2; cases z2)
            refine .inr ⟨j, s, d, z4, z2, ?_⟩
            rw [← ww, ← ew, wipe_keep n] at z3
            exact z3
        have ra6 := S'.carrys S6 ra
        have S7 := S'.back S6
        have e7 : acc.length = us.length := ra.len
        refine ⟨us, S6.keep p _ pin, by rw [← e7]; exact hz, wipeE ρ5 vs, acc ++ [y], us ++ [v], S7.poke (.inr rfl) hwR, upd_same, ?_, hl⟩
        exact (ra6.app (.one r6)).poke (.inl (.inr rfl))
      · cases hl
  · have e : i = xs.length := by omega
    subst e
    rw [List.drop_length] at hl
    cases hl
    refine .inl ⟨I.stop H' hS, k (.ref p) H' ?_⟩
    have S8 : SR K mg (w.plus p) (wipeE _ vs) σ H' := SR.thin (w' := wb) (SR.unwipe S') rfl rfl rfl fun a o e => S1.in_full e
    refine ⟨p, rfl, S1.r_none hp, S1.fresh p hp, fun z => nE (.inl z), fun z => S8.exo p z (.inr rfl), S8, us, hpu, ra.sub fun a z => ?_⟩
    rcases z with z | ⟨j, s, d, z1, z2, z3⟩
    · exact .inl z
    · obtain ⟨n, z4⟩ := wipeE_no z1 (fun q => by rw [q] at z2; cases z2)
      exact .inr ⟨j, s, d, z4, z2, by rw [wipe_keep n]; exact z3⟩
end T

/-! T6: expressions over plain data. -/
namespace T
open PySem L2

/-! ### names, constants -/
def eVar (i : Nat) : FE := fun ρ => match ρ[i]? with
  | some (.sh d) => some (.sh d, ρ)
  | some (.ow d) => some (.sh d, ρ.set i (.sh d))
  | _ => none
def eC (d : D) : FE := fun ρ => some (.sh d, ρ)
section
variable {X : Cx} {x : Str} {pos : Pos}
theorem e_var (i : Nat) (hN : X.N[i]? = some x := by rfl) (hv : Vis X.env.scope x := by first | exact Or.inl rfl | exact Or.inr (Or.inl rfl) | exact Or.inr (Or.inr rfl)) (hd : (x == ("__debug__" : Str)) = false := by decide)
    (hcd : (x == ("__classdict__" : Str)) = false := by decide) : EX X (.Name x pos) (eVar i) := pe_imp (pe_var hN hv hd hcd) fun σ H Q h => by
  obtain ⟨w, ρ, S, s, ρ', hf, k⟩ := h
  unfold eVar at hf
  split at hf
  · rename_i d hs
    cases hf
    obtain ⟨v, e, r⟩ := S.sh hs
    exact ⟨v, e, k v H ⟨S, r⟩⟩
  · rename_i d hs
    cases hf
    obtain ⟨v, e, S2, r⟩ := S.share hs
    exact ⟨v, e, k v H ⟨S2, r⟩⟩
  · cases hf
theorem e_c {e : Expr} {d : D} {v : V} (h : PE X e (tC v)) (hd : ∀ O H, Rp X.K X.mg O H d v) : EX X e (eC d) := pe_imp h fun σ H Q h => by
  obtain ⟨w, ρ, S, s, ρ', hf, k⟩ := h
  cases hf
  exact k v H ⟨S, hd _ _⟩
theorem e_int {i j pos} : EX X (.Constant (.int i) j pos) (eC (.int i)) := e_c pe_int fun _ _ => .int i
theorem e_bl {b j pos} : EX X (.Constant (.bool b) j pos) (eC (.bl b)) := e_c pe_bl fun _ _ => .bl b
theorem e_non {j pos} : EX X (.Constant .none j pos) (eC .non) := e_c pe_non fun _ _ => .non
theorem e_str {x j pos} : EX X (.Constant (.str x) j pos) (eC (.str x)) := e_c pe_str fun _ _ => .str x
theorem e_gint {i : Int} (hg : Gl X x) (hm : ∃ t, X.mg x = some (.int i t)) (hd : (x == ("__debug__" : Str)) = false := by decide) : EX X (.Name x pos) (eC (.int i)) := e_c (let ⟨t, h⟩ := hm; pe_glob (v := .int i) hg h ⟨t, rfl⟩ hd) fun _ _ => .int i
theorem e_gstr {y : Str} (hg : Gl X x) (hm : ∃ t, X.mg x = some (.str y t)) (hd : (x == ("__debug__" : Str)) = false := by decide) : EX X (.Name x pos) (eC (.str y)) := e_c (let ⟨t, h⟩ := hm; pe_glob (v := .str y) hg h ⟨t, rfl⟩ hd) fun _ _ => .str y
end

/-! ### operators of two places, by values -/
abbrev O2 := D → D → Option Sl
def eBin (op : O2) (f g : FE) : FE := fun ρ => (opt2 f g ρ).bind fun q => (op q.1 q.2.1).map fun s => (s, q.2.2)
structure OpS (X : Cx) (r : R2) (op : O2) : Prop where
  ok : ∀ (w : Wd) (ρ : Ev) (σ : L2.St) (H : Hp) (x y : V) (dx dy : D) (s : Sl) (Q : VK), SR X.K X.mg w ρ σ H → Rp X.K X.mg (Ex w.E ρ σ) H dx x → Rp X.K X.mg (Ex w.E ρ σ) H dy y → op dx dy = some s → (∀ v H', VR X.K X.mg w ρ σ H' s v → Q v H') → r x y H Q
/-- one after the other -/
def O2.or (o p : O2) : O2 := fun x y => match o x y with
  | some s => some s
  | none => p x y
section
variable {X : Cx} {a b : Expr} {f g : FE} {pos : Pos} {o p : O2} {r r' : R2}
theorem OpS.or (h : OpS X r o) (h' : OpS X r' p) : OpS X (fun x y H Q => r x y H Q ∨ r' x y H Q) (O2.or o p) := ⟨fun w ρ σ H x y dx dy s Q S rx ry e k => by
  unfold O2.or at e
  split at e
  · rename_i s' e'
    cases e
    exact .inl (h.ok w ρ σ H x y dx dy _ Q S rx ry e' k)
  · exact .inr (h'.ok w ρ σ H x y dx dy _ Q S rx ry e k)⟩
theorem opt2_run {σ : L2.St} {H : Hp} {K : Fg} {mg : Mg} {w : Wd} {ρ ρ' : Ev} {dx dy : D} {R : V → V → Hp → Prop} (S : SR K mg w ρ σ H) (h : opt2 f g ρ = some (dx, dy, ρ'))
    (k : ∀ v1 v2 H2, SR K mg w ρ' σ H2 → Rp K mg (Ex w.E ρ' σ) H2 dx v1 → Rp K mg (Ex w.E ρ' σ) H2 dy v2 → R v1 v2 H2) : denE K mg f σ H fun v1 H1 => denE K mg g σ H1 fun v2 H2 => R v1 v2 H2 := by
  obtain ⟨s1, ρ1, s2, h1, h2, h3, h4⟩ := opt2_some h
  exact two S h1 h2 h3 h4 k
theorem eBin_run {σ : L2.St} {H : Hp} {Q : VK} (hs : OpS X r o) (h : denE X.K X.mg (eBin o f g) σ H Q) : tOp r (denE X.K X.mg f) (denE X.K X.mg g) σ H Q := by
  obtain ⟨w, ρ, S, s, ρ', hf, k⟩ := h
  obtain ⟨⟨dx, dy, ρ2⟩, h1, hf⟩ := Option.bind_eq_some_iff.mp hf
  obtain ⟨s', h2, e2⟩ := Option.map_eq_some_iff.mp hf
  cases e2
  exact opt2_run S h1 fun v1 v2 H2 S2 r1 r2 => hs.ok w _ σ H2 v1 v2 dx dy _ Q S2 r1 r2 h2 k
theorem e_bin {op : Operator} (ho : OpR X (binaryOp op) r) (hs : OpS X r o) (ha : EX X a f) (hb : EX X b g) : EX X (.BinOp a op b pos) (eBin o f g) := pe_imp (pe_op ho ha hb) fun _ _ _ h => eBin_run hs h
theorem e_cmp {op : CmpOp} (ho : OpR X (compareOp op) r) (hs : OpS X r o) (ha : EX X a f) (hb : EX X b g) (hm : behindInMarks op b = false) : EX X (.Compare a [op] [b] pos) (eBin o f g) := pe_imp (pe_cmpR ho ha hb hm) fun _ _ _ h => eBin_run hs h
theorem e_ix (ho : IxR X r) (hs : OpS X r o) (ha : EX X a f) (hb : EX X b g) (hp : PlainIx b := by exact fun _ _ => rfl) : EX X (.Subscript a b pos) (eBin o f g) := pe_imp (pe_ix ho ha hb hp) fun _ _ _ h => eBin_run hs h
/-- a value that is True or False, as a test -/
def tOf (f : FE) : FT := fun ρ => (f ρ).bind fun p => match p.1 with
  | .sh (.bl b) => some (b, p.2)
  | _ => none
theorem tOf_some {f : FE} {ρ ρ' : Ev} {b : Bool} (h : tOf f ρ = some (b, ρ')) : f ρ = some (.sh (.bl b), ρ') := by
  obtain ⟨⟨s, ρ1⟩, h1, hf⟩ := Option.bind_eq_some_iff.mp h
  match s, h1, hf with
  | .sh (.bl b'), h1, hf => cases hf; exact h1
  | .sh .non, _, hf => cases hf
  | .sh (.int _), _, hf => cases hf
  | .sh (.str _), _, hf => cases hf
  | .sh (.tup _), _, hf => cases hf
  | .sh (.lst _), _, hf => cases hf
  | .sh (.scr _), _, hf => cases hf
  | .sh (.obj _ _ _), _, hf => cases hf
  | .sh (.ty _), _, hf => cases hf
  | .no, _, hf => cases hf
  | .ow _, _, hf => cases hf
  | .io _, _, hf => cases hf
theorem tOf_run {K : Fg} {mg : Mg} {f : FE} {σ : L2.St} {H : Hp} {Q : Bool → Hp → Prop} (h : denT K mg (tOf f) σ H Q) : denE K mg f σ H fun x H' => ∃ k, x = .bl k ∧ Q k H' := by
  obtain ⟨w, ρ, S, b, ρ', hf, k⟩ := h
  refine ⟨w, ρ, S, _, ρ', tOf_some hf, fun v H1 hv => ?_⟩
  obtain ⟨S1, r1⟩ := hv
  cases r1
  exact ⟨b, rfl, k H1 S1⟩
theorem t_cmp {op : CmpOp} (ho : OpR X (compareOp op) r) (hs : OpS X r o) (ha : EX X a f) (hb : EX X b g) (hm : behindInMarks op b = false) : TX X (.Compare a [op] [b] pos) (tOf (eBin o f g)) := pt_imp (pt_cmpR ho ha hb hm) fun σ H Q h => eBin_run hs (tOf_run h)
theorem t_val {e : Expr} (h : EX X e f) (he : ∀ whole, isTrue e X.env whole = (do let v ← whole; standAt e.pos; holding [v] (truthy v)) := by intro _; rfl) : TX X e (tOf f) := pt_imp (pt_val h he) fun σ H Q h => tOf_run h
end

/-! ### chains, and, or, not, if -/
def eChain (o p : O2) (f g h : FE) : FE := fun ρ => (opt2 f g ρ).bind fun q => (o q.1 q.2.1).bind fun s => match s with
  | .sh (.bl true) => (h q.2.2).bind fun t => (vl t.1).bind fun z => (p q.2.1 z).map fun u => (u, t.2)
  | .sh (.bl false) => some (.sh (.bl false), q.2.2)
  | _ => none
def tAnd' (c d : FT) : FT := fun ρ => (c ρ).bind fun p => if p.1 = true then d p.2 else some (false, p.2)
def tOr' (c d : FT) : FT := fun ρ => (c ρ).bind fun p => if p.1 = true then some (true, p.2) else d p.2
def tNot' (c : FT) : FT := fun ρ => (c ρ).map fun p => (!p.1, p.2)
def eIf (c : FT) (f g : FE) : FE := fun ρ => (c ρ).bind fun p => if p.1 = true then f p.2 else g p.2
/-- and, or of truth values -/
def eAnd (f g : FE) : FE := fun ρ => (tOf f ρ).bind fun p => if p.1 = true then g p.2 else some (.sh (.bl false), p.2)
def eOr (f g : FE) : FE := fun ρ => (tOf f ρ).bind fun p => if p.1 = true then some (.sh (.bl true), p.2) else g p.2
def eNot (f : FE) : FE := fun ρ => (tOf f ρ).map fun p => (.sh (.bl (!p.1)), p.2)
section
variable {X : Cx} {a b c e : Expr} {rest : List Expr} {f g h : FE} {t u : FT} {pos : Pos} {o p : O2} {r r' : R2}
abbrev WX (X : Cx) (e : Expr) (f : FT) : Prop := PW X e (denT X.K X.mg f)
theorem pw_imp {t u : TT} (h : PW X e t) (k : ∀ σ H Q, u σ H Q → t σ H Q) : PW X e u := ⟨fun wh pins s σ H Q I q => h.run wh pins s σ H Q I (k σ H Q q)⟩
theorem chain_run {σ : L2.St} {H : Hp} {Q : VK} (hs : OpS X r o) (hs' : OpS X r' p) (q : denE X.K X.mg (eChain o p f g h) σ H Q) : tChain r r' (denE X.K X.mg f) (denE X.K X.mg g) (denE X.K X.mg h) σ H Q := by
  obtain ⟨w, ρ, S, s, ρ', hf, k⟩ := q
  obtain ⟨⟨dx, dy, ρ2⟩, h1, hf⟩ := Option.bind_eq_some_iff.mp hf
  obtain ⟨s1, h2, hf⟩ := Option.bind_eq_some_iff.mp hf
  refine opt2_run S h1 fun v1 v2 H2 S2 r1 r2 => hs.ok (w.fill _ σ H2) _ σ H2 v1 v2 dx dy s1 _ S2.fill r1 r2 h2 fun z H3 hz => ?_
  split at hf
  · obtain ⟨S3, rz⟩ := hz
    cases rz
    obtain ⟨⟨t1, ρ3⟩, h3, hf⟩ := Option.bind_eq_some_iff.mp hf
    obtain ⟨dz, h4, hf⟩ := Option.bind_eq_some_iff.mp hf
    obtain ⟨u1, h5, e5⟩ := Option.map_eq_some_iff.mp hf
    cases e5
    refine ⟨true, rfl, ?_⟩
    rw [if_pos rfl]
    refine one S3 h3 h4 fun v3 H4 S4 r3 => ?_
    exact hs'.ok w _ σ H4 v2 v3 dy dz _ Q (S2.back S4) (S2.carry S4 r2) r3 h5 k
  · cases hf
    obtain ⟨S3, rz⟩ := hz
    cases rz
    refine ⟨false, rfl, ?_⟩
    rw [if_neg (by decide)]
    exact k _ _ ⟨S2.back S3, .bl false⟩
  · cases hf
theorem e_chain {op op' : CmpOp} (ho : OpR X (compareOp op) r) (ho' : OpR X (compareOp op') r') (hs : OpS X r o) (hs' : OpS X r' p) (ha : EX X a f) (hb : EX X b g) (hc : EX X c h)
    (hm : lastMarks [op, op'] [b, c] = false := by with_unfolding_all rfl) : EX X (.Compare a [op, op'] [b, c] pos) (eChain o p f g h) := pe_imp (pe_chain ho ho' ha hb hc hm) fun σ H Q q => chain_run hs hs' q
theorem t_chain {op op' : CmpOp} (ho : OpR X (compareOp op) r) (ho' : OpR X (compareOp op') r') (hs : OpS X r o) (hs' : OpS X r' p) (ha : EX X a f) (hb : EX X b g) (hc : EX X c h)
    (hm : lastMarks [op, op'] [b, c] = false := by with_unfolding_all rfl) : TX X (.Compare a [op, op'] [b, c] pos) (tOf (eChain o p f g h)) := pt_imp (pt_chain ho ho' ha hb hc hm) fun σ H Q q => chain_run hs hs' (tOf_run q)
theorem w_one {op : BoolOp} (ha : TX X a t) (h : PT X a (denT X.K X.mg t) → PW X (.BoolOp op [a] pos) (denT X.K X.mg t)) : WX X (.BoolOp op [a] pos) t := h ha
theorem w_and1 (ha : TX X a t) : WX X (.BoolOp .And [a] pos) t := pw_and1 ha
theorem w_or1 (ha : TX X a t) : WX X (.BoolOp .Or [a] pos) t := pw_or1 ha
theorem w_and (ha : TX X a t) (hb : WX X (.BoolOp .And (b :: rest) pos) u) : WX X (.BoolOp .And (a :: b :: rest) pos) (tAnd' t u) := pw_imp (pw_and ha hb) fun σ H Q h => by
  obtain ⟨w, ρ, S, c, ρ', hf, k⟩ := h
  obtain ⟨⟨c1, ρ1⟩, h1, hf⟩ := Option.bind_eq_some_iff.mp hf
  refine ⟨w, ρ, S, c1, ρ1, h1, fun H1 S1 => ?_⟩
  cases c1 with
  | true => exact ⟨w, ρ1, S1, c, ρ', hf, k⟩
  | false => cases hf; exact k H1 S1
theorem w_or (ha : TX X a t) (hb : WX X (.BoolOp .Or (b :: rest) pos) u) : WX X (.BoolOp .Or (a :: b :: rest) pos) (tOr' t u) := pw_imp (pw_or ha hb) fun σ H Q h => by
  obtain ⟨w, ρ, S, c, ρ', hf, k⟩ := h
  obtain ⟨⟨c1, ρ1⟩, h1, hf⟩ := Option.bind_eq_some_iff.mp hf
  refine ⟨w, ρ, S, c1, ρ1, h1, fun H1 S1 => ?_⟩
  cases c1 with
  | false => exact ⟨w, ρ1, S1, c, ρ', hf, k⟩
  | true => cases hf; exact k H1 S1
theorem t_w (h : WX X a t) : TX X a t := h.pt
theorem t_not (ha : TX X a t) : TX X (.UnaryOp .Not a pos) (tNot' t) := pt_imp (pt_not ha) fun σ H Q h => by
  obtain ⟨w, ρ, S, c, ρ', hf, k⟩ := h
  obtain ⟨⟨c1, ρ1⟩, h1, e1⟩ := Option.map_eq_some_iff.mp hf
  cases e1
  exact ⟨w, ρ, S, c1, ρ1, h1, k⟩
theorem e_if (hc : TX X c t) (ha : EX X a f) (hb : EX X b g) : EX X (.IfExp c a b pos) (eIf t f g) := pe_imp (pe_ifExp hc ha hb) fun σ H Q h => by
  obtain ⟨w, ρ, S, s, ρ', hf, k⟩ := h
  obtain ⟨⟨c1, ρ1⟩, h1, hf⟩ := Option.bind_eq_some_iff.mp hf
  refine ⟨w, ρ, S, c1, ρ1, h1, fun H1 S1 => ?_⟩
  cases c1 with
  | true => exact ⟨w, ρ1, S1, s, ρ', hf, k⟩
  | false => exact ⟨w, ρ1, S1, s, ρ', hf, k⟩
theorem e_one {op : BoolOp} (ha : EX X a f) : EX X (.BoolOp op [a] pos) f := pe_one ha
theorem e_and (ha : EX X a f) (hb : EX X (.BoolOp .And (b :: rest) pos) g) : EX X (.BoolOp .And (a :: b :: rest) pos) (eAnd f g) := pe_imp (pe_and ha hb) fun σ H Q h => by
  obtain ⟨w, ρ, S, s, ρ', hf, k⟩ := h
  obtain ⟨⟨c1, ρ1⟩, h1, hf⟩ := Option.bind_eq_some_iff.mp hf
  refine tOf_run ⟨w, ρ, S, c1, ρ1, h1, fun H1 S1 => ?_⟩
  cases c1 with
  | true => exact ⟨w, ρ1, S1, s, ρ', hf, k⟩
  | false => cases hf; exact k _ H1 ⟨S1, .bl false⟩
theorem e_or (ha : EX X a f) (hb : EX X (.BoolOp .Or (b :: rest) pos) g) : EX X (.BoolOp .Or (a :: b :: rest) pos) (eOr f g) := pe_imp (pe_or ha hb) fun σ H Q h => by
  obtain ⟨w, ρ, S, s, ρ', hf, k⟩ := h
  obtain ⟨⟨c1, ρ1⟩, h1, hf⟩ := Option.bind_eq_some_iff.mp hf
  refine tOf_run ⟨w, ρ, S, c1, ρ1, h1, fun H1 S1 => ?_⟩
  cases c1 with
  | false => exact ⟨w, ρ1, S1, s, ρ', hf, k⟩
  | true => cases hf; exact k _ H1 ⟨S1, .bl true⟩
theorem e_not (ha : EX X a f) : EX X (.UnaryOp .Not a pos) (eNot f) := pe_imp (pe_not ha) fun σ H Q h => by
  obtain ⟨w, ρ, S, s, ρ', hf, k⟩ := h
  obtain ⟨⟨c1, ρ1⟩, h1, e1⟩ := Option.map_eq_some_iff.mp hf
  cases e1
  exact tOf_run ⟨w, ρ, S, c1, ρ1, h1, fun H1 S1 => k _ H1 ⟨S1, .bl _⟩⟩
end

/-! ### numbers -/
def oI (g : Int → Int → D) : O2 := fun x y => match x, y with
  | .int i, .int j => some (.sh (g i j))
  | _, _ => none
def oIc (C : Int → Int → Prop) [∀ i j, Decidable (C i j)] (g : Int → Int → D) : O2 := fun x y => match x, y with
  | .int i, .int j => if C i j then some (.sh (g i j)) else none
  | _, _ => none
/-- data that needs no heap -/
inductive Fl (K : Fg) (mg : Mg) : D → V → Prop where
  | int (i : Int) : Fl K mg (.int i) (.int i)
  | bl (b : Bool) : Fl K mg (.bl b) (.bl b)
  | str (x : Str) : Fl K mg (.str x) (.str x)
  | non : Fl K mg .non .non
theorem Fl.rp {K : Fg} {mg : Mg} {d : D} {v : V} (h : Fl K mg d v) (O : AP) (H : Hp) : Rp K mg O H d v := by
  cases h with
  | int i => exact .int i
  | bl b => exact .bl b
  | str x => exact .str x
  | non => exact .non
section
variable {X : Cx}
theorem s_rI0 {g : Int → Int → V} {g' : Int → Int → D} (hg : ∀ i j, Fl X.K X.mg (g' i j) (g i j)) : OpS X (rI0 g) (oI g') := ⟨fun w ρ σ H x y dx dy s Q S rx ry e k => by
  unfold oI at e
  split at e
  · cases e
    cases rx; cases ry
    exact ⟨_, _, rfl, rfl, k _ _ ⟨S, (hg _ _).rp _ _⟩⟩
  · cases e⟩
theorem s_rI {C : Int → Int → Prop} {C' : Int → Int → Prop} [∀ i j, Decidable (C' i j)] {g : Int → Int → V} {g' : Int → Int → D} (hc : ∀ i j, C' i j → C i j) (hg : ∀ i j, Fl X.K X.mg (g' i j) (g i j)) : OpS X (rI C g) (oIc C' g') := ⟨fun w ρ σ H x y dx dy s Q S rx ry e k => by
  unfold oIc at e
  split at e
  · split at e
    · rename_i h
      cases e
      cases rx; cases ry
      exact ⟨_, _, rfl, rfl, hc _ _ h, k _ _ ⟨S, (hg _ _).rp _ _⟩⟩
    · cases e
  · cases e⟩
/-- a way of computing y from x with a bound that is seen at once: sizes of numbers -/
structure small (i : Int) : Prop where
  lo : -(2 ^ 4000) < i
  hi : i < 2 ^ 4000
noncomputable instance (i : Int) : Decidable (small i) := Classical.propDecidable _
theorem small_log {i : Int} (h : small i) : i.natAbs.log2 < 4001 := by
  have h1 : i.natAbs < 2 ^ 4000 := by
    have e : ((2 : Int) ^ 4000) = ((2 ^ 4000 : Nat) : Int) := by rw [Int.natCast_pow]; rfl
    obtain ⟨a, b⟩ := h
    rw [e] at a b
    generalize (2 ^ 4000 : Nat) = n at a b ⊢
    omega
  have := PySem.Flt.log2_lt_of (by decide : 0 < 4000) h1
  omega
def addO : O2 := oI fun i j => .int (i + j)
def subO : O2 := oI fun i j => .int (i - j)
noncomputable def mulO : O2 := oIc (fun i j => small i ∧ small j) fun i j => .int (i * j)
noncomputable def divO : O2 := oIc (fun i j => 0 < j ∧ small j) fun i j => .int (i / j)
def modO : O2 := oIc (fun _ j => 0 < j) fun i j => .int (i % j)
theorem x_add : OpS X (rI0 fun i j => .int (i + j)) addO := s_rI0 fun _ _ => .int _
theorem x_sub : OpS X (rI0 fun i j => .int (i - j)) subO := s_rI0 fun _ _ => .int _
theorem x_mul : OpS X (rI CMulW fun i j => .int (i * j)) mulO := s_rI (fun i j h => by
  have h1 := small_log h.1
  have h2 := small_log h.2
  show _ + _ < 1000000
  omega) fun _ _ => .int _
theorem x_div : OpS X (rI CDivW fun i j => .int (i / j)) divO := s_rI (fun i j h => ⟨h.1, by have := small_log h.2; omega⟩) fun _ _ => .int _
theorem x_mod : OpS X (rI (fun _ j => 0 < j) fun i j => .int (i % j)) modO := s_rI (fun _ _ h => h) fun _ _ => .int _
def powO : O2 := oIc (fun i j => 0 ≤ j ∧ j ≤ 1000000 ∧ i.natAbs < 2 ^ 64) fun i j => .int (i ^ j.toNat)
theorem x_pow : OpS X (rI CPow fun i j => .int (i ^ j.toNat)) powO := s_rI (fun _ _ h => h) fun _ _ => .int _
def ltO : O2 := oI fun i j => .bl (decide (i < j))
def leO : O2 := oI fun i j => .bl (decide (i ≤ j))
def gtO : O2 := oI fun i j => .bl (decide (j < i))
def geO : O2 := oI fun i j => .bl (decide (j ≤ i))
theorem x_lt : OpS X (rI0 fun i j => .bl (decide (i < j))) ltO := s_rI0 fun _ _ => .bl _
theorem x_le : OpS X (rI0 fun i j => .bl (decide (i ≤ j))) leO := s_rI0 fun _ _ => .bl _
theorem x_gt : OpS X (rI0 fun i j => .bl (decide (j < i))) gtO := s_rI0 fun _ _ => .bl _
theorem x_ge : OpS X (rI0 fun i j => .bl (decide (j ≤ i))) geO := s_rI0 fun _ _ => .bl _
end

/-! ### equality -/
mutual
def D.py : D → Option PyData
  | .non => some .none
  | .bl b => some (.bool b)
  | .int i => some (.int i)
  | .str x => some (.str x)
  | .tup ds => (D.pys ds).map .tuple
  | .lst ds => (D.pys ds).map .list
  | .scr ds => (D.pys ds).map .list
  | .obj _ _ _ => none
  | .ty _ => none
def D.pys : List D → Option (List PyData)
  | [] => some []
  | d :: ds => d.py.bind fun p => (D.pys ds).map fun ps => p :: ps
end
section
variable {K : Fg} {mg : Mg} {O : AP} {H : Hp}
mutual
theorem Rp.dp : ∀ {d : D} {v : V} {p : PyData}, Rp K mg O H d v → d.py = some p → Dp K H v p
  | _, _, _, .non, e => by cases e; exact .non
  | _, _, _, .bl b, e => by cases e; exact .bl b
  | _, _, _, .int i, e => by cases e; exact .int i
  | _, _, _, .str x, e => by cases e; exact .str x
  | _, _, _, .tup h r, e => by
    obtain ⟨ps, hp, e2⟩ := Option.map_eq_some_iff.mp e
    cases e2
    exact .tup (h.elim (fun z => .inl (.inl z.1)) fun z => z.at H) (Rps.dps r hp)
  | _, _, _, .lst h r, e => by
    obtain ⟨ps, hp, e2⟩ := Option.map_eq_some_iff.mp e
    cases e2
    exact .lst (.inl (.inl h.1)) (Rps.dps r hp)
  | _, _, _, .scr h r, e => by
    obtain ⟨ps, hp, e2⟩ := Option.map_eq_some_iff.mp e
    cases e2
    exact .lst (h.elim (fun z => .inl z.1) fun z => z.at H) (Rps.dps r hp)
  | _, _, _, .obj _ _ _ _ _ _, e => by cases e
  | _, _, _, .ty _, e => by cases e
theorem Rps.dps : ∀ {ds : List D} {vs : List V} {ps : List PyData}, Rps K mg O H ds vs → D.pys ds = some ps → DpAll K H vs ps
  | _, _, _, .nil, e => by cases e; exact .nil
  | _, _, _, .cons h r, e => by
    obtain ⟨p, hp, e⟩ := Option.bind_eq_some_iff.mp e
    obtain ⟨ps, hps, e2⟩ := Option.map_eq_some_iff.mp e
    cases e2
    exact .cons (Rp.dp h hp) (Rps.dps r hps)
end
end
/-- are they equal, as far as it is told -/
def deq (x y : D) : Option Bool := match x, y with
  | .int i, .int j => some (i == j)
  | .bl i, .bl j => some (i == j)
  | .str i, .str j => some (i == j)
  | .non, .non => some true
  | .non, .int _ => some false
  | .int _, .non => some false
  | .non, .bl _ => some false
  | .bl _, .non => some false
  | .non, .str _ => some false
  | .str _, .non => some false
  | x, y => x.py.bind fun p => y.py.bind fun q => if SeqAt.shaped p = true ∧ SeqAt.shaped q = true then some (PyData.eqv p q) else none
def eqO : O2 := fun x y => (deq x y).map fun b => .sh (.bl b)
def neO : O2 := fun x y => (deq x y).map fun b => .sh (.bl (!b))
def rEqA (K : Fg) : R2 := fun x y H Q => rEq x y H Q ∨ rEqD K x y H Q
def rNeA (K : Fg) : R2 := fun x y H Q => rNe x y H Q ∨ rNeD K x y H Q
section
variable {X : Cx}
theorem op_eqA (hu : X.A.units + 64 < cLine) : OpR X (compareOp .Eq) (rEqA X.K) := op_eq.or (op_eqD hu)
theorem op_neA (hu : X.A.units + 64 < cLine) : OpR X (compareOp .NotEq) (rNeA X.K) := op_ne.or (op_neD hu)
theorem deq_ok {w : Wd} {ρ : Ev} {σ : L2.St} {H : Hp} {x y : V} {dx dy : D} {b : Bool} (rx : Rp X.K X.mg (Ex w.E ρ σ) H dx x) (ry : Rp X.K X.mg (Ex w.E ρ σ) H dy y) (h : deq dx dy = some b) :
    (scal x y = true ∧ decide (x = y) = b) ∨ ∃ d e, Dp X.K H x d ∧ Dp X.K H y e ∧ SeqAt.shaped d = true ∧ SeqAt.shaped e = true ∧ PyData.eqv d e = b := by
  unfold deq at h
  split at h
  · cases h; cases rx; cases ry; exact .inl ⟨rfl, dec_int⟩
  · cases h; cases rx; cases ry; exact .inl ⟨rfl, dec_bl⟩
  · cases h; cases rx; cases ry; exact .inl ⟨rfl, dec_str⟩
  · cases h; cases rx; cases ry; exact .inl ⟨rfl, by simp⟩
  · cases h; cases rx; cases ry; exact .inl ⟨rfl, by simp⟩
  · cases h; cases rx; cases ry; exact .inl ⟨rfl, by simp⟩
  · cases h; cases rx; cases ry; exact .inl ⟨rfl, by simp⟩
  · cases h; cases rx; cases ry; exact .inl ⟨rfl, by simp⟩
  · cases h; cases rx; cases ry; exact .inl ⟨rfl, by simp⟩
  · cases h; cases rx; cases ry; exact .inl ⟨rfl, by simp⟩
  · obtain ⟨p, hp, h⟩ := Option.bind_eq_some_iff.mp h
    obtain ⟨q, hq, h⟩ := Option.bind_eq_some_iff.mp h
    split at h
    · rename_i hs
      cases h
      exact .inr ⟨p, q, rx.dp hp, ry.dp hq, hs.1, hs.2, rfl⟩
    · cases h
theorem x_eq : OpS X (rEqA X.K) eqO := ⟨fun w ρ σ H x y dx dy s Q S rx ry e k => by
  obtain ⟨b, hb, e2⟩ := Option.map_eq_some_iff.mp e
  subst e2
  rcases deq_ok rx ry hb with ⟨h1, h2⟩ | ⟨d, e, h1, h2, h3, h4, h5⟩
  · exact .inl ⟨h1, by rw [h2]; exact k _ _ ⟨S, .bl b⟩⟩
  · exact .inr ⟨d, e, h1, h2, h3, h4, by rw [h5]; exact k _ _ ⟨S, .bl b⟩⟩⟩
theorem x_ne : OpS X (rNeA X.K) neO := ⟨fun w ρ σ H x y dx dy s Q S rx ry e k => by
  obtain ⟨b, hb, e2⟩ := Option.map_eq_some_iff.mp e
  subst e2
  rcases deq_ok rx ry hb with ⟨h1, h2⟩ | ⟨d, e, h1, h2, h3, h4, h5⟩
  · exact .inl ⟨h1, by rw [h2]; exact k _ _ ⟨S, .bl _⟩⟩
  · exact .inr ⟨d, e, h1, h2, h3, h4, by rw [h5]; exact k _ _ ⟨S, .bl _⟩⟩⟩
def D.isNon : D → Bool
  | .non => true
  | _ => false
/-- x is None -/
def isNonO : O2 := fun x y => match y with
  | .non => some (.sh (.bl x.isNon))
  | _ => none
def notNonO : O2 := fun x y => match y with
  | .non => some (.sh (.bl (!x.isNon)))
  | _ => none
theorem rp_non {K : Fg} {mg : Mg} {O : AP} {H : Hp} {d : D} {v : V} (h : Rp K mg O H d v) : decide (v = .non) = d.isNon := by
  cases h <;> simp [D.isNon]
theorem x_isN : OpS X (fun x y H Q => y = .non ∧ Q (.bl (decide (x = .non))) H) isNonO := ⟨fun w ρ σ H x y dx dy s Q S rx ry e k => by
  unfold isNonO at e
  split at e
  · cases e; cases ry
    refine ⟨rfl, ?_⟩
    rw [rp_non rx]
    exact k _ _ ⟨S, .bl _⟩
  · cases e⟩
theorem x_notN : OpS X (fun x y H Q => y = .non ∧ Q (.bl (!decide (x = .non))) H) notNonO := ⟨fun w ρ σ H x y dx dy s Q S rx ry e k => by
  unfold notNonO at e
  split at e
  · cases e; cases ry
    refine ⟨rfl, ?_⟩
    rw [rp_non rx]
    exact k _ _ ⟨S, .bl _⟩
  · cases e⟩
end

/-! ### subscripts -/
def dIx (x y : D) : Option Sl := match x, y with
  | .lst ds, .int i => (atI ds i).map .sh
  | .scr ds, .int i => (atI ds i).map .sh
  | .tup ds, .int i => (atI ds i).map .sh
  | .str z, .int i => if z.length ≤ sizeLine then (atI z.cps.toList i).map fun c => .sh (.str ⟨#[c]⟩) else none
  | _, _ => none
theorem Rps.atI {K : Fg} {mg : Mg} {O : AP} {H : Hp} {ds : List D} {vs : List V} {i : Int} {d : D} (r : Rps K mg O H ds vs) (h : atI ds i = some d) : ∃ v, L2.atI vs i = some v ∧ Rp K mg O H d v := by
  obtain ⟨j, hj, e⟩ := Option.bind_eq_some_iff.mp h
  obtain ⟨v, hv, q⟩ := r.get e
  rw [r.len] at hj
  exact ⟨v, Option.bind_eq_some_iff.mpr ⟨j, hj, hv⟩, q⟩
section
variable {X : Cx}
theorem x_ix : OpS X (rIx X.K) dIx := ⟨fun w ρ σ H x y dx dy s Q S rx ry e k => by
  have seq : ∀ {d : D} {ds : List D} {i : Int} {v : V}, d.items = some ds → Rp X.K X.mg (Ex w.E ρ σ) H d v → (atI ds i).map Sl.sh = some s → y = .int i → rIx X.K v y H Q := fun {d ds i v} hd r e ey => by
    obtain ⟨a, vs, rfl, hs, rr⟩ := r.itemsAt hd
    obtain ⟨d', h1, e2⟩ := Option.map_eq_some_iff.mp e
    cases e2
    obtain ⟨v, hv, q⟩ := rr.atI h1
    exact .inl ⟨a, vs, i, v, rfl, ey, hs, hv, k _ _ ⟨S, q⟩⟩
  unfold dIx at e
  split at e
  · cases ry; exact seq rfl rx e rfl
  · cases ry; exact seq rfl rx e rfl
  · cases ry
    obtain ⟨a, vs, rfl, hs, rr⟩ := rx.tupAt
    obtain ⟨d', h1, e2⟩ := Option.map_eq_some_iff.mp e
    cases e2
    obtain ⟨v, hv, q⟩ := rr.atI h1
    exact .inr (.inl ⟨a, vs, _, v, rfl, rfl, hs, hv, k _ _ ⟨S, q⟩⟩)
  · split at e
    · rename_i hz
      cases ry; cases rx
      obtain ⟨c, h1, e2⟩ := Option.map_eq_some_iff.mp e
      cases e2
      exact .inr (.inr ⟨_, _, c, rfl, rfl, hz, h1, k _ _ ⟨S, .str _⟩⟩)
    · cases e
  · cases e⟩
/-- the data in a slot, without sharing it -/
def peek (ρ : Ev) (i : Nat) : Option D := (ρ[i]?).bind fun s => match s with
  | .sh d => some d
  | .ow d => some d
  | .io d => some d
  | .no => none
/-- x[e], x a name: what stands there behind e -/
def eIxV (i : Nat) (f : FE) : FE := fun ρ => (peek ρ i).bind fun _ => (f ρ).bind fun p => (vl p.1).bind fun y => (peek p.2 i).bind fun x => (dIx x y).map fun s => (s, p.2)
theorem peek_list {K : Fg} {mg : Mg} {w : Wd} {ρ : Ev} {σ : L2.St} {H : Hp} {i : Nat} {d : D} (S : SR K mg w ρ σ H) (h : peek ρ i = some d) :
    (∃ v, σ[i]? = some (some v) ∧ Rp K mg (Ex w.E ρ σ) H d v) ∨ ∃ a, σ[i]? = some (some (.ref a)) ∧ Own K mg (Ex w.E ρ σ) H d a := by
  obtain ⟨s, hs, h⟩ := Option.bind_eq_some_iff.mp h
  cases s with
  | no => cases h
  | sh d' => cases h; exact .inl (S.sh hs)
  | ow d' => cases h; obtain ⟨a, e, _, o⟩ := S.ow hs rfl; exact .inr ⟨a, e, o⟩
  | io d' => cases h; obtain ⟨a, e, _, o⟩ := S.ow hs rfl; exact .inr ⟨a, e, o⟩
theorem peek_slot {K : Fg} {mg : Mg} {w : Wd} {ρ : Ev} {σ : L2.St} {H : Hp} {i : Nat} {d : D} (S : SR K mg w ρ σ H) (h : peek ρ i = some d) : ∃ v, σ[i]? = some (some v) := by
  rcases peek_list S h with ⟨v, e, _⟩ | ⟨a, e, _⟩
  · exact ⟨v, e⟩
  · exact ⟨_, e⟩
theorem e_ixV (i : Nat) {x : Str} {b : Expr} {f : FE} {pos p : Pos} (hb : EX X b f) (hN : X.N[i]? = some x := by rfl) (hv : Vis X.env.scope x := by first | exact Or.inl rfl | exact Or.inr (Or.inl rfl) | exact Or.inr (Or.inr rfl))
    (hd : (x == ("__debug__" : Str)) = false := by decide) (hcd : (x == ("__classdict__" : Str)) = false := by decide) (hp : PlainIx b := by exact fun _ _ => rfl) : EX X (.Subscript (.Name x p) b pos) (eIxV i f) :=
  pe_imp (pe_ix ix_seq (pe_var hN hv hd hcd) hb hp) fun σ H Q h => by
  obtain ⟨w, ρ, S, s, ρ', hf, k⟩ := h
  obtain ⟨d0, hp0, hf⟩ := Option.bind_eq_some_iff.mp hf
  obtain ⟨⟨s1, ρ1⟩, h1, hf⟩ := Option.bind_eq_some_iff.mp hf
  obtain ⟨y, hy, hf⟩ := Option.bind_eq_some_iff.mp hf
  obtain ⟨d, hpk, hf⟩ := Option.bind_eq_some_iff.mp hf
  obtain ⟨s2, h2, e2⟩ := Option.map_eq_some_iff.mp hf
  cases e2
  obtain ⟨v, ev⟩ := peek_slot S hp0
  refine ⟨v, ev, one S h1 hy fun u H1 S1 r1 => ?_⟩
  rcases peek_list S1 hpk with ⟨v', e, r⟩ | ⟨a, e, o⟩
  · rw [ev] at e; cases e
    exact x_ix.ok w _ σ H1 v u d y _ Q S1 r r1 h2 k
  · rw [ev] at e; cases e
    cases d with
    | lst ds =>
      obtain ⟨vs, hs, rr⟩ := o
      cases y with
      | int j =>
        cases r1
        obtain ⟨d', g1, e2⟩ := Option.map_eq_some_iff.mp h2
        cases e2
        obtain ⟨z, hz, q⟩ := rr.atI g1
        exact .inl ⟨a, vs, j, z, rfl, rfl, .inl (.inl hs), hz, k _ _ ⟨S1, q⟩⟩
      | _ => cases h2
    | obj c ns ds => cases h2
    | _ => exact o.elim
end
end T

/-! T7: displays, calls, comprehensions as expressions, built-ins. -/
namespace T
open PySem L2

/-! ### lists of expressions -/
def evs : List FE → Ev → Option (List D × Ev)
  | [], ρ => some ([], ρ)
  | f :: r, ρ => (f ρ).bind fun p => (vl p.1).bind fun d => (evs r p.2).map fun q => (d :: q.1, q.2)
def denL (K : Fg) (mg : Mg) (fs : List FE) : TA := fun σ H Q => ∃ (w : Wd) (ρ : Ev), SR K mg w ρ σ H ∧ ∃ (ds : List D) (ρ' : Ev), evs fs ρ = some (ds, ρ') ∧ ∀ vs H', SR K mg w ρ' σ H' → Rps K mg (Ex w.E ρ' σ) H' ds vs → Q vs H'
abbrev LX (X : Cx) (es : List Expr) (fs : List FE) : Prop := PA X es (denL X.K X.mg fs)
def eTup (fs : List FE) : FE := fun ρ => (evs fs ρ).bind fun p => if p.1.length ≤ sizeLine then some (.sh (.tup p.1), p.2) else none
def eLst (fs : List FE) : FE := fun ρ => (evs fs ρ).bind fun p => if p.1.length ≤ sizeLine then some (.ow (.lst p.1), p.2) else none
section
variable {X : Cx} {e : Expr} {es : List Expr} {f : FE} {fs : List FE} {pos : Pos}
theorem l_nil : LX X [] [] := pa_imp pa_nil fun σ H Q h => by
  obtain ⟨w, ρ, S, ds, ρ', hf, k⟩ := h
  cases hf
  exact k [] H S .nil
theorem l_cons (ha : EX X e f) (hr : LX X es fs) (hs : starEach (e :: es) X.env = (false, eval e X.env) :: starEach es X.env := by rfl) : LX X (e :: es) (f :: fs) := pa_imp (pa_cons ha hr hs) fun σ H Q h => by
  obtain ⟨w, ρ, S, ds, ρ', hf, k⟩ := h
  unfold evs at hf
  obtain ⟨⟨s1, ρ1⟩, h1, hf⟩ := Option.bind_eq_some_iff.mp hf
  obtain ⟨d, hd, hf⟩ := Option.bind_eq_some_iff.mp hf
  obtain ⟨⟨r, ρ2⟩, h2, e2⟩ := Option.map_eq_some_iff.mp hf
  cases e2
  exact one S h1 hd fun v H1 S1 r1 => ⟨_, ρ1, S1.fill, r, ρ2, h2, fun vs H2 S2 r2 => k (v :: vs) H2 (S1.back S2) (.cons (S1.carry S2 r1) r2)⟩
theorem e_tup {j : Nat} (h : LX X es fs) : EX X (.Tuple es j pos) (eTup fs) := pe_imp (pe_tup h) fun σ H Q h => by
  obtain ⟨w, ρ, S, s, ρ', hf, k⟩ := h
  obtain ⟨⟨ds, ρ1⟩, h1, hf⟩ := Option.bind_eq_some_iff.mp hf
  split at hf
  · rename_i hz
    cases hf
    exact ⟨w, ρ, S, ds, ρ1, h1, fun vs H1 S1 r1 => ⟨by rw [← r1.len]; exact hz, fun p hp => k _ _ (VR.newT S1 hp r1)⟩⟩
  · cases hf
theorem e_lst (h : LX X es fs) : EX X (.List es pos) (eLst fs) := pe_imp (pe_lst h) fun σ H Q h => by
  obtain ⟨w, ρ, S, s, ρ', hf, k⟩ := h
  obtain ⟨⟨ds, ρ1⟩, h1, hf⟩ := Option.bind_eq_some_iff.mp hf
  split at hf
  · rename_i hz
    cases hf
    exact ⟨w, ρ, S, ds, ρ1, h1, fun vs H1 S1 r1 => ⟨by rw [← r1.len]; exact hz, fun p hp => k _ _ (VR.newL S1 hp r1)⟩⟩
  · cases hf
end

/-! ### calls of the text's defs -/
def eCall (F : FF) (dfl : List D) (as : List Ag) : FE := fun ρ => (evg as ρ).bind fun p => if (ownIx (p.1 ++ dfl.map Sum.inl)).Nodup then
  (F ((p.1 ++ dfl.map Sum.inl).map (slOf p.2))).bind fun r => if (p.1 ++ dfl.map Sum.inl).length = r.2.length then some (r.1, updA p.2 (p.1 ++ dfl.map Sum.inl) r.2) else none else none
section
variable {X : Cx} {e : Expr} {es : List Expr} {as : List Ag} {F : FF} {dfl : List D} {dvs : List V} {ds : List Value} {k : Nat} {f : Addr} {fd : FuncData} {ps : List Str} {x : Str} {p pos : Pos}
theorem AVs.app {K : Fg} {mg : Mg} {O : AP} {σ : L2.St} {H : Hp} {ds : List D} {us : List V} (r : Rps K mg O H ds us) : ∀ {avs : List AV} {vs : List V}, AVs K mg O σ H avs vs → AVs K mg O σ H (avs ++ ds.map Sum.inl) (vs ++ us)
  | _, _, .nil => by
    induction ds generalizing us with
    | nil => cases r; exact .nil
    | cons d ds ih =>
      cases r with
      | cons h r => exact .inl h (ih r)
  | _, _, .inl h q => .inl h (AVs.app r q)
  | _, _, .inr h q => .inr h (AVs.app r q)
theorem call_run {σ : L2.St} {H : Hp} {Q : VK} {E : XK} (hdf : ∀ O H, Rps X.K X.mg O H dfl dvs) (h : denE X.K X.mg (eCall F dfl as) σ H Q) : tCall (spT X.K X.mg F) dvs E (denG X.K X.mg as) σ H Q := by
  obtain ⟨w, ρ, S, s, ρ', hf, k⟩ := h
  obtain ⟨⟨avs, ρ1⟩, h1, hf⟩ := Option.bind_eq_some_iff.mp hf
  refine ⟨w, ρ, S, avs, ρ1, h1, fun vs H1 S1 A => ?_⟩
  split at hf
  · rename_i hn
    obtain ⟨⟨s1, outs⟩, h2, hf⟩ := Option.bind_eq_some_iff.mp hf
    split at hf
    · rename_i hl
      cases hf
      exact call_T S1 (A.app (hdf _ H1)) hn h2 hl k
    · cases hf
  · cases hf
theorem e_call (G : FnX X CX0 k f fd ps (spT X.K X.mg F)) (hr : RoomG k X.A) (hg : Gl X x) (hm : X.mg x = some (.ref f)) (hk : PySem.W.keepIn X.K (.ref f) = true) (hb : L2.Binds X.K fd ps ds) (hd : Vals dvs ds) (hdf : ∀ O H, Rps X.K X.mg O H dfl dvs)
    (ha : GX X (e :: es) as) (hdb : (x == ("__debug__" : Str)) = false := by decide) (he : starEach (e :: es) X.env = (false, eval e X.env) :: starEach es X.env := by rfl) (hpl : (backTo pos (starEach es X.env)).any (·.1) = false := by rfl) :
    EX X (.Call (.Name x p) (e :: es) [] pos) (eCall F dfl as) := pe_imp (peG_call G hr hg hm hk hb hd pass0 ha hdb he hpl) fun _ _ _ h => call_run hdf h
end

/-! ### built-ins -/
abbrev OL := List D → Option Sl
def eFn (o : OL) (fs : List FE) : FE := fun ρ => (evs fs ρ).bind fun p => (o p.1).map fun s => (s, p.2)
structure CaS (X : Cx) (r : List V → Hp → VK → Prop) (o : OL) : Prop where
  ok : ∀ (w : Wd) (ρ : Ev) (σ : L2.St) (H : Hp) (vs : List V) (ds : List D) (s : Sl) (Q : VK), SR X.K X.mg w ρ σ H → Rps X.K X.mg (Ex w.E ρ σ) H ds vs → o ds = some s → (∀ v H', VR X.K X.mg w ρ σ H' s v → Q v H') → r vs H Q
/-- as a value lies, its own things too -/
def Rk (K : Fg) (mg : Mg) (O : AP) (H : Hp) (d : D) (v : V) : Prop := Rp K mg O H d v ∨ ∃ a, v = .ref a ∧ Own K mg O H d a
/-- built-ins that look and make nothing -/
structure CaP (X : Cx) (r : List V → Hp → VK → Prop) (o : List D → Option D) : Prop where
  fl : ∀ ds d, o ds = some d → ∃ v, Fl X.K X.mg d v
  ok : ∀ (O : AP) (H : Hp) (vs : List V) (ds : List D) (d : D) (Q : VK), Paired (Rk X.K X.mg O H) ds vs → o ds = some d → (∀ v, Fl X.K X.mg d v → Q v H) → r vs H Q
def shO (o : List D → Option D) : OL := fun ds => (o ds).map .sh
theorem Rps.paired {K : Fg} {mg : Mg} {O : AP} {H : Hp} : ∀ {ds : List D} {vs : List V}, Rps K mg O H ds vs → Paired (Rk K mg O H) ds vs
  | _, _, .nil => .nil
  | _, _, .cons h r => .cons (.inl h) r.paired
theorem CaP.s {X : Cx} {r : List V → Hp → VK → Prop} {o : List D → Option D} (h : CaP X r o) : CaS X r (shO o) := ⟨fun w ρ σ H vs ds s Q S rr e k => by
  obtain ⟨d, hd, e2⟩ := Option.map_eq_some_iff.mp e
  cases e2
  exact h.ok _ H vs ds d Q rr.paired hd fun v hv => k v H ⟨S, hv.rp _ _⟩⟩
/-- a built-in that looks at what a name holds -/
def eFnV (o : List D → Option D) (i : Nat) : FE := fun ρ => (peek ρ i).bind fun d => (o [d]).map fun y => (.sh y, ρ)
section
variable {X : Cx} {e : Expr} {es : List Expr} {fs : List FE} {o : OL} {r : List V → Hp → VK → Prop} {x y : Str} {p p2 pos : Pos} {idn tyn : String}
theorem fn_run {σ : L2.St} {H : Hp} {Q : VK} (hs : CaS X r o) (h : denE X.K X.mg (eFn o fs) σ H Q) : tCB r (denL X.K X.mg fs) σ H Q := by
  obtain ⟨w, ρ, S, s, ρ', hf, k⟩ := h
  obtain ⟨⟨ds, ρ1⟩, h1, hf⟩ := Option.bind_eq_some_iff.mp hf
  obtain ⟨s1, h2, e2⟩ := Option.map_eq_some_iff.mp hf
  cases e2
  exact ⟨w, ρ, S, ds, ρ1, h1, fun vs H1 S1 r1 => hs.ok w _ σ H1 vs ds _ Q S1 r1 h2 k⟩
theorem e_fnB (hc : CallR X (.builtin idn) r) (hs : CaS X r o) (hg : Gl X x) (hm : X.mg x = none) (hv : bootBuiltins x = some (.builtin idn)) (ha : LX X (e :: es) fs) (hn : x ≠ "__name__" := by decide) (hdb : (x == ("__debug__" : Str)) = false := by decide)
    (he : starEach (e :: es) X.env = (false, eval e X.env) :: starEach es X.env := by rfl) (hpl : (backTo pos (starEach es X.env)).any (·.1) = false := by rfl) : EX X (.Call (.Name x p) (e :: es) [] pos) (eFn o fs) :=
  pe_imp (pe_callB hc hg hm hv ha hn hdb he hpl) fun _ _ _ h => fn_run hs h
theorem e_fnT (hc : CallR X (.type tyn) r) (hs : CaS X r o) (hg : Gl X x) (hm : X.mg x = none) (hv : bootBuiltins x = some (.type tyn)) (ha : LX X (e :: es) fs) (hn : x ≠ "__name__" := by decide) (hdb : (x == ("__debug__" : Str)) = false := by decide)
    (he : starEach (e :: es) X.env = (false, eval e X.env) :: starEach es X.env := by rfl) (hpl : (backTo pos (starEach es X.env)).any (·.1) = false := by rfl) : EX X (.Call (.Name x p) (e :: es) [] pos) (eFn o fs) :=
  pe_imp (pe_callTy hc hg hm hv ha hn hdb he hpl) fun _ _ _ h => fn_run hs h
theorem e_fnV (i : Nat) {o : List D → Option D} (hc : CallR X (.builtin idn) r) (hs : CaP X r o) (hg : Gl X x) (hm : X.mg x = none) (hv : bootBuiltins x = some (.builtin idn)) (hN : X.N[i]? = some y := by rfl)
    (hy : Vis X.env.scope y := by first | exact Or.inl rfl | exact Or.inr (Or.inl rfl) | exact Or.inr (Or.inr rfl)) (hd : (y == ("__debug__" : Str)) = false := by decide) (hcd : (y == ("__classdict__" : Str)) = false := by decide)
    (hn : x ≠ "__name__" := by decide) (hdb : (x == ("__debug__" : Str)) = false := by decide)
    (he : starEach [.Name y p2] X.env = (false, eval (.Name y p2) X.env) :: starEach [] X.env := by rfl) (hpl : (backTo pos (starEach [] X.env)).any (·.1) = false := by rfl) : EX X (.Call (.Name x p) [.Name y p2] [] pos) (eFnV o i) :=
  pe_imp (pe_callB hc hg hm hv (pa_cons (pe_var hN hy hd hcd) pa_nil he) hn hdb he hpl) fun σ H Q h => by
  obtain ⟨w, ρ, S, s, ρ', hf, k⟩ := h
  obtain ⟨d, h1, hf⟩ := Option.bind_eq_some_iff.mp hf
  obtain ⟨z, h2, e2⟩ := Option.map_eq_some_iff.mp hf
  cases e2
  rcases peek_list S h1 with ⟨v, ev, r1⟩ | ⟨a, ev, o1⟩
  · exact ⟨v, ev, hs.ok (Ex w.E _ σ) H [v] [d] z Q (.cons (.inl r1) .nil) h2 fun u hu => k u H ⟨S, hu.rp _ _⟩⟩
  · exact ⟨_, ev, hs.ok (Ex w.E _ σ) H [.ref a] [d] z Q (.cons (.inr ⟨a, rfl, o1⟩) .nil) h2 fun u hu => k u H ⟨S, hu.rp _ _⟩⟩
end
theorem Rk.items {K : Fg} {mg : Mg} {O : AP} {H : Hp} {d : D} {v : V} {ds : List D} (h : Rk K mg O H d v) (e : d.items = some ds) : ∃ a vs, v = .ref a ∧ SqL K H a vs ∧ Rps K mg O H ds vs := by
  rcases h with h | ⟨a, rfl, o⟩
  · exact h.itemsAt e
  · cases d with
    | lst ds' => cases e; obtain ⟨vs, h1, h2⟩ := o; exact ⟨a, vs, rfl, .inl (.inl h1), h2⟩
    | scr _ => exact o.elim
    | _ => cases e
theorem Rk.tup {K : Fg} {mg : Mg} {O : AP} {H : Hp} {v : V} {ds : List D} (h : Rk K mg O H (.tup ds) v) : ∃ a vs, v = .ref a ∧ SqT K H a vs ∧ Rps K mg O H ds vs := by
  rcases h with h | ⟨a, rfl, o⟩
  · exact h.tupAt
  · exact o.elim
theorem Rk.int {K : Fg} {mg : Mg} {O : AP} {H : Hp} {v : V} {i : Int} (h : Rk K mg O H (.int i) v) : v = .int i := by
  rcases h with h | ⟨a, rfl, o⟩
  · cases h; rfl
  · exact o.elim
theorem Rk.bl {K : Fg} {mg : Mg} {O : AP} {H : Hp} {v : V} {i : Bool} (h : Rk K mg O H (.bl i) v) : v = .bl i := by
  rcases h with h | ⟨a, rfl, o⟩
  · cases h; rfl
  · exact o.elim
theorem Rk.str {K : Fg} {mg : Mg} {O : AP} {H : Hp} {v : V} {i : Str} (h : Rk K mg O H (.str i) v) : v = .str i := by
  rcases h with h | ⟨a, rfl, o⟩
  · cases h; rfl
  · exact o.elim
/-- the ints, the truth values of a list of data -/
def intsOf : List D → Option (List Int)
  | [] => some []
  | .int i :: r => (intsOf r).map (i :: ·)
  | _ :: _ => none
def blsOf : List D → Option (List Bool)
  | [] => some []
  | .bl b :: r => (blsOf r).map (b :: ·)
  | _ :: _ => none
theorem intsOf_eq : ∀ {ds : List D} {ns : List Int}, intsOf ds = some ns → ds = ns.map .int
  | [], _, h => by cases h; rfl
  | .int i :: r, _, h => by
    obtain ⟨ns, h1, e⟩ := Option.map_eq_some_iff.mp h
    subst e
    rw [intsOf_eq h1]; rfl
theorem blsOf_eq : ∀ {ds : List D} {ns : List Bool}, blsOf ds = some ns → ds = ns.map .bl
  | [], _, h => by cases h; rfl
  | .bl i :: r, _, h => by
    obtain ⟨ns, h1, e⟩ := Option.map_eq_some_iff.mp h
    subst e
    rw [blsOf_eq h1]; rfl
theorem intsOf_map (ns : List Int) : intsOf (ns.map .int) = some ns := by
  induction ns with
  | nil => rfl
  | cons n r ih => show (intsOf (r.map .int)).map (n :: ·) = _; rw [ih]; rfl
theorem blsOf_map (ns : List Bool) : blsOf (ns.map .bl) = some ns := by
  induction ns with
  | nil => rfl
  | cons n r ih => show (blsOf (r.map .bl)).map (n :: ·) = _; rw [ih]; rfl
theorem Rps.ints {K : Fg} {mg : Mg} {O : AP} {H : Hp} : ∀ {ns : List Int} {vs : List V}, Rps K mg O H (ns.map .int) vs → vs = ns.map .int
  | [], _, .nil => rfl
  | n :: r, _, .cons h q => by cases h; rw [Rps.ints q]; rfl
theorem Rps.bls {K : Fg} {mg : Mg} {O : AP} {H : Hp} : ∀ {ns : List Bool} {vs : List V}, Rps K mg O H (ns.map .bl) vs → vs = ns.map .bl
  | [], _, .nil => rfl
  | n :: r, _, .cons h q => by cases h; rw [Rps.bls q]; rfl
theorem Rps.of_ints {K : Fg} {mg : Mg} {O : AP} {H : Hp} : ∀ ns : List Int, Rps K mg O H (ns.map .int) (ns.map .int)
  | [] => .nil
  | n :: r => .cons (.int n) (Rps.of_ints r)
def lenD : List D → Option D
  | [.tup ds] => some (.int ds.length)
  | [.lst ds] => some (.int ds.length)
  | [.scr ds] => some (.int ds.length)
  | [.str x] => if x.length ≤ sizeLine then some (.int x.length) else none
  | _ => none
def maxI : List Int → Int
  | [] => 0
  | [n] => n
  | n :: r => if maxI r ≤ n then n else maxI r
def minI : List Int → Int
  | [] => 0
  | [n] => n
  | n :: r => if n ≤ minI r then n else minI r
theorem maxI_mem : ∀ {ns : List Int}, ns ≠ [] → maxI ns ∈ ns
  | [n], _ => by simp [maxI]
  | n :: m :: r, _ => by
    have ih := maxI_mem (ns := m :: r) (by simp)
    unfold maxI
    split
    · exact List.mem_cons_self
    · exact List.mem_cons_of_mem _ ih
theorem maxI_ge : ∀ {ns : List Int}, ∀ y ∈ ns, y ≤ maxI ns
  | [n], y, h => by
    have e : y = n := by simpa using h
    rw [e]; exact Int.le_refl n
  | n :: m :: r, y, h => by
    have ih := maxI_ge (ns := m :: r)
    unfold maxI
    rcases List.mem_cons.mp h with rfl | h
    · split <;> omega
    · have := ih y h
      split <;> omega
theorem minI_mem : ∀ {ns : List Int}, ns ≠ [] → minI ns ∈ ns
  | [n], _ => by simp [minI]
  | n :: m :: r, _ => by
    have ih := minI_mem (ns := m :: r) (by simp)
    unfold minI
    split
    · exact List.mem_cons_self
    · exact List.mem_cons_of_mem _ ih
theorem minI_le : ∀ {ns : List Int}, ∀ y ∈ ns, minI ns ≤ y
  | [n], y, h => by
    have e : y = n := by simpa using h
    rw [e]; exact Int.le_refl n
  | n :: m :: r, y, h => by
    have ih := minI_le (ns := m :: r)
    unfold minI
    rcases List.mem_cons.mp h with rfl | h
    · split <;> omega
    · have := ih y h
      split <;> omega
theorem maxI_eq {ns : List Int} {m : Int} (h1 : m ∈ ns) (h2 : ∀ y ∈ ns, y ≤ m) : maxI ns = m := by
  have a := maxI_ge m h1
  have b := h2 _ (maxI_mem (List.ne_nil_of_mem h1))
  omega
theorem minI_eq {ns : List Int} {m : Int} (h1 : m ∈ ns) (h2 : ∀ y ∈ ns, m ≤ y) : minI ns = m := by
  have a := minI_le m h1
  have b := h2 _ (minI_mem (List.ne_nil_of_mem h1))
  omega
def listFn (g : List Int → Option D) : List D → Option D
  | [.lst ds] => (intsOf ds).bind g
  | _ => none
def maxD : List D → Option D := fun ds => match ds with
  | [.int i, .int j] => some (.int (if j > i then j else i))
  | [.lst ds] => (intsOf ds).bind fun ns => if ns = [] then none else some (.int (maxI ns))
  | _ => none
def minD : List D → Option D := fun ds => match ds with
  | [.int i, .int j] => some (.int (if j < i then j else i))
  | [.lst ds] => (intsOf ds).bind fun ns => if ns = [] then none else some (.int (minI ns))
  | _ => none
def sumD : List D → Option D
  | [.lst ds] => (intsOf ds).map fun ns => .int ns.sum
  | _ => none
def anyD : List D → Option D
  | [.lst ds] => (blsOf ds).map fun ns => .bl (ns.any id)
  | _ => none
def allD : List D → Option D
  | [.lst ds] => (blsOf ds).map fun ns => .bl (ns.all id)
  | _ => none
def absD : List D → Option D
  | [.int i] => some (.int (if i < 0 then -i else i))
  | _ => none
def intD : List D → Option D
  | [.int i] => some (.int i)
  | [.bl b] => some (.int (if b then 1 else 0))
  | _ => none
section
variable {X : Cx}
theorem p_len : CaP X (fun xs H Q => (∃ p ys, xs = [.ref p] ∧ (SqL X.K H p ys ∨ SqT X.K H p ys) ∧ Q (.int ys.length) H) ∨ ∃ z : Str, xs = [.str z] ∧ z.length ≤ sizeLine ∧ Q (.int z.length) H) lenD := by
  refine ⟨fun ds d h => ?_, fun O H vs ds d Q r h k => ?_⟩
  · unfold lenD at h
    split at h
    · cases h; exact ⟨_, .int _⟩
    · cases h; exact ⟨_, .int _⟩
    · cases h; exact ⟨_, .int _⟩
    · split at h
      · cases h; exact ⟨_, .int _⟩
      · cases h
    · cases h
  · unfold lenD at h
    split at h
    · cases h
      cases r with
      | cons h1 h2 =>
        cases h2
        obtain ⟨a, us, rfl, hs, rr⟩ := h1.tup
        exact .inl ⟨a, us, rfl, .inr hs, by rw [← rr.len]; exact k _ (.int _)⟩
    · cases h
      cases r with
      | cons h1 h2 =>
        cases h2
        obtain ⟨a, us, rfl, hs, rr⟩ := h1.items rfl
        exact .inl ⟨a, us, rfl, .inl hs, by rw [← rr.len]; exact k _ (.int _)⟩
    · cases h
      cases r with
      | cons h1 h2 =>
        cases h2
        obtain ⟨a, us, rfl, hs, rr⟩ := h1.items rfl
        exact .inl ⟨a, us, rfl, .inl hs, by rw [← rr.len]; exact k _ (.int _)⟩
    · split at h
      · rename_i hz
        cases h
        cases r with
        | cons h1 h2 =>
          cases h2
          rw [h1.str]
          exact .inr ⟨_, rfl, hz, k _ (.int _)⟩
      · cases h
    · cases h
theorem c_len : CallR X (.builtin "len") (fun xs H Q => (∃ p ys, xs = [.ref p] ∧ (SqL X.K H p ys ∨ SqT X.K H p ys) ∧ Q (.int ys.length) H) ∨ ∃ z : Str, xs = [.str z] ∧ z.length ≤ sizeLine ∧ Q (.int z.length) H) := call_len_seq.or call_len_str
theorem one_paired {G : D → V → Prop} {d : D} {vs : List V} (h : Paired G [d] vs) : ∃ v, vs = [v] ∧ G d v := by
  cases h with
  | cons h1 h2 => cases h2; exact ⟨_, rfl, h1⟩
theorem two_paired {G : D → V → Prop} {d e : D} {vs : List V} (h : Paired G [d, e] vs) : ∃ v u, vs = [v, u] ∧ G d v ∧ G e u := by
  cases h with
  | cons h1 h2 =>
    obtain ⟨u, rfl, h3⟩ := one_paired h2
    exact ⟨_, u, rfl, h1, h3⟩
theorem ints_paired {O : AP} {H : Hp} {ds : List D} {vs : List V} {ns : List Int} (h : Paired (Rk X.K X.mg O H) [.lst ds] vs) (e : intsOf ds = some ns) : ∃ a, vs = [.ref a] ∧ SqL X.K H a (ns.map V.int) := by
  obtain ⟨v, rfl, q⟩ := one_paired h
  obtain ⟨a, us, rfl, hs, r⟩ := q.items rfl
  rw [intsOf_eq e] at r
  rw [r.ints] at hs
  exact ⟨a, rfl, hs⟩
theorem bls_paired {O : AP} {H : Hp} {ds : List D} {vs : List V} {ns : List Bool} (h : Paired (Rk X.K X.mg O H) [.lst ds] vs) (e : blsOf ds = some ns) : ∃ a, vs = [.ref a] ∧ SqL X.K H a (ns.map V.bl) := by
  obtain ⟨v, rfl, q⟩ := one_paired h
  obtain ⟨a, us, rfl, hs, r⟩ := q.items rfl
  rw [blsOf_eq e] at r
  rw [r.bls] at hs
  exact ⟨a, rfl, hs⟩
theorem p_max (hc : X.calm = true) : CallR X (.builtin "max") (fun xs H Q => (∃ i j, xs = [.int i, .int j] ∧ Q (.int (if j > i then j else i)) H) ∨ rMax X.K xs H Q) ∧ CaP X (fun xs H Q => (∃ i j, xs = [.int i, .int j] ∧ Q (.int (if j > i then j else i)) H) ∨ rMax X.K xs H Q) maxD := by
  refine ⟨(call_max2 hc).or (cr_max hc), ⟨fun ds d h => ?_, fun O H vs ds d Q r h k => ?_⟩⟩
  · unfold maxD at h
    split at h
    · cases h; exact ⟨_, .int _⟩
    · obtain ⟨ns, _, h⟩ := Option.bind_eq_some_iff.mp h
      split at h
      · cases h
      · cases h; exact ⟨_, .int _⟩
    · cases h
  · unfold maxD at h
    split at h
    · cases h
      obtain ⟨v, u, rfl, h1, h2⟩ := two_paired r
      rw [h1.int, h2.int]
      exact .inl ⟨_, _, rfl, k _ (.int _)⟩
    · obtain ⟨ns, hn, h⟩ := Option.bind_eq_some_iff.mp h
      split at h
      · cases h
      · rename_i hne
        cases h
        obtain ⟨a, rfl, hs⟩ := ints_paired r hn
        exact .inr ⟨a, ns, rfl, hs, (by cases ns with | nil => exact absurd rfl hne | cons _ _ => exact Nat.succ_pos _), fun m h1 h2 => by rw [← maxI_eq h1 h2]; exact k _ (.int _)⟩
    · cases h
theorem p_min (hc : X.calm = true) : CallR X (.builtin "min") (fun xs H Q => (∃ i j, xs = [.int i, .int j] ∧ Q (.int (if j < i then j else i)) H) ∨ rMin X.K xs H Q) ∧ CaP X (fun xs H Q => (∃ i j, xs = [.int i, .int j] ∧ Q (.int (if j < i then j else i)) H) ∨ rMin X.K xs H Q) minD := by
  refine ⟨(call_min2 hc).or (cr_min hc), ⟨fun ds d h => ?_, fun O H vs ds d Q r h k => ?_⟩⟩
  · unfold minD at h
    split at h
    · cases h; exact ⟨_, .int _⟩
    · obtain ⟨ns, _, h⟩ := Option.bind_eq_some_iff.mp h
      split at h
      · cases h
      · cases h; exact ⟨_, .int _⟩
    · cases h
  · unfold minD at h
    split at h
    · cases h
      obtain ⟨v, u, rfl, h1, h2⟩ := two_paired r
      rw [h1.int, h2.int]
      exact .inl ⟨_, _, rfl, k _ (.int _)⟩
    · obtain ⟨ns, hn, h⟩ := Option.bind_eq_some_iff.mp h
      split at h
      · cases h
      · rename_i hne
        cases h
        obtain ⟨a, rfl, hs⟩ := ints_paired r hn
        exact .inr ⟨a, ns, rfl, hs, (by cases ns with | nil => exact absurd rfl hne | cons _ _ => exact Nat.succ_pos _), fun m h1 h2 => by rw [← minI_eq h1 h2]; exact k _ (.int _)⟩
    · cases h
theorem p_sum : CaP X (rSum X.K) sumD := by
  refine ⟨fun ds d h => ?_, fun O H vs ds d Q r h k => ?_⟩
  · unfold sumD at h
    split at h
    · obtain ⟨ns, _, e⟩ := Option.map_eq_some_iff.mp h; cases e; exact ⟨_, .int _⟩
    · cases h
  · unfold sumD at h
    split at h
    · obtain ⟨ns, hn, e⟩ := Option.map_eq_some_iff.mp h
      cases e
      obtain ⟨a, rfl, hs⟩ := ints_paired r hn
      exact ⟨a, ns, rfl, hs, k _ (.int _)⟩
    · cases h
theorem p_any : CaP X (rAny X.K) anyD := by
  refine ⟨fun ds d h => ?_, fun O H vs ds d Q r h k => ?_⟩
  · unfold anyD at h
    split at h
    · obtain ⟨ns, _, e⟩ := Option.map_eq_some_iff.mp h; cases e; exact ⟨_, .bl _⟩
    · cases h
  · unfold anyD at h
    split at h
    · obtain ⟨ns, hn, e⟩ := Option.map_eq_some_iff.mp h
      cases e
      obtain ⟨a, rfl, hs⟩ := bls_paired r hn
      exact ⟨a, ns, rfl, hs, k _ (.bl _)⟩
    · cases h
theorem p_all : CaP X (rAll X.K) allD := by
  refine ⟨fun ds d h => ?_, fun O H vs ds d Q r h k => ?_⟩
  · unfold allD at h
    split at h
    · obtain ⟨ns, _, e⟩ := Option.map_eq_some_iff.mp h; cases e; exact ⟨_, .bl _⟩
    · cases h
  · unfold allD at h
    split at h
    · obtain ⟨ns, hn, e⟩ := Option.map_eq_some_iff.mp h
      cases e
      obtain ⟨a, rfl, hs⟩ := bls_paired r hn
      exact ⟨a, ns, rfl, hs, k _ (.bl _)⟩
    · cases h
theorem p_abs : CaP X (fun xs H Q => ∃ i, xs = [.int i] ∧ Q (.int (if i < 0 then -i else i)) H) absD := by
  refine ⟨fun ds d h => ?_, fun O H vs ds d Q r h k => ?_⟩
  · unfold absD at h
    split at h
    · cases h; exact ⟨_, .int _⟩
    · cases h
  · unfold absD at h
    split at h
    · cases h
      obtain ⟨v, rfl, q⟩ := one_paired r
      rw [q.int]
      exact ⟨_, rfl, k _ (.int _)⟩
    · cases h
theorem p_int : CaP X (fun xs H Q => (∃ i, xs = [.int i] ∧ Q (.int i) H) ∨ ∃ k, xs = [.bl k] ∧ Q (.int (if k then 1 else 0)) H) intD := by
  refine ⟨fun ds d h => ?_, fun O H vs ds d Q r h k => ?_⟩
  · unfold intD at h
    split at h
    · cases h; exact ⟨_, .int _⟩
    · cases h; exact ⟨_, .int _⟩
    · cases h
  · unfold intD at h
    split at h
    · cases h
      obtain ⟨v, rfl, q⟩ := one_paired r
      rw [q.int]
      exact .inl ⟨_, rfl, k _ (.int _)⟩
    · cases h
      obtain ⟨v, rfl, q⟩ := one_paired r
      rw [q.bl]
      exact .inr ⟨_, rfl, k _ (.int _)⟩
    · cases h
/-- tuple(xs), list(xs) -/
def tupleO : OL
  | [.tup ds] => some (.sh (.tup ds))
  | [.lst ds] => some (.sh (.tup ds))
  | _ => none
def listO : OL
  | [.tup ds] => some (.ow (.lst ds))
  | [.lst ds] => some (.ow (.lst ds))
  | [.scr ds] => some (.ow (.lst ds))
  | _ => none
theorem one_rps {K : Fg} {mg : Mg} {O : AP} {H : Hp} {d : D} {vs : List V} (h : Rps K mg O H [d] vs) : ∃ v, vs = [v] ∧ Rp K mg O H d v := by
  cases h with
  | cons h1 h2 => cases h2; exact ⟨_, rfl, h1⟩
theorem s_tuple : CaS X (fun xs H Q => ∃ p ys, xs = [.ref p] ∧ ((SqL X.K H p ys ∧ ∀ l, H l = none → Q (.ref l) (upd H l (.tup ys))) ∨ (SqT X.K H p ys ∧ Q (.ref p) H))) tupleO := ⟨fun w ρ σ H vs ds s Q S r e k => by
  unfold tupleO at e
  split at e
  · cases e
    obtain ⟨v, rfl, q⟩ := one_rps r
    have q' := q
    obtain ⟨a, us, rfl, hs, rr⟩ := q.tupAt
    exact ⟨a, us, rfl, .inr ⟨hs, k _ _ ⟨S, q'⟩⟩⟩
  · cases e
    obtain ⟨v, rfl, q⟩ := one_rps r
    obtain ⟨a, us, rfl, hs, rr⟩ := q.lstAt
    exact ⟨a, us, rfl, .inl ⟨.inl (.inl hs), fun l hl => k _ _ (VR.newT S hl rr)⟩⟩
  · cases e⟩
theorem s_list : CaS X (fun xs H Q => ∃ p ys, xs = [.ref p] ∧ (SqL X.K H p ys ∨ SqT X.K H p ys) ∧ ∀ l, H l = none → Q (.ref l) (upd H l (.lst ys))) listO := ⟨fun w ρ σ H vs ds s Q S r e k => by
  unfold listO at e
  split at e
  · cases e
    obtain ⟨v, rfl, q⟩ := one_rps r
    obtain ⟨a, us, rfl, hs, rr⟩ := q.tupAt
    exact ⟨a, us, rfl, .inr hs, fun l hl => k _ _ (VR.newL S hl rr)⟩
  · cases e
    obtain ⟨v, rfl, q⟩ := one_rps r
    obtain ⟨a, us, rfl, hs, rr⟩ := q.itemsAt rfl
    exact ⟨a, us, rfl, .inl hs, fun l hl => k _ _ (VR.newL S hl rr)⟩
  · cases e
    obtain ⟨v, rfl, q⟩ := one_rps r
    obtain ⟨a, us, rfl, hs, rr⟩ := q.itemsAt rfl
    exact ⟨a, us, rfl, .inl hs, fun l hl => k _ _ (VR.newL S hl rr)⟩
  · cases e⟩
end
end T

/-! T8: lists written, comprehensions, slices, +, isinstance. -/
namespace T
open PySem L2

/-! ### x.append(e), x[i] = e -/
def ownLst (ρ : Ev) (i : Nat) : Option (List D) := (ρ[i]?).bind fun s => match s.own with
  | some (.lst ds) => some ds
  | _ => none
def putLst (ρ : Ev) (i : Nat) (ds : List D) : Option Ev := (ρ[i]?).bind fun s => match s with
  | .ow (.lst _) => some (ρ.set i (.ow (.lst ds)))
  | .io (.lst _) => some (ρ.set i (.io (.lst ds)))
  | _ => none
def sApp (i : Nat) (f : FE) : FS := fun ρ => (ownLst ρ i).bind fun _ => (f ρ).bind fun p => (vl p.1).bind fun y => (ownLst p.2 i).bind fun ds => if ds.length < sizeLine then (putLst p.2 i (ds ++ [y])).map .nx else none
def sSub (i : Nat) (fx fv : FE) : FS := fun ρ => (ownLst ρ i).bind fun _ => (opt2 fv fx ρ).bind fun q => match q with
  | (y, .int k, ρ') => (ownLst ρ' i).bind fun ds => (ixN ds.length k).bind fun j => (putLst ρ' i (ds.set j y)).map .nx
  | _ => none
def sAug (i : Nat) (op : O2) (f : FE) : FS := fun ρ => (ρ[i]?).bind fun s => match s with
  | .sh x => (f ρ).bind fun p => (vl p.1).bind fun y => (op x y).map fun z => .nx (p.2.set i z)
  | _ => none
section
variable {K : Fg} {mg : Mg} {w : Wd} {ρ ρ' : Ev} {σ : L2.St} {H : Hp} {i : Nat} {ds : List D}
theorem ownLst_at (S : SR K mg w ρ σ H) (h : ownLst ρ i = some ds) : ∃ s, ρ[i]? = some s ∧ s.own = some (.lst ds) ∧ ∃ a vs, σ[i]? = some (some (.ref a)) ∧ H a = some (.lst vs) ∧ Rps K mg (Ex w.E ρ σ) H ds vs := by
  obtain ⟨s, hs, h⟩ := Option.bind_eq_some_iff.mp h
  have h' : (match s.own with | some (.lst ds) => some ds | _ => none) = some ds := h
  cases ho : s.own with
  | none => rw [ho] at h'; cases h'
  | some d =>
    rw [ho] at h'
    cases d with
    | lst ds' =>
      cases h'
      obtain ⟨a, e, _, vs, h1, h2⟩ := S.ow hs ho
      exact ⟨s, hs, ho, a, vs, e, h1, h2⟩
    | _ => cases h'
theorem putLst_ok {es : List D} {a : Addr} {us : List V} (S : SR K mg w ρ σ H) (h : putLst ρ i es = some ρ') (hv : σ[i]? = some (some (.ref a))) (hn : ∀ O H2, (∀ b, O b → Ex w.E ρ σ b) → (∀ b o, ¬ Ex w.E ρ σ b → H b = some o → H2 b = some o) → Rps K mg O H2 es us) :
    SR K mg w ρ' σ (upd H a (.lst us)) := by
  obtain ⟨s, hs, h⟩ := Option.bind_eq_some_iff.mp h
  have key : ∀ {s s' : Sl} {d : D}, ρ[i]? = some s → s.own = some d → ((s = .ow d ∧ s' = .ow (.lst es)) ∨ (s = .io d ∧ s' = .io (.lst es))) → SR K mg w (ρ.set i s') σ (upd H a (.lst us)) := fun {s s' d} hs ho hc => by
    refine S.write hs ho hc hv fun H2 k1 k2 => ⟨us, k2, hn _ H2 (fun _ z => z) fun b o n e => k1 b o (fun z => n ?_) e⟩
    rw [z]
    exact .inr ⟨i, s, d, hs, ho, hv⟩
  cases s with
  | ow d =>
    cases d with
    | lst ds' => cases h; exact key hs rfl (.inl ⟨rfl, rfl⟩)
    | _ => cases h
  | io d =>
    cases d with
    | lst ds' => cases h; exact key hs rfl (.inr ⟨rfl, rfl⟩)
    | _ => cases h
  | no => cases h
  | sh d => cases h
end
section
variable {X : Cx} {c e : Expr} {st : Stmt} {f fx fv : FE} {pos : Pos} {i : Nat}
theorem s_app (h : PE X c (tBM X.K "list" rAppend (tVar i) (tCons (denE X.K X.mg f) tNil))) (hs : swapsWith c none pos.line X.env = pure false := by rfl) : SX X (.Expr c pos) (sApp i f) := ps_imp (ps_expr h hs) fun D σ H q => by
  obtain ⟨w, ρ, S, r, hf, k⟩ := q
  obtain ⟨d0, h0, hf⟩ := Option.bind_eq_some_iff.mp hf
  obtain ⟨⟨s1, ρ1⟩, h1, hf⟩ := Option.bind_eq_some_iff.mp hf
  obtain ⟨y, hy, hf⟩ := Option.bind_eq_some_iff.mp hf
  obtain ⟨ds, h2, hf⟩ := Option.bind_eq_some_iff.mp hf
  split at hf
  · rename_i hz
    obtain ⟨ρ2, h3, e2⟩ := Option.map_eq_some_iff.mp hf
    subst e2
    obtain ⟨_, _, _, a, vs, ea, ha, _⟩ := ownLst_at S h0
    refine ⟨_, ea, .inl ⟨rfl, vs, SqL.of ha⟩, ?_⟩
    refine one S h1 hy fun v H1 S1 r1 => ?_
    obtain ⟨_, _, _, b, us, eb, hb, rr⟩ := ownLst_at S1 h2
    rw [ea] at eb; cases eb
    refine ⟨a, us, v, rfl, rfl, hb, by rw [← rr.len]; exact hz, k σ _ (putLst_ok S1 h3 ea fun O H2 hO hk => ?_)⟩
    exact (rr.step hk fun b _ z _ => hO b z).app (.one (r1.step hk fun b _ z _ => hO b z))
  · cases hf
theorem s_sub (h : PS X st (tAsg (denE X.K X.mg fv) (gSub (tVar i) (denE X.K X.mg fx) rSetL))) : SX X st (sSub i fx fv) := ps_imp h fun D σ H q => by
  obtain ⟨w, ρ, S, r, hf, k⟩ := q
  obtain ⟨d0, h0, hf⟩ := Option.bind_eq_some_iff.mp hf
  obtain ⟨⟨y, kx, ρ2⟩, h1, hf⟩ := Option.bind_eq_some_iff.mp hf
  cases kx with
  | int kk =>
    obtain ⟨ds, h2, hf⟩ := Option.bind_eq_some_iff.mp hf
    obtain ⟨j, hj, hf⟩ := Option.bind_eq_some_iff.mp hf
    obtain ⟨ρ3, h3, e2⟩ := Option.map_eq_some_iff.mp hf
    subst e2
    obtain ⟨_, _, _, a, vs, ea, ha, _⟩ := ownLst_at S h0
    obtain ⟨s1, ρ1, s2, g1, g2, g3, g4⟩ := opt2_some h1
    refine one S g1 g2 fun v H1 S1 r1 => ⟨_, ea, ?_⟩
    refine one S1.fill g3 g4 fun u H2 S2 r2 => ?_
    cases r2
    have S2' := S1.back S2
    obtain ⟨_, _, _, b, us, eb, hb, rr⟩ := ownLst_at S2' h2
    rw [ea] at eb; cases eb
    have r1' := S1.carry S2 r1
    refine ⟨a, us, kk, j, rfl, rfl, hb, by rw [← rr.len]; exact hj, k σ _ (putLst_ok S2' h3 ea fun O H3 hO hk => ?_)⟩
    exact Rps.set (r1'.step hk fun b _ z _ => hO b z) j (rr.step hk fun b _ z _ => hO b z)
  | _ => cases hf
theorem s_aug {op : O2} {r : R2} (h : PS X st (tAug i (denE X.K X.mg f) r)) (hs : OpS X r op) : SX X st (sAug i op f) := ps_imp h fun D σ H q => by
  obtain ⟨w, ρ, S, rs, hf, k⟩ := q
  obtain ⟨s, h0, hf⟩ := Option.bind_eq_some_iff.mp hf
  cases s with
  | sh x =>
    obtain ⟨⟨s1, ρ1⟩, h1, hf⟩ := Option.bind_eq_some_iff.mp hf
    obtain ⟨y, hy, hf⟩ := Option.bind_eq_some_iff.mp hf
    obtain ⟨z, h2, e2⟩ := Option.map_eq_some_iff.mp hf
    subst e2
    obtain ⟨v, ev, rv⟩ := S.sh h0
    refine ⟨v, ev, one S.fill h1 hy fun u H1 S1 r1 => ?_⟩
    exact hs.ok w _ σ H1 v u x y z _ (S.back S1) (S.carry S1 rv) r1 h2 fun v' H2 hv => k _ H2 (hv.set i)
  | _ => cases hf
/-- a, b = x, y -/
theorem Wd.plus_comm (w : Wd) (p q : Addr) : (w.plus p).plus q = (w.plus q).plus p := by
  have e : (fun a => (w.E a ∨ a = p) ∨ a = q) = fun a => (w.E a ∨ a = q) ∨ a = p := funext fun a => propext ⟨fun h => by rcases h with (h | h) | h <;> simp [h], fun h => by rcases h with (h | h) | h <;> simp [h]⟩
  exact congrArg (fun E => ({ w with E := E } : Wd)) e
theorem par_two {K : Fg} {mg : Mg} {w : Wd} {ρ1 ρ2 : Ev} {σ : L2.St} {H1 : Hp} {g : FE} {s1 s2 : Sl} {v1 : V} {i j : Nat} {R : V → Hp → Prop} (h : VR K mg w ρ1 σ H1 s1 v1) (hg : g ρ1 = some (s2, ρ2))
    (k : ∀ v2 H2, SR K mg w ((ρ2.set i s1).set j s2) ((σ.set i (some v1)).set j (some v2)) H2 → R v2 H2) : denE K mg g σ H1 R := by
  cases s1 with
  | sh d1 =>
    obtain ⟨S1, r1⟩ := h
    refine ⟨w.fill ρ1 σ H1, ρ1, S1.fill, s2, ρ2, hg, fun v2 H2 hv2 => ?_⟩
    cases s2 with
    | sh d2 =>
      obtain ⟨S2, r2⟩ := hv2
      have S3 := (S1.back S2).setSh (i := i) (S1.carry S2 r1)
      refine k v2 H2 (S3.setSh (i := j) (r2.sub fun a z => z.imp id fun z => ?_))
      rcases own_set z with ⟨z, _⟩ | ⟨m, t, d, _, q1, q2, q3⟩
      · cases z
      · exact ⟨m, t, d, q1, q2, q3⟩
    | ow d2 =>
      obtain ⟨p, rfl, n1, n2, n3, n4, S2, o⟩ := hv2
      have S2' : SR K mg (w.plus p) ρ2 σ H2 := S2.thin rfl rfl rfl fun _ _ h => S1.in_full h
      have kk := S1.keeps (w2 := (w.fill ρ1 σ H1).plus p) S2 rfl fun a o z e => by
        rcases z with z | z
        · exact .inl z
        · subst z
          by_cases c : Ownd ρ1 σ a
          · exact .inr c
          · have n1' : full ρ1 σ H1 a = none := n1
            rw [full_of c e] at n1'; cases n1'
      have r1' : Rp K mg (Ex (w.plus p).E ρ2 σ) H2 d1 v1 := r1.step kk.1 kk.2
      have ow : ∀ a, Ownd (ρ2.set i (.sh d1)) (σ.set i (some v1)) a → Ownd ρ2 σ a := fun a z => by
        rcases own_set z with ⟨z, _⟩ | ⟨m, t, d, _, q1, q2, q3⟩
        · cases z
        · exact ⟨m, t, d, q1, q2, q3⟩
      have S3 := S2'.setSh (i := i) r1'
      refine k _ H2 (S3.setOw (i := j) ?_ n2 n3 (fun z => n4 (ow p z)) (o.sub fun a z => z.imp id (ow a)))
      cases e : w.R p with
      | none => rfl
      | some o' =>
        have n1' : full ρ1 σ H1 p = none := n1
        rw [S1.in_full e] at n1'; cases n1'
    | no => exact hv2.elim
    | io d => exact hv2.elim
  | ow d1 =>
    obtain ⟨p, rfl, m1, m2, m3, m4, S1, o1⟩ := h
    refine ⟨(w.plus p).fill ρ1 σ H1, ρ1, S1.fill, s2, ρ2, hg, fun v2 H2 hv2 => ?_⟩
    cases s2 with
    | sh d2 =>
      obtain ⟨S2, r2⟩ := hv2
      have S2' := S1.back S2
      have kk := S1.keeps S2 rfl fun _ _ z _ => .inl z
      have o1' : Own K mg (Ex (w.plus p).E ρ2 σ) H2 d1 p := o1.step kk.1 kk.2 fun o e => S2.keep p o (full_of m4 e)
      have S3 := S2'.setOw (i := i) m1 m2 m3 (fun z => S2'.exo p z (.inr rfl)) o1'
      refine k v2 H2 (S3.setSh (i := j) (r2.sub fun a z => ?_))
      rcases z with z | z
      · exact .inl (.inl z)
      · rcases own_set z with ⟨_, z, _⟩ | ⟨m, t, d, _, q1, q2, q3⟩
        · cases z; exact .inl (.inr rfl)
        · exact .inr ⟨m, t, d, q1, q2, q3⟩
    | ow d2 =>
      obtain ⟨q, rfl, n1, n2, n3, n4, S2, o2⟩ := hv2
      have S2' : SR K mg ((w.plus p).plus q) ρ2 σ H2 := S2.thin rfl rfl rfl fun _ _ h => S1.in_full h
      have kk := S1.keeps (w2 := ((w.plus p).fill ρ1 σ H1).plus q) S2 rfl fun a o z e => by
        rcases z with z | z
        · exact .inl z
        · subst z
          by_cases c : Ownd ρ1 σ a
          · exact .inr c
          · have n1' : full ρ1 σ H1 a = none := n1
            rw [full_of c e] at n1'; cases n1'
      have hqp : q ≠ p := fun z => n3 (.inr z)
      have o1' : Own K mg (Ex ((w.plus p).plus q).E ρ2 σ) H2 d1 p := o1.step kk.1 kk.2 fun o e => S2.keep p o (full_of m4 e)
      have hRq : w.R q = none := by
        cases e : w.R q with
        | none => rfl
        | some o' =>
          have n1' : full ρ1 σ H1 q = none := n1
          rw [S1.in_full (show (w.plus p).R q = some o' from e)] at n1'; cases n1'
      have S2'' := S2'
      rw [Wd.plus_comm] at S2'' o1'
      have S3 := S2''.setOw (i := i) (w := w.plus q) m1 m2 (fun z => z.elim m3 fun z => hqp z.symm) (fun z => S2'.exo p z (.inl (.inr rfl))) o1'
      have ow : ∀ a, Ownd (ρ2.set i (.ow d1)) (σ.set i (some (.ref p))) a → a = p ∨ Ownd ρ2 σ a := fun a z => by
        rcases own_set z with ⟨_, z, _⟩ | ⟨m, t, d, _, q1, q2, q3⟩
        · cases z; exact .inl rfl
        · exact .inr ⟨m, t, d, q1, q2, q3⟩
      refine k _ H2 (S3.setOw (i := j) hRq n2 (fun z => n3 (.inl z)) (fun z => (ow q z).elim hqp n4) (o2.sub fun a z => ?_))
      rcases z with (z | z) | z
      · exact .inl (.inl (.inl z))
      · exact .inl (.inr z)
      · rcases ow a z with z | z
        · exact .inl (.inl (.inr z))
        · exact .inr z
    | no => exact hv2.elim
    | io d => exact hv2.elim
  | no => exact h.elim
  | io d => exact h.elim
theorem s_par {i j : Nat} {g : FE} (h : PS X st (tPar i j (tCons (denE X.K X.mg f) (tCons (denE X.K X.mg g) tNil)))) : SX X st (sPar i j f g) := ps_imp h fun D σ H q => by
  obtain ⟨w, ρ, S, r, hf, k⟩ := q
  obtain ⟨⟨s1, ρ1⟩, h1, hf⟩ := Option.bind_eq_some_iff.mp hf
  obtain ⟨⟨s2, ρ2⟩, h2, e2⟩ := Option.map_eq_some_iff.mp hf
  subst e2
  refine ⟨w, ρ, S, s1, ρ1, h1, fun v1 H1 hv1 => ?_⟩
  exact par_two hv1 h2 fun v2 H2 S2 => ⟨v1, v2, rfl, k _ H2 S2⟩
end
/-! ### comprehensions -/
section
variable {X : Cx} {e : Expr} {st : Stmt} {src : FI} {t : Tg} {c : FT} {f : FE} {vs : List Nat} {i : Nat}
abbrev TsX (X : Cx) (ifs : List Expr) (c : FT) : Prop := PTs X ifs (denT X.K X.mg c)
theorem pts_imp {ifs : List Expr} {t u : TT} (h : PTs X ifs t) (k : ∀ σ H Q, u σ H Q → t σ H Q) : PTs X ifs u := ⟨fun pins s σ H Q I q => h.run pins s σ H Q I (k σ H Q q)⟩
theorem ts_yes : TsX X [] tTrue := pts_imp pts_nil fun σ H Q q => by
  obtain ⟨w, ρ, S, b, ρ', hf, k⟩ := q
  cases hf
  exact k H S
theorem ts_one {a : Expr} (h : TX X a c) : TsX X [a] c := pts_one h
theorem e_lc (hv : ∀ i ∈ t.ixs, i ∈ vs) (h : PE X e (tLc (denI X.K X.mg src) (denP X.K X.mg t) (denT X.K X.mg c) (denE X.K X.mg f) vs)) : EX X e (eLc vs t src c f) := pe_imp h fun _ _ _ q => lc_den hv q
theorem s_setLc (hv : ∀ i ∈ t.ixs, i ∈ vs) (h : PS X st (tAsg (tLc (denI X.K X.mg src) (denP X.K X.mg t) (denT X.K X.mg c) (denE X.K X.mg f) vs) (gName i))) : SX X st (sSet i (eLc vs t src c f)) := ps_imp h fun D σ H q => by
  obtain ⟨w, ρ, S, r, hf, k⟩ := q
  obtain ⟨⟨s, ρ1⟩, h1, e1⟩ := Option.map_eq_some_iff.mp hf
  subst e1
  exact lc_den hv ⟨w, ρ, S, s, ρ1, h1, fun v H1 hv => k _ H1 (hv.set i)⟩
end

/-! ### slices -/
abbrev FO := Ev → Option (Option Int × Ev)
def denO (K : Fg) (mg : Mg) (f : FO) : TO := fun σ H Q => ∃ (w : Wd) (ρ : Ev), SR K mg w ρ σ H ∧ ∃ (o : Option Int) (ρ' : Ev), f ρ = some (o, ρ') ∧ ∀ H', SR K mg w ρ' σ H' → Q o H'
abbrev OX (X : Cx) (e : Option Expr) (f : FO) : Prop := PO X e (denO X.K X.mg f)
theorem po_imp {X : Cx} {e : Option Expr} {t u : TO} (h : PO X e t) (k : ∀ σ H Q, u σ H Q → t σ H Q) : PO X e u := ⟨fun pins s σ H Q I q => h.run pins s σ H Q I (k σ H Q q)⟩
def oNone : FO := fun ρ => some (none, ρ)
def oSome (f : FE) : FO := fun ρ => (f ρ).bind fun p => match vl p.1 with
  | some (.int i) => some (some i, p.2)
  | _ => none
def eSl (o : D → Option Int → Option Int → Option Sl) (f : FE) (lo hi : FO) : FE := fun ρ => (f ρ).bind fun p => (vl p.1).bind fun d => (lo p.2).bind fun l => (hi l.2).bind fun h => (o d l.1 h.1).map fun s => (s, h.2)
def cutD (ds : List D) (lo hi : Option Int) : List D := (ds.drop (HT.sIx ds.length 0 lo)).take (HT.sIx ds.length ds.length hi - HT.sIx ds.length 0 lo)
def sliceO : D → Option Int → Option Int → Option Sl
  | .tup ds, lo, hi => some (.sh (.tup (cutD ds lo hi)))
  | .lst ds, lo, hi => some (.ow (.lst (cutD ds lo hi)))
  | .scr ds, lo, hi => some (.ow (.lst (cutD ds lo hi)))
  | _, _, _ => none
theorem cut_rps {K : Fg} {mg : Mg} {O : AP} {H : Hp} {ds : List D} {vs : List V} {lo hi : Option Int} (r : Rps K mg O H ds vs) : Rps K mg O H (cutD ds lo hi) (cutV vs lo hi) := by
  unfold cutD cutV
  rw [r.len]
  exact (r.drop _).take _
section
variable {X : Cx} {e : Expr} {es : Option Expr} {f : FE} {lo hi : FO}
theorem o_none : OX X none oNone := po_imp po_none fun σ H Q q => by
  obtain ⟨w, ρ, S, o, ρ', hf, k⟩ := q
  cases hf
  exact k H S
theorem o_some (h : EX X e f) : OX X (some e) (oSome f) := po_imp (po_some h) fun σ H Q q => by
  obtain ⟨w, ρ, S, o, ρ', hf, k⟩ := q
  obtain ⟨⟨s, ρ1⟩, h1, hf⟩ := Option.bind_eq_some_iff.mp hf
  split at hf
  · rename_i i hi
    cases hf
    refine one S h1 hi fun v H1 S1 r1 => ?_
    cases r1
    exact ⟨i, rfl, k H1 S1⟩
  · cases hf
def rSlU (K : Fg) : V → Option Int → Option Int → Hp → VK → Prop := fun x lo hi H Q => rSlA K x lo hi H Q ∨ rSlL K x lo hi H Q
theorem sl_U : SlR X (rSlU X.K) := sl_tupA.or sl_list
theorem e_sl (h : PE X e (tSl (rSlU X.K) (denE X.K X.mg f) (denO X.K X.mg lo) (denO X.K X.mg hi))) : EX X e (eSl sliceO f lo hi) := pe_imp h fun σ H Q q => by
  obtain ⟨w, ρ, S, s, ρ', hf, k⟩ := q
  obtain ⟨⟨s1, ρ1⟩, h1, hf⟩ := Option.bind_eq_some_iff.mp hf
  obtain ⟨d, hd, hf⟩ := Option.bind_eq_some_iff.mp hf
  obtain ⟨⟨l, ρ2⟩, h2, hf⟩ := Option.bind_eq_some_iff.mp hf
  obtain ⟨⟨u, ρ3⟩, h3, hf⟩ := Option.bind_eq_some_iff.mp hf
  obtain ⟨s4, h4, e4⟩ := Option.map_eq_some_iff.mp hf
  cases e4
  refine one S h1 hd fun v H1 S1 r1 => ⟨_, ρ1, S1.fill, l, ρ2, h2, fun H2 S2 => ⟨_, ρ2, S2, u, ρ3, h3, fun H3 S3 => ?_⟩⟩
  have r3 := S1.carry S3 r1
  have S3' := S1.back S3
  have lists : ∀ {ds : List D}, d.items = some ds → s = .ow (.lst (cutD ds l u)) → rSlU X.K v l u H3 Q := fun {ds} hi es => by
    obtain ⟨a, vs, rfl, hs, rr⟩ := r3.itemsAt hi
    subst es
    exact .inr ⟨a, vs, rfl, hs, fun p hp => k _ _ (VR.newL S3' hp (cut_rps rr))⟩
  unfold sliceO at h4
  split at h4
  · rename_i ds _ _
    cases h4
    have r4 := r3
    obtain ⟨a, vs, rfl, hs, rr⟩ := r3.tupAt
    refine .inl ⟨a, vs, rfl, hs, fun hw => ?_, fun hw p hp => k _ _ (VR.newT S3' hp (cut_rps rr))⟩
    have e : cutD ds l u = ds := by
      unfold cutD
      rw [rr.len, hw.1, hw.2]
      exact List.take_of_length_le (Nat.le_of_eq rr.len)
    rw [e] at k
    exact k _ _ ⟨S3', r4⟩
  · cases h4; exact lists rfl rfl
  · cases h4; exact lists rfl rfl
  · cases h4
end

/-! ### + of anything -/
def catO : O2 := fun x y => match x, y with
  | .tup a, .tup b => if a.length + b.length ≤ sizeLine then some (.sh (.tup (a ++ b))) else none
  | .lst a, .lst b => if a.length + b.length ≤ sizeLine then some (.ow (.lst (a ++ b))) else none
  | .str a, .str b => if a.length + b.length ≤ sizeLine then some (.sh (.str (a ++ b))) else none
  | .int i, .int j => some (.sh (.int (i + j)))
  | _, _ => none
def rPlus (K : Fg) : R2 := fun x y H Q => rCatA K x y H Q ∨ rCat x y H Q ∨ (∃ i j : Str, x = .str i ∧ y = .str j ∧ i.length + j.length ≤ sizeLine ∧ Q (.str (i ++ j)) H) ∨ rI0 (fun i j => .int (i + j)) x y H Q
section
variable {X : Cx}
theorem op_plus : OpR X (binaryOp .Add) (rPlus X.K) := op_catA.or (op_cat.or (op_add_str.or op_add))
theorem x_plus : OpS X (rPlus X.K) catO := ⟨fun w ρ σ H x y dx dy s Q S rx ry e k => by
  unfold catO at e
  split at e
  · split at e
    · rename_i a b hz
      cases e
      have rx' := rx
      have ry' := ry
      obtain ⟨p, vs, rfl, hs, rr⟩ := rx.tupAt
      obtain ⟨q, us, rfl, hs2, rr2⟩ := ry.tupAt
      refine .inl ⟨p, q, vs, us, rfl, rfl, hs, hs2, by rw [← rr.len, ← rr2.len]; exact hz, fun e => ?_, fun _ e => ?_, fun _ _ l hl => k _ _ (VR.newT S hl (rr.app rr2))⟩
      · have e1 : a = [] := List.eq_nil_of_length_eq_zero (by rw [rr.len, e]; rfl)
        subst e1
        exact k _ _ ⟨S, ry'⟩
      · have e1 : b = [] := List.eq_nil_of_length_eq_zero (by rw [rr2.len, e]; rfl)
        subst e1
        rw [List.append_nil] at k
        exact k _ _ ⟨S, rx'⟩
    · cases e
  · split at e
    · rename_i a b hz
      cases e
      obtain ⟨p, vs, rfl, hs, rr⟩ := rx.lstAt
      obtain ⟨q, us, rfl, hs2, rr2⟩ := ry.lstAt
      exact .inr (.inl ⟨p, q, vs, us, rfl, rfl, hs, hs2, by rw [← rr.len, ← rr2.len]; exact hz, fun l hl => k _ _ (VR.newL S hl (rr.app rr2))⟩)
    · cases e
  · split at e
    · rename_i a b hz
      cases e
      cases rx; cases ry
      exact .inr (.inr (.inl ⟨_, _, rfl, rfl, hz, k _ _ ⟨S, .str _⟩⟩))
    · cases e
  · cases e
    cases rx; cases ry
    exact .inr (.inr (.inr ⟨_, _, rfl, rfl, k _ _ ⟨S, .int _⟩⟩))
  · cases e⟩
end

/-! ### isinstance of a built-in class -/
def D.tyn : D → Option String
  | .non => some "NoneType"
  | .bl _ => some "bool"
  | .int _ => some "int"
  | .str _ => some "str"
  | .tup _ => some "tuple"
  | .lst _ => some "list"
  | .scr _ => some "list"
  | _ => none
def isiD : List D → Option D
  | [x, .ty n] => (x.tyn.bind fun a => kitB a n).map .bl
  | _ => none
section
variable {X : Cx}
theorem tyx_of {O : AP} {H : Hp} {d : D} {v : V} {n : String} (r : Rk X.K X.mg O H d v) (h : d.tyn = some n) : TyX X.K H v (.type n) := by
  rcases r with r | ⟨a, rfl, o⟩
  · cases r with
    | non => cases h; exact .base .non
    | bl b => cases h; exact .base (.bl b)
    | int i => cases h; exact .base (.int i)
    | str x => cases h; exact .base (.str x)
    | ty n => cases h
    | tup h1 _ =>
      cases h
      rcases h1 with h1 | (h1 | ⟨_, h1⟩) | ⟨o, its, m, h1, h2, _⟩
      · exact .base (.tup h1.1)
      · cases h1
      · cases h1
      · exact .kTuple h1 h2
    | lst h1 _ => cases h; exact .base (.lst h1.1)
    | scr h1 _ =>
      cases h
      rcases h1 with ⟨h1 | ⟨o, h1⟩, _⟩ | (h1 | ⟨_, h1⟩) | ⟨o, its, m, h1, h2, _⟩
      · exact .base (.lst h1)
      · exact .base (.frz h1)
      · cases h1
      · cases h1
      · exact .kList h1 h2
    | obj _ _ _ _ _ _ => cases h
  · cases d with
    | lst ds => cases h; obtain ⟨vs, h1, _⟩ := o; exact .base (.lst h1)
    | obj _ _ _ => cases h
    | _ => exact o.elim
theorem p_isi : CaP X (rIsi X.K) isiD := by
  refine ⟨fun ds d h => ?_, fun O H vs ds d Q r h k => ?_⟩
  · unfold isiD at h
    split at h
    · obtain ⟨b, _, e⟩ := Option.map_eq_some_iff.mp h; cases e; exact ⟨_, .bl _⟩
    · cases h
  · unfold isiD at h
    split at h
    · obtain ⟨b, hb, e⟩ := Option.map_eq_some_iff.mp h
      cases e
      obtain ⟨a, ha, hk⟩ := Option.bind_eq_some_iff.mp hb
      obtain ⟨v, u, rfl, h1, h2⟩ := two_paired r
      rcases h2 with h2 | ⟨_, _, o⟩
      · cases h2
        exact ⟨v, .ty _, .type a, .type _, b, rfl, .ty _, tyx_of h1 ha, kit_ty hk, k _ (.bl b)⟩
      · exact o.elim
    · cases h
theorem e_ty {x : Str} {n : String} {pos : Pos} (hg : Gl X x) (hm : X.mg x = none) (hv : bootBuiltins x = some (.type n)) (hn : x ≠ "__name__" := by decide) (hd : (x == ("__debug__" : Str)) = false := by decide) : EX X (.Name x pos) (eC (.ty n)) :=
  e_c (pe_bltn (v := .ty n) hg hm hv rfl hn hd) fun _ _ => .ty n
theorem kit_a : kitB "int" "int" = some true := by decide +kernel
theorem kit_b : kitB "bool" "int" = some true := by decide +kernel
theorem kit_c : kitB "int" "bool" = some false := by decide +kernel
theorem kit_d : kitB "bool" "bool" = some true := by decide +kernel
theorem kit_e : kitB "tuple" "int" = some false := by decide +kernel
theorem kit_f : kitB "tuple" "tuple" = some true := by decide +kernel
theorem kit_g : kitB "int" "tuple" = some false := by decide +kernel
theorem kit_h : kitB "str" "str" = some true := by decide +kernel
theorem kit_i : kitB "NoneType" "int" = some false := by decide +kernel
theorem kit_j : kitB "NoneType" "tuple" = some false := by decide +kernel
theorem kit_k : kitB "str" "int" = some false := by decide +kernel
theorem kit_l : kitB "str" "tuple" = some false := by decide +kernel
theorem kit_m : kitB "list" "int" = some false := by decide +kernel
theorem kit_n : kitB "list" "tuple" = some false := by decide +kernel
theorem kit_o : kitB "bool" "tuple" = some false := by decide +kernel
end
end T

/-! T9: enumerate, zip over plain data. -/
namespace T
open PySem PySem.Spec PyProof.Rows L2

set_option maxHeartbeats 1000000 in
theorem enum1_meets {v : Value} {ob : Obj} {C : Heap → Prop} (B : Begins v ob C) :
    Meets (Builtin.«enumerate.__new__» ⟨[.type "enumerate", v], []⟩) (fun _ R z => C z.heap ∧
      R (.ok (.ret (.ref (z.heap.push ob).objs.size))) { z with heap := (z.heap.push ob).push { cls := .type "enumerate", data := .fields #[.none, .bool false, .ref z.heap.objs.size, rawInt 0, .none, .none] } }) :=
  .of_wp fun pr wd Ar R z h => by
    obtain ⟨hp, g, d, tk, os⟩ := z
    obtain ⟨h1, h⟩ := h
    have hsub := sub_enumerate
    have q1 : ∀ {A' : Around} {E : Value → Shared → Prop} {Q : Value → Shared → Prop}, Q (.ref hp.objs.size) ⟨hp.push ob, g, d, tk, os⟩ → wpAny (model pr wd) A' (pyIter v) Q E ⟨hp, g, d, tk, os⟩ := fun q => B.iter pr wd _ _ ⟨hp, g, d, tk, os⟩ _ h1 q
    wp_walk using q1
    refine wpAny_stack_any fun sk => wpAny_pure ?_
    split
    · rename_i c _ _ _ _ _
      cases (c == Value.type "enumerate")
      · wp_walk using q1
        exact ⟨_, rfl, h⟩
      · wp_walk using q1
        exact ⟨_, rfl, h⟩
    · wp_walk using q1
      exact ⟨_, rfl, h⟩
theorem enum1_begins {pr : Program} {wd : World} {Ar : Around} {E : Value → Shared → Prop} {z : Shared} {v : Value} {ob : Obj} {C : Heap → Prop} {Q : Value → Shared → Prop} (B : Begins v ob C) (h1 : C z.heap)
    (h : ∀ g, IsEnum g (z.heap.objs.size + 1) z.heap.objs.size 0 .none → g.get? z.heap.objs.size = some ob → (∀ b o, z.heap.get? b = some o → g.get? b = some o) → Q (.ref (z.heap.objs.size + 1)) { z with heap := g }) :
    wpAny (model pr wd) Ar (call (.type "enumerate") [v]) Q E z := by
  refine callType_new F.called_enumerate (by decide) (F.typeCall_enumerate_1 _) (F.newCall_enumerate_1 _) (fun obj => F.args_object_init_2 obj _) F.entry_enumerate_new (enum1_meets B) ⟨h1, ?_⟩
  have hz : (z.heap.push ob).objs.size = z.heap.objs.size + 1 := Heap.size_push ..
  show _ ∧ _
  rw [hz]
  have he : IsEnum ((z.heap.push ob).push { cls := .type "enumerate", data := .fields #[.none, .bool false, .ref z.heap.objs.size, rawInt 0, .none, .none] }) (z.heap.objs.size + 1) z.heap.objs.size 0 .none := by
    have q := Heap.get?_push_size (z.heap.push ob) (o := { cls := .type "enumerate", data := .fields #[.none, .bool false, .ref z.heap.objs.size, rawInt 0, .none, .none] }) rfl
    rw [hz] at q
    exact q
  exact ⟨⟨_, he, rfl⟩, h _ he (Heap.get?_push_of_some _ (Heap.get?_push_size _ B.free)) fun b o x => Heap.get?_push_of_some _ (Heap.get?_push_of_some _ x)⟩

/-- the tuple at a, each item with its number in a new pair -/
def IteT (K : Fg) (a : Addr) : It :=
  ⟨fun i H => ∃ (xs : List V) (x : V), SqT K H a xs ∧ xs[i]? = some x, fun i H v H' => ∃ T x, v = .ref T ∧ H T = none ∧ H' = upd H T (.tup [.int (i : Nat), x]) ∧ ∀ xs, SqT K H a xs → xs[i]? = some x, fun i H => ∃ xs : List V, SqT K H a xs ∧ xs.length ≤ i⟩
theorem turn_enumT {P : Program} {w : World} {K : Fg} {elts : List Expr} {kk : Nat} {tpos : Pos} (a e it : Addr) :
    Turn P w K (.Tuple elts kk tpos) (IteT K a) [e, it] e (fun i h => (∃ old, IsEnum h e it ((i : Nat) : Int) old) ∧ h.IsTupleIter it a i ∧ e ≠ it) where
  mem := List.mem_cons_self
  obj := fun i h st b hb => by
    obtain ⟨⟨old, he⟩, ⟨o, ho, hc, hd⟩, _⟩ := st
    rcases List.mem_cons.mp hb with z | z
    · rw [z]; exact ⟨_, he, fun v q => nomatch q⟩
    · rw [List.mem_singleton.mp z]; exact ⟨o, ho, fun v q => by rw [hd] at q; cases q⟩
  keep := fun i h g st k => by
    obtain ⟨⟨old, he⟩, hi, hne⟩ := st
    exact ⟨⟨old, k e (by simp) _ he⟩, hi.at fun o q => k it (by simp) o q, hne⟩
  item := by
    intro X hP hw hK hc i pins s σ H E I hf st hg
    subst hP hw hK
    obtain ⟨⟨old, he⟩, hit, hne⟩ := st
    obtain ⟨xs, x, hq, hx⟩ := hg
    obtain ⟨its, rv, p, hz⟩ := I.tuple hq
    obtain ⟨u, hu, ru⟩ := rv.get hx
    have hel : e < s.heap.objs.size := Heap.lt_size he
    have hil : it < s.heap.objs.size := by obtain ⟨_, q, _⟩ := hit; exact Heap.lt_size q
    have hae : a ≠ e := by
      rintro rfl
      obtain ⟨o, q1, q2, _⟩ := p
      rw [show s.heap.get? a = _ from he] at q1; cases q1; exact absurd (show Value.type "enumerate" = Value.type "tuple" from q2) (by decide)
    have hai : a ≠ it := by
      rintro rfl
      obtain ⟨o, q1, q2, _⟩ := p
      obtain ⟨o2, g1, g2, _⟩ := hit
      rw [g1] at q1; cases q1; rw [g2] at q2; exact absurd q2 (by decide)
    have hlt : i < its.toArray.size := by
      have := (List.getElem?_eq_some_iff.mp hu).1
      simpa using this
    refine wpAny_pyNext_enum_itemD (Draws.tuple (show X.A.in1.handled = none from I.ok.hd hc) it a hai its.toArray) he ⟨hit, p⟩ hlt hne (by simp [Ne.symm hae, hne]) fun y g tk hy ho hst hT hsz hk => ?_
    have ey : y = u := by
      have e1 : its[i]? = some y := by simpa using hy
      rw [hu] at e1; exact (Option.some.inj e1).symm
    subst ey
    refine ⟨_, rfl, wpAny_letOwnedTupleGo_enum (s := { s with heap := g, toks := tk + 1 }) ho fun g2 he' sb => ?_⟩
    have hT2 : g2.get? s.heap.objs.size = some { cls := .type "tuple", data := .seq #[.int i tk, y] } := (sb.2 _ (Nat.ne_of_gt hel)).trans hT
    have new : ObjOk X.prog X.w (upd H s.heap.objs.size (.tup [.int (i : Nat), x])) g2 s.heap.objs.size (.tup [.int (i : Nat), x]) := ⟨by show 2 ≤ sizeLine; decide, [.int i tk, y], .cons ⟨_, rfl⟩ (.cons ru .nil), ⟨_, hT2, rfl, _, rfl⟩⟩
    have I1 : Inv X pins σ (upd H s.heap.objs.size (.tup [.int (i : Nat), x])) { s with heap := g2, toks := tk + 1 } :=
      I.turnedNew (ch := [e, it]) (fun b ob hb q => (sb.2 b (fun z => hb (by simp [z]))).trans (hk b ob (fun z => hb (by simp [z])) (fun z => hb (by simp [z])) q)) hf (Nat.le_refl _) new
    refine ⟨.ref s.heap.objs.size, _, I1, rfl, ⟨_, x, rfl, I.hok.fresh (Nat.le_refl _), rfl, fun ys hy => by rw [I.tuple_inj hy hq]; exact hx⟩, ⟨⟨y, ?_⟩, hst.1.at fun o q => (sb.2 it (Ne.symm hne)).trans q, hne⟩, fun b hb => ?_⟩
    · have e1 : ((i + 1 : Nat) : Int) = (i : Int) + 1 := by omega
      rw [e1]; exact he'
    · have hb' : b < s.heap.objs.size := by
        rcases List.mem_cons.mp hb with z | z
        · rw [z]; exact hel
        · rw [List.mem_singleton.mp z]; exact hil
      rw [upd_ne (Nat.ne_of_lt hb')]
      exact (hf b hb).1
  done := by
    intro X hP hw hK hc i pins s σ H E I hf st hg
    subst hP hw hK
    obtain ⟨⟨old, he⟩, hit, hne⟩ := st
    obtain ⟨xs, hq, hx⟩ := hg
    obtain ⟨its, rv, p, hz⟩ := I.tuple hq
    obtain ⟨f0, f1, f2, f3, f4, f5⟩ := hf it (by simp)
    have hl := rv.length
    have hT : s.TypeIs (.ref e) "enumerate" := ⟨_, he, rfl⟩
    unfold pyNext
    refine wpAny_bind (wpAny_attempt (wpAny_callSpecial?_slot (name := Str.ofString "__next__") hT F.slot_enumerate_next (wpAny_call_entry F.slot_enumerate_next hT F.entry_enumerate_next ?_ (F.args_enumerate_next_1 _))))
    show wpAny _ _ (field (.ref e) 2 >>= _) _ _ _
    refine wpAny_bind (wpAny_field he rfl (x := .ref it) rfl ?_)
    refine wpAny_bind (wpAny_nextOf_tuple_end (show X.A.in1.handled = none from I.ok.hd hc) hit (show s.heap.IsTuple a its.toArray from p) (by simp; omega) fun g x hge hx' => ?_)
    obtain ⟨o, ho, hc'⟩ := hx'
    refine wpAny_bind (wpAny_isInstance (T := "StopIteration") (b := true) ⟨o, ho, hc'⟩ isSubtype_stop ?_)
    exact wpAny_pure ⟨rfl, I.turned (t' := s.toks) (fun b o hb q => hge b o hb q) f0 f1 f3 f4 f5⟩
  self := fun A i s Q E st h => by
    obtain ⟨⟨_, he⟩, _⟩ := st
    exact wpAny_pyIter_enum he h
def iEnT (K : Fg) (ta : TA) : TI := fun σ H R => ta σ H fun vs H1 => ∃ a, vs = [.ref a] ∧ (((∃ xs, SqL K H1 a xs) ∧ R (Ite K a) H1) ∨ ((∃ xs, SqT K H1 a xs) ∧ R (IteT K a) H1))
theorem pi_enT {X : Cx} {e : Expr} {ta : TA} {p pos tpos : Pos} {elts : List Expr} {kk : Nat} (hg : Gl X "enumerate") (hm : X.mg "enumerate" = none) (ha : PA X [e] ta) (hs : starEach [e] X.env = [(false, eval e X.env)] := by rfl) :
    PI X (.Tuple elts kk tpos) (.Call (.Name "enumerate" p) [e] [] pos) (iEnT X.K ta) := by
  refine ⟨fun pins s σ H R I h => ?_⟩
  refine Call_ (ld_blt I hg hm boot_enumerate (PyProof.Rows.callWith_type1 (thn (ha.run pos pins s σ H _ I h) fun us s1 ⟨vs, H1, I1, r1, q1⟩ => ?_) hs rfl))
  obtain ⟨a, rfl, q1⟩ := q1
  cases r1 with
  | cons r rr =>
    cases rr
    cases r
    have fp : ∀ b, b ∈ [s1.heap.objs.size + 1, s1.heap.objs.size] → FpOk X pins H1 b := fun b hb => by
      have hle : s1.heap.objs.size ≤ b := by
        rcases List.mem_cons.mp hb with z | z
        · rw [z]; exact Nat.le_add_right _ _
        · rw [List.mem_singleton.mp z]; exact Nat.le_refl _
      exact I1.fpOk hle (I1.hok.fresh hle)
    rcases q1 with ⟨⟨xs, hq⟩, q⟩ | ⟨⟨xs, hq⟩, q⟩
    · obtain ⟨its, rv, pl, hz⟩ := I1.list hq
      refine enum1_begins (begins_list a its.toArray) pl.isList fun g hE hIt hk => wpAny_pyIter_enum hE ?_
      exact ⟨s1.heap.objs.size + 1, [s1.heap.objs.size + 1, s1.heap.objs.size], _, _, H1, rfl, I1.kept (t' := s1.toks) hk, turn_enum a (s1.heap.objs.size + 1) s1.heap.objs.size, ⟨⟨.none, hE⟩, ⟨_, hIt, rfl, rfl⟩, Nat.succ_ne_self _⟩, fp, q⟩
    · obtain ⟨its, rv, pt, hz⟩ := I1.tuple hq
      refine enum1_begins (begins_tuple a its.toArray) pt fun g hE hIt hk => wpAny_pyIter_enum hE ?_
      exact ⟨s1.heap.objs.size + 1, [s1.heap.objs.size + 1, s1.heap.objs.size], _, _, H1, rfl, I1.kept (t' := s1.toks) hk, turn_enumT a (s1.heap.objs.size + 1) s1.heap.objs.size, ⟨⟨.none, hE⟩, ⟨_, hIt, rfl, rfl⟩, Nat.succ_ne_self _⟩, fp, q⟩

/-! ### over plain data -/
def D.seq : D → Option (List D)
  | .lst ds => some ds
  | .scr ds => some ds
  | .tup ds => some ds
  | _ => none
def numD (i : Nat) : List D → List D
  | [] => []
  | d :: r => .tup [.int (i : Nat), d] :: numD (i + 1) r
def pairD : List D → List D → List D
  | a :: r, b :: t => .tup [a, b] :: pairD r t
  | _, _ => []
def iEnu (f : FE) : FI := fun ρ => (f ρ).bind fun p => (vl p.1).bind fun d => d.seq.map fun ds => (numD 0 ds, p.2)
/-- both lists, or both tuples -/
def zipO : D → D → Option (List D)
  | .tup a, .tup b => some (pairD a b)
  | .lst a, .lst b => some (pairD a b)
  | .scr a, .lst b => some (pairD a b)
  | .lst a, .scr b => some (pairD a b)
  | .scr a, .scr b => some (pairD a b)
  | _, _ => none
def iZp (f g : FE) : FI := fun ρ => (opt2 f g ρ).bind fun q => (zipO q.1 q.2.1).map fun ds => (ds, q.2.2)
theorem numD_get : ∀ {ds : List D} {k i : Nat}, (numD k ds)[i]? = (ds[i]?).map fun d => .tup [.int ((k + i : Nat) : Int), d]
  | [], _, _ => by simp [numD]
  | d :: r, k, 0 => by simp [numD]
  | d :: r, k, i + 1 => by
    have q := numD_get (ds := r) (k := k + 1) (i := i)
    have e : k + 1 + i = k + (i + 1) := by omega
    rw [e] at q
    simpa [numD] using q
theorem numD_len : ∀ {ds : List D} {k : Nat}, (numD k ds).length = ds.length
  | [], _ => rfl
  | d :: r, k => congrArg (· + 1) numD_len
theorem pairD_get : ∀ {as bs : List D} {i : Nat} {d : D}, (pairD as bs)[i]? = some d → ∃ a b, as[i]? = some a ∧ bs[i]? = some b ∧ d = .tup [a, b]
  | [], _, _, _, h => by simp [pairD] at h
  | _ :: _, [], _, _, h => by simp [pairD] at h
  | a :: r, b :: t, 0, d, h => ⟨a, b, rfl, rfl, by simpa [pairD] using h.symm⟩
  | a :: r, b :: t, i + 1, d, h => pairD_get (as := r) (bs := t) (i := i) (by simpa [pairD] using h)
theorem pairD_len : ∀ {as bs : List D}, (pairD as bs).length = min as.length bs.length
  | [], _ => by simp [pairD]
  | _ :: _, [] => by simp [pairD]
  | a :: r, b :: t => by
    have q := pairD_len (as := r) (bs := t)
    simp only [pairD, List.length_cons, q]
    omega
section
variable {K : Fg} {mg : Mg} {O : AP} {H : Hp} {d e : D} {ds es : List D} {a b : Addr}
theorem Rp.listC (h : Rp K mg O H d (.ref a)) (e : d.items = some ds) : ∃ vs, (∀ H', Sub (solid O H) H' → SqL K H' a vs) ∧ Rps K mg O H ds vs := by
  cases h with
  | lst h r => cases e; exact ⟨_, fun H' hC => .inl (.inl (hC _ _ (solid_of h.2 h.1))), r⟩
  | scr h r =>
    cases e
    refine ⟨_, fun H' hC => ?_, r⟩
    rcases h with ⟨h, n⟩ | h
    · rcases h with h | ⟨o, h⟩
      · exact .inl (.inl (hC _ _ (solid_of n h)))
      · exact .inl (.inr ⟨o, hC _ _ (solid_of n h)⟩)
    · exact h.at H'
  | _ => cases e
theorem Rp.tupC (h : Rp K mg O H (.tup ds) (.ref a)) : ∃ vs, (∀ H', Sub (solid O H) H' → SqT K H' a vs) ∧ Rps K mg O H ds vs := by
  cases h with
  | tup h r =>
    refine ⟨_, fun H' hC => ?_, r⟩
    rcases h with ⟨h, n⟩ | h
    · exact .inl (.inl (hC _ _ (solid_of n h)))
    · exact h.at H'
theorem Sub.upd {C H : Hp} {p : Addr} {o : HO} (h : H p = none) (hs : Sub C H) : Sub C (upd H p o) := fun a q e => by
  rw [upd_ne (fun z => by rw [z] at e; rw [hs _ _ e] at h; cases h)]
  exact hs a q e
theorem sub_new {H : Hp} {p : Addr} {o : HO} (h : H p = none) : Sub H (L2.upd H p o) := Sub.upd h fun _ _ e => e
/-- a walk that numbers -/
theorem its_num {sq : Hp → List V → Prop} {vs : List V} (J : It) (hg : J.go = fun i H => ∃ (xs : List V) (x : V), sq H xs ∧ xs[i]? = some x) (hy : J.yld = fun i H v H' => ∃ T x, v = V.ref T ∧ H T = none ∧ H' = L2.upd H T (.tup [.int (i : Nat), x]) ∧ ∀ xs, sq H xs → xs[i]? = some x)
    (hp : J.stop = fun i H => ∃ xs : List V, sq H xs ∧ xs.length ≤ i) (hs : ∀ H', Sub (solid O H) H' → sq H' vs) (r : Rps K mg O H ds vs) : ItS K mg (solid O H) (numD 0 ds) J := by
  refine ⟨fun H' hC => ?_, fun i hi H' hC => ?_, fun i d hd w ρ σ H1 x H2 S hC hE yy => ?_⟩
  · rw [hp, numD_len]; exact ⟨vs, hs H' hC, Nat.le_of_eq r.len.symm⟩
  · rw [numD_len] at hi
    obtain ⟨v, hv, _⟩ := r.get (List.getElem?_eq_getElem hi)
    rw [hg]; exact ⟨vs, v, hs H' hC, hv⟩
  · rw [hy] at yy
    obtain ⟨T, y, rfl, hT, rfl, hv⟩ := yy
    rw [numD_get] at hd
    obtain ⟨e, he, rfl⟩ := Option.map_eq_some_iff.mp hd
    obtain ⟨v, h1, h2⟩ := r.get he
    have q := hv vs (hs _ fun a o e => S.keep a o (hC a o e))
    rw [h1] at q; cases q
    have h3 := Rp.keepSolid h2 S hC hE
    have e0 : ((0 + i : Nat) : Int) = ((i : Nat) : Int) := by simp
    rw [e0]
    have q := VR.newT (ds := [.int (i : Nat), e]) (vs := [.int (i : Nat), y]) S hT (.cons (.int _) (.one h3))
    exact ⟨q.1, q.2, sub_new hT⟩
/-- a walk that pairs -/
theorem its_zip {sa sb : Hp → List V → Prop} {us vs : List V} (J : It) (hg : J.go = fun i H => ∃ (xs ys : List V) (x y : V), sa H xs ∧ sb H ys ∧ xs[i]? = some x ∧ ys[i]? = some y) (hy : J.yld = fun i H v H' => ∃ T x y, v = V.ref T ∧ H T = none ∧ H' = L2.upd H T (.tup [x, y]) ∧ (∀ xs, sa H xs → xs[i]? = some x) ∧ ∀ ys, sb H ys → ys[i]? = some y)
    (hp : J.stop = fun i H => ∃ xs ys : List V, sa H xs ∧ sb H ys ∧ (xs.length ≤ i ∨ ys.length ≤ i)) (ha : ∀ H', Sub (solid O H) H' → sa H' us) (hb : ∀ H', Sub (solid O H) H' → sb H' vs) (r : Rps K mg O H ds us) (r2 : Rps K mg O H es vs) : ItS K mg (solid O H) (pairD ds es) J := by
  refine ⟨fun H' hC => ?_, fun i hi H' hC => ?_, fun i d hd w ρ σ H1 x H2 S hC hE yy => ?_⟩
  · rw [hp, pairD_len]
    refine ⟨us, vs, ha H' hC, hb H' hC, ?_⟩
    have e1 := r.len
    have e2 := r2.len
    omega
  · rw [pairD_len] at hi
    obtain ⟨v, hv, _⟩ := r.get (List.getElem?_eq_getElem (show i < ds.length by omega))
    obtain ⟨u, hu, _⟩ := r2.get (List.getElem?_eq_getElem (show i < es.length by omega))
    rw [hg]; exact ⟨us, vs, v, u, ha H' hC, hb H' hC, hv, hu⟩
  · rw [hy] at yy
    obtain ⟨T, y, z, rfl, hT, rfl, hv, hu⟩ := yy
    obtain ⟨d1, d2, g1, g2, rfl⟩ := pairD_get hd
    obtain ⟨v, h1, h2⟩ := r.get g1
    obtain ⟨u, h3, h4⟩ := r2.get g2
    have q := hv us (ha _ fun a o e => S.keep a o (hC a o e))
    rw [h1] at q; cases q
    have q := hu vs (hb _ fun a o e => S.keep a o (hC a o e))
    rw [h3] at q; cases q
    have q := VR.newT (ds := [d1, d2]) (vs := [y, z]) S hT (.cons (Rp.keepSolid h2 S hC hE) (.one (Rp.keepSolid h4 S hC hE)))
    exact ⟨q.1, q.2, sub_new hT⟩
end
section
variable {X : Cx} {e e2 : Expr} {f g : FE} {p pos tpos : Pos} {elts : List Expr} {kk : Nat}
theorem i_enu (hg : Gl X "enumerate") (hm : X.mg "enumerate" = none) (he : EX X e f) (hs : starEach [e] X.env = [(false, eval e X.env)] := by rfl) : IX X (.Tuple elts kk tpos) (.Call (.Name "enumerate" p) [e] [] pos) (iEnu f) :=
  pi_imp (pi_enT hg hm (pa_cons he pa_nil (by rw [hs]; rfl)) hs) fun σ H R h => by
  obtain ⟨w, ρ, S, xs, ρ', hf, k⟩ := h
  obtain ⟨⟨s, ρ1⟩, h1, hf⟩ := Option.bind_eq_some_iff.mp hf
  obtain ⟨d, hd, hf⟩ := Option.bind_eq_some_iff.mp hf
  obtain ⟨ds, he, e2⟩ := Option.map_eq_some_iff.mp hf
  cases e2
  refine one S h1 hd fun v H1 S1 r1 => ?_
  have lists : d.items = some ds → ∃ a, [v] = [V.ref a] ∧ (((∃ xs, SqL X.K H1 a xs) ∧ R (Ite X.K a) H1) ∨ ((∃ xs, SqT X.K H1 a xs) ∧ R (IteT X.K a) H1)) := fun hi => by
    obtain ⟨a, vs, rfl, hs, _⟩ := r1.itemsAt hi
    obtain ⟨us, h2, h3⟩ := r1.listC hi
    exact ⟨a, rfl, .inl ⟨⟨vs, hs⟩, k _ H1 _ S1 (fun a o h => of_solid h) (its_num (sq := fun H xs => SqL X.K H a xs) (Ite X.K a) rfl rfl rfl h2 h3)⟩⟩
  show ∃ a, [v] = [V.ref a] ∧ _
  cases d with
  | lst _ => exact lists he
  | scr _ => exact lists he
  | tup es =>
    cases he
    obtain ⟨a, vs, rfl, hs, _⟩ := r1.tupAt
    obtain ⟨us, h2, h3⟩ := r1.tupC
    exact ⟨a, rfl, .inr ⟨⟨vs, hs⟩, k _ H1 _ S1 (fun a o h => of_solid h) (its_num (sq := fun H xs => SqT X.K H a xs) (IteT X.K a) rfl rfl rfl h2 h3)⟩⟩
  | _ => cases he
theorem i_zp (hg : Gl X "zip") (hm : X.mg "zip" = none) (he : EX X e f) (he2 : EX X e2 g) (hs : starEach [e, e2] X.env = (false, eval e X.env) :: starEach [e2] X.env := by rfl) (hpl : (backTo pos (starEach [e2] X.env)).any (·.1) = false := by rfl)
    (hs1 : starEach [e2] X.env = (false, eval e2 X.env) :: starEach [] X.env := by rfl) : IX X (.Tuple elts kk tpos) (.Call (.Name "zip" p) [e, e2] [] pos) (iZp f g) :=
  pi_imp (RZ.pi_zipA hg hm (pa_cons he (pa_cons he2 pa_nil hs1) hs) hs hpl) fun σ H R h => by
  obtain ⟨w, ρ, S, xs, ρ', hf, k⟩ := h
  obtain ⟨⟨d1, d2, ρ2⟩, h1, hf⟩ := Option.bind_eq_some_iff.mp hf
  obtain ⟨ds, hz, e2⟩ := Option.map_eq_some_iff.mp hf
  cases e2
  obtain ⟨s1, ρ1, s2, g1, g2, g3, g4⟩ := opt2_some h1
  refine one S g1 g2 fun v H1 S1 r1 => ?_
  refine one S1.fill g3 g4 fun u H2 S2 r2 => ?_
  have S2' := S1.back S2
  have r1' := S1.carry S2 r1
  have r2' : Rp X.K X.mg (Ex w.E ρ2 σ) H2 d2 u := r2
  have lists : ∀ {as bs : List D}, d1.items = some as → d2.items = some bs → xs = pairD as bs → ∃ a b xs ys, [v, u] = [V.ref a, V.ref b] ∧ ((SqL X.K H2 a xs ∧ SqL X.K H2 b ys ∧ R (Itz X.K a b) H2) ∨ (SqT X.K H2 a xs ∧ SqT X.K H2 b ys ∧ R (RZ.ItzT X.K a b) H2)) := fun {as bs} i1 i2 ed => by
    subst ed
    obtain ⟨a, vs, rfl, hs, _⟩ := r1'.itemsAt i1
    obtain ⟨b, us, rfl, hs2, _⟩ := r2'.itemsAt i2
    obtain ⟨_, m1, m2⟩ := r1'.listC i1
    obtain ⟨_, m3, m4⟩ := r2'.listC i2
    exact ⟨a, b, vs, us, rfl, .inl ⟨hs, hs2, k _ H2 _ S2' (fun a o h => of_solid h) (its_zip (sa := fun H xs => SqL X.K H a xs) (sb := fun H xs => SqL X.K H b xs) (Itz X.K a b) rfl rfl rfl m1 m3 m2 m4)⟩⟩
  show ∃ a b xs ys, [v, u] = [V.ref a, V.ref b] ∧ _
  have hz' : zipO d1 d2 = some xs := hz
  clear hz hf h1
  unfold zipO at hz'
  split at hz'
  · cases hz'
    obtain ⟨a, vs, rfl, hs, _⟩ := r1'.tupAt
    obtain ⟨b, us, rfl, hs2, _⟩ := r2'.tupAt
    obtain ⟨_, m1, m2⟩ := r1'.tupC
    obtain ⟨_, m3, m4⟩ := r2'.tupC
    exact ⟨a, b, vs, us, rfl, .inr ⟨hs, hs2, k _ H2 _ S2' (fun a o h => of_solid h) (its_zip (sa := fun H xs => SqT X.K H a xs) (sb := fun H xs => SqT X.K H b xs) (RZ.ItzT X.K a b) rfl rfl rfl m1 m3 m2 m4)⟩⟩
  · cases hz'; exact lists rfl rfl rfl
  · cases hz'; exact lists rfl rfl rfl
  · cases hz'; exact lists rfl rfl rfl
  · cases hz'; exact lists rfl rfl rfl
  · cases hz'
end
end T

/-! T10: int(text) of many signs. -/
namespace T
open PySem PySem.Spec PyProof.Rows L2 PySem.NumText

theorem wide_text {M : Model} {A : Around} {E : Value → Shared → Prop} {s : Shared} {Q : Value → Shared → Prop} {v : Value} {text : List Nat} {n : Int} (hd : s.heap.NoDigits)
    (hs : ¬ (text.takeWhile (· != 0)).length ≤ 640) (hr : (int_private% "readNumeral") 4300 10 (text.takeWhile (· != 0)) = (int_private% "Numeral.value") n)
    (ha : ((text.takeWhile (· != 0)).length == text.length) = true) (h : Q (.int n s.toks) { s with toks := s.toks + 1 }) :
    wpAny M A ((int_private% "intFromText") v text 10) Q E s := by
  obtain ⟨mc, hns, hnone⟩ := hd
  have lim : ∀ {Q' : Nat → Shared → Prop}, Q' 4300 s → wpAny M A Builtin.intMaxStrDigits Q' E s := fun {Q'} q => by
    unfold Builtin.intMaxStrDigits
    refine wpAny_bind (wpAny_nsGet hns ?_)
    rw [hnone]
    exact wpAny_pure q
  obtain ⟨hp, g, d, tk, os⟩ := s
  repeat (any_goals (first
    | assumption
    | (with_reducible refine wpAny_ite_false (decide_eq_false hs) ?_)
    | (with_reducible refine wpAny_ite_true (decide_eq_true ha) ?_)
    | (with_reducible refine lim ?_)
    | wp_step))
  all_goals (try rw [hr])
  all_goals (try dsimp only)
  repeat (any_goals (first
    | assumption
    | (with_reducible refine wpAny_ite_false (decide_eq_false hs) ?_)
    | (with_reducible refine wpAny_ite_true (decide_eq_true ha) ?_)
    | (with_reducible refine lim ?_)
    | wp_step))
structure Boxed (p : Prop) : Prop where
  out : p
set_option maxHeartbeats 4000000 in
theorem wide_new {x : Str} {u : Tok} {n : Int} (hl : ¬ (numSeenOf x).length ≤ 640) (hz : x.length ≤ sizeLine) (hn : PySem.intText? x = some n) :
    Meets (Builtin.«int.__new__» ⟨[.type "int", .str x u], []⟩) (fun _ R s => s.heap.NoDigits ∧ R (.ok (.ret (.int n s.toks))) { s with toks := s.toks + 1 }) :=
  .of_wp fun pr wd A R s h => by
    obtain ⟨hp, g, d, tk, os⟩ := s
    obtain ⟨hdg, h⟩ := h
    have f1 := F.conv_sub_int
    have f2 := F.madeHere_int
    have f3 := PySem.W.KIN.str_int
    have f4 := PySem.W.KIN.str_idx
    have f5 := PySem.W.KIN.str_trunc
    have f6 : typeOf (.str x u) = pure (.type "str") := rfl
    have hr : (int_private% "readNumeral") 4300 10 (numSeenOf x) = (int_private% "Numeral.value") n ∧ ((numSeenOf x).length == (numTextOf x).length) = true := by
      rcases read4300 x hz with ⟨m, h1, h2, h3⟩ | ⟨h1, _⟩
      · rw [hn] at h1
        injection h1 with h1
        subst h1
        exact ⟨h3, h2⟩
      · rw [hn] at h1
        cases h1
    have hk := Boxed.mk (And.intro hl (And.intro hr hdg))
    clear hl hr hn hdg hz
    repeat (any_goals (first
      | assumption
      | ((with_reducible show wpAny _ _ ((int_private% "intFromText") _ _ _) _ _ _); refine wide_text hk.out.2.2 hk.out.1 hk.out.2.1.1 hk.out.2.1.2 ?_)
      | wp_step))
    all_goals first | exact ⟨_, rfl, h⟩ | skip
section
variable {X : Cx}
def NoDig (X : Cx) : Prop := X.base.NoDigits
theorem Inv.nodig {pins : List (Addr × Obj)} {σ : L2.St} {H : Hp} {s : Shared} (I : L2.Inv X pins σ H s) (hb : X.base.NoDigits) : s.heap.NoDigits := hb.keeps I.bk
theorem call_int_wide (hb : X.base.NoDigits) : CallR X (.type "int") (fun xs H Q => ∃ a n, xs = [.str a] ∧ PySem.intText? a = some n ∧ a.length ≤ sizeLine ∧ ¬ (numSeenOf a).length ≤ 640 ∧ Q (.int n) H) := by
  intro pins s σ H xs us Q I rs h
  obtain ⟨a, n, rfl, hn, hl, hc, h⟩ := h
  cases rs with
  | cons r1 rs =>
    cases rs
    obtain ⟨t, rfl⟩ := r1
    exact call_int_1 (wide_new hc hl hn) ⟨Inv.nodig I hb, rfl, .int n, H, I.tok _, ⟨_, rfl⟩, h⟩
end
end T

/-! T11: int('1' + '0' * n). -/
namespace T
open PySem PySem.Spec PyProof.Rows L2 PySem.NumText

def nulls (n : Nat) : Str := ⟨Array.replicate n 48⟩
def bigS (n : Nat) : Str := (⟨#[49]⟩ : Str) ++ nulls n
theorem nulls_fold : ∀ (n : Nat) (acc : Array Nat), (List.replicate n (#[48] : Array Nat)).foldl (· ++ ·) acc = acc ++ Array.replicate n 48
  | 0, acc => by simp
  | n + 1, acc => by
    rw [List.replicate_succ, List.foldl_cons, nulls_fold n]
    rw [Array.append_assoc]
    congr 1
    apply Array.ext'
    simp [List.replicate_succ]
theorem bigS_list (n : Nat) : (bigS n).cps.toList = 49 :: List.replicate n 48 := by
  show (#[49] ++ Array.replicate n 48 : Array Nat).toList = _
  simp
theorem bigS_len (n : Nat) : (bigS n).length = n + 1 := by
  show (bigS n).cps.size = _
  rw [← Array.length_toList, bigS_list]
  simp
theorem val_nulls : ∀ (n : Nat) (a : Nat), (List.replicate n 48).foldl (fun acc c => acc * 10 + (c - 48)) a = a * 10 ^ n
  | 0, a => by simp
  | n + 1, a => by
    rw [List.replicate_succ, List.foldl_cons, val_nulls n, Nat.pow_succ, Nat.mul_comm (10 ^ n) 10, ← Nat.mul_assoc]
    simp
theorem bigS_digits (n : Nat) : AllDigits (bigS n).cps.toList := by
  rw [bigS_list]
  intro c hc
  rcases List.mem_cons.mp hc with h | h
  · omega
  · have := (List.mem_replicate.mp h).2; omega
theorem bigS_reads (n : Nat) (h : n < 4300) : PySem.intText? (bigS n) = some ((10 : Int) ^ n) := by
  rw [intText_digits (bigS_digits n) (by rw [bigS_list]; exact fun e => nomatch e) (by rw [bigS_len]; omega), bigS_list]
  have e : digitsVal (49 :: List.replicate n 48) = 10 ^ n := by
    show List.foldl _ (0 * 10 + (49 - 48)) (List.replicate n 48) = _
    rw [val_nulls]; simp
  rw [e]
  simp
theorem bigS_seen (n : Nat) (h : 640 ≤ n) : ¬ (numSeenOf (bigS n)).length ≤ 640 := by
  rw [(numText_signs fun c hc => .inr (bigS_digits n c hc)).2, bigS_list]
  simp
  omega
/-- '0' * n -/
def rNul : R2 := fun x y H Q => ∃ n : Nat, x = .str ⟨#[48]⟩ ∧ y = .int n ∧ 2 ≤ n ∧ n < 4000 ∧ Q (.str (nulls n)) H
def nulO : O2 := fun x y => match x, y with
  | .str a, .int n => if a = ⟨#[48]⟩ ∧ 2 ≤ n ∧ n < 4000 then some (.sh (.str (nulls n.toNat))) else none
  | _, _ => none
def bigO (n : Nat) : OL := fun ds => match ds with
  | [.str x] => if x = bigS n then some (.sh (.int (10 ^ n))) else none
  | _ => none
section
variable {X : Cx}
theorem op_nul : OpR X (binaryOp .Mult) rNul := by
  intro pins s σ H x y v u Q I rx ry h
  obtain ⟨n, rfl, rfl, h1, h2, q⟩ := h
  obtain ⟨t, rfl⟩ := rx
  obtain ⟨t', rfl⟩ := ry
  have n1 : ¬ ((n : Nat) : Int) < 1 := by omega
  have n2 : (((n : Nat) : Int) == 1 || (⟨#[48]⟩ : Str).length == 0) = false := by
    have : (((n : Nat) : Int) == 1) = false := by simp; omega
    rw [this]; rfl
  refine P.mul_str (by
    have a : ¬ ((n : Nat) : Int) < -(2 ^ 63 : Int) := by omega
    have b : ¬ ((n : Nat) : Int) ≥ 2 ^ 63 := by omega
    rw [decide_eq_false a, decide_eq_false b]; rfl) (fun _ _ => ?_) (fun _ _ => ?_) ?_
  · show ¬ ((1 : Nat) : Int) > (2 ^ 63 - 1) / (n : Int)
    have : (1 : Int) ≤ (2 ^ 63 - 1) / (n : Int) := (Int.le_ediv_iff_mul_le (by omega)).mpr (by omega)
    omega
  · show Builtin.Str.tooLong ((1 : Nat) * ((n : Nat) : Int).toNat) = false
    have : ((n : Nat) : Int).toNat = n := rfl
    rw [this]
    unfold Builtin.Str.tooLong
    simp
    rw [sizeLine_eq]
    omega
  · rw [if_neg n1, if_neg (by rw [n2]; exact Bool.false_ne_true)]
    have e : (⟨(List.replicate ((n : Nat) : Int).toNat (#[48] : Array Nat)).foldl (· ++ ·) #[]⟩ : Str) = nulls n := by
      have : ((n : Nat) : Int).toNat = n := rfl
      rw [this, nulls_fold]
      simp [nulls]
    show (Made.str _).post _ s
    rw [e]
    exact ⟨by
      show (nulls n).length ≤ sizeLine
      have : (nulls n).length = n := by show (Array.replicate n 48).size = n; simp
      rw [this, sizeLine_eq]; omega, .str (nulls n), H, I.tok _, ⟨_, rfl⟩, q⟩
theorem x_nul : OpS X rNul nulO := ⟨fun w ρ σ H x y dx dy s Q S rx ry e k => by
  unfold nulO at e
  split at e
  · split at e
    · rename_i h
      cases e
      obtain ⟨rfl, h1, h2⟩ := h
      cases rx; cases ry
      rename_i n
      refine ⟨n.toNat, rfl, by congr 1; omega, by omega, by omega, k _ _ ⟨S, .str _⟩⟩
    · cases e
  · cases e⟩
theorem s_big {m : Nat} (h1 : 640 ≤ m) (h2 : m < 4000) : CaS X (fun xs H Q => ∃ a n, xs = [.str a] ∧ PySem.intText? a = some n ∧ a.length ≤ sizeLine ∧ ¬ (numSeenOf a).length ≤ 640 ∧ Q (.int n) H) (bigO m) := ⟨fun w ρ σ H vs ds s Q S r e k => by
  unfold bigO at e
  split at e
  · split at e
    · rename_i h
      cases e
      subst h
      obtain ⟨v, rfl, q⟩ := one_rps r
      cases q
      exact ⟨_, _, rfl, bigS_reads m (by omega), by rw [bigS_len, sizeLine_eq]; omega, bigS_seen m h1, k _ _ ⟨S, .int _⟩⟩
    · cases e
  · cases e⟩
theorem big_is {m : Nat} (h1 : 640 ≤ m) (h2 : m < 4000) : eFn (bigO m) [eBin catO (eC (.str "1")) (eBin nulO (eC (.str "0")) (eC (.int m)))] = eC (.int (10 ^ m)) := by
  funext ρ
  have e0 : ("0" : Str) = ⟨#[48]⟩ := by decide
  have e1 : ("1" : Str) = ⟨#[49]⟩ := by decide
  have hh1 : nulO (.str "0") (.int m) = some (.sh (.str (nulls m))) := by
    rw [e0]
    unfold nulO
    exact if_pos ⟨rfl, by omega, by omega⟩
  have hh2 : catO (.str "1") (.str (nulls m)) = some (.sh (.str (bigS m))) := by
    rw [e1]
    unfold catO
    have : (⟨#[49]⟩ : Str).length + (nulls m).length ≤ sizeLine := by
      have e2 : (nulls m).length = m := by show (Array.replicate m 48).size = m; simp
      have e3 : (⟨#[49]⟩ : Str).length = 1 := rfl
      rw [e2, e3, sizeLine_eq]
      omega
    exact if_pos this
  have hh3 : bigO m [.str (bigS m)] = some (.sh (.int (10 ^ m))) := if_pos rfl
  have b1 : eBin nulO (eC (.str "0")) (eC (.int m)) ρ = some (.sh (.str (nulls m)), ρ) := by
    show (nulO (.str "0") (.int m)).map _ = _
    rw [hh1]; rfl
  have b2 : eBin catO (eC (.str "1")) (eBin nulO (eC (.str "0")) (eC (.int m))) ρ = some (.sh (.str (bigS m)), ρ) := by
    generalize eBin nulO (eC (.str "0")) (eC (.int m)) = g at b1
    show (opt2 (eC (.str "1")) g ρ).bind _ = _
    have e3 : opt2 (eC (.str "1")) g ρ = some (.str "1", .str (nulls m), ρ) := by
      show ((g ρ).bind _) = _
      rw [b1]; rfl
    rw [e3]
    show (catO (.str "1") (.str (nulls m))).map _ = _
    rw [hh2]; rfl
  generalize eBin catO (eC (.str "1")) (eBin nulO (eC (.str "0")) (eC (.int m))) = g at b2
  show (evs [g] ρ).bind _ = _
  have e4 : evs [g] ρ = some ([.str (bigS m)], ρ) := by
    unfold evs
    rw [b2]; rfl
  rw [e4]
  show (bigO m [.str (bigS m)]).map _ = _
  rw [hh3]; rfl
theorem e_bigm {m : Nat} (h1 : 640 ≤ m) (h2 : m < 4000) {p p1 p2 p3 p4 p5 p6 : Pos} {a b c : Nat} (hb : X.base.NoDigits) (hg : Gl X "int") (hm : X.mg "int" = none)
    (he : starEach [.BinOp (.Constant (.str "1") a p1) .Add (.BinOp (.Constant (.str "0") b p2) .Mult (.Constant (.int m) c p3) p4) p5] X.env = (false, eval (.BinOp (.Constant (.str "1") a p1) .Add (.BinOp (.Constant (.str "0") b p2) .Mult (.Constant (.int m) c p3) p4) p5) X.env) :: starEach [] X.env)
    (hpl : (backTo p6 (starEach [] X.env)).any (·.1) = false := by rfl) :
    EX X (.Call (.Name "int" p) [.BinOp (.Constant (.str "1") a p1) .Add (.BinOp (.Constant (.str "0") b p2) .Mult (.Constant (.int m) c p3) p4) p5] [] p6) (eC (.int (10 ^ m))) := by
  rw [← big_is h1 h2]
  exact e_fnT (call_int_wide hb) (s_big h1 h2) hg hm boot_int (l_cons (e_bin op_plus x_plus e_str (e_bin op_nul x_nul e_str e_int)) l_nil he) (by decide) (by decide) he hpl
def bigN : Int := 10 ^ (900 : Nat)
theorem e_big {p p1 p2 p3 p4 p5 p6 : Pos} {a b c : Nat} (hb : X.base.NoDigits) (hg : Gl X "int") (hm : X.mg "int" = none)
    (he : starEach [.BinOp (.Constant (.str "1") a p1) .Add (.BinOp (.Constant (.str "0") b p2) .Mult (.Constant (.int 900) c p3) p4) p5] X.env = (false, eval (.BinOp (.Constant (.str "1") a p1) .Add (.BinOp (.Constant (.str "0") b p2) .Mult (.Constant (.int 900) c p3) p4) p5) X.env) :: starEach [] X.env := by rfl)
    (hpl : (backTo p6 (starEach [] X.env)).any (·.1) = false := by rfl) :
    EX X (.Call (.Name "int" p) [.BinOp (.Constant (.str "1") a p1) .Add (.BinOp (.Constant (.str "0") b p2) .Mult (.Constant (.int 900) c p3) p4) p5] [] p6) (eC (.int bigN)) :=
  e_bigm (m := 900) (by decide) (by decide) hb hg hm he hpl
end
end T

/-! T12: sorted(set(xs)), xs a list of tuples of ints. -/
namespace T
open PySem PySem.Spec PyProof.Rows L2

def lexL : List Int → List Int → Prop
  | a :: r, b :: t => a < b ∨ (a = b ∧ lexL r t)
  | _, _ => False
instance lexDec : ∀ x y, Decidable (lexL x y)
  | [], _ => .isFalse fun h => by unfold lexL at h; exact h
  | _ :: _, [] => .isFalse fun h => by unfold lexL at h; exact h
  | a :: r, b :: t => by
    unfold lexL
    haveI := lexDec r t
    exact inferInstance
theorem lex_irr : ∀ {x : List Int}, ¬ lexL x x
  | [], h => by unfold lexL at h; exact h
  | a :: r, h => by
    unfold lexL at h
    rcases h with h | ⟨_, h⟩
    · omega
    · exact lex_irr h
theorem lex_trans : ∀ {x y z : List Int}, lexL x y → lexL y z → lexL x z
  | [], _, _, h, _ => by unfold lexL at h; exact h.elim
  | _ :: _, [], _, h, _ => by unfold lexL at h; exact h.elim
  | _ :: _, _ :: _, [], _, h => by unfold lexL at h; exact h.elim
  | a :: r, b :: t, c :: u, h1, h2 => by
    unfold lexL at h1 h2 ⊢
    rcases h1 with h1 | ⟨e1, h1⟩
    · rcases h2 with h2 | ⟨e2, h2⟩
      · exact .inl (by omega)
      · exact .inl (by omega)
    · rcases h2 with h2 | ⟨e2, h2⟩
      · exact .inl (by omega)
      · exact .inr ⟨by omega, lex_trans h1 h2⟩
theorem lex_tri : ∀ {x y : List Int}, x.length = y.length → lexL x y ∨ x = y ∨ lexL y x
  | [], [], _ => .inr (.inl rfl)
  | [], _ :: _, h => by simp at h
  | _ :: _, [], h => by simp at h
  | a :: r, b :: t, h => by
    have q := lex_tri (x := r) (y := t) (by simpa using h)
    unfold lexL
    rcases Int.lt_trichotomy a b with c | c | c
    · exact .inl (.inl c)
    · rcases q with q | q | q
      · exact .inl (.inr ⟨c, q⟩)
      · exact .inr (.inl (by rw [c, q]))
      · exact .inr (.inr (.inr ⟨c.symm, q⟩))
    · exact .inr (.inr (.inl c))
def insL (x : List Int) : List (List Int) → List (List Int)
  | [] => [x]
  | y :: r => if x = y then y :: r else if lexL x y then x :: y :: r else y :: insL x r
def srtL : List (List Int) → List (List Int)
  | [] => []
  | x :: r => insL x (srtL r)
theorem mem_ins {x z : List Int} : ∀ {l : List (List Int)}, z ∈ insL x l ↔ z = x ∨ z ∈ l
  | [] => by simp [insL]
  | y :: r => by
    unfold insL
    split
    · rename_i e; subst e; simp
    · split
      · simp
      · simp only [List.mem_cons, mem_ins (l := r)]
        constructor
        · rintro (h | h | h) <;> simp [h]
        · rintro (h | h | h) <;> simp [h]
theorem mem_srt {z : List Int} : ∀ {l : List (List Int)}, z ∈ srtL l ↔ z ∈ l
  | [] => by simp [srtL]
  | x :: r => by
    unfold srtL
    rw [mem_ins, mem_srt (l := r), List.mem_cons]
theorem ins_pw {x : List Int} {d : Nat} (hx : x.length = d) : ∀ {l : List (List Int)}, (∀ y ∈ l, y.length = d) → l.Pairwise lexL → (insL x l).Pairwise lexL
  | [], _, _ => by simp [insL]
  | y :: r, hd, h => by
    unfold insL
    obtain ⟨h1, h2⟩ := List.pairwise_cons.mp h
    split
    · exact h
    · rename_i ne
      split
      · rename_i hl
        refine List.pairwise_cons.mpr ⟨fun z hz => ?_, h⟩
        rcases List.mem_cons.mp hz with e | hz
        · rw [e]; exact hl
        · exact lex_trans hl (h1 z hz)
      · rename_i hl
        refine List.pairwise_cons.mpr ⟨fun z hz => ?_, ins_pw hx (fun y hy => hd y (List.mem_cons_of_mem _ hy)) h2⟩
        rcases mem_ins.mp hz with e | hz
        · rw [e]
          rcases lex_tri (hx.trans (hd y List.mem_cons_self).symm) with c | c | c
          · exact absurd c hl
          · exact absurd c ne
          · exact c
        · exact h1 z hz
theorem srt_pw {d : Nat} : ∀ {l : List (List Int)}, (∀ y ∈ l, y.length = d) → (srtL l).Pairwise lexL
  | [], _ => List.Pairwise.nil
  | x :: r, h => by
    unfold srtL
    refine ins_pw (h x List.mem_cons_self) (fun y hy => h y (List.mem_cons_of_mem _ (mem_srt.mp hy))) (srt_pw fun y hy => h y (List.mem_cons_of_mem _ hy))
theorem pw_unique : ∀ {as bs : List (List Int)}, as.Pairwise lexL → bs.Pairwise lexL → (∀ x, x ∈ as ↔ x ∈ bs) → as = bs
  | [], [], _, _, _ => rfl
  | [], b :: bs, _, _, h => absurd ((h b).mpr List.mem_cons_self) (by simp)
  | a :: as, [], _, _, h => absurd ((h a).mp List.mem_cons_self) (by simp)
  | a :: as, b :: bs, h1, h2, h => by
    obtain ⟨a1, a2⟩ := List.pairwise_cons.mp h1
    obtain ⟨b1, b2⟩ := List.pairwise_cons.mp h2
    have e : a = b := by
      rcases List.mem_cons.mp ((h a).mp List.mem_cons_self) with e | ha
      · exact e
      · rcases List.mem_cons.mp ((h b).mpr List.mem_cons_self) with e | hb
        · exact e.symm
        · exact absurd (lex_trans (b1 a ha) (a1 b hb)) lex_irr
    subst e
    rw [pw_unique a2 b2 fun x => ⟨fun hx => ?_, fun hx => ?_⟩]
    · rcases List.mem_cons.mp ((h x).mp (List.mem_cons_of_mem _ hx)) with e | q
      · exact absurd (a1 x hx) (by rw [e]; exact lex_irr)
      · exact q
    · rcases List.mem_cons.mp ((h x).mpr (List.mem_cons_of_mem _ hx)) with e | q
      · exact absurd (b1 x hx) (by rw [e]; exact lex_irr)
      · exact q
theorem lex_code {B : Int} : ∀ {x y : List Int}, x.length = y.length → TS.Bd B x → TS.Bd B y → lexL x y → TS.code B x < TS.code B y
  | [], _, _, _, _, h => by unfold lexL at h; exact h.elim
  | _ :: _, [], _, _, _, h => by unfold lexL at h; exact h.elim
  | a :: r, b :: t, hl, hx, hy, h => by
    have hl' : r.length = t.length := by simpa using hl
    have hr : TS.Bd B r := fun m hm => hx m (List.mem_cons_of_mem _ hm)
    have ht : TS.Bd B t := fun m hm => hy m (List.mem_cons_of_mem _ hm)
    unfold lexL at h
    rcases h with h | ⟨rfl, h⟩
    · exact TS.code_lt hl' hr ht h
    · exact (TS.code_same hl').mpr (lex_code hl' hr ht h)

def tupOfI (l : List Int) : D := .tup (l.map .int)
def tupI : D → Option (List Int)
  | .tup ds => intsOf ds
  | _ => none
def tupsI : List D → Option (List (List Int))
  | [] => some []
  | d :: r => (tupI d).bind fun x => (tupsI r).map fun y => x :: y
/-- sorted(set(xs)) -/
def okSet (ls : List (List Int)) : Prop := ls.length < 64 ∧ (∀ l ∈ ls, l.length = (ls.headD []).length ∧ 1 ≤ l.length ∧ ∀ m ∈ l, 0 ≤ m)
instance (ls : List (List Int)) : Decidable (okSet ls) := inferInstanceAs (Decidable (_ ∧ _))
def ssetO : D → Option Sl
  | .lst ds => (tupsI ds).bind fun ls => if okSet ls then some (.ow (.lst ((srtL ls).map tupOfI))) else none
  | _ => none
def eSset (f : FE) : FE := fun ρ => (f ρ).bind fun p => (vl p.1).bind fun d => (ssetO d).map fun s => (s, p.2)
theorem tupI_some {d : D} {l : List Int} (h : tupI d = some l) : d = tupOfI l := by
  unfold tupI at h
  split at h
  · rename_i ds
    have : ∀ {ds : List D} {l : List Int}, intsOf ds = some l → ds = l.map .int := by
      intro ds
      induction ds with
      | nil => intro l h; cases h; rfl
      | cons d r ih =>
        intro l h
        cases d with
        | int i =>
          obtain ⟨t, ht, e⟩ := Option.map_eq_some_iff.mp (show (intsOf r).map (i :: ·) = some l from h)
          subst e
          rw [ih ht]; rfl
        | _ => cases h
    rw [this h]; rfl
  · cases h
section
variable {K : Fg} {mg : Mg} {O : AP} {H : Hp}
theorem rps_ints : ∀ {l : List Int} {vs : List V}, Rps K mg O H (l.map D.int) vs → vs = l.map V.int
  | [], _, .nil => rfl
  | i :: r, _, .cons h t => by
    cases h
    rw [rps_ints t]; rfl
theorem keysOf : ∀ {ds : List D} {vs : List V} {ls : List (List Int)}, Rps K mg O H ds vs → tupsI ds = some ls → ∃ ks : List (Addr × List Int), vs = ks.map (fun p => V.ref p.1) ∧ ks.map (·.2) = ls ∧ ∀ p ∈ ks, Rp K mg O H (tupOfI p.2) (.ref p.1)
  | [], _, _, .nil, h => by cases h; exact ⟨[], rfl, rfl, fun p hp => absurd hp (by simp)⟩
  | d :: r, _, _, .cons hd hr, h => by
    obtain ⟨x, hx, h⟩ := Option.bind_eq_some_iff.mp h
    obtain ⟨y, hy, e⟩ := Option.map_eq_some_iff.mp h
    subst e
    obtain ⟨ks, rfl, e2, hk⟩ := keysOf hr hy
    have ed := tupI_some hx
    subst ed
    have hd' := hd
    obtain ⟨a, us, rfl, _, _⟩ := hd.tupAt
    refine ⟨(a, x) :: ks, rfl, by rw [← e2]; rfl, fun p hp => ?_⟩
    rcases List.mem_cons.mp hp with e | hp
    · rw [e]; exact hd'
    · exact hk p hp
theorem bound_of : ∀ ls : List (List Int), ∃ B : Int, ∀ l ∈ ls, ∀ m ∈ l, m < B
  | [] => ⟨0, fun l hl => absurd hl (by simp)⟩
  | l :: r => by
    obtain ⟨B, hB⟩ := bound_of r
    have : ∃ C : Int, ∀ m ∈ l, m < C := by
      induction l with
      | nil => exact ⟨0, fun m hm => absurd hm (by simp)⟩
      | cons a t ih =>
        obtain ⟨C, hC⟩ := ih
        refine ⟨max C (a + 1), fun m hm => ?_⟩
        rcases List.mem_cons.mp hm with e | hm
        · omega
        · have := hC m hm; omega
    obtain ⟨C, hC⟩ := this
    refine ⟨max B C, fun q hq m hm => ?_⟩
    rcases List.mem_cons.mp hq with e | hq
    · subst e; have := hC m hm; omega
    · have := hB q hq m hm; omega
end
section
variable {X : Cx} {a : Expr} {f : FE} {p p2 q pos : Pos}
theorem rps_keys {K : Fg} {mg : Mg} {O : AP} {H : Hp} : ∀ {L : List (Addr × List Int)}, (∀ p ∈ L, Rp K mg O H (tupOfI p.2) (.ref p.1)) → Rps K mg O H (L.map fun p => tupOfI p.2) (L.map fun p => V.ref p.1)
  | [], _ => .nil
  | p :: r, h => .cons (h p List.mem_cons_self) (rps_keys fun q hq => h q (List.mem_cons_of_mem _ hq))
theorem e_sset (hc : X.calm = true) (hu : X.A.units + 64 < cLine) (hg : Gl X "sorted") (hm : X.mg "sorted" = none) (hg2 : Gl X "set") (hm2 : X.mg "set" = none) (ha : EX X a f)
    (na : starEach [a] X.env = (false, eval a X.env) :: starEach [] X.env := by rfl) (nb : starEach [.Call (.Name "set" p2) [a] [] q] X.env = (false, eval (.Call (.Name "set" p2) [a] [] q) X.env) :: starEach [] X.env := by rfl)
    (hpl : (backTo q (starEach [] X.env)).any (·.1) = false := by rfl) (hpl2 : (backTo pos (starEach [] X.env)).any (·.1) = false := by rfl) :
    EX X (.Call (.Name "sorted" p) [.Call (.Name "set" p2) [a] [] q] [] pos) (eSset f) :=
  pe_imp (pe_callB (cr_sortedT hc) hg hm boot_sorted (pa_cons (pe_callTy (cr_setOfT hc hu) hg2 hm2 boot_set (pa_cons ha pa_nil na) (by decide) (by decide) na hpl) pa_nil nb) (by decide) (by decide) nb hpl2) fun σ H Q h => by
  obtain ⟨w, ρ, S, s, ρ', hf, k⟩ := h
  obtain ⟨⟨s1, ρ1⟩, h1, hf⟩ := Option.bind_eq_some_iff.mp hf
  obtain ⟨d, hd, hf⟩ := Option.bind_eq_some_iff.mp hf
  obtain ⟨s2, h2, e2⟩ := Option.map_eq_some_iff.mp hf
  cases e2
  refine one S h1 hd fun v H1 S1 r1 => ?_
  cases d with
  | lst ds =>
    obtain ⟨ls, hls, h2⟩ := Option.bind_eq_some_iff.mp (show (tupsI ds).bind _ = _ from h2)
    have h2' : (if okSet ls then some (Sl.ow (.lst ((srtL ls).map tupOfI))) else none) = some s := h2
    split at h2'
    · rename_i ok
      cases h2'
      obtain ⟨l, vs, rfl, hl, rr⟩ := r1.lstAt
      obtain ⟨ks, rfl, eks, hk⟩ := keysOf rr hls
      have sq : ∀ p ∈ ks, SqT X.K H1 p.1 (p.2.map V.int) := fun p hp => by
        obtain ⟨b, us, e, hs, hr⟩ := (hk p hp).tupAt
        cases e
        rw [← rps_ints hr]
        exact hs
      refine ⟨l, ks, rfl, .inl (.inl hl), sq, by rw [← List.length_map (f := (·.2)), eks]; exact ok.1, fun b L hb hL hL2 => ?_⟩
      obtain ⟨B, hB⟩ := bound_of ls
      have memls : ∀ p ∈ L, p.2 ∈ ls := fun p hp => by rw [← eks]; exact List.mem_map_of_mem (hL p hp)
      have S2 := S1.push (o := SetTO X.prog X.w b L) hb
      have up : ∀ {p} {o' : HO}, H1 p = some o' → (upd H1 b (SetTO X.prog X.w b L)) p = some o' := fun {p o'} e => by
        rw [upd_ne (fun z => by rw [z, hb] at e; cases e)]; exact e
      have hk2 : ∀ p ∈ L, Rp X.K X.mg (Ex w.E ρ1 σ) (upd H1 b (SetTO X.prog X.w b L)) (tupOfI p.2) (.ref p.1) := fun p hp => ((hk p (hL p hp)).push S1 hb).sub fun a z => z.imp .inl id
      refine ⟨b, L, max 1 (ls.headD []).length, B, rfl, upd_same, fun p hp => ?_, ?_, fun p hp => ?_, fun L' c pm nd few pw hc0 => ?_⟩
      · obtain ⟨b', us, e, hs, hr⟩ := (hk2 p hp).tupAt
        cases e
        rw [← rps_ints hr]
        exact hs
      · exact Nat.le_max_left _ _
      · have q := ok.2 p.2 (memls p hp)
        exact ⟨by have q1 := q.1; have q2 := q.2.1; omega, fun m hm => ⟨q.2.2 m hm, hB p.2 (memls p hp) m hm⟩⟩
      · have mem' : ∀ p ∈ L', p ∈ L := fun p hp => pm.mem_iff.mp hp
        have eL : L'.map (·.2) = srtL ls := by
          refine pw_unique ?_ (srt_pw (d := (ls.headD []).length) fun y hy => (ok.2 y hy).1) fun x => ?_
          · rw [List.pairwise_map]
            have nd' := List.pairwise_map.mp nd
            refine List.Pairwise.imp_of_mem (fun {p q} hp hq h => ?_) (pw.and nd')
            have b1 := ok.2 p.2 (memls p (mem' p hp))
            have b2 := ok.2 q.2 (memls q (mem' q hq))
            rcases lex_tri (x := p.2) (y := q.2) (b1.1.trans b2.1.symm) with c | c | c
            · exact c
            · exact absurd c h.2
            · have := lex_code (B := B) (b2.1.trans b1.1.symm) (fun m hm => ⟨b2.2.2 m hm, hB _ (memls q (mem' q hq)) m hm⟩) (fun m hm => ⟨b1.2.2 m hm, hB _ (memls p (mem' p hp)) m hm⟩) c
              omega
          · rw [mem_srt]
            constructor
            · intro hx
              obtain ⟨p, hp, e⟩ := List.mem_map.mp hx
              rw [← e]; exact memls p (mem' p hp)
            · intro hx
              rw [← eks] at hx
              obtain ⟨p, hp, e⟩ := List.mem_map.mp hx
              obtain ⟨p', hp', e'⟩ := List.mem_map.mp (hL2 p hp)
              exact List.mem_map.mpr ⟨p', pm.mem_iff.mpr hp', by rw [e', e]⟩
        have fin := rps_keys fun p hp => hk2 p (mem' p hp)
        have eD : (L'.map fun p => tupOfI p.2) = (srtL ls).map tupOfI := by rw [← eL, List.map_map]; rfl
        rw [eD] at fin
        exact k _ _ (VR.newL S2.minus hc0 fin)
    · cases h2'
  | _ => cases h2
end
end T

/-! T13: calls with a fresh list, calls by names, the end of a law. -/
namespace T
open PySem PySem.Spec PyProof.Rows L2

/-! ### a fresh list handed to a def that writes it -/
section
variable {K : Fg} {mg : Mg} {w : Wd} {ρ : Ev} {σ : L2.St} {H : Hp} {t : Sl} {x : Option V} {p : Addr} {d : D} {s : Sl} {v : V}
theorem ownd_app {a : Addr} (hl : ρ.length = σ.length) (h : Ownd ρ σ a) : Ownd (ρ ++ [t]) (σ ++ [x]) a := by
  obtain ⟨i, s, d, h1, h2, h3⟩ := h
  have hi : i < ρ.length := (List.getElem?_eq_some_iff.mp h1).1
  exact ⟨i, s, d, by rw [List.getElem?_append_left hi]; exact h1, h2, by rw [List.getElem?_append_left (by omega)]; exact h3⟩
theorem at_app {i : Nat} {s : Sl} (h : (ρ ++ [t])[i]? = some s) : (i < ρ.length ∧ ρ[i]? = some s) ∨ (i = ρ.length ∧ s = t) := by
  by_cases hi : i < ρ.length
  · rw [List.getElem?_append_left hi] at h
    exact .inl ⟨hi, h⟩
  · rw [List.getElem?_append_right (by omega)] at h
    have : i - ρ.length = 0 := by
      have := (List.getElem?_eq_some_iff.mp h).1
      simp at this
      omega
    rw [this] at h
    exact .inr ⟨by omega, (Option.some.inj h).symm⟩
theorem SR.grow (S : SR K mg w ρ σ H) : SR K mg w (ρ ++ [.no]) (σ ++ [none]) H := by
  have hl := S.len
  have un : ∀ {i : Nat} {s : Sl}, (ρ ++ [Sl.no])[i]? = some s → s = .no ∨ (i < ρ.length ∧ ρ[i]? = some s ∧ (σ ++ [none])[i]? = σ[i]?) := fun {i s} h => by
    rcases at_app h with ⟨h1, h2⟩ | ⟨_, h2⟩
    · exact .inr ⟨h1, h2, List.getElem?_append_left (by omega)⟩
    · exact .inl h2
  have ow : ∀ a, Ownd (ρ ++ [.no]) (σ ++ [none]) a → Ownd ρ σ a := fun a ⟨i, s, d, h1, h2, h3⟩ => by
    rcases un h1 with rfl | ⟨_, g1, g2⟩
    · cases h2
    · rw [g2] at h3; exact ⟨i, s, d, g1, h2, h3⟩
  refine ⟨by simp [hl], fun i s v h1 h2 => ?_, fun i j s t d e a h1 h2 h3 h4 h5 h6 => ?_, fun a z => S.exo a (ow a z), S.keep, S.fresh, S.etr, fun i d h => ?_⟩
  · rcases un h1 with rfl | ⟨_, g1, g2⟩
    · trivial
    · rw [g2] at h2
      exact (S.slot i s v g1 h2).step (fun _ _ _ e => e) (fun a _ z _ => z.imp id (ow a)) fun _ _ _ _ e => e
  · rcases un h1 with rfl | ⟨_, g1, g2⟩
    · cases h2
    · rcases un h3 with rfl | ⟨_, g3, g4⟩
      · cases h4
      · rw [g2] at h5; rw [g4] at h6
        exact S.inj i j s t d e a g1 h2 g3 h4 h5 h6
  · rcases un h with h | ⟨_, g1, g2⟩
    · cases h
    · rw [g2]; exact S.iob i d g1
theorem SR.pop (hl : ρ.length = σ.length) (S : SR K mg w (ρ ++ [t]) (σ ++ [x]) H) : SR K mg w ρ σ H := by
  have up : ∀ {i : Nat} {s : Sl}, ρ[i]? = some s → (ρ ++ [t])[i]? = some s ∧ (σ ++ [x])[i]? = σ[i]? := fun {i s} h => by
    have hi : i < ρ.length := (List.getElem?_eq_some_iff.mp h).1
    exact ⟨by rw [List.getElem?_append_left hi]; exact h, List.getElem?_append_left (by omega)⟩
  refine ⟨hl, fun i s v h1 h2 => ?_, fun i j s t d e a h1 h2 h3 h4 h5 h6 => ?_, fun a z => S.exo a (ownd_app hl z), S.keep, S.fresh, S.etr, fun i d h => ?_⟩
  · obtain ⟨g1, g2⟩ := up h1
    exact (S.slot i s v g1 (by rw [g2]; exact h2)).step (fun _ _ _ e => e) (fun a _ z _ => z.imp id (ownd_app hl)) fun _ _ _ _ e => e
  · obtain ⟨g1, g2⟩ := up h1
    obtain ⟨g3, g4⟩ := up h3
    exact S.inj i j s t d e a g1 h2 g3 h4 (by rw [g2]; exact h5) (by rw [g4]; exact h6)
  · obtain ⟨g1, g2⟩ := up h
    rw [← g2]; exact S.iob i d g1
theorem VR.pop (hl : ρ.length = σ.length) (h : VR K mg w (ρ ++ [t]) (σ ++ [x]) H s v) : VR K mg w ρ σ H s v := by
  cases s with
  | sh d =>
    obtain ⟨S, r⟩ := h
    exact ⟨S.pop hl, r.sub fun a z => z.imp id (ownd_app hl)⟩
  | ow d =>
    obtain ⟨p, rfl, h1, h2, h3, h4, S, o⟩ := h
    exact ⟨p, rfl, h1, h2, h3, fun z => h4 (ownd_app hl z), S.pop hl, o.sub fun a z => z.imp id (ownd_app hl)⟩
  | no => exact h.elim
  | io d => exact h.elim
theorem SR.addOw (S : SR K mg (w.plus p) ρ σ H) (h1 : w.R p = none) (h2 : w.N p) (h3 : ¬ w.E p) (h4 : ¬ Ownd ρ σ p) (h : Own K mg (Ex (w.plus p).E ρ σ) H d p) : SR K mg w (ρ ++ [.ow d]) (σ ++ [some (.ref p)]) H := by
  have ow : ∀ a, Ownd (ρ ++ [.no]) (σ ++ [none]) a → Ownd ρ σ a := fun a ⟨i, s, d, g1, g2, g3⟩ => by
    rcases at_app g1 with ⟨e1, e2⟩ | ⟨_, e2⟩
    · rw [List.getElem?_append_left (by rw [← S.len]; exact e1)] at g3
      exact ⟨i, s, d, e2, g2, g3⟩
    · subst e2; cases g2
  have q := (S.grow).setOw (i := ρ.length) h1 h2 h3 (fun z => h4 (ow p z)) (h.sub fun a z => z.imp id (ow a))
  rw [List.set_append_right _ _ (Nat.le_refl _), List.set_append_right _ _ (by rw [S.len]; exact Nat.le_refl _)] at q
  simpa [S.len] using q
theorem avs_inl {O : AP} : ∀ {ds : List D} {vs : List V}, Rps K mg O H ds vs → AVs K mg O σ H (ds.map Sum.inl) vs
  | _, _, .nil => .nil
  | _, _, .cons h r => .inl h (avs_inl r)
theorem updA_inl : ∀ {ds : List D} {outs : List Sl} {ρ : Ev}, updA ρ (ds.map Sum.inl) outs = ρ
  | [], _, _ => rfl
  | _ :: _, [], _ => rfl
  | d :: r, o :: os, ρ => by
    show ((r.map Sum.inl).zip os).foldl upd1 (upd1 ρ (.inl d, o)) = ρ
    exact updA_inl (ds := r)
theorem ownIx_inl : ∀ {ds : List D}, ownIx (ds.map Sum.inl) = []
  | [] => rfl
  | _ :: r => ownIx_inl (ds := r)
theorem slOf_inl {ds : List D} : (ds.map Sum.inl).map (slOf ρ) = ds.map Sl.sh := by rw [List.map_map]; rfl
end
def owD : Sl → Option D
  | .ow d => some d
  | _ => none
theorem owD_some {s : Sl} {d : D} (h : owD s = some d) : s = .ow d := by
  cases s <;> cases h
  rfl
theorem at_end {ρ : Ev} {t : Sl} : (ρ ++ [t])[ρ.length]? = some t := by simp
def eCallF (F : FF) (f : FE) (fs : List FE) : FE := fun ρ => (f ρ).bind fun p => (owD p.1).bind fun d => (evs fs p.2).bind fun q => (F (.io d :: q.1.map .sh)).bind fun r => if r.2.length = q.1.length + 1 then some (r.1, q.2) else none
def eCallK (F : FF) (js : List Nat) (fs : List FE) : FE := fun ρ => (evs fs ρ).bind fun q => (F (js.map fun j => .sh (q.1.getD j .non))).bind fun r => if r.2.length = js.length then some (r.1, q.2) else none
section
variable {X : Cx} {e : Expr} {es : List Expr} {f : FE} {fs : List FE} {F : FF} {k : Nat} {fa : Addr} {fd : FuncData} {ps ks : List Str} {x : Str} {p pos : Pos} {js : List Nat} {kws : List Keyword}
theorem e_callF (G : FnX X CX0 k fa fd ps (spT X.K X.mg F)) (hr : RoomG k X.A) (hg : Gl X x) (hm : X.mg x = some (.ref fa)) (hk : PySem.W.keepIn X.K (.ref fa) = true) (hb : L2.Binds X.K fd ps []) (he : EX X e f) (hes : LX X es fs)
    (hdb : (x == ("__debug__" : Str)) = false := by decide) (hs : starEach (e :: es) X.env = (false, eval e X.env) :: starEach es X.env := by rfl) (hpl : (backTo pos (starEach es X.env)).any (·.1) = false := by rfl) :
    EX X (.Call (.Name x p) (e :: es) [] pos) (eCallF F f fs) := pe_imp (peG_call G hr hg hm hk hb .nil pass0 (pa_cons he hes hs) hdb hs hpl) fun σ H Q h => by
  obtain ⟨w, ρ, S, s, ρ', hf, k⟩ := h
  obtain ⟨⟨s1, ρ1⟩, h1, hf⟩ := Option.bind_eq_some_iff.mp hf
  refine ⟨w, ρ, S, s1, ρ1, h1, fun v H1 hv => ?_⟩
  obtain ⟨d, hd, hf'⟩ := Option.bind_eq_some_iff.mp hf
  obtain rfl := owD_some hd
  · skip
    obtain ⟨⟨ds, ρ2⟩, h2, hf'⟩ := Option.bind_eq_some_iff.mp hf'
    obtain ⟨⟨s3, outs⟩, h3, hf'⟩ := Option.bind_eq_some_iff.mp hf'
    split at hf'
    · rename_i hl
      cases hf'
      obtain ⟨a, rfl, n1, n2, n3, n4, S1, o⟩ := hv
      refine ⟨(w.plus a).fill ρ1 σ H1, ρ1, S1.fill, ds, ρ2, h2, fun vs H2 S2 r2 => ?_⟩
      have S2' := S1.back S2
      have kk := S1.keeps S2 rfl fun _ _ z _ => .inl z
      have o' : Own X.K X.mg (Ex (w.plus a).E ρ2 σ) H2 d a := o.step kk.1 kk.2 fun o e => S2.keep a o (full_of n4 e)
      have n4' : ¬ Ownd ρ2 σ a := fun z => S2'.exo a z (.inr rfl)
      have S3 := S2'.addOw n1 n2 n3 n4' o'
      have hlen := S2'.len
      have ex : ∀ b, Ex w.E (ρ2 ++ [.ow d]) (σ ++ [some (.ref a)]) b → Ex (w.plus a).E ρ2 σ b := fun b z => by
        rcases z with z | ⟨i, s, e, g1, g2, g3⟩
        · exact .inl (.inl z)
        · rcases at_app g1 with ⟨e1, e2⟩ | ⟨e1, e2⟩
          · rw [List.getElem?_append_left (by omega)] at g3
            exact .inr ⟨i, s, e, e2, g2, g3⟩
          · rw [e1, hlen, List.getElem?_append_right (Nat.le_refl _)] at g3
            have : some (V.ref a) = some (V.ref b) := by simpa using g3
            injection this with this
            injection this with this
            exact .inl (.inr this.symm)
      have A : AVs X.K X.mg (Ex w.E (ρ2 ++ [.ow d]) (σ ++ [some (.ref a)])) (σ ++ [some (.ref a)]) H2 (.inr ρ2.length :: ds.map Sum.inl) (.ref a :: vs) :=
        .inr (by rw [hlen, List.getElem?_append_right (Nat.le_refl _)]; simp) (avs_inl (r2.sub ex))
      have hsl : (Sum.inr ρ2.length :: ds.map Sum.inl : List AV).map (slOf (ρ2 ++ [.ow d])) = .io d :: ds.map .sh := by
        show slOf _ _ :: _ = _
        rw [slOf_inl]
        congr 1
        show (match (ρ2 ++ [Sl.ow d])[ρ2.length]? with | some (.sh d) => Sl.sh d | some (.ow d) => .io d | some (.io d) => .io d | _ => .no) = _
        rw [at_end]
      refine call_T S3 (avs := .inr ρ2.length :: ds.map Sum.inl) (s := s3) (outs := outs) (by simpa using A) (by show (ρ2.length :: ownIx (ds.map Sum.inl)).Nodup; rw [ownIx_inl]; simp) (by rw [hsl]; exact h3) (by simpa using hl.symm) fun v H3 hv => ?_
      refine k v H3 ?_
      cases outs with
      | nil => simp at hl
      | cons ou os =>
        have eu : updA (ρ2 ++ [.ow d]) (.inr ρ2.length :: ds.map Sum.inl) (ou :: os) = ρ2 ++ [outSl (.ow d) ou] := by
          show ((ds.map Sum.inl).zip os).foldl upd1 (upd1 (ρ2 ++ [.ow d]) (.inr ρ2.length, ou)) = _
          have : upd1 (ρ2 ++ [.ow d]) (.inr ρ2.length, ou) = ρ2 ++ [outSl (.ow d) ou] := by
            unfold upd1
            show (match (ρ2 ++ [Sl.ow d])[ρ2.length]? with
              | some s => (ρ2 ++ [Sl.ow d]).set ρ2.length (outSl s ou)
              | none => ρ2 ++ [Sl.ow d]) = _
            rw [at_end]
            simp
          rw [this]
          exact updA_inl
        rw [eu] at hv
        exact hv.pop hlen
    · cases hf'

/-! ### by names -/
structure KB (fd : FuncData) (ps ks : List Str) (js : List Nat) : Prop where
  lens : js.length = ps.length
  to : ∀ (s : Shared) (us : List Value), us.length = ks.length → BindsTo s fd ⟨[], ks.zip us⟩ (ps.zip (js.map fun j => us.getD j .none))
theorem vals_pick {vs : List V} {us : List Value} (r : Vals vs us) (j : Nat) : RelV (vs.getD j .non) (us.getD j .none) := by
  induction r generalizing j with
  | nil => exact rfl
  | cons h t ih =>
    cases j with
    | zero => exact h
    | succ j => exact ih j
theorem vals_picks {vs : List V} {us : List Value} (r : Vals vs us) : ∀ js : List Nat, Vals (js.map fun j => vs.getD j .non) (js.map fun j => us.getD j .none)
  | [] => .nil
  | j :: js => .cons (vals_pick r j) (vals_picks r js)
theorem Fun.kb {K : Fg} {y qual : Str} {st : Stmt} {g : Addr} {gd : FuncData} (G : Fun K y qual st g gd) (hj : js.length = ps.length)
    (h : ∀ (kV doc pm : Value) (an : Option Addr) (cdv ct : Value) (us : List Value), us.length = ks.length → bindArgs (PySem.W.fnOf y qual (defArgs st) (defBody st) (defScope st) .none kV doc pm an cdv ct) ⟨[], ks.zip us⟩ = pure (ps.zip (js.map fun j => us.getD j .none))) : KB gd ps ks js := by
  obtain ⟨oc, od, kV, doc, pm, an, cdv, ct, osl, rfl, lk, hcd⟩ := G.ex
  exact ⟨hj, fun s us hl => .of_eq (h kV doc pm an cdv ct us hl)⟩
theorem rps_picks {K : Fg} {mg : Mg} {O : AP} {H : Hp} {ds : List D} {vs : List V} (r : Rps K mg O H ds vs) : ∀ js : List Nat, Rps K mg O H (js.map fun j => ds.getD j .non) (js.map fun j => vs.getD j .non)
  | [] => .nil
  | j :: js => by
    refine .cons ?_ (rps_picks r js)
    show Rp K mg O H (ds.getD j .non) (vs.getD j .non)
    cases e : ds[j]? with
    | none =>
      have e2 : vs[j]? = none := by rw [List.getElem?_eq_none_iff] at e ⊢; rw [← r.len]; exact e
      rw [List.getD_eq_getElem?_getD, List.getD_eq_getElem?_getD, e, e2]
      exact .non
    | some d =>
      obtain ⟨v, h1, h2⟩ := r.get e
      rw [List.getD_eq_getElem?_getD, List.getD_eq_getElem?_getD, e, h1]
      exact h2
/-- keywords: the list of their values -/
abbrev KX (X : Cx) (kws : List Keyword) (fs : List FE) : Prop := PK X kws (denL X.K X.mg fs)
theorem pk_imp {t u : TA} (h : PK X kws t) (k : ∀ σ H Q, u σ H Q → t σ H Q) : PK X kws u := ⟨fun pos pins s σ H Q I q => h.run pos pins s σ H Q I (k σ H Q q)⟩
theorem k_nil : KX X [] [] := pk_imp pk_nil fun σ H Q h => by
  obtain ⟨w, ρ, S, ds, ρ', hf, k⟩ := h
  cases hf
  exact k [] H S .nil
theorem k_cons {nm : Option Str} {kpos : Pos} (ha : EX X e f) (hr : KX X kws fs) : KX X (⟨nm, e, kpos⟩ :: kws) (f :: fs) := pk_imp (pk_cons ha hr) fun σ H Q h => by
  obtain ⟨w, ρ, S, ds, ρ', hf, k⟩ := h
  unfold evs at hf
  obtain ⟨⟨s1, ρ1⟩, h1, hf⟩ := Option.bind_eq_some_iff.mp hf
  obtain ⟨d, hd, hf⟩ := Option.bind_eq_some_iff.mp hf
  obtain ⟨⟨r, ρ2⟩, h2, e2⟩ := Option.map_eq_some_iff.mp hf
  cases e2
  exact one S h1 hd fun v H1 S1 r1 => ⟨_, ρ1, S1.fill, r, ρ2, h2, fun vs H2 S2 r2 => k (v :: vs) H2 (S1.back S2) (.cons (S1.carry S2 r1) r2)⟩
theorem evs_len : ∀ {fs : List FE} {ρ ρ' : Ev} {ds : List D}, evs fs ρ = some (ds, ρ') → ds.length = fs.length
  | [], _, _, _, h => by cases h; rfl
  | f :: r, ρ, ρ', ds, h => by
    unfold evs at h
    obtain ⟨⟨s1, ρ1⟩, h1, h⟩ := Option.bind_eq_some_iff.mp h
    obtain ⟨d, hd, h⟩ := Option.bind_eq_some_iff.mp h
    obtain ⟨⟨t, ρ2⟩, h2, e2⟩ := Option.map_eq_some_iff.mp h
    cases e2
    exact congrArg (· + 1) (evs_len h2)
theorem e_callK (G : FnX X CX0 k fa fd ps (spT X.K X.mg F)) (hr : RoomG k X.A) (hg : Gl X x) (hm : X.mg x = some (.ref fa)) (hk : PySem.W.keepIn X.K (.ref fa) = true) (hb : KB fd ps ks js) (hkw : KX X kws fs) (hfs : fs.length = ks.length)
    (hall : (backToKw pos (keywordEach kws X.env)).all (·.1.isSome) = true := by rfl) (hks : (backToKw pos (keywordEach kws X.env)).filterMap (·.1) = ks := by rfl)
    (hdb : (x == ("__debug__" : Str)) = false := by decide) (hpl : ((backTo pos (starEach [] X.env)).any (·.1) || (backToKw pos (keywordEach kws X.env)).any (·.1.isNone)) = false := by rfl) :
    EX X (.Call (.Name x p) [] kws pos) (eCallK F js fs) := by
  refine ⟨fun pins s σ H Q I h => wpAny_Call_Name_kw (ld_glob I hg hm ?_ hdb)⟩
  obtain ⟨w, ρ, S, sl, ρ', hf, kk⟩ := h
  obtain ⟨⟨ds, ρ1⟩, h1, hf⟩ := Option.bind_eq_some_iff.mp hf
  refine PySem.W.callWith_KW0 (h₀ := X.base) I.ok.mod.kin hk hall (thn (hkw.run pos pins s σ H (fun vs H1 => SR X.K X.mg w ρ1 σ H1 ∧ Rps X.K X.mg (Ex w.E ρ1 σ) H1 ds vs) I ⟨w, ρ, S, ds, ρ1, h1, fun vs H1 S1 r1 => ⟨S1, r1⟩⟩) fun us s1 hh => ?_) hpl
  obtain ⟨vs, H1, I1, r, S1, r1⟩ := hh
  refine ⟨I1.kIn, ?_⟩
  rw [hks]
  obtain ⟨⟨s3, outs⟩, h3, hf⟩ := Option.bind_eq_some_iff.mp hf
  split at hf
  · rename_i hl
    cases hf
    have hul : us.length = ks.length := by rw [← r.length, ← r1.len, evs_len h1, hfs]
    have sp : spT X.K X.mg F (js.map fun j => vs.getD j .non) H1 Q fun _ _ _ => False := by
      refine call_T S1 (avs := (js.map fun j => ds.getD j .non).map Sum.inl) (avs_inl (rps_picks r1 js)) (by rw [ownIx_inl]; exact List.nodup_nil) (by rw [slOf_inl, List.map_map]; exact h3) (by simpa using hl.symm) fun v H3 hv => ?_
      rw [updA_inl] at hv
      exact kk v H3 hv
    have run := G.run X.A X.stack s1 H1 ⟨[], ks.zip us⟩ (js.map fun j => us.getD j .none) _ Q _ hr I1.env0 (hb.to s1 us hul) (vals_picks r js) sp
    refine wpAny_call (codeAny_mono run fun rr s' hq => ?_)
    have z := ended pass0 I1 hq
    cases rr with
    | error e => exact z
    | ok fl => cases fl <;> exact z
  · cases hf
end

/-! ### the end of a law -/
theorem spT_start {K : Fg} {mg : Mg} {F : FF} {a : Addr} {ns : List Int} {H : Hp} {outs : List Sl} (h : SqL K H a (ns.map V.int)) (hF : F [.sh (.scr (ns.map .int))] = some (.sh (.bl true), outs)) :
    spT K mg F [.ref a] H (fun v _ => v = .bl true) fun _ _ _ => False := by
  have lits : ∀ {O : AP} {ns : List Int}, Rps K mg O H (ns.map .int) (ns.map V.int) := fun {O ns} => by
    induction ns with
    | nil => exact .nil
    | cons n r ih => exact .cons (.int n) ih
  have hE : ∀ b, Ex (fun _ => False) [Sl.sh (.scr (ns.map .int))] [some (V.ref a)] b → False := fun b z => by
    rcases z with z | ⟨i, s, d, h1, h2, _⟩
    · exact z
    · cases i with
      | zero => cases h1; cases h2
      | succ i => simp at h1
  refine ⟨⟨fun _ => none, fun _ => False, fun b => H b = none, [some (.ref a)]⟩, [.sh (.scr (ns.map .int))], ⟨rfl, fun i s v h1 h2 => ?_, fun i j s t d e b h1 h2 _ _ _ _ => ?_, fun b z => (hE b (.inr z)).elim, fun b o e => (nomatch e), fun b e => e, fun b z => z.elim, fun i d h => ?_⟩, rfl, _, _, hF, fun v H' hv => ?_⟩
  · cases i with
    | zero =>
      cases h1; cases h2
      refine ⟨_, rfl, .scr ?_ lits⟩
      rcases h with h | h
      · exact .inl ⟨h, hE a⟩
      · exact .inr (.inr h)
    | succ i => simp at h1
  · exact (hE b (.inr ⟨i, s, d, h1, h2, by assumption⟩)).elim
  · cases i with
    | zero => cases h
    | succ i => simp at h
  · obtain ⟨_, r⟩ := hv
    cases r
    rfl
theorem headG {P : Program} {w : World} {K : Fg} {mg mb : Str → Option Value} {k : Nat} {fa a : Addr} {fd : FuncData} {x : Str} {F : FF} {z : Shared} {vs : List Value} {ns : List Int} {H : Hp} {outs : List Sl}
    (hk : K.In z.heap) (hg : z.heap.Ns mainGlobals mg) (hb : z.heap.Ns builtinsNs mb) (hbb : ∀ y : Str, y ≠ "__name__" → mb y = bootBuiltins y) (hlim : z.heap.NoLimit) (hdig : z.heap.NoDigits) (hgen : z.gens = #[])
    (ha : z.heap.get? a = some { cls := .type "list", data := .seq vs.toArray }) (hr : RoomG k callerA)
    (hF : ∀ base : Heap, K.In base → base.Ns mainGlobals mg → base.NoDigits → FnG P w K mg base CX0 k fa fd [x] (spT K mg F)) (hbind : ∀ (s : Shared) (u : Value), BindsTo s fd ⟨[u], []⟩ [(x, u)])
    (hO : Only H) (hS : SqL K H a (ns.map V.int)) (hok : HOk P w H z.heap) (hA : ∀ b, H b ≠ none → b = a) (hK : H a ≠ none → K.lookup a = none) (hT : F [.sh (.scr (ns.map .int))] = some (.sh (.bl true), outs)) :
    codeAny (model P w) callerA (.call (.ref fa) ⟨[.ref a], []⟩) (fun r s' => r = .ok (.ret (.bool true)) ∧ OldK z.heap s'.heap ∧ s'.os = z.os ∧ AllBare s'.gens) z := by
  have only : ∀ {b : Addr} {u : HO}, H b = some u → b = a := fun {b u} e => hA b fun q => by rw [q] at e; cases e
  have dict : ∀ {b : Addr} {o : Obj} {es : Array DictEntry} {ep : Nat}, z.heap.get? b = some o → o.data = .dict es ep → (hidT z.heap H).get? b = some o := fun {b o es ep} e d => by
    refine hidT_get e ?_
    cases q : H b with
    | none => rfl
    | some u =>
      obtain rfl := only q
      rw [ha] at e
      cases e
      exact nomatch (show Data.seq vs.toArray _ = Data.dict es ep from d)
  have names : ∀ {b : Addr} {m : Str → Option Value}, z.heap.Ns b m → (hidT z.heap H).Ns b m := fun {b m} hn => by
    obtain ⟨o, es, ep, e, d, r⟩ := hn
    exact ⟨o, es, ep, dict e d, d, r⟩
  have kin : K.In (hidT z.heap H) := fun b o e => by
    refine hidT_get (hk b o e) ?_
    cases q : H b with
    | none => rfl
    | some u =>
      obtain rfl := only q
      rw [hK fun y => by rw [y] at q; cases q] at e
      cases e
  obtain ⟨mc, l1, l2⟩ := hlim
  obtain ⟨md, d1, d2⟩ := hdig
  have md' : Mod K mg (hidT z.heap H) := ⟨kin, names hg, ⟨mb, names hb, hbb⟩, mc, names l1, l2⟩
  have env : Env0 P w K mg (hidT z.heap H) callerA [] z H := ⟨rfl, md', fun b o e => of_hidT e, Nat.le_of_eq (hidT_size _ _), trivial, fun b hb => absurd (show b ∈ ([] : List Addr) from hb) (by simp), hok, .of_eq hgen⟩
  have run := (hF _ kin (names hg) ⟨md, names d1, d2⟩).run callerA [] z H ⟨[.ref a], []⟩ [.ref a] [.ref a] _ _ hr env (hbind z (.ref a)) (.cons rfl .nil) (spT_start hS hT)
  refine codeAny_mono run fun r s' h => ?_
  cases r with
  | error e => exact h.elim
  | ok fl =>
    cases fl with
    | next => exact h.elim
    | brk => exact h.elim
    | cont => exact h.elim
    | ret u =>
      obtain ⟨v, H', os, bare, un, hok', r', q⟩ := h
      obtain rfl : v = .bl true := q
      obtain rfl : u = Value.bool true := r'
      refine ⟨rfl, OldK.of_keep fun b o e => ?_, os, bare⟩
      rcases hO b with y | ⟨ob, xs, y⟩
      · exact un.keep b o e y (fun m => absurd (show b ∈ ([] : List Addr) from m) (by simp)) (by simp)
      · obtain ⟨e1, _⟩ := hok b _ y
        obtain ⟨e2, _⟩ := hok' b _ (un.frzs b ob _ y)
        rw [e] at e1
        cases e1
        exact e2
theorem lawG {P : Program} {w : World} {K : Fg} {mg mb : Str → Option Value} {k : Nat} {fa a : Addr} {fd : FuncData} {x : Str} {F : FF} {z : Shared} {vs : List Value} {ns : List Int} {outs : List Sl}
    (hk : K.In z.heap) (hg : z.heap.Ns mainGlobals mg) (hb : z.heap.Ns builtinsNs mb) (hbb : ∀ y : Str, y ≠ "__name__" → mb y = bootBuiltins y) (hlim : z.heap.NoLimit) (hdig : z.heap.NoDigits) (hgen : z.gens = #[])
    (ha : z.heap.get? a = some { cls := .type "list", data := .seq vs.toArray }) (hi : IntsAre vs ns) (hl : ns.length ≤ sizeLine) (hr : RoomG k callerA)
    (hF : ∀ base : Heap, K.In base → base.Ns mainGlobals mg → base.NoDigits → FnG P w K mg base CX0 k fa fd [x] (spT K mg F)) (hbind : ∀ (s : Shared) (u : Value), BindsTo s fd ⟨[u], []⟩ [(x, u)])
    (hT : F [.sh (.scr (ns.map .int))] = some (.sh (.bl true), outs)) :
    codeAny (model P w) callerA (.call (.ref fa) ⟨[.ref a], []⟩) (fun r s' => r = .ok (.ret (.bool true)) ∧ OldK z.heap s'.heap ∧ s'.os = z.os ∧ AllBare s'.gens) z := by
  have rv := vals_ints hi
  have len := hi.length
  cases q : K.lookup a with
  | some o =>
    have e := hk a o q
    rw [ha] at e
    cases e
    exact headG (H := fun _ => none) hk hg hb hbb hlim hdig hgen ha hr hF hbind (fun _ => .inl rfl) (.inr ⟨_, vs.toArray, _, q, rfl, rfl, rfl, by rw [List.size_toArray, len]; exact hl, by simpa using rv⟩)
      (fun b u y => nomatch (show (none : Option HO) = some u from y)) (fun b y => absurd rfl y) (fun y => absurd rfl y) hT
  | none =>
    refine headG (H := fun b => if b = a then some (.frz { cls := .type "list", data := .seq vs.toArray } (.lst (ns.map V.int))) else none) hk hg hb hbb hlim hdig hgen ha hr hF hbind (fun b => ?_) (.inl (.inr ⟨_, if_pos rfl⟩)) (fun b u y => ?_) (fun b y => ?_) (fun _ => q) hT
    · by_cases c : b = a
      · exact .inr ⟨_, _, if_pos c⟩
      · exact .inl (if_neg c)
    · by_cases c : b = a
      · have y' := (if_pos c).symm.trans y
        cases y'
        subst c
        exact ⟨ha, by rw [List.length_map]; exact hl, vs, _, rv, ha⟩
      · exact nomatch (if_neg c).symm.trans y
    · by_cases c : b = a
      · exact c
      · exact absurd (if_neg c) y
theorem walkG {l : PySem.W.OpenLaw} {n k : Nat} {q : Program} {loose : List Str} {XP : (Str → Option Value) → Heap → Prop} {YP : World → Heap → Prop} {d : DefRec} {K : Params → Fg} {F : FF} {x : Str}
    (hn : l.most = some n) (hn2 : n ≤ sizeLine) (hdf : d.params.defaults = []) (hr : RoomG k callerA) (hY : ∀ (w : World) (h : Heap), YP w h → (K w.params).In h)
    (hF : ∀ (w : World) (mg : Str → Option Value) (fa : Addr) (h : Heap), (K w.params).In h → h.Ns mainGlobals mg → mg d.name = some (.ref fa) →
      ∃ fd : FuncData, (∀ (s : Shared) (u : Value), BindsTo s fd ⟨[u], []⟩ [(x, u)]) ∧ ∀ base : Heap, (K w.params).In base → base.Ns mainGlobals mg → base.NoDigits → FnG l.prog w (K w.params) mg base CX0 k fa fd [x] (spT (K w.params) mg F))
    (hT : ∀ ns : List Int, ns.length ≤ n → ∃ outs, F [.sh (.scr (ns.map .int))] = some (.sh (.bl true), outs)) :
    PySem.W.WalkO q loose XP YP l.row.toRowW d [] (fun f vs => PySem.call f vs) := by
  refine Att.attach_call hn hdf fun w s₀ z mg mb fa o pm cd doc a vs ns G Y ho hd hcd hmg hobj hints hlen hg => ?_
  obtain ⟨fd, hb, h⟩ := hF w mg fa _ (hY w _ Y) G.T.g hmg
  obtain ⟨outs, ht⟩ := hT ns hlen
  exact lawG (hY w _ Y) G.T.g G.T.b G.T.builtins G.T.nolimit G.T.nodigits hg hobj hints (Nat.le_trans hlen hn2) hr h hb ht
end T

/-! T14: a walk over a list or a tuple; -x; short forms for the printed derivations. -/
namespace T
open PySem PySem.Spec PyProof.Rows L2

def iAny (K : Fg) (te : TE) : TI := fun σ H R => te σ H fun v H1 => ∃ a, v = .ref a ∧ (((∃ xs, SqL K H1 a xs) ∧ R (Itl K a) H1) ∨ ((∃ xs, SqT K H1 a xs) ∧ R (Itt K a) H1))
theorem pi_any {X : Cx} {tg e : Expr} {te : TE} (he : PE X e te) : PI X tg e (iAny X.K te) := by
  refine ⟨fun pins s σ H R I h => thn (he.run pins s σ H _ I h) fun v s1 hh => ?_⟩
  obtain ⟨x, H1, I1, r1, a, rfl, q⟩ := hh
  cases r1
  have fp : ∀ b, b ∈ [s1.heap.objs.size] → FpOk X pins H1 b := fun b hb => by
    rw [List.mem_singleton.mp hb]
    exact I1.fpOk (Nat.le_refl _) (I1.hok.fresh (Nat.le_refl _))
  have kp : ∀ {o : Obj}, Inv X pins σ H1 { s1 with heap := s1.heap.push o } := fun {o} => I1.kept (t' := s1.toks) fun b o' e => Heap.get?_push_of_some _ e
  rcases q with ⟨⟨xs, hq⟩, q⟩ | ⟨⟨xs, hq⟩, q⟩
  · obtain ⟨its, rv, pl, hz⟩ := I1.list hq
    exact wpAny_pyIter_list pl.isList ⟨s1.heap.objs.size, [s1.heap.objs.size], _, _, H1, rfl, kp, turn_list a _, ⟨_, Heap.get?_push_size _ rfl, rfl, rfl⟩, fp, q⟩
  · obtain ⟨its, rv, pt, hz⟩ := I1.tuple hq
    exact wpAny_pyIter_tuple (show s1.heap.IsTuple a its.toArray from pt) ⟨s1.heap.objs.size, [s1.heap.objs.size], _, _, H1, rfl, kp, turn_tuple a _, ⟨_, Heap.get?_push_size _ rfl, rfl, rfl⟩, fp, q⟩
def iSeq (f : FE) : FI := fun ρ => (f ρ).bind fun p => (vl p.1).bind fun d => d.seq.map fun ds => (ds, p.2)
section
variable {X : Cx} {tg e : Expr} {f : FE} {pos : Pos}
theorem i_seq (he : EX X e f) : IX X tg e (iSeq f) := pi_imp (pi_any he) fun σ H R h => by
  obtain ⟨w, ρ, S, xs, ρ', hf, k⟩ := h
  obtain ⟨⟨s, ρ1⟩, h1, hf⟩ := Option.bind_eq_some_iff.mp hf
  obtain ⟨d, hd, hf⟩ := Option.bind_eq_some_iff.mp hf
  obtain ⟨ds, he, e2⟩ := Option.map_eq_some_iff.mp hf
  cases e2
  refine one S h1 hd fun v H1 S1 r1 => ?_
  have lists : d.items = some xs → ∃ a, v = .ref a ∧ (((∃ xs, SqL X.K H1 a xs) ∧ R (Itl X.K a) H1) ∨ ((∃ xs, SqT X.K H1 a xs) ∧ R (Itt X.K a) H1)) := fun hi => by
    obtain ⟨a, vs, rfl, hs, _⟩ := r1.itemsAt hi
    exact ⟨a, rfl, .inl ⟨⟨vs, hs⟩, k _ H1 _ S1 (fun a o h => of_solid h) (r1.itl hi)⟩⟩
  show ∃ a, v = V.ref a ∧ _
  cases d with
  | lst _ => exact lists he
  | scr _ => exact lists he
  | tup es =>
    cases he
    obtain ⟨a, vs, rfl, hs, _⟩ := r1.tupAt
    exact ⟨a, rfl, .inr ⟨⟨vs, hs⟩, k _ H1 _ S1 (fun a o h => of_solid h) r1.itt⟩⟩
  | _ => cases he
def eNeg (f : FE) : FE := fun ρ => (f ρ).bind fun p => match vl p.1 with
  | some (.int i) => some (.sh (.int (-i)), p.2)
  | _ => none
theorem e_neg (he : EX X e f) : EX X (.UnaryOp .USub e pos) (eNeg f) := pe_imp (pe_un un_neg he) fun σ H Q h => by
  obtain ⟨w, ρ, S, s, ρ', hf, k⟩ := h
  obtain ⟨⟨s1, ρ1⟩, h1, hf⟩ := Option.bind_eq_some_iff.mp hf
  split at hf
  · rename_i i hi
    cases hf
    refine one S h1 hi fun v H1 S1 r1 => ?_
    cases r1
    exact ⟨i, rfl, k _ _ ⟨S1, .int _⟩⟩
  · cases hf
end
end T

/-! T15: how the mirrors reckon. -/
namespace T
open PySem L2

/-! ### simp rules -/
/-- no simp rule by definition alone: the kernel is not to reckon -/
theorem nrfl {α : Sort _} {a b : α} (h : a = b) : a = b := h
section
variable {f g : FE} {c d : FT} {b r t : FS} {ρ : Ev}
def Rs.on (g : FS) : Rs → Option Rs
  | .nx ρ => g ρ
  | .bk ρ => some (.bk ρ)
  | .ct ρ => some (.ct ρ)
  | .rt s ρ => some (.rt s ρ)
@[simp] theorem on_nx : Rs.on b (.nx ρ) = b ρ := nrfl rfl
@[simp] theorem on_rt {s : Sl} : Rs.on b (.rt s ρ) = some (.rt s ρ) := nrfl rfl
@[simp] theorem on_bk : Rs.on b (.bk ρ) = some (.bk ρ) := nrfl rfl
@[simp] theorem on_ct : Rs.on b (.ct ρ) = some (.ct ρ) := nrfl rfl
@[simp] theorem sNil_e : sNil ρ = some (.nx ρ) := nrfl rfl
@[simp] theorem sSeq_e : sSeq b r ρ = (b ρ).bind (Rs.on r) := by
  unfold sSeq
  congr 1
  funext x
  cases x <;> rfl
@[simp] theorem sIf_e : sIf c b r ρ = (c ρ).bind fun p => if p.1 = true then b p.2 else r p.2 := nrfl rfl
@[simp] theorem sRet_e : sRet f ρ = (f ρ).map fun p => .rt p.1 p.2 := nrfl rfl
@[simp] theorem sRetN_e : sRetN ρ = some (.rt (.sh .non) ρ) := nrfl rfl
@[simp] theorem sRetO_e {i : Nat} : sRetO i ρ = match ρ[i]? with
  | some (.ow d) => some (.rt (.ow d) (ρ.set i .no))
  | some (.sh d) => some (.rt (.sh d) ρ)
  | _ => none := nrfl rfl
@[simp] theorem sDrop_e : sDrop f ρ = (f ρ).map fun p => .nx p.2 := nrfl rfl
@[simp] theorem sSet_e {i : Nat} : sSet i f ρ = (f ρ).map fun p => .nx (p.2.set i p.1) := nrfl rfl
@[simp] theorem sPar_e {i j : Nat} : sPar i j f g ρ = (f ρ).bind fun p => (g p.2).map fun q => .nx ((q.2.set i p.1).set j q.1) := nrfl rfl
@[simp] theorem sAsg_e {t : Tg} : sAsg t f ρ = (f ρ).bind fun p => (vl p.1).bind fun d => (asg t d p.2).map .nx := nrfl rfl
@[simp] theorem asg_n {i : Nat} {d : D} : asg (.n i) d ρ = some (ρ.set i (.sh d)) := by simp [asg]
@[simp] theorem asg_t {ts : List Tg} {ds : List D} : asg (.t ts) (.tup ds) ρ = asgs ts ds ρ := by simp [asg]
@[simp] theorem asgs_nil : asgs [] [] ρ = some ρ := by simp [asgs]
@[simp] theorem asgs_cons {t : Tg} {ts : List Tg} {d : D} {ds : List D} : asgs (t :: ts) (d :: ds) ρ = (asg t d ρ).bind (asgs ts ds) := by simp [asgs]
@[simp] theorem vl_sh {d : D} : vl (.sh d) = some d := nrfl rfl
@[simp] theorem vl_ow {d : D} : vl (.ow d) = some d := nrfl rfl
@[simp] theorem eC_e {d : D} : eC d ρ = some (.sh d, ρ) := nrfl rfl
@[simp] theorem eVar_e {i : Nat} : eVar i ρ = match ρ[i]? with
  | some (.sh d) => some (.sh d, ρ)
  | some (.ow d) => some (.sh d, ρ.set i (.sh d))
  | _ => none := nrfl rfl
@[simp] theorem opt2_e : opt2 f g ρ = (f ρ).bind fun p => (vl p.1).bind fun x => (g p.2).bind fun q => (vl q.1).map fun y => (x, y, q.2) := nrfl rfl
@[simp] theorem eBin_e {o : O2} : eBin o f g ρ = (f ρ).bind fun p => (vl p.1).bind fun x => (g p.2).bind fun q => (vl q.1).bind fun y => (o x y).map fun s => (s, q.2) := by
  show (opt2 f g ρ).bind _ = _
  unfold opt2
  cases f ρ with
  | none => rfl
  | some p =>
    simp only [Option.bind_some]
    cases vl p.1 with
    | none => rfl
    | some x =>
      simp only [Option.bind_some]
      cases g p.2 with
      | none => rfl
      | some q =>
        simp only [Option.bind_some]
        cases vl q.1 <;> rfl
@[simp] theorem eNeg_e : eNeg f ρ = (f ρ).bind fun p => match vl p.1 with
  | some (.int i) => some (.sh (.int (-i)), p.2)
  | _ => none := nrfl rfl
@[simp] theorem tOf_e : tOf f ρ = (f ρ).bind fun p => match p.1 with
  | .sh (.bl b) => some (b, p.2)
  | _ => none := nrfl rfl
@[simp] theorem tAnd_e : tAnd' c d ρ = (c ρ).bind fun p => if p.1 = true then d p.2 else some (false, p.2) := nrfl rfl
@[simp] theorem tOr_e : tOr' c d ρ = (c ρ).bind fun p => if p.1 = true then some (true, p.2) else d p.2 := nrfl rfl
@[simp] theorem tNot_e : tNot' c ρ = (c ρ).map fun p => (!p.1, p.2) := nrfl rfl
@[simp] theorem eIf_e : eIf c f g ρ = (c ρ).bind fun p => if p.1 = true then f p.2 else g p.2 := nrfl rfl
@[simp] theorem evs_nil : evs [] ρ = some ([], ρ) := nrfl rfl
@[simp] theorem evs_cons {fs : List FE} : evs (f :: fs) ρ = (f ρ).bind fun p => (vl p.1).bind fun d => (evs fs p.2).map fun q => (d :: q.1, q.2) := nrfl rfl
@[simp] theorem evg_nil : evg [] ρ = some ([], ρ) := nrfl rfl
@[simp] theorem evg_e {r : List Ag} : evg (.e f :: r) ρ = (f ρ).bind fun p => (vl p.1).bind fun d => (evg r p.2).map fun q => (.inl d :: q.1, q.2) := nrfl rfl
@[simp] theorem evg_o {i : Nat} {r : List Ag} : evg (.o i :: r) ρ = (ρ[i]?).bind fun s => if s.some? then (evg r ρ).map fun q => (.inr i :: q.1, q.2) else none := nrfl rfl
@[simp] theorem some_sh {d : D} : (Sl.sh d).some? = true := nrfl rfl
@[simp] theorem some_ow {d : D} : (Sl.ow d).some? = true := nrfl rfl
@[simp] theorem some_io {d : D} : (Sl.io d).some? = true := nrfl rfl
@[simp] theorem eCall_e {F : FF} {as : List Ag} : eCall F [] as ρ = (evg as ρ).bind fun p => if (ownIx p.1).Nodup then (F (p.1.map (slOf p.2))).bind fun r => if p.1.length = r.2.length then some (r.1, updA p.2 p.1 r.2) else none else none := by
  unfold eCall
  simp
@[simp] theorem eCallF_e {F : FF} {fs : List FE} : eCallF F f fs ρ = (f ρ).bind fun p => (owD p.1).bind fun d => (evs fs p.2).bind fun q => (F (.io d :: q.1.map .sh)).bind fun r => if r.2.length = q.1.length + 1 then some (r.1, q.2) else none := nrfl rfl
@[simp] theorem eCallK_e {F : FF} {js : List Nat} {fs : List FE} : eCallK F js fs ρ = (evs fs ρ).bind fun q => (F (js.map fun j => .sh (q.1.getD j .non))).bind fun r => if r.2.length = js.length then some (r.1, q.2) else none := nrfl rfl
@[simp] theorem owD_ow {d : D} : owD (.ow d) = some d := nrfl rfl
@[simp] theorem ownIx_nil : ownIx [] = [] := nrfl rfl
@[simp] theorem ownIx_l {d : D} {r : List AV} : ownIx (.inl d :: r) = ownIx r := nrfl rfl
@[simp] theorem ownIx_r {i : Nat} {r : List AV} : ownIx (.inr i :: r) = i :: ownIx r := nrfl rfl
@[simp] theorem slOf_l {d : D} : slOf ρ (.inl d) = .sh d := nrfl rfl
@[simp] theorem slOf_r {i : Nat} : slOf ρ (.inr i) = match ρ[i]? with
  | some (.sh d) => .sh d
  | some (.ow d) => .io d
  | some (.io d) => .io d
  | _ => .no := nrfl rfl
@[simp] theorem updA_nil {os : List Sl} : updA ρ [] os = ρ := nrfl rfl
@[simp] theorem updA_cons {a : AV} {r : List AV} {o : Sl} {os : List Sl} : updA ρ (a :: r) (o :: os) = updA (upd1 ρ (a, o)) r os := nrfl rfl
@[simp] theorem upd1_l {d : D} {o : Sl} : upd1 ρ (.inl d, o) = ρ := nrfl rfl
@[simp] theorem upd1_r {i : Nat} {o : Sl} : upd1 ρ (.inr i, o) = match ρ[i]? with
  | some s => ρ.set i (outSl s o)
  | none => ρ := nrfl rfl
@[simp] theorem outSl_w {d e : D} : outSl (.ow d) (.io e) = .ow e := nrfl rfl
@[simp] theorem outSl_i {d e : D} : outSl (.io d) (.io e) = .io e := nrfl rfl
@[simp] theorem outSl_s {d : D} {o : Sl} : outSl (.sh d) o = .sh d := nrfl rfl
@[simp] theorem eFn_e {o : OL} {fs : List FE} : eFn o fs ρ = (evs fs ρ).bind fun p => (o p.1).map fun s => (s, p.2) := nrfl rfl
@[simp] theorem eFnV_e {o : List D → Option D} {i : Nat} : eFnV o i ρ = (peek ρ i).bind fun d => (o [d]).map fun y => (.sh y, ρ) := nrfl rfl
@[simp] theorem shO_e {o : List D → Option D} {ds : List D} : shO o ds = (o ds).map .sh := nrfl rfl
@[simp] theorem peek_e {i : Nat} : peek ρ i = (ρ[i]?).bind fun s => match s with
  | .sh d => some d
  | .ow d => some d
  | .io d => some d
  | .no => none := nrfl rfl
@[simp] theorem eIxV_e {i : Nat} : eIxV i f ρ = (peek ρ i).bind fun _ => (f ρ).bind fun p => (vl p.1).bind fun y => (peek p.2 i).bind fun x => (dIx x y).map fun s => (s, p.2) := nrfl rfl
@[simp] theorem eTup_e {fs : List FE} : eTup fs ρ = (evs fs ρ).bind fun p => if p.1.length ≤ sizeLine then some (.sh (.tup p.1), p.2) else none := nrfl rfl
@[simp] theorem eLst_e {fs : List FE} : eLst fs ρ = (evs fs ρ).bind fun p => if p.1.length ≤ sizeLine then some (.ow (.lst p.1), p.2) else none := nrfl rfl
@[simp] theorem eAnd_e : eAnd f g ρ = (tOf f ρ).bind fun p => if p.1 = true then g p.2 else some (.sh (.bl false), p.2) := nrfl rfl
@[simp] theorem eOr_e : eOr f g ρ = (tOf f ρ).bind fun p => if p.1 = true then some (.sh (.bl true), p.2) else g p.2 := nrfl rfl
@[simp] theorem eChain_e {o p : O2} {h : FE} : eChain o p f g h ρ = (opt2 f g ρ).bind fun q => (o q.1 q.2.1).bind fun s => match s with
  | .sh (.bl true) => (h q.2.2).bind fun t => (vl t.1).bind fun z => (p q.2.1 z).map fun u => (u, t.2)
  | .sh (.bl false) => some (.sh (.bl false), q.2.2)
  | _ => none := nrfl rfl
@[simp] theorem eNot_e : eNot f ρ = (tOf f ρ).map fun p => (.sh (.bl (!p.1)), p.2) := nrfl rfl
@[simp] theorem tTrue_e : tTrue ρ = some (true, ρ) := nrfl rfl
@[simp] theorem oNone_e : oNone ρ = some (none, ρ) := nrfl rfl
@[simp] theorem eSset_e : eSset f ρ = (f ρ).bind fun p => (vl p.1).bind fun d => (ssetO d).map fun s => (s, p.2) := nrfl rfl
@[simp] theorem iSeq_e : iSeq f ρ = (f ρ).bind fun p => (vl p.1).bind fun d => d.seq.map fun ds => (ds, p.2) := nrfl rfl
@[simp] theorem iEnu_e : iEnu f ρ = (f ρ).bind fun p => (vl p.1).bind fun d => d.seq.map fun ds => (numD 0 ds, p.2) := nrfl rfl
@[simp] theorem seq_l {ds : List D} : (D.lst ds).seq = some ds := nrfl rfl
@[simp] theorem seq_t {ds : List D} : (D.tup ds).seq = some ds := nrfl rfl
@[simp] theorem seq_s {ds : List D} : (D.scr ds).seq = some ds := nrfl rfl
@[simp] theorem sFor_e {t : Tg} {src : FI} : sFor t src b ρ = (src ρ).bind fun p => loopF t b p.1 p.2 := nrfl rfl
@[simp] theorem len_l {ds : List D} : lenD [.lst ds] = some (.int ds.length) := nrfl rfl
@[simp] theorem len_t {ds : List D} : lenD [.tup ds] = some (.int ds.length) := nrfl rfl
@[simp] theorem len_s {ds : List D} : lenD [.scr ds] = some (.int ds.length) := nrfl rfl
end
@[simp] theorem ownLst_e {ρ : Ev} {i : Nat} : ownLst ρ i = (ρ[i]?).bind fun s => match s with
  | .ow (.lst ds) => some ds
  | .io (.lst ds) => some ds
  | _ => none := by
  unfold ownLst
  congr 1
  funext s
  cases s with
  | no => rfl
  | sh d => rfl
  | ow d => cases d <;> rfl
  | io d => cases d <;> rfl
@[simp] theorem putLst_e {ρ : Ev} {i : Nat} {ds : List D} : putLst ρ i ds = (ρ[i]?).bind fun s => match s with
  | .ow (.lst _) => some (ρ.set i (.ow (.lst ds)))
  | .io (.lst _) => some (ρ.set i (.io (.lst ds)))
  | _ => none := nrfl rfl
@[simp] theorem sApp_e {i : Nat} {f : FE} {ρ : Ev} : sApp i f ρ = (ownLst ρ i).bind fun _ => (f ρ).bind fun p => (vl p.1).bind fun y => (ownLst p.2 i).bind fun ds => if ds.length < sizeLine then (putLst p.2 i (ds ++ [y])).map .nx else none := nrfl rfl
/-! ### operators -/
section
variable {i j : Int} {x y : D} {ds : List D}
@[simp] theorem cat_i : catO (.int i) (.int j) = some (.sh (.int (i + j))) := nrfl rfl
@[simp] theorem sub_i : subO (.int i) (.int j) = some (.sh (.int (i - j))) := nrfl rfl
theorem mul_i (h1 : small i) (h2 : small j) : mulO (.int i) (.int j) = some (.sh (.int (i * j))) := if_pos ⟨h1, h2⟩
theorem div_i (h1 : 0 < j) (h2 : small j) : divO (.int i) (.int j) = some (.sh (.int (i / j))) := if_pos ⟨h1, h2⟩
theorem mod_i (h1 : 0 < j) : modO (.int i) (.int j) = some (.sh (.int (i % j))) := if_pos h1
@[simp] theorem lt_i : ltO (.int i) (.int j) = some (.sh (.bl (decide (i < j)))) := nrfl rfl
@[simp] theorem le_i : leO (.int i) (.int j) = some (.sh (.bl (decide (i ≤ j)))) := nrfl rfl
@[simp] theorem gt_i : gtO (.int i) (.int j) = some (.sh (.bl (decide (j < i)))) := nrfl rfl
@[simp] theorem ge_i : geO (.int i) (.int j) = some (.sh (.bl (decide (j ≤ i)))) := nrfl rfl
@[simp] theorem eq_i : eqO (.int i) (.int j) = some (.sh (.bl (i == j))) := nrfl rfl
@[simp] theorem ne_i : neO (.int i) (.int j) = some (.sh (.bl (!(i == j)))) := nrfl rfl
@[simp] theorem eq_s {a b : Str} : eqO (.str a) (.str b) = some (.sh (.bl (a == b))) := nrfl rfl
@[simp] theorem ne_s {a b : Str} : neO (.str a) (.str b) = some (.sh (.bl (!(a == b)))) := nrfl rfl
@[simp] theorem abs_i : absD [.int i] = some (.int (if i < 0 then -i else i)) := nrfl rfl
@[simp] theorem int_i : intD [.int i] = some (.int i) := nrfl rfl
@[simp] theorem int_b {b : Bool} : intD [.bl b] = some (.int (if b then 1 else 0)) := nrfl rfl
@[simp] theorem max_ii : maxD [.int i, .int j] = some (.int (if j > i then j else i)) := nrfl rfl
@[simp] theorem min_ii : minD [.int i, .int j] = some (.int (if j < i then j else i)) := nrfl rfl
@[simp] theorem tuple_l : tupleO [.lst ds] = some (.sh (.tup ds)) := nrfl rfl
@[simp] theorem tuple_t : tupleO [.tup ds] = some (.sh (.tup ds)) := nrfl rfl
@[simp] theorem isN_n : isNonO x .non = some (.sh (.bl x.isNon)) := nrfl rfl
@[simp] theorem notN_n : notNonO x .non = some (.sh (.bl (!x.isNon))) := nrfl rfl
@[simp] theorem isNon_i : (D.int i).isNon = false := nrfl rfl
@[simp] theorem isNon_n : D.non.isNon = true := nrfl rfl
@[simp] theorem isNon_t : (D.tup ds).isNon = false := nrfl rfl
@[simp] theorem isNon_l : (D.lst ds).isNon = false := nrfl rfl
theorem atI_nat {α : Type} {xs : List α} {k : Nat} {a : α} (h : xs[k]? = some a) : atI xs (k : Int) = some a := L2.atI_nat h
theorem ix_l {k : Nat} {d : D} (h : ds[k]? = some d) : dIx (.lst ds) (.int k) = some (.sh d) := by show (L2.atI ds _).map _ = _; rw [L2.atI_nat h]; rfl
theorem ix_t {k : Nat} {d : D} (h : ds[k]? = some d) : dIx (.tup ds) (.int k) = some (.sh d) := by show (L2.atI ds _).map _ = _; rw [L2.atI_nat h]; rfl
theorem ix_s {k : Nat} {d : D} (h : ds[k]? = some d) : dIx (.scr ds) (.int k) = some (.sh d) := by show (L2.atI ds _).map _ = _; rw [L2.atI_nat h]; rfl
@[simp] theorem ix_l0 : dIx (.lst (x :: ds)) (.int 0) = some (.sh x) := ix_l (k := 0) rfl
@[simp] theorem ix_t0 : dIx (.tup (x :: ds)) (.int 0) = some (.sh x) := ix_t (k := 0) rfl
@[simp] theorem ix_l1 {z : D} : dIx (.lst (z :: x :: ds)) (.int 1) = some (.sh x) := ix_l (k := 1) rfl
@[simp] theorem ix_t1 {z : D} : dIx (.tup (z :: x :: ds)) (.int 1) = some (.sh x) := ix_t (k := 1) rfl
@[simp] theorem ix_t2 {z u : D} : dIx (.tup (u :: z :: x :: ds)) (.int 2) = some (.sh x) := ix_t (k := 2) rfl
@[simp] theorem ix_t3 {z u v : D} : dIx (.tup (v :: u :: z :: x :: ds)) (.int 3) = some (.sh x) := ix_t (k := 3) rfl
@[simp] theorem ix_t4 {z u v q : D} : dIx (.tup (q :: v :: u :: z :: x :: ds)) (.int 4) = some (.sh x) := ix_t (k := 4) rfl
theorem ix_last {z : D} : dIx (.lst (ds ++ [z])) (.int (-1)) = some (.sh z) := by show (L2.atI _ _).map _ = _; rw [L2.atI_last]; rfl
end
/-! ### loops -/
def Rs.lp (t : Tg) (b : FS) (r : List D) : Rs → Option Rs
  | .nx ρ => loopF t b r ρ
  | .ct ρ => loopF t b r ρ
  | .bk ρ => some (.nx ρ)
  | .rt s ρ => some (.rt s ρ)
@[simp] theorem lp_nx {t : Tg} {b : FS} {r : List D} {ρ : Ev} : Rs.lp t b r (.nx ρ) = loopF t b r ρ := nrfl rfl
@[simp] theorem lp_rt {t : Tg} {b : FS} {r : List D} {ρ : Ev} {s : Sl} : Rs.lp t b r (.rt s ρ) = some (.rt s ρ) := nrfl rfl
@[simp] theorem lp_bk {t : Tg} {b : FS} {r : List D} {ρ : Ev} : Rs.lp t b r (.bk ρ) = some (.nx ρ) := nrfl rfl
@[simp] theorem lp_ct {t : Tg} {b : FS} {r : List D} {ρ : Ev} : Rs.lp t b r (.ct ρ) = loopF t b r ρ := nrfl rfl
@[simp] theorem loopF_nil {t : Tg} {b : FS} {ρ : Ev} : loopF t b [] ρ = some (.nx ρ) := nrfl rfl
@[simp] theorem loopF_cons {t : Tg} {b : FS} {d : D} {r : List D} {ρ : Ev} : loopF t b (d :: r) ρ = (asg t d ρ).bind fun ρ1 => (b ρ1).bind (Rs.lp t b r) := by
  rw [loopF]
  congr 1
@[simp] theorem eSl_e {o : D → Option Int → Option Int → Option Sl} {f : FE} {lo hi : FO} {ρ : Ev} : eSl o f lo hi ρ = (f ρ).bind fun p => (vl p.1).bind fun d => (lo p.2).bind fun l => (hi l.2).bind fun h => (o d l.1 h.1).map fun s => (s, h.2) := nrfl rfl
@[simp] theorem oSome_e {f : FE} {ρ : Ev} : oSome f ρ = (f ρ).bind fun p => match vl p.1 with
  | some (.int i) => some (some i, p.2)
  | _ => none := nrfl rfl
@[simp] theorem slice_t {ds : List D} {lo hi : Option Int} : sliceO (.tup ds) lo hi = some (.sh (.tup (cutD ds lo hi))) := nrfl rfl
@[simp] theorem slice_l {ds : List D} {lo hi : Option Int} : sliceO (.lst ds) lo hi = some (.ow (.lst (cutD ds lo hi))) := nrfl rfl
@[simp] theorem slice_s {ds : List D} {lo hi : Option Int} : sliceO (.scr ds) lo hi = some (.ow (.lst (cutD ds lo hi))) := nrfl rfl
theorem loop_nx {t : Tg} {b : FS} {I : Nat → Ev → Prop} : ∀ {xs : List D} {k : Nat} {ρ : Ev}, I k ρ → (∀ i d ρ, xs[i]? = some d → I (k + i) ρ → ∃ ρ1 ρ2, asg t d ρ = some ρ1 ∧ b ρ1 = some (.nx ρ2) ∧ I (k + i + 1) ρ2) → ∃ ρ', loopF t b xs ρ = some (.nx ρ') ∧ I (k + xs.length) ρ'
  | [], k, ρ, h0, _ => ⟨ρ, rfl, h0⟩
  | d :: r, k, ρ, h0, step => by
    obtain ⟨ρ1, ρ2, h1, h2, h3⟩ := step 0 d ρ rfl h0
    obtain ⟨ρ', h4, h5⟩ := loop_nx (t := t) (b := b) (I := I) (xs := r) (k := k + 1) h3 fun i e ρ he hi => by
      have q := step (i + 1) e ρ (by simpa using he) (by rw [show k + (i + 1) = k + 1 + i by omega]; exact hi)
      rw [show k + (i + 1) = k + 1 + i by omega] at q
      exact q
    refine ⟨ρ', ?_, ?_⟩
    · unfold loopF
      rw [h1]
      simp only [Option.bind_some]
      rw [h2]
      exact h4
    · rw [List.length_cons, show k + (r.length + 1) = k + 1 + r.length by omega]
      exact h5
/-! ### step by step -/
def Leads (f : FS) (ρ : Ev) (Q : Rs → Prop) : Prop := ∃ r, f ρ = some r ∧ Q r
theorem leads_nx {f g : FS} {ρ ρ' : Ev} {Q : Rs → Prop} (h : f ρ = some (.nx ρ')) (k : Leads g ρ' Q) : Leads (sSeq f g) ρ Q := by
  obtain ⟨r, h1, h2⟩ := k
  exact ⟨r, by rw [sSeq_e, h]; exact h1, h2⟩
theorem leads_rt {f g : FS} {ρ ρ' : Ev} {s : Sl} {Q : Rs → Prop} (h : f ρ = some (.rt s ρ')) (k : Q (.rt s ρ')) : Leads (sSeq f g) ρ Q := ⟨_, by rw [sSeq_e, h]; rfl, k⟩
theorem leads_end {f : FS} {ρ : Ev} {r : Rs} {Q : Rs → Prop} (h : f ρ = some r) (k : Q r) : Leads f ρ Q := ⟨r, h, k⟩
theorem leads_loop {t : Tg} {src : FI} {b g : FS} {ρ ρ0 : Ev} {xs : List D} {Q : Rs → Prop} (I : Nat → Ev → Prop) (hs : src ρ = some (xs, ρ0)) (h0 : I 0 ρ0)
    (step : ∀ i d ρ, xs[i]? = some d → I i ρ → ∃ ρ1 ρ2, asg t d ρ = some ρ1 ∧ b ρ1 = some (.nx ρ2) ∧ I (i + 1) ρ2) (k : ∀ ρ', I xs.length ρ' → Leads g ρ' Q) : Leads (sSeq (sFor t src b) g) ρ Q := by
  obtain ⟨ρ', h1, h2⟩ := loop_nx (t := t) (b := b) (I := I) (xs := xs) (k := 0) h0 fun i d ρ hd hi => by
    obtain ⟨ρ1, ρ2, a, b, c⟩ := step i d ρ hd (by simpa using hi)
    exact ⟨ρ1, ρ2, a, b, by simpa using c⟩
  exact leads_nx (ρ' := ρ') (by rw [sFor_e, hs]; exact h1) (k ρ' (by simpa using h2))
theorem for_loop {t : Tg} {src : FI} {b : FS} {ρ ρ0 : Ev} {xs : List D} (I : Nat → Ev → Prop) (hs : src ρ = some (xs, ρ0)) (h0 : I 0 ρ0)
    (step : ∀ i d ρ, xs[i]? = some d → I i ρ → ∃ ρ1 ρ2, asg t d ρ = some ρ1 ∧ b ρ1 = some (.nx ρ2) ∧ I (i + 1) ρ2) : ∃ ρ', sFor t src b ρ = some (.nx ρ') ∧ I xs.length ρ' := by
  obtain ⟨ρ', h1, h2⟩ := loop_nx (t := t) (b := b) (I := I) (xs := xs) (k := 0) h0 fun i d ρ hd hi => by
    obtain ⟨ρ1, ρ2, a, b, c⟩ := step i d ρ hd (by simpa using hi)
    exact ⟨ρ1, ρ2, a, b, by simpa using c⟩
  exact ⟨ρ', by rw [sFor_e, hs]; exact h1, by simpa using h2⟩
/-- a comprehension that changes nothing: p chooses, g makes -/
theorem lc_pure {vs : List Nat} {t : Tg} {c : FT} {f : FE} {p : D → Bool} {g : D → D} {ρ : Ev} : ∀ {xs acc : List D}, (acc.length + xs.length ≤ sizeLine) →
    (∀ d ∈ xs, ∃ ρ1 ρ2, asg t d ρ = some ρ1 ∧ c ρ1 = some (p d, ρ2) ∧ (p d = true → ∃ s ρ3, f ρ2 = some (s, ρ3) ∧ vl s = some (g d) ∧ wipeE ρ3 vs = ρ) ∧ (p d = false → wipeE ρ2 vs = ρ)) →
    lcF vs t c f xs acc ρ = some (acc ++ (xs.filter p).map g, ρ)
  | [], acc, _, _ => by simp [lcF]
  | d :: r, acc, hz, h => by
    obtain ⟨ρ1, ρ2, h1, h2, h3, h4⟩ := h d List.mem_cons_self
    have hr : ∀ d ∈ r, ∃ ρ1 ρ2, asg t d ρ = some ρ1 ∧ c ρ1 = some (p d, ρ2) ∧ (p d = true → ∃ s ρ3, f ρ2 = some (s, ρ3) ∧ vl s = some (g d) ∧ wipeE ρ3 vs = ρ) ∧ (p d = false → wipeE ρ2 vs = ρ) := fun e he => h e (List.mem_cons_of_mem _ he)
    unfold lcF
    rw [h1]
    simp only [Option.bind_some]
    rw [h2]
    simp only [Option.bind_some]
    cases e : p d with
    | true =>
      obtain ⟨s, ρ3, h5, h6, h7⟩ := h3 e
      rw [if_pos rfl, h5]
      simp only [Option.bind_some]
      rw [h6]
      simp only [Option.bind_some]
      rw [if_pos (by simp at hz; omega), h7, lc_pure (by simp at hz ⊢; omega) hr]
      simp [List.filter_cons, e]
    | false =>
      rw [if_neg Bool.false_ne_true, h4 e, lc_pure (by simp at hz ⊢; omega) hr]
      simp [List.filter_cons, e]
theorem eLc_pure {vs : List Nat} {t : Tg} {src : FI} {c : FT} {f : FE} (p : D → Bool) (g : D → D) {ρ ρ0 : Ev} {xs : List D} (hs : src ρ = some (xs, ρ0)) (hw : wipeE ρ0 vs = ρ0) (hz : xs.length ≤ sizeLine)
    (h : ∀ d ∈ xs, ∃ ρ1 ρ2, asg t d ρ0 = some ρ1 ∧ c ρ1 = some (p d, ρ2) ∧ (p d = true → ∃ s ρ3, f ρ2 = some (s, ρ3) ∧ vl s = some (g d) ∧ wipeE ρ3 vs = ρ0) ∧ (p d = false → wipeE ρ2 vs = ρ0)) :
    eLc vs t src c f ρ = some (.ow (.lst ((xs.filter p).map g)), ρ0) := by
  unfold eLc
  rw [hs]
  simp only [Option.bind_some]
  rw [hw, lc_pure (by simpa using hz) h]
  simp [hw]
/-- the same over what is written in another way -/
theorem lc_over {α : Type} (enc : α → D) {vs : List Nat} {t : Tg} {c : FT} {f : FE} {P : α → Bool} {G : α → D} {ρ : Ev} : ∀ {as : List α} {acc : List D}, (acc.length + as.length ≤ sizeLine) →
    (∀ a ∈ as, ∃ ρ1 ρ2, asg t (enc a) ρ = some ρ1 ∧ c ρ1 = some (P a, ρ2) ∧ (P a = true → ∃ s ρ3, f ρ2 = some (s, ρ3) ∧ vl s = some (G a) ∧ wipeE ρ3 vs = ρ) ∧ (P a = false → wipeE ρ2 vs = ρ)) →
    lcF vs t c f (as.map enc) acc ρ = some (acc ++ (as.filter P).map G, ρ)
  | [], acc, _, _ => by simp [lcF]
  | a :: r, acc, hz, h => by
    obtain ⟨ρ1, ρ2, h1, h2, h3, h4⟩ := h a List.mem_cons_self
    have hr := fun e he => h e (List.mem_cons_of_mem a he)
    rw [List.map_cons]
    unfold lcF
    rw [h1]
    simp only [Option.bind_some]
    rw [h2]
    simp only [Option.bind_some]
    cases e : P a with
    | true =>
      obtain ⟨s, ρ3, h5, h6, h7⟩ := h3 e
      rw [if_pos rfl, h5]
      simp only [Option.bind_some]
      rw [h6]
      simp only [Option.bind_some]
      rw [if_pos (by simp at hz; omega), h7, lc_over enc (by simp at hz ⊢; omega) hr]
      simp [List.filter_cons, e]
    | false =>
      rw [if_neg Bool.false_ne_true, h4 e, lc_over enc (by simp at hz ⊢; omega) hr]
      simp [List.filter_cons, e]
theorem eLc_over {α : Type} (enc : α → D) {as : List α} {vs : List Nat} {t : Tg} {src : FI} {c : FT} {f : FE} (P : α → Bool) (G : α → D) {ρ ρ0 : Ev} (hs : src ρ = some (as.map enc, ρ0)) (hw : wipeE ρ0 vs = ρ0) (hz : as.length ≤ sizeLine)
    (h : ∀ a ∈ as, ∃ ρ1 ρ2, asg t (enc a) ρ0 = some ρ1 ∧ c ρ1 = some (P a, ρ2) ∧ (P a = true → ∃ s ρ3, f ρ2 = some (s, ρ3) ∧ vl s = some (G a) ∧ wipeE ρ3 vs = ρ0) ∧ (P a = false → wipeE ρ2 vs = ρ0)) :
    eLc vs t src c f ρ = some (.ow (.lst ((as.filter P).map G)), ρ0) := by
  unfold eLc
  rw [hs]
  simp only [Option.bind_some]
  rw [hw, lc_over enc (by simpa using hz) h]
  simp [hw]
theorem cat_l {a b : List D} (h : a.length + b.length ≤ sizeLine) : catO (.lst a) (.lst b) = some (.ow (.lst (a ++ b))) := if_pos h
theorem cat_t {a b : List D} (h : a.length + b.length ≤ sizeLine) : catO (.tup a) (.tup b) = some (.sh (.tup (a ++ b))) := if_pos h
theorem pairD_map {α : Type} {f g : α → D} : ∀ {as : List α}, pairD (as.map f) (as.map g) = as.map fun a => .tup [f a, g a]
  | [] => rfl
  | a :: r => by simp [pairD, pairD_map (as := r)]
theorem numD_map {α : Type} {f : α → D} : ∀ {as : List α} {k : Nat}, numD k (as.map f) = (as.zipIdx k).map fun p => .tup [.int (p.2 : Nat), f p.1]
  | [], _ => rfl
  | a :: r, k => by simp [numD, numD_map (as := r)]
@[simp] theorem zip_ll {a b : List D} : zipO (.lst a) (.lst b) = some (pairD a b) := nrfl rfl
@[simp] theorem iZp_e {f g : FE} {ρ : Ev} : iZp f g ρ = (opt2 f g ρ).bind fun q => (zipO q.1 q.2.1).map fun ds => (ds, q.2.2) := nrfl rfl
theorem ix_lastI {ns : List Int} (h : ns ≠ []) : dIx (.lst (ns.map .int)) (.int (-1)) = some (.sh (.int (ns.getLast h))) := by
  have e : ns.map D.int = (ns.dropLast.map .int) ++ [.int (ns.getLast h)] := by
    rw [← List.map_singleton, ← List.map_append, List.dropLast_concat_getLast]
  rw [e]
  exact ix_last
theorem ix_int {ns : List Int} {i : Int} {v : Int} (h0 : 0 ≤ i) (h : ns[i.toNat]? = some v) : dIx (.lst (ns.map .int)) (.int i) = some (.sh (.int v)) := by
  obtain ⟨k, rfl⟩ := Int.eq_ofNat_of_zero_le h0
  exact ix_l (by rw [List.getElem?_map]; rw [Int.toNat_natCast] at h; rw [h]; rfl)
theorem ix_map {α : Type} {f : α → D} {as : List α} {i : Int} {a : α} (h0 : 0 ≤ i) (h : as[i.toNat]? = some a) : dIx (.lst (as.map f)) (.int i) = some (.sh (f a)) := by
  obtain ⟨k, rfl⟩ := Int.eq_ofNat_of_zero_le h0
  exact ix_l (by rw [List.getElem?_map]; rw [Int.toNat_natCast] at h; rw [h]; rfl)
theorem ix_mapT {α : Type} {f : α → D} {as : List α} {i : Int} {a : α} (h0 : 0 ≤ i) (h : as[i.toNat]? = some a) : dIx (.tup (as.map f)) (.int i) = some (.sh (f a)) := by
  obtain ⟨k, rfl⟩ := Int.eq_ofNat_of_zero_le h0
  exact ix_t (by rw [List.getElem?_map]; rw [Int.toNat_natCast] at h; rw [h]; rfl)
@[simp] theorem wipe_nil {ρ : Ev} : wipeE ρ [] = ρ := nrfl rfl
@[simp] theorem wipe_cons {ρ : Ev} {i : Nat} {vs : List Nat} : wipeE ρ (i :: vs) = (wipeE ρ vs).set i .no := nrfl rfl
theorem rg1 {f : FE} {ρ ρ' : Ev} {s : Sl} {n : Int} (h : f ρ = some (s, ρ')) (hv : vl s = some (.int n)) (h1 : -(2 ^ 62) ≤ n) (h2 : n < 2 ^ 62) : iRg1 f ρ = some (rangeD 0 n.toNat, ρ') := by
  unfold iRg1
  rw [h]
  simp only [Option.bind_some]
  rw [hv]
  exact if_pos ⟨h1, h2⟩
theorem rg2 {f g : FE} {ρ ρ1 ρ2 : Ev} {s t : Sl} {a b : Int} (h : f ρ = some (s, ρ1)) (hv : vl s = some (.int a)) (h' : g ρ1 = some (t, ρ2)) (hv' : vl t = some (.int b)) (h1 : -(2 ^ 62) ≤ a) (h2 : a < 2 ^ 62) (h3 : -(2 ^ 62) ≤ b) (h4 : b < 2 ^ 62) :
    iRg2 f g ρ = some (rangeD a (b - a).toNat, ρ2) := by
  unfold iRg2 opt2
  rw [h]
  simp only [Option.bind_some]
  rw [hv]
  simp only [Option.bind_some]
  rw [h']
  simp only [Option.bind_some]
  rw [hv']
  exact if_pos ⟨h1, h2, h3, h4⟩
theorem rangeD_len {lo : Int} {n : Nat} : (rangeD lo n).length = n := by simp [rangeD]
theorem rangeD_mem {lo : Int} {n : Nat} {d : D} (h : d ∈ rangeD lo n) : ∃ i : Nat, i < n ∧ d = .int (lo + (i : Nat)) := by
  unfold rangeD at h
  obtain ⟨i, hi, e⟩ := List.mem_map.mp h
  exact ⟨i, List.mem_range.mp hi, e.symm⟩
theorem run_def {n m : Nat} {b : FS} {sls : List Sl} {s : Sl} {ρ : Ev} (hn : sls.length = n) (h : b (sls ++ List.replicate m .no) = some (.rt s ρ)) : runDef n m b sls = some (s, takeN n ρ) := by
  unfold runDef
  rw [if_pos hn, h]
  rfl
def Rs.out (n : Nat) : Rs → Option (Sl × List Sl)
  | .rt s ρ => some (s, takeN n ρ)
  | .nx ρ => some (.sh .non, takeN n ρ)
  | _ => none
@[simp] theorem out_rt {n : Nat} {s : Sl} {ρ : Ev} : Rs.out n (.rt s ρ) = some (s, takeN n ρ) := nrfl rfl
@[simp] theorem out_nx {n : Nat} {ρ : Ev} : Rs.out n (.nx ρ) = some (.sh .non, takeN n ρ) := nrfl rfl
@[simp] theorem runDef_e {n m : Nat} {b : FS} {sls : List Sl} : runDef n m b sls = if sls.length = n then (b (sls ++ List.replicate m .no)).bind (Rs.out n) else none := by
  unfold runDef
  exact nrfl rfl
@[simp] theorem takeN_0 {ρ : Ev} : takeN 0 ρ = [] := by cases ρ <;> rfl
@[simp] theorem takeN_s {n : Nat} {s : Sl} {ρ : Ev} : takeN (n + 1) (s :: ρ) = outIo s :: takeN n ρ := nrfl rfl
@[simp] theorem outIo_i {d : D} : outIo (.io d) = .io d := nrfl rfl
@[simp] theorem outIo_s {d : D} : outIo (.sh d) = .no := nrfl rfl
@[simp] theorem outIo_w {d : D} : outIo (.ow d) = .no := nrfl rfl
@[simp] theorem outIo_n : outIo .no = .no := nrfl rfl
/-! ### equality with what can be compared -/
def Nice (n : Nat) (d : D) : Prop := ∃ p, d.py = some p ∧ p.canLay0 = true ∧ p.depth ≤ n
theorem nice_int {n : Nat} (i : Int) : Nice n (.int i) := ⟨_, rfl, rfl, Nat.zero_le _⟩
theorem nice_non {n : Nat} : Nice n .non := ⟨_, rfl, rfl, Nat.zero_le _⟩
theorem nice_bl {n : Nat} (b : Bool) : Nice n (.bl b) := ⟨_, rfl, rfl, Nat.zero_le _⟩
theorem nice_str {n : Nat} {x : Str} (h : PyData.strOk x = true) : Nice n (.str x) := ⟨_, rfl, h, Nat.zero_le _⟩
theorem nice_all {n : Nat} : ∀ {ds : List D}, (∀ d ∈ ds, Nice n d) → ∃ ps, D.pys ds = some ps ∧ PyData.canLayAll0 ps = true ∧ PyData.depthAll ps ≤ n
  | [], _ => ⟨[], rfl, rfl, Nat.zero_le _⟩
  | d :: r, h => by
    obtain ⟨p, h1, h2, h3⟩ := h d List.mem_cons_self
    obtain ⟨ps, h4, h5, h6⟩ := nice_all fun e he => h e (List.mem_cons_of_mem _ he)
    refine ⟨p :: ps, by unfold D.pys; rw [h1, h4]; rfl, ?_, ?_⟩
    · unfold PyData.canLayAll0
      rw [h2, h5]; rfl
    · unfold PyData.depthAll
      omega
theorem nice_tup {n : Nat} {ds : List D} (h : ∀ d ∈ ds, Nice n d) : Nice (n + 1) (.tup ds) := by
  obtain ⟨ps, h1, h2, h3⟩ := nice_all h
  refine ⟨.tuple ps, by unfold D.py; rw [h1]; rfl, by unfold PyData.canLay0; exact h2, by unfold PyData.depth; omega⟩
theorem nice_lst {n : Nat} {ds : List D} (h : ∀ d ∈ ds, Nice n d) : Nice (n + 1) (.lst ds) := by
  obtain ⟨ps, h1, h2, h3⟩ := nice_all h
  refine ⟨.list ps, by unfold D.py; rw [h1]; rfl, by unfold PyData.canLay0; exact h2, by unfold PyData.depth; omega⟩
theorem deq_nil {n : Nat} {ds : List D} (h : ∀ d ∈ ds, Nice n d) (hn : n < 64) : deq (.lst ds) (.lst []) = some ds.isEmpty := by
  obtain ⟨p, h1, h2, h3⟩ := nice_lst h
  obtain ⟨ps, hp, _⟩ := nice_all h
  have e : p = .list ps := by
    unfold D.py at h1
    rw [hp] at h1
    exact (Option.some.inj h1).symm
  subst e
  have hl : ds.isEmpty = ps.isEmpty := by
    cases ds with
    | nil => cases hp; rfl
    | cons d r =>
      unfold D.pys at hp
      obtain ⟨q, _, hp⟩ := Option.bind_eq_some_iff.mp hp
      obtain ⟨qs, _, e⟩ := Option.map_eq_some_iff.mp hp
      rw [← e]; rfl
  have hs : SeqAt.shaped (.list ps) = true := by
    unfold SeqAt.shaped
    rw [h2, decide_eq_true (by omega)]; rfl
  unfold deq
  simp only
  rw [h1]
  have e2 : (D.lst []).py = some (.list []) := rfl
  rw [e2]
  simp only [Option.bind_some]
  rw [if_pos ⟨hs, rfl⟩, hl]
  cases ps <;> simp [PyData.eqv, PyData.eqvAll]
mutual
theorem eqv_refl : ∀ {p : PyData}, p.canLay0 = true → PyData.eqv p p = true
  | .none, _ => by simp [PyData.eqv]
  | .bool _, _ => by simp [PyData.eqv]
  | .int _, _ => by simp [PyData.eqv]
  | .str _, _ => by simp [PyData.eqv]
  | .list xs, h => by
    unfold PyData.eqv
    exact eqv_refls (by unfold PyData.canLay0 at h; exact h)
  | .tuple xs, h => by
    unfold PyData.eqv
    exact eqv_refls (by unfold PyData.canLay0 at h; exact h)
  | .dict _, h => by unfold PyData.canLay0 at h; cases h
theorem eqv_refls : ∀ {ps : List PyData}, PyData.canLayAll0 ps = true → PyData.eqvAll ps ps = true
  | [], _ => by simp [PyData.eqvAll]
  | p :: r, h => by
    unfold PyData.canLayAll0 at h
    obtain ⟨h1, h2⟩ := Bool.and_eq_true_iff.mp h
    unfold PyData.eqvAll
    rw [eqv_refl h1, eqv_refls h2]; rfl
end
theorem deq_same {n : Nat} {ds : List D} (h : ∀ d ∈ ds, Nice n d) (hn : n < 64) : deq (.tup ds) (.tup ds) = some true := by
  obtain ⟨p, h1, h2, h3⟩ := nice_tup h
  have hs : SeqAt.shaped p = true := by
    unfold SeqAt.shaped
    rw [h2, decide_eq_true (by omega)]; rfl
  unfold deq
  simp only
  rw [h1]
  simp only [Option.bind_some]
  rw [if_pos ⟨hs, hs⟩, eqv_refl h2]
theorem eq_nil {n : Nat} {ds : List D} (h : ∀ d ∈ ds, Nice n d) (hn : n < 64) : eqO (.lst ds) (.lst []) = some (.sh (.bl ds.isEmpty)) := by
  unfold eqO
  rw [deq_nil h hn]; rfl
theorem ne_nil {n : Nat} {ds : List D} (h : ∀ d ∈ ds, Nice n d) (hn : n < 64) : neO (.lst ds) (.lst []) = some (.sh (.bl (!ds.isEmpty))) := by
  unfold neO
  rw [deq_nil h hn]; rfl
theorem ne_same {n : Nat} {ds : List D} (h : ∀ d ∈ ds, Nice n d) (hn : n < 64) : neO (.tup ds) (.tup ds) = some (.sh (.bl false)) := by
  unfold neO
  rw [deq_same h hn]; rfl
/-! ### lists of numbers and of truths -/
@[simp] theorem any_l {bs : List Bool} : anyD [.lst (bs.map .bl)] = some (.bl (bs.any id)) := by show (blsOf _).map _ = _; rw [blsOf_map]; rfl
@[simp] theorem all_l {bs : List Bool} : allD [.lst (bs.map .bl)] = some (.bl (bs.all id)) := by show (blsOf _).map _ = _; rw [blsOf_map]; rfl
theorem max_l {ns : List Int} (h : ns ≠ []) : maxD [.lst (ns.map .int)] = some (.int (maxI ns)) := by show (intsOf _).bind _ = _; rw [intsOf_map]; exact if_neg h
theorem min_l {ns : List Int} (h : ns ≠ []) : minD [.lst (ns.map .int)] = some (.int (minI ns)) := by show (intsOf _).bind _ = _; rw [intsOf_map]; exact if_neg h
theorem leads_run {n m : Nat} {b : FS} {sls : List Sl} {Q : Rs → Prop} (hn : sls.length = n) (h : Leads b (sls ++ List.replicate m .no) Q) : ∃ r, Q r ∧ runDef n m b sls = Rs.out n r := by
  obtain ⟨r, h1, h2⟩ := h
  exact ⟨r, h2, by rw [runDef_e, if_pos hn, h1]; rfl⟩
end T

namespace T
open PySem PySem.Spec PyProof.Rows L2
def topS (i : Nat) : Stmt := PySem.Challenge.pw_wholering_k70_sizes_of_shapes.main.body.getD i (.Pass ⟨0, 0, 0, 0⟩)
abbrev st_law_pot : Stmt := topS 5
abbrev N_law_pot : List Str := ["_law_script", "_law_k", "_law_cell", "_law_great"]
theorem sc_law_pot : FnScope N_law_pot ["_law_script", "_law_k"] (defScope st_law_pot) := ⟨rfl, rfl, rfl, by decide +kernel, rfl, by decide +kernel, by decide +kernel⟩
abbrev st_law_take : Stmt := topS 6
abbrev N_law_take : List Str := ["_law_pot_here", "_law_upto", "_law_digit"]
theorem sc_law_take : FnScope N_law_take ["_law_pot_here", "_law_upto"] (defScope st_law_take) := ⟨rfl, rfl, rfl, by decide +kernel, rfl, by decide +kernel, by decide +kernel⟩
abbrev st_law_of : Stmt := topS 7
abbrev N_law_of : List Str := ["_law_pot_here", "_law_some"]
theorem sc_law_of : FnScope N_law_of ["_law_pot_here", "_law_some"] (defScope st_law_of) := ⟨rfl, rfl, rfl, by decide +kernel, rfl, by decide +kernel, by decide +kernel⟩
abbrev st_law_rich : Stmt := topS 12
abbrev N_law_rich : List Str := ["_law_kinds_here", "_law_many", "_law_found", "_law_load", "_law_span", "_law_heavy"]
theorem sc_law_rich : FnScope N_law_rich ["_law_kinds_here", "_law_many"] (defScope st_law_rich) := ⟨rfl, rfl, rfl, by decide +kernel, rfl, by decide +kernel, by decide +kernel⟩
abbrev st_law_slim : Stmt := topS 11
abbrev N_law_slim : List Str := ["_law_kinds_here", "_law_many", "_law_found", "_law_total", "_law_some", "_law_loads", "_law_span", "_law_heavy", "_law_item"]
theorem sc_law_slim : FnScope N_law_slim ["_law_kinds_here", "_law_many"] (defScope st_law_slim) := ⟨rfl, rfl, rfl, by decide +kernel, rfl, by decide +kernel, by decide +kernel⟩
abbrev st_law_yes : Stmt := topS 10
abbrev N_law_yes : List Str := ["_law_kinds_here", "_law_many", "_law_found", "_law_total", "_law_span", "_law_heavy"]
theorem sc_law_yes : FnScope N_law_yes ["_law_kinds_here", "_law_many"] (defScope st_law_yes) := ⟨rfl, rfl, rfl, by decide +kernel, rfl, by decide +kernel, by decide +kernel⟩
abbrev st_law_drawn_form : Stmt := topS 14
abbrev N_law_drawn_form : List Str := ["_law_pot_here", "_law_kinds_here", "_law_cap", "_law_free", "_law_pushed", "_law_some", "_law_span", "_law_heavy", "_law_many", "_law_sums", "_law_slim_here", "_law_old", "_law_behind", "_law_rows", "_law_first", "_law_left", "_law_rest", "_law_newer", "_law_heads", "_law_number", "_law_item", "_law_total", "_law_is_met"]
theorem sc_law_drawn_form : FnScope N_law_drawn_form ["_law_pot_here", "_law_kinds_here", "_law_cap"] (defScope st_law_drawn_form) := ⟨rfl, rfl, rfl, by decide +kernel, rfl, by decide +kernel, by decide +kernel⟩
abbrev st_law_holds : Stmt := topS 15
abbrev N_law_holds : List Str := ["_law_kinds_here", "_law_figure", "_law_number", "_law_words_here", "_law_span", "_law_missing"]
theorem sc_law_holds : FnScope N_law_holds ["_law_kinds_here", "_law_figure", "_law_number", "_law_words_here"] (defScope st_law_holds) := ⟨rfl, rfl, rfl, by decide +kernel, rfl, by decide +kernel, by decide +kernel⟩
abbrev st_law_is_number : Stmt := topS 13
abbrev N_law_is_number : List Str := ["_law_thing", "_law_least", "_law_most"]
theorem sc_law_is_number : FnScope N_law_is_number ["_law_thing", "_law_least", "_law_most"] (defScope st_law_is_number) := ⟨rfl, rfl, rfl, by decide +kernel, rfl, by decide +kernel, by decide +kernel⟩
abbrev st_sizes_of : Stmt := topS 3
abbrev N_sizes_of : List Str := ["system", "shape", "kind", "length", "least", "missing"]
theorem sc_sizes_of : FnScope N_sizes_of ["system", "shape", "kind"] (defScope st_sizes_of) := ⟨rfl, rfl, rfl, by decide +kernel, rfl, by decide +kernel, by decide +kernel⟩
abbrev st_law_form_right : Stmt := topS 16
abbrev N_law_form_right : List Str := ["_law_kinds_here", "_law_figure", "_law_number", "_law_told", "_law_low", "_law_high", "_law_inside", "_law_item"]
theorem sc_law_form_right : FnScope N_law_form_right ["_law_kinds_here", "_law_figure", "_law_number"] (defScope st_law_form_right) := ⟨rfl, rfl, rfl, by decide +kernel, rfl, by decide +kernel, by decide +kernel⟩
abbrev st_law_kinds : Stmt := topS 8
abbrev N_law_kinds : List Str := ["_law_pot_here", "_law_many", "_law_most", "_law_way", "_law_found", "_law_turn", "_law_span"]
theorem sc_law_kinds : FnScope N_law_kinds ["_law_pot_here", "_law_many", "_law_most"] (defScope st_law_kinds) := ⟨rfl, rfl, rfl, by decide +kernel, rfl, by decide +kernel, by decide +kernel⟩
abbrev st_law_lot : Stmt := topS 9
abbrev N_law_lot : List Str := ["_law_pot_here"]
theorem sc_law_lot : FnScope N_law_lot ["_law_pot_here"] (defScope st_law_lot) := ⟨rfl, rfl, rfl, by decide +kernel, rfl, by decide +kernel, by decide +kernel⟩
abbrev st_law_right : Stmt := topS 17
abbrev N_law_right : List Str := ["_law_pot_here", "_law_kinds_here", "_law_cap", "_law_turn", "_law_drawn", "_law_figure", "_law_number", "_law_more", "_law_further", "_law_item"]
theorem sc_law_right : FnScope N_law_right ["_law_pot_here"] (defScope st_law_right) := ⟨rfl, rfl, rfl, by decide +kernel, rfl, by decide +kernel, by decide +kernel⟩
abbrev st_law : Stmt := topS 18
abbrev N_law : List Str := ["_law_script", "_law_k"]
theorem sc_law : FnScope N_law ["_law_script"] (defScope st_law) := ⟨rfl, rfl, rfl, by decide +kernel, rfl, by decide +kernel, by decide +kernel⟩
structure Fx (K : Fg) (mg : Mg) where
  f_law_pot : Addr
  d_law_pot : FuncData
  F_law_pot : Fun K "_law_pot" "_law_pot" st_law_pot f_law_pot d_law_pot
  g_law_pot : mg "_law_pot" = some (.ref f_law_pot)
  f_law_take : Addr
  d_law_take : FuncData
  F_law_take : Fun K "_law_take" "_law_take" st_law_take f_law_take d_law_take
  g_law_take : mg "_law_take" = some (.ref f_law_take)
  f_law_of : Addr
  d_law_of : FuncData
  F_law_of : Fun K "_law_of" "_law_of" st_law_of f_law_of d_law_of
  g_law_of : mg "_law_of" = some (.ref f_law_of)
  f_law_rich : Addr
  d_law_rich : FuncData
  F_law_rich : Fun K "_law_rich" "_law_rich" st_law_rich f_law_rich d_law_rich
  g_law_rich : mg "_law_rich" = some (.ref f_law_rich)
  f_law_slim : Addr
  d_law_slim : FuncData
  F_law_slim : Fun K "_law_slim" "_law_slim" st_law_slim f_law_slim d_law_slim
  g_law_slim : mg "_law_slim" = some (.ref f_law_slim)
  f_law_yes : Addr
  d_law_yes : FuncData
  F_law_yes : Fun K "_law_yes" "_law_yes" st_law_yes f_law_yes d_law_yes
  g_law_yes : mg "_law_yes" = some (.ref f_law_yes)
  f_law_drawn_form : Addr
  d_law_drawn_form : FuncData
  F_law_drawn_form : Fun K "_law_drawn_form" "_law_drawn_form" st_law_drawn_form f_law_drawn_form d_law_drawn_form
  g_law_drawn_form : mg "_law_drawn_form" = some (.ref f_law_drawn_form)
  f_law_holds : Addr
  d_law_holds : FuncData
  F_law_holds : Fun K "_law_holds" "_law_holds" st_law_holds f_law_holds d_law_holds
  g_law_holds : mg "_law_holds" = some (.ref f_law_holds)
  f_law_is_number : Addr
  d_law_is_number : FuncData
  F_law_is_number : Fun K "_law_is_number" "_law_is_number" st_law_is_number f_law_is_number d_law_is_number
  g_law_is_number : mg "_law_is_number" = some (.ref f_law_is_number)
  f_sizes_of : Addr
  d_sizes_of : FuncData
  F_sizes_of : Fun K "sizes_of" "sizes_of" st_sizes_of f_sizes_of d_sizes_of
  g_sizes_of : mg "sizes_of" = some (.ref f_sizes_of)
  f_law_form_right : Addr
  d_law_form_right : FuncData
  F_law_form_right : Fun K "_law_form_right" "_law_form_right" st_law_form_right f_law_form_right d_law_form_right
  g_law_form_right : mg "_law_form_right" = some (.ref f_law_form_right)
  f_law_kinds : Addr
  d_law_kinds : FuncData
  F_law_kinds : Fun K "_law_kinds" "_law_kinds" st_law_kinds f_law_kinds d_law_kinds
  g_law_kinds : mg "_law_kinds" = some (.ref f_law_kinds)
  f_law_lot : Addr
  d_law_lot : FuncData
  F_law_lot : Fun K "_law_lot" "_law_lot" st_law_lot f_law_lot d_law_lot
  g_law_lot : mg "_law_lot" = some (.ref f_law_lot)
  f_law_right : Addr
  d_law_right : FuncData
  F_law_right : Fun K "_law_right" "_law_right" st_law_right f_law_right d_law_right
  g_law_right : mg "_law_right" = some (.ref f_law_right)
  f_law : Addr
  d_law : FuncData
  F_law : Fun K "law" "law" st_law f_law d_law
  g_law : mg "law" = some (.ref f_law)
  z_abs : mg "abs" = none
  z_all : mg "all" = none
  z_any : mg "any" = none
  z_bool : mg "bool" = none
  z_enumerate : mg "enumerate" = none
  z_int : mg "int" = none
  z_isinstance : mg "isinstance" = none
  z_len : mg "len" = none
  z_max : mg "max" = none
  z_min : mg "min" = none
  z_range : mg "range" = none
  z_set : mg "set" = none
  z_sorted : mg "sorted" = none
  z_tuple : mg "tuple" = none
  z_zip : mg "zip" = none
  k_LONG : ∃ t, mg "LONG" = some (.str "long" t)
  k_SHORT_END : ∃ t, mg "SHORT_END" = some (.str "short end" t)
section
variable {K : Fg} {mg : Mg}
theorem b_law_pot (T : Fx K mg) : L2.Binds K T.d_law_pot ["_law_script", "_law_k"] [] := T.F_law_pot.binds (ps := ["_law_script", "_law_k"]) fun _ _ _ _ _ _ us hl => match us, hl with | [_, _], _ => rfl
theorem b_law_take (T : Fx K mg) : L2.Binds K T.d_law_take ["_law_pot_here", "_law_upto"] [] := T.F_law_take.binds (ps := ["_law_pot_here", "_law_upto"]) fun _ _ _ _ _ _ us hl => match us, hl with | [_, _], _ => rfl
theorem b_law_of (T : Fx K mg) : L2.Binds K T.d_law_of ["_law_pot_here", "_law_some"] [] := T.F_law_of.binds (ps := ["_law_pot_here", "_law_some"]) fun _ _ _ _ _ _ us hl => match us, hl with | [_, _], _ => rfl
theorem b_law_rich (T : Fx K mg) : L2.Binds K T.d_law_rich ["_law_kinds_here", "_law_many"] [] := T.F_law_rich.binds (ps := ["_law_kinds_here", "_law_many"]) fun _ _ _ _ _ _ us hl => match us, hl with | [_, _], _ => rfl
theorem b_law_slim (T : Fx K mg) : L2.Binds K T.d_law_slim ["_law_kinds_here", "_law_many"] [] := T.F_law_slim.binds (ps := ["_law_kinds_here", "_law_many"]) fun _ _ _ _ _ _ us hl => match us, hl with | [_, _], _ => rfl
theorem b_law_yes (T : Fx K mg) : L2.Binds K T.d_law_yes ["_law_kinds_here", "_law_many"] [] := T.F_law_yes.binds (ps := ["_law_kinds_here", "_law_many"]) fun _ _ _ _ _ _ us hl => match us, hl with | [_, _], _ => rfl
theorem b_law_drawn_form (T : Fx K mg) : L2.Binds K T.d_law_drawn_form ["_law_pot_here", "_law_kinds_here", "_law_cap"] [] := T.F_law_drawn_form.binds (ps := ["_law_pot_here", "_law_kinds_here", "_law_cap"]) fun _ _ _ _ _ _ us hl => match us, hl with | [_, _, _], _ => rfl
theorem b_law_holds (T : Fx K mg) : L2.Binds K T.d_law_holds ["_law_kinds_here", "_law_figure", "_law_number", "_law_words_here"] [] := T.F_law_holds.binds (ps := ["_law_kinds_here", "_law_figure", "_law_number", "_law_words_here"]) fun _ _ _ _ _ _ us hl => match us, hl with | [_, _, _, _], _ => rfl
theorem b_law_is_number (T : Fx K mg) : L2.Binds K T.d_law_is_number ["_law_thing", "_law_least", "_law_most"] [] := T.F_law_is_number.binds (ps := ["_law_thing", "_law_least", "_law_most"]) fun _ _ _ _ _ _ us hl => match us, hl with | [_, _, _], _ => rfl
theorem b_sizes_of (T : Fx K mg) : L2.Binds K T.d_sizes_of ["system", "shape", "kind"] [] := T.F_sizes_of.binds (ps := ["system", "shape", "kind"]) fun _ _ _ _ _ _ us hl => match us, hl with | [_, _, _], _ => rfl
theorem b_law_form_right (T : Fx K mg) : L2.Binds K T.d_law_form_right ["_law_kinds_here", "_law_figure", "_law_number"] [] := T.F_law_form_right.binds (ps := ["_law_kinds_here", "_law_figure", "_law_number"]) fun _ _ _ _ _ _ us hl => match us, hl with | [_, _, _], _ => rfl
theorem b_law_kinds (T : Fx K mg) : L2.Binds K T.d_law_kinds ["_law_pot_here", "_law_many", "_law_most"] [] := T.F_law_kinds.binds (ps := ["_law_pot_here", "_law_many", "_law_most"]) fun _ _ _ _ _ _ us hl => match us, hl with | [_, _, _], _ => rfl
theorem b_law_lot (T : Fx K mg) : L2.Binds K T.d_law_lot ["_law_pot_here"] [] := T.F_law_lot.binds (ps := ["_law_pot_here"]) fun _ _ _ _ _ _ us hl => match us, hl with | [_], _ => rfl
theorem b_law_right (T : Fx K mg) : L2.Binds K T.d_law_right ["_law_pot_here"] [] := T.F_law_right.binds (ps := ["_law_pot_here"]) fun _ _ _ _ _ _ us hl => match us, hl with | [_], _ => rfl
theorem b_law (T : Fx K mg) : L2.Binds K T.d_law ["_law_script"] [] := T.F_law.binds (ps := ["_law_script"]) fun _ _ _ _ _ _ us hl => match us, hl with | [_], _ => rfl
theorem kb_sizes_of_kind_shape_system (T : Fx K mg) : KB T.d_sizes_of ["system", "shape", "kind"] ["kind", "shape", "system"] [2, 1, 0] := Fun.kb (ks := ["kind", "shape", "system"]) T.F_sizes_of rfl fun _ _ _ _ _ _ us hl => match us, hl with | [_, _, _], _ => rfl
end
noncomputable def mb_law_pot : FS := (sSeq (sSet 2 (eBin catO (eBin mulO (eC (.int 3)) (eVar 1)) (eFnV lenD 0)))
  (sSeq (sIf (tOf (eBin ltO (eVar 1) (eFnV lenD 0))) (sSet 2 (eIxV 0 (eVar 1))) sNil)
  (sSeq (sSet 3 (eBin mulO (eBin modO (eFnV absD 2) (eC (.int bigN))) (eFn (shO intD) [(eBin geO (eFnV absD 2) (eBin powO (eC (.int 10)) (eC (.int 18))))])))
  (sRet (eLst [(eVar 3), (eBin modO (eBin mulO (eBin catO (eBin catO (eBin modO (eVar 2) (eC (.int 2305843009213693951))) (eBin mulO (eBin mulO (eC (.int 7919)) (eVar 1)) (eVar 1))) (eC (.int 11))) (eC (.int 48271))) (eC (.int 2305843009213693951)))])))))
noncomputable def m_law_pot : FF := runDef 2 2 mb_law_pot
noncomputable def mb_law_take : FS := (sSeq (sIf (tOf (eBin gtO (eIxV 0 (eC (.int 0))) (eC (.int 0)))) (sSeq (sSet 2 (eBin modO (eIxV 0 (eC (.int 0))) (eVar 1)))
  (sSeq (sSub 0 (eC (.int 0)) (eBin divO (eIxV 0 (eC (.int 0))) (eVar 1)))
  (sRetO 2))) sNil)
  (sSeq (sSub 0 (eC (.int 1)) (eBin modO (eBin catO (eBin mulO (eIxV 0 (eC (.int 1))) (eC (.int 1181783497276652981))) (eC (.int 12345678910987))) (eC (.int 2305843009213693951))))
  (sRet (eBin modO (eBin divO (eBin modO (eBin mulO (eBin divO (eIxV 0 (eC (.int 1))) (eC (.int 65537))) (eBin catO (eBin modO (eIxV 0 (eC (.int 1))) (eC (.int 65537))) (eC (.int 3)))) (eC (.int 2305843009213693921))) (eC (.int 97))) (eVar 1)))))
noncomputable def m_law_take : FF := runDef 2 1 mb_law_take
noncomputable def mb_law_of : FS := (sRet (eIxV 1 (eCall m_law_take [] [.o 0, .e (eFnV lenD 1)])))
noncomputable def m_law_of : FF := runDef 2 0 mb_law_of
noncomputable def mb_law_rich : FS := (sSeq (sSet 2 (eLst [(eC (.int 0))]))
  (sSeq (sFor (.n 3) (iRg2 (eC (.int 1)) (eBin catO (eVar 1) (eC (.int 1)))) (sApp 2 (eFn (shO maxD) [(eBin catO (eLst [(eIxV 2 (eNeg (eC (.int 1))))]) (eLc [4, 5] (.t [(.n 4), (.n 5)]) (iSeq (eVar 0)) (tOf (eBin leO (eVar 5) (eVar 3))) (eBin catO (eIxV 2 (eBin subO (eVar 3) (eVar 5))) (eVar 4))))])))
  (sRetO 2)))
noncomputable def m_law_rich : FF := runDef 2 4 mb_law_rich
noncomputable def mb_law_slim : FS := (sSeq (sSet 2 (eLst [(eC (.int 0))]))
  (sSeq (sFor (.n 3) (iRg2 (eC (.int 1)) (eBin catO (eVar 1) (eC (.int 1)))) (sSeq (sSet 4 (eLc [6, 7] (.t [(.n 6), (.n 7)]) (iSeq (eVar 0)) (tOf (eBin leO (eVar 6) (eVar 3))) (eIxV 2 (eBin subO (eVar 3) (eVar 6)))))
  (sSeq (sSet 5 (eLc [6, 7] (.t [(.n 6), (.n 7)]) (iSeq (eVar 0)) (tOf (eBin leO (eVar 6) (eVar 3))) (eVar 7)))
  (sSeq (sSet 4 (eLc [8, 7] (.t [(.n 8), (.n 7)]) (iZp (eVar 4) (eVar 5)) (tOf (eBin notNonO (eVar 8) (eC .non))) (eBin catO (eVar 8) (eVar 7))))
  (sApp 2 (eIf (tOf (eBin neO (eVar 4) (eLst []))) (eFnV minD 4) (eC .non)))))))
  (sRetO 2)))
noncomputable def m_law_slim : FF := runDef 2 7 mb_law_slim
noncomputable def mb_law_yes : FS := (sSeq (sSet 2 (eLst [(eC (.bl true))]))
  (sSeq (sFor (.n 3) (iRg2 (eC (.int 1)) (eBin catO (eVar 1) (eC (.int 1)))) (sApp 2 (eFn (shO anyD) [(eLc [4, 5] (.t [(.n 4), (.n 5)]) (iSeq (eVar 0)) tTrue ((eAnd (eBin geO (eVar 3) (eVar 4)) (eIxV 2 (eBin subO (eVar 3) (eVar 4))))))])))
  (sRetO 2)))
noncomputable def m_law_yes : FF := runDef 2 4 mb_law_yes
noncomputable def mb_law_drawn_form : FS := (sSeq (sSet 3 (eLc [19, 20] (.t [(.n 19), (.n 20)]) (iEnu (eVar 1)) (tOf (eBin leO (eIxV 20 (eC (.int 1))) (eVar 2))) (eVar 19)))
  (sSeq (sIf (tOf (eBin eqO (eVar 3) (eLst []))) (sRet (eC .non)) sNil)
  (sSeq (sPar 4 5 (eCall m_law_of [] [.o 0, .e (eVar 3)]) (eLc [19] (.n 19) (iSeq (eVar 3)) tTrue (eIxV 1 (eVar 19))))
  (sSeq (sAsg (.t [(.n 6), (.n 7)]) (eIxV 1 (eVar 4)))
  (sSeq (sSet 8 (eBin catO (eBin dIx (eCall m_law_rich [] [.e (eVar 5), .e (eVar 2)]) (eVar 2)) (eC (.int 2))))
  (sSeq (sSet 9 (eLc [21, 22] (.t [(.n 21), (.n 22)]) (iEnu (eCall m_law_yes [] [.e (eVar 5), .e (eBin catO (eBin mulO (eC (.int 2)) (eVar 8)) (eC (.int 60)))])) (tOf (eVar 22)) (eVar 21)))
  (sSeq (sSet 10 (eCall m_law_slim [] [.e (eVar 5), .e (eVar 8)]))
  (sSeq (sSet 11 (eLc [21] (.n 21) (iRg2 (eC (.int 1)) (eVar 8)) ((tAnd' (tOf (eBin notNonO (eIxV 10 (eVar 21)) (eC .non))) (tOf (eBin leO (eBin catO (eIxV 10 (eVar 21)) (eVar 7)) (eVar 2))))) (eVar 21)))
  (sSeq (sIf ((tOr' (tOf (eBin eqO (eVar 11) (eLst []))) (tOf (eBin eqO (eCall m_law_take [] [.o 0, .e (eC (.int 6))]) (eC (.int 0)))))) (sRet (eTup [(eTup [(eC (.str "long"))]), (eVar 4)])) sNil)
  (sSeq (sIf (tOf (eBin eqO (eCall m_law_take [] [.o 0, .e (eC (.int 3))]) (eC (.int 0)))) (sRet (eTup [(eTup [(eC (.str "short end")), (eCall m_law_of [] [.o 0, .e (eLc [21] (.n 21) (iSeq (eVar 9)) (tOf (eBin ltO (eVar 21) (eVar 6))) (eVar 21))]), (eCall m_law_of [] [.o 0, .e (eVar 11)])]), (eVar 4)])) sNil)
  (sSeq (sSet 12 (eCall m_law_of [] [.o 0, .e (eVar 11)]))
  (sSeq (sSet 13 (eLst []))
  (sSeq (sFor (.n 14) (iSeq (eVar 3)) (sSeq (sSet 15 (eBin subO (eBin subO (eBin subO (eVar 2) (eVar 7)) (eIxV 10 (eVar 12))) (eBin dIx (eIxV 1 (eVar 14)) (eC (.int 1)))))
  (sFor (.n 16) (iRg1 (eVar 8)) (sIf ((tAnd' (tOf (eBin notNonO (eIxV 10 (eVar 16)) (eC .non))) (tOf (eBin leO (eIxV 10 (eVar 16)) (eVar 15))))) (sApp 13 (eTup [(eBin catO (eVar 16) (eBin dIx (eIxV 1 (eVar 14)) (eC (.int 0)))), (eVar 14)])) sNil))))
  (sSeq (sIf (tOf (eBin eqO (eVar 13) (eLst []))) (sRet (eTup [(eTup [(eC (.str "short end")), (eCall m_law_of [] [.o 0, .e (eLc [21] (.n 21) (iSeq (eVar 9)) (tOf (eBin ltO (eVar 21) (eVar 6))) (eVar 21))]), (eVar 12)]), (eVar 4)])) sNil)
  (sSeq (sAsg (.t [(.n 17), (.n 14)]) (eCall m_law_of [] [.o 0, .e (eVar 13)]))
  (sSeq (sSet 18 (eLc [21] (.n 21) (iSeq (eVar 9)) (tOf (eChain leO ltO (eVar 17) (eVar 21) (eBin catO (eVar 17) (eVar 6)))) (eVar 21)))
  (sRet (eTup [(eTup [(eC (.str "caught up")), (eCall m_law_of [] [.o 0, .e (eVar 18)]), (eVar 12), (eVar 17), (eVar 14)]), (eVar 4)]))))))))))))))))))
noncomputable def m_law_drawn_form : FF := runDef 3 20 mb_law_drawn_form
noncomputable def mb_law_holds : FS := (sSeq (sSet 4 (eBin dIx (eIxV 0 (eVar 2)) (eC (.int 0))))
  (sSeq (sIf (tOf (eBin eqO (eIxV 1 (eC (.int 0))) (eC (.str "long")))) (sRet (eBin gtO (eVar 4) (eVar 3))) sNil)
  (sSeq (sSet 5 (eIf (tOf (eBin eqO (eIxV 1 (eC (.int 0))) (eC (.str "short end")))) (eVar 4) (eBin dIx (eIxV 0 (eIxV 1 (eC (.int 4)))) (eC (.int 0)))))
  (sRet (eChain leO ltO (eBin catO (eIxV 1 (eC (.int 1))) (eIxV 1 (eC (.int 2)))) (eVar 3) (eBin catO (eBin catO (eIxV 1 (eC (.int 1))) (eIxV 1 (eC (.int 2)))) (eVar 5)))))))
noncomputable def m_law_holds : FF := runDef 4 2 mb_law_holds
noncomputable def mb_law_is_number : FS := (sRet ((eAnd (eFn (shO isiD) [(eVar 0), (eC (.ty "int"))]) (eAnd (eNot (eFn (shO isiD) [(eVar 0), (eC (.ty "bool"))])) (eChain leO leO (eVar 1) (eVar 0) (eVar 2))))))
noncomputable def m_law_is_number : FF := runDef 3 0 mb_law_is_number
noncomputable def mb_sizes_of : FS := (sSeq (sSet 3 (eBin dIx (eIxV 0 (eVar 2)) (eC (.int 0))))
  (sSeq (sIf (tOf (eBin eqO (eIxV 1 (eC (.int 0))) (eC (.str "long")))) (sRet (eTup [(eC (.int 0)), (eBin subO (eVar 3) (eC (.int 1)))])) sNil)
  (sSeq (sSet 4 (eBin catO (eIxV 1 (eC (.int 1))) (eIxV 1 (eC (.int 2)))))
  (sSeq (sSet 5 (eIf (tOf (eBin eqO (eIxV 1 (eC (.int 0))) (eC (.str "short end")))) (eVar 3) (eBin dIx (eIxV 0 (eIxV 1 (eC (.int 4)))) (eC (.int 0)))))
  (sRet (eTup [(eVar 4), (eBin subO (eBin catO (eVar 4) (eVar 5)) (eC (.int 1)))]))))))
noncomputable def m_sizes_of : FF := runDef 3 3 mb_sizes_of
noncomputable def mb_law_form_right : FS := (sSeq (sSet 3 (eCall m_sizes_of [] [.e (eVar 0), .e (eVar 1), .e (eVar 2)]))
  (sSeq (sIf ((tOr' (tNot' (tOf (eFn (shO isiD) [(eVar 3), (eC (.ty "tuple"))]))) (tOr' (tOf (eBin neO (eFnV lenD 3) (eC (.int 2)))) (tNot' (tOf (eFn (shO allD) [(eLc [7] (.n 7) (iSeq (eVar 3)) tTrue (eCall m_law_is_number [] [.e (eVar 7), .e (eC (.int 0)), .e (eBin powO (eC (.int 10)) (eC (.int 21)))]))])))))) (sRet (eC (.bl false))) sNil)
  (sSeq (sAsg (.t [(.n 4), (.n 5)]) (eVar 3))
  (sSeq (sSet 6 (eLst [(eVar 4), (eVar 5), (eBin divO (eBin catO (eVar 4) (eVar 5)) (eC (.int 2)))]))
  (sSeq (sIf (tNot' (tOf (eFn (shO allD) [(eLc [7] (.n 7) (iSeq (eVar 6)) tTrue (eCall m_law_holds [] [.e (eVar 0), .e (eVar 1), .e (eVar 2), .e (eVar 7)]))]))) (sRet (eC (.bl false))) sNil)
  (sRet (eNot (eFn (shO anyD) [(eLc [7] (.n 7) (iSeq (eTup [(eBin subO (eVar 4) (eC (.int 1))), (eBin catO (eVar 5) (eC (.int 1)))])) (tOf (eBin geO (eVar 7) (eC (.int 0)))) (eCall m_law_holds [] [.e (eVar 0), .e (eVar 1), .e (eVar 2), .e (eVar 7)]))]))))))))
noncomputable def m_law_form_right : FF := runDef 3 5 mb_law_form_right
noncomputable def mb_law_kinds : FS := (sSeq (sPar 3 4 (eCall m_law_take [] [.o 0, .e (eC (.int 4))]) (eLst []))
  (sSeq (sFor (.n 5) (iRg1 (eBin catO (eC (.int 1)) (eCall m_law_take [] [.o 0, .e (eVar 1)]))) (sSeq (sSet 6 (eBin catO (eC (.int 1)) (eCall m_law_take [] [.o 0, .e (eVar 2)])))
  (sApp 4 (eTup [(eVar 6), (eBin dIx (eLst [(eVar 6), (eC (.int 1)), (eBin catO (eC (.int 1)) (eCall m_law_take [] [.o 0, .e (eVar 2)])), (eBin catO (eC (.int 1)) (eCall m_law_take [] [.o 0, .e (eVar 2)]))]) (eVar 3))]))))
  (sRet (eFn tupleO [(eSset (eVar 4))]))))
noncomputable def m_law_kinds : FF := runDef 3 4 mb_law_kinds
noncomputable def mb_law_lot : FS := (sSeq (sIf (tOf (eBin eqO (eCall m_law_take [] [.o 0, .e (eC (.int 5))]) (eC (.int 0)))) (sRet (eCall m_law_kinds [] [.o 0, .e (eC (.int 6)), .e (eC (.int 30))])) sNil)
  (sRet (eCall m_law_kinds [] [.o 0, .e (eC (.int 3)), .e (eCall m_law_of [] [.o 0, .e (eLst [(eC (.int 4)), (eC (.int 8)), (eC (.int 12))])])])))
noncomputable def m_law_lot : FF := runDef 1 0 mb_law_lot
noncomputable def mb_law_right : FS := (sSeq (sPar 1 2 (eCall m_law_lot [] [.o 0]) (eCall m_law_take [] [.o 0, .e (eC (.int 31))]))
  (sSeq (sFor (.n 3) (iRg1 (eC (.int 6))) (sSeq (sSet 4 (eCall m_law_drawn_form [] [.o 0, .e (eVar 1), .e (eVar 2)]))
  (sIf (tOf (eBin notNonO (eVar 4) (eC .non))) (sSeq (sAsg (.t [(.n 5), (.n 6)]) (eVar 4))
  (sSeq (sPar 7 8 (eBin mulO (eBin powO (eC (.int 10)) (eC (.int 15))) (eBin catO (eC (.int 1)) (eCall m_law_take [] [.o 0, .e (eC (.int 999))]))) (eVar 5))
  (sSeq (sIf (tOf (eBin gtO (eFnV lenD 5) (eC (.int 1)))) (sSet 8 (eBin catO (eBin catO (eSl sliceO (eVar 5) oNone (oSome (eC (.int 2)))) (eTup [(eBin catO (eIxV 5 (eC (.int 2))) (eVar 7))])) (eSl sliceO (eVar 5) (oSome (eC (.int 3))) oNone))) sNil)
  (sSeq (sFor (.n 9) (iSeq (eTup [(eVar 5), (eVar 8)])) (sIf (tNot' (tOf (eCall m_law_form_right [] [.e (eVar 1), .e (eVar 9), .e (eVar 6)]))) (sRet (eC (.bl false))) sNil))
  (sIf (tOf (eBin neO (eCallK m_sizes_of [2, 1, 0] [(eVar 6), (eVar 5), (eVar 1)]) (eCall m_sizes_of [] [.e (eVar 1), .e (eVar 5), .e (eVar 6)]))) (sRet (eC (.bl false))) sNil))))) sNil)))
  (sRet (eC (.bl true)))))
noncomputable def m_law_right : FF := runDef 1 9 mb_law_right
noncomputable def mb_law : FS := (sRet (eFn (shO allD) [(eLc [1] (.n 1) (iRg1 (eFn (shO maxD) [(eC (.int 1)), (eFn (shO minD) [(eC (.int 2)), (eFnV lenD 0)])])) tTrue (eCallF m_law_right (eCall m_law_pot [] [.e (eVar 0), .e (eVar 1)]) []))]))
noncomputable def m_law : FF := runDef 1 1 mb_law

end T
namespace T
open PySem L2
/-! ### the pot -/
theorem small_of {i : Int} (h1 : -(2 ^ 4000) < i) (h2 : i < 2 ^ 4000) : small i := ⟨h1, h2⟩
def pw4 : Int := 2 ^ 4000
theorem small_nat {i : Int} {n : Nat} (h0 : 0 ≤ i) (h1 : i < 2 ^ n) (hn : n ≤ 4000) : small i := by
  have h2 : (2 : Int) ^ n ≤ 2 ^ 4000 := by
    have := Nat.pow_le_pow_right (show 0 < 2 by decide) hn
    have e : ∀ k : Nat, ((2 : Int) ^ k) = ((2 ^ k : Nat) : Int) := fun k => by rw [Int.natCast_pow]; rfl
    rw [e, e]
    exact Int.ofNat_le.mpr this
  exact ⟨by have : (0 : Int) < 2 ^ 4000 := Int.pow_pos (by decide); omega, Int.lt_of_lt_of_le h1 h2⟩
theorem big_bound : bigN < 2 ^ 2999 := by
  unfold bigN
  decide +kernel
theorem big_pos : 0 < bigN := by
  unfold bigN
  exact Int.pow_pos (by decide)
def Pot (d : D) : Prop := ∃ g m : Int, d = .lst [.int g, .int m] ∧ 0 ≤ g ∧ g < bigN ∧ 0 ≤ m ∧ m < 2305843009213693951
theorem take_is {g m u : Int} (hg : 0 ≤ g) (hg2 : g < bigN) (hm : 0 ≤ m) (hm2 : m < 2305843009213693951) (hu : 0 < u) (hu2 : u < 2 ^ 62) :
    ∃ g' m' x : Int, 0 ≤ g' ∧ g' < bigN ∧ 0 ≤ m' ∧ m' < 2305843009213693951 ∧ 0 ≤ x ∧ x < u ∧ m_law_take [.io (.lst [.int g, .int m]), .sh (.int u)] = some (.sh (.int x), [.io (.lst [.int g', .int m']), .no]) := by
  have su : small u := small_nat (n := 62) (Int.le_of_lt hu) hu2 (by decide)
  by_cases c : 0 < g
  · refine ⟨g / u, m, g % u, Int.ediv_nonneg hg (Int.le_of_lt hu), ?_, hm, hm2, Int.emod_nonneg _ (by omega), Int.emod_lt_of_pos _ hu, ?_⟩
    · exact Int.lt_of_le_of_lt (Int.ediv_le_self _ hg) hg2
    · simp [m_law_take, mb_law_take, c, sSub, ownLst, Sl.own, mod_i hu, div_i hu su, ixN, putLst]
  · have e1 : small (m * 1181783497276652981 + 12345678910987) := small_nat (n := 200) (by omega) (by omega) (by decide)
    have m' : ∃ m' : Int, m' = (m * 1181783497276652981 + 12345678910987) % 2305843009213693951 ∧ 0 ≤ m' ∧ m' < 2305843009213693951 := ⟨_, rfl, Int.emod_nonneg _ (by decide), Int.emod_lt_of_pos _ (by decide)⟩
    obtain ⟨m', em, hm3, hm4⟩ := m'
    have b1 : 0 ≤ m' / 65537 ∧ m' / 65537 ≤ m' := ⟨Int.ediv_nonneg hm3 (by decide), Int.ediv_le_self _ hm3⟩
    have b2 : 0 ≤ m' % 65537 ∧ m' % 65537 < 65537 := ⟨Int.emod_nonneg _ (by decide), Int.emod_lt_of_pos _ (by decide)⟩
    have s1 : small m := small_nat (n := 62) hm (by omega) (by decide)
    have s2 : small (m' / 65537) := small_nat (n := 62) b1.1 (by omega) (by decide)
    have s3 : small (m' % 65537 + 3) := small_nat (n := 62) (by omega) (by omega) (by decide)
    have s0 : ∀ {k : Int}, 0 ≤ k → k < 2 ^ 62 → small k := fun h1 h2 => small_nat (n := 62) h1 h2 (by decide)
    refine ⟨g, m', m' / 65537 * (m' % 65537 + 3) % 2305843009213693921 / 97 % u, hg, hg2, hm3, hm4, Int.emod_nonneg _ (by omega), Int.emod_lt_of_pos _ hu, ?_⟩
    simp [m_law_take, mb_law_take, c, sSub, ownLst, Sl.own, ixN, putLst, mul_i s1 (s0 (k := 1181783497276652981) (by decide) (by decide)), mod_i (j := 2305843009213693951) (by decide), ← em, div_i (j := 65537) (by decide) (s0 (by decide) (by decide)),
      mod_i (j := 65537) (by decide), mul_i s2 s3, mod_i (j := 2305843009213693921) (by decide), div_i (j := 97) (by decide) (s0 (by decide) (by decide)), mod_i hu]
theorem take_ok {d : D} {u : Int} (h : Pot d) (hu : 0 < u) (hu2 : u < 2 ^ 62) : ∃ (d' : D) (x : Int), Pot d' ∧ 0 ≤ x ∧ x < u ∧ m_law_take [.io d, .sh (.int u)] = some (.sh (.int x), [.io d', .no]) := by
  obtain ⟨g, m, rfl, h1, h2, h3, h4⟩ := h
  obtain ⟨g', m', x, a1, a2, a3, a4, a5, a6, a7⟩ := take_is h1 h2 h3 h4 hu hu2
  exact ⟨_, x, ⟨g', m', rfl, a1, a2, a3, a4⟩, a5, a6, a7⟩
theorem of_ok {d : D} {ds : List D} (h : Pot d) (hn : ds ≠ []) (hz : ds.length ≤ sizeLine) : ∃ (d' y : D), Pot d' ∧ y ∈ ds ∧ m_law_of [.io d, .sh (.lst ds)] = some (.sh y, [.io d', .no]) := by
  have hl : 0 < ds.length := List.length_pos_iff.mpr hn
  rw [sizeLine_eq] at hz
  obtain ⟨d', x, hp, h0, h1, e⟩ := take_ok (u := (ds.length : Int)) h (by omega) (by omega)
  obtain ⟨k, rfl⟩ := Int.eq_ofNat_of_zero_le h0
  have hk : k < ds.length := by omega
  refine ⟨d', ds[k], hp, List.getElem_mem hk, ?_⟩
  simp [m_law_of, mb_law_of, e, ix_l (List.getElem?_eq_getElem hk)]
theorem small_big {i : Int} (h0 : 0 ≤ i) (h : i < bigN) : small i := small_nat (n := 2999) h0 (Int.lt_trans h big_bound) (by decide)
theorem cell_pot {b c g : Int} {z : Prop} [Decidable z] (hb : 0 < b) (eg : g = (if c < 0 then -c else c) % b * (if z then 1 else 0)) : 0 ≤ g ∧ g < b ∧ 0 ≤ (if c < 0 then -c else c) % b ∧ (if c < 0 then -c else c) % b < b := by
  have a := Int.emod_nonneg (if c < 0 then -c else c) (show b ≠ 0 from Int.ne_of_gt hb)
  have b' := Int.emod_lt_of_pos (if c < 0 then -c else c) hb
  generalize (if c < 0 then -c else c) % b = t at *
  subst eg
  by_cases hz : z
  · rw [if_pos hz]; omega
  · rw [if_neg hz]; omega
theorem small_tf {z : Prop} [Decidable z] : small (if z then (1 : Int) else 0) := by
  split
  · exact small_nat (n := 1) (by decide) (by decide) (by decide)
  · exact small_nat (n := 1) (by decide) (by decide) (by decide)
theorem pot_tail {c : Int} {k : Nat} (hk : k < 64) : ∃ m : Int, m = (c % 2305843009213693951 + 7919 * (k : Int) * (k : Int) + 11) * 48271 % 2305843009213693951 ∧ 0 ≤ m ∧ m < 2305843009213693951 ∧ small (c % 2305843009213693951 + 7919 * (k : Int) * (k : Int) + 11) ∧ small (7919 * (k : Int)) ∧ small (k : Int) ∧ small (48271 : Int) ∧ small (7919 : Int) := by
  have a := Int.emod_nonneg c (show (2305843009213693951 : Int) ≠ 0 by decide)
  have b := Int.emod_lt_of_pos c (show (0 : Int) < 2305843009213693951 by decide)
  have h1 : 7919 * (k : Int) * (k : Int) ≤ 7919 * 64 * 64 := by
    have : (k : Int) * k ≤ 64 * 64 := Int.mul_le_mul (by omega) (by omega) (by omega) (by decide)
    rw [Int.mul_assoc]; omega
  have h2 : 0 ≤ 7919 * (k : Int) * (k : Int) := by
    have : 0 ≤ (k : Int) * k := Int.mul_nonneg (by omega) (by omega)
    rw [Int.mul_assoc]; omega
  have s0 : ∀ {k : Int}, 0 ≤ k → k < 2 ^ 62 → small k := fun h1 h2 => small_nat (n := 62) h1 h2 (by decide)
  exact ⟨_, rfl, Int.emod_nonneg _ (by decide), Int.emod_lt_of_pos _ (by decide), s0 (by omega) (by omega), s0 (by omega) (by omega), s0 (by omega) (by omega), s0 (by decide) (by decide), s0 (by decide) (by decide)⟩
theorem pow_i {i : Int} {n : Nat} (h : n ≤ 1000000) (h2 : i.natAbs < 2 ^ 64) : powO (.int i) (.int n) = some (.sh (.int (i ^ n))) := if_pos ⟨Int.natCast_nonneg _, by omega, h2⟩
theorem pow_10_18 : powO (.int 10) (.int 18) = some (.sh (.int 1000000000000000000)) := by
  have e : (10 : Int) ^ 18 = 1000000000000000000 := by decide
  rw [← e]
  exact pow_i (i := 10) (n := 18) (by decide) (by decide)
noncomputable def potRest (B : Int) : FS := sSeq (sSet 3 (eBin mulO (eBin modO (eFnV absD 2) (eC (.int B))) (eFn (shO intD) [(eBin geO (eFnV absD 2) (eBin powO (eC (.int 10)) (eC (.int 18))))])))
  (sRet (eLst [(eVar 3), (eBin modO (eBin mulO (eBin catO (eBin catO (eBin modO (eVar 2) (eC (.int 2305843009213693951))) (eBin mulO (eBin mulO (eC (.int 7919)) (eVar 1)) (eVar 1))) (eC (.int 11))) (eC (.int 48271))) (eC (.int 2305843009213693951)))]))
theorem pot_rest {B c : Int} {k : Nat} {s : Sl} (hk : k < 64) (hb : 0 < B) (hB : ∀ {i : Int}, 0 ≤ i → i < B → small i) : ∃ g m : Int, 0 ≤ g ∧ g < B ∧ 0 ≤ m ∧ m < 2305843009213693951 ∧ potRest B [s, .sh (.int k), .sh (.int c), .no] = some (.rt (.ow (.lst [.int g, .int m])) [s, .sh (.int k), .sh (.int c), .sh (.int g)]) := by
  have two : (2 : Nat) ≤ sizeLine := by rw [sizeLine_eq]; decide
  obtain ⟨m, em, m0, m1, t1, t2, t3, t4, t5⟩ := pot_tail (c := c) hk
  obtain ⟨a1, a2, a3, a4⟩ := cell_pot (c := c) (z := 1000000000000000000 ≤ if c < 0 then -c else c) hb rfl
  refine ⟨_, m, a1, a2, m0, m1, ?_⟩
  simp [potRest, pow_10_18, mod_i hb, mul_i (hB a3 a4) small_tf, mod_i (j := 2305843009213693951) (by decide), mul_i t5 t3, mul_i t2 t3, mul_i t1 t4, ← em, two]
theorem pot_split : mb_law_pot = sSeq (sSet 2 (eBin catO (eBin mulO (eC (.int 3)) (eVar 1)) (eFnV lenD 0))) (sSeq (sIf (tOf (eBin ltO (eVar 1) (eFnV lenD 0))) (sSet 2 (eIxV 0 (eVar 1))) sNil) (potRest bigN)) := by
  unfold mb_law_pot potRest
  rfl
theorem pot_ok {ns : List Int} {k : Nat} (hk : k < 64) (hl : ns.length ≤ 63) : ∃ d : D, Pot d ∧ m_law_pot [.sh (.scr (ns.map .int)), .sh (.int k)] = some (.ow d, [.no, .no]) := by
  have s3 : small (3 : Int) := small_nat (n := 62) (by decide) (by decide) (by decide)
  have t3 : small (k : Int) := small_nat (n := 62) (by omega) (by omega) (by decide)
  by_cases c : k < ns.length
  · obtain ⟨g, m, g0, g1, m0, m1, e⟩ := pot_rest (s := .sh (.scr (ns.map .int))) (c := ns[k]) hk big_pos small_big
    have ix : dIx (.scr (ns.map .int)) (.int k) = some (.sh (.int ns[k])) := ix_s (by rw [List.getElem?_map, List.getElem?_eq_getElem c]; rfl)
    refine ⟨_, ⟨g, m, rfl, g0, g1, m0, m1⟩, ?_⟩
    simp [m_law_pot, pot_split, mul_i s3 t3, c, ix, e]
  · obtain ⟨g, m, g0, g1, m0, m1, e⟩ := pot_rest (s := .sh (.scr (ns.map .int))) (c := 3 * (k : Int) + ns.length) hk big_pos small_big
    refine ⟨_, ⟨g, m, rfl, g0, g1, m0, m1⟩, ?_⟩
    simp [m_law_pot, pot_split, mul_i s3 t3, c, e]
/-! ### kinds -/
def kD (p : Int × Int) : D := .tup [.int p.1, .int p.2]
def kL (p : Int × Int) : List Int := [p.1, p.2]
theorem tupI_of (l : List Int) : tupI (tupOfI l) = some l := intsOf_map l
theorem tupsI_map : ∀ ls : List (List Int), tupsI (ls.map tupOfI) = some ls
  | [] => rfl
  | l :: r => by
    show (tupI (tupOfI l)).bind _ = _
    rw [tupI_of]
    simp only [Option.bind_some]
    show (tupsI (r.map tupOfI)).map _ = _
    rw [tupsI_map r]
    rfl
theorem lex_kL {p q : Int × Int} : lexL (kL p) (kL q) ↔ p.1 < q.1 ∨ (p.1 = q.1 ∧ p.2 < q.2) := by
  unfold kL
  simp [lexL]
theorem ins_len {x : List Int} : ∀ {l : List (List Int)}, (insL x l).length ≤ l.length + 1
  | [] => by simp [insL]
  | y :: r => by
    unfold insL
    split
    · simp
    · split
      · simp
      · have := ins_len (x := x) (l := r)
        simp only [List.length_cons]
        omega
theorem srt_len : ∀ {l : List (List Int)}, (srtL l).length ≤ l.length
  | [] => by simp [srtL]
  | x :: r => by
    unfold srtL
    have a := ins_len (x := x) (l := srtL r)
    have b := srt_len (l := r)
    simp only [List.length_cons]
    omega
/-- sorted(set(xs)) of pairs -/
theorem sset_pairs {ks : List (Int × Int)} (hl : ks.length < 64) (h0 : ∀ p ∈ ks, 0 ≤ p.1 ∧ 0 ≤ p.2) :
    ∃ qs : List (Int × Int), ssetO (.lst (ks.map kD)) = some (.ow (.lst (qs.map kD))) ∧ (∀ p, p ∈ qs ↔ p ∈ ks) ∧ qs.Pairwise (fun p q => p.1 < q.1 ∨ (p.1 = q.1 ∧ p.2 < q.2)) ∧ qs.length ≤ ks.length := by
  have e1 : ks.map kD = (ks.map kL).map tupOfI := by rw [List.map_map]; rfl
  have mem : ∀ l ∈ ks.map kL, ∃ p ∈ ks, kL p = l := fun l h => List.mem_map.mp h
  have ok : okSet (ks.map kL) := by
    refine ⟨by simpa using hl, fun l h => ?_⟩
    obtain ⟨p, hp, rfl⟩ := mem l h
    refine ⟨?_, by simp [kL], fun m hm => ?_⟩
    · cases ks with
      | nil => simp at hp
      | cons a r => simp [kL]
    · have q := h0 p hp
      rcases List.mem_cons.mp hm with e | hm
      · omega
      · have e := List.mem_singleton.mp hm
        omega
  have conv : ∀ ls : List (List Int), (∀ l ∈ ls, ∃ p : Int × Int, kL p = l) → ∃ qs : List (Int × Int), qs.map kL = ls := by
    intro ls
    induction ls with
    | nil => exact fun _ => ⟨[], rfl⟩
    | cons l r ih =>
      intro h
      obtain ⟨p, hp⟩ := h l List.mem_cons_self
      obtain ⟨qs, hq⟩ := ih fun x hx => h x (List.mem_cons_of_mem _ hx)
      exact ⟨p :: qs, by rw [List.map_cons, hp, hq]⟩
  obtain ⟨qs, hq⟩ := conv (srtL (ks.map kL)) fun l h => by
    obtain ⟨p, _, e⟩ := mem l (mem_srt.mp h)
    exact ⟨p, e⟩
  have inj : ∀ p q : Int × Int, kL p = kL q → p = q := fun p q h => by
    unfold kL at h
    injection h with h1 h2
    injection h2 with h2 _
    exact Prod.ext h1 h2
  refine ⟨qs, ?_, fun p => ?_, ?_, ?_⟩
  · rw [e1]
    show (tupsI _).bind _ = _
    rw [tupsI_map]
    simp only [Option.bind_some]
    rw [if_pos ok, ← hq, List.map_map]
    rfl
  · have m1 : kL p ∈ qs.map kL ↔ p ∈ qs := ⟨fun h => by
      obtain ⟨q, h1, h2⟩ := List.mem_map.mp h
      rw [← inj _ _ h2]; exact h1, fun h => List.mem_map_of_mem h⟩
    have m2 : kL p ∈ ks.map kL ↔ p ∈ ks := ⟨fun h => by
      obtain ⟨q, h1, h2⟩ := List.mem_map.mp h
      rw [← inj _ _ h2]; exact h1, fun h => List.mem_map_of_mem h⟩
    rw [← m1, hq, mem_srt, m2]
  · have pw := srt_pw (d := 2) (l := ks.map kL) fun l h => by
      obtain ⟨p, _, e⟩ := mem l h
      rw [← e]; rfl
    rw [← hq, List.pairwise_map] at pw
    exact pw.imp fun h => lex_kL.mp h
  · have := srt_len (l := ks.map kL)
    rw [← hq] at this
    simpa using this
theorem pick4 {a b c d w : Int} (h0 : 0 ≤ w) (h1 : w < 4) : ∃ y, dIx (.lst [.int a, .int b, .int c, .int d]) (.int w) = some (.sh (.int y)) ∧ (y = a ∨ y = b ∨ y = c ∨ y = d) := by
  have : w = 0 ∨ w = 1 ∨ w = 2 ∨ w = 3 := by omega
  rcases this with rfl | rfl | rfl | rfl
  · exact ⟨a, ix_l (k := 0) rfl, by simp⟩
  · exact ⟨b, ix_l (k := 1) rfl, by simp⟩
  · exact ⟨c, ix_l (k := 2) rfl, by simp⟩
  · exact ⟨d, ix_l (k := 3) rfl, by simp⟩
theorem kinds_ok {d : D} {many most : Int} (h : Pot d) (m1 : 1 ≤ many) (m2 : many ≤ 63) (b1 : 1 ≤ most) (b2 : most < 2 ^ 60) :
    ∃ (d' : D) (ks : List (Int × Int)), Pot d' ∧ ks ≠ [] ∧ (ks.length : Int) ≤ many ∧ (∀ p ∈ ks, 1 ≤ p.1 ∧ p.1 ≤ most ∧ 1 ≤ p.2 ∧ p.2 ≤ most) ∧ ks.Pairwise (fun p q => p.1 < q.1 ∨ (p.1 = q.1 ∧ p.2 < q.2)) ∧
      m_law_kinds [.io d, .sh (.int many), .sh (.int most)] = some (.sh (.tup (ks.map kD)), [.io d', .no, .no]) := by
  obtain ⟨d1, wy, p1, w0, w1, e1⟩ := take_ok (u := 4) h (by decide) (by decide)
  obtain ⟨d2, tn, p2, t0, t1, e2⟩ := take_ok (u := many) p1 (by omega) (by omega)
  have z0 : (0 : Nat) ≤ sizeLine := Nat.zero_le _
  have z2 : (2 : Nat) ≤ sizeLine := by rw [sizeLine_eq]; decide
  have z4 : (4 : Nat) ≤ sizeLine := by rw [sizeLine_eq]; decide
  obtain ⟨ρ', lp, I'⟩ := loop_nx (t := .n 5) (b := (sSeq (sSet 6 (eBin catO (eC (.int 1)) (eCall m_law_take [] [.o 0, .e (eVar 2)])))
      (sApp 4 (eTup [(eVar 6), (eBin dIx (eLst [(eVar 6), (eC (.int 1)), (eBin catO (eC (.int 1)) (eCall m_law_take [] [.o 0, .e (eVar 2)])), (eBin catO (eC (.int 1)) (eCall m_law_take [] [.o 0, .e (eVar 2)]))]) (eVar 3))]))))
    (I := fun k ρ => ∃ (d' : D) (ks : List (Int × Int)) (s5 s6 : Sl), Pot d' ∧ ρ = [.io d', .sh (.int many), .sh (.int most), .sh (.int wy), .ow (.lst (ks.map kD)), s5, s6] ∧ ks.length = k ∧ ∀ p ∈ ks, 1 ≤ p.1 ∧ p.1 ≤ most ∧ 1 ≤ p.2 ∧ p.2 ≤ most)
    (xs := rangeD 0 (1 + tn).toNat) (k := 0) (ρ := [.io d2, .sh (.int many), .sh (.int most), .sh (.int wy), .ow (.lst []), .no, .no])
    ⟨d2, [], .no, .no, p2, rfl, rfl, fun p hp => absurd hp (by simp)⟩ fun i e ρ he hi => by
      obtain ⟨d', ks, s5, s6, pd, rfl, hk, hb⟩ := hi
      have hi : i < (1 + tn).toNat := by
        have := (List.getElem?_eq_some_iff.mp he).1
        rwa [rangeD_len] at this
      obtain ⟨d3, x3, p3, a3, c3, e3⟩ := take_ok (u := most) pd (by omega) (by omega)
      obtain ⟨d4, x4, p4, a4, c4, e4⟩ := take_ok (u := most) p3 (by omega) (by omega)
      obtain ⟨d5, x5, p5, a5, c5, e5⟩ := take_ok (u := most) p4 (by omega) (by omega)
      obtain ⟨y, ey, hy⟩ := pick4 (a := 1 + x3) (b := 1) (c := 1 + x4) (d := 1 + x5) w0 w1
      have hz : ks.length < sizeLine := by rw [sizeLine_eq]; omega
      refine ⟨[.io d', .sh (.int many), .sh (.int most), .sh (.int wy), .ow (.lst (ks.map kD)), .sh e, s6], [.io d5, .sh (.int many), .sh (.int most), .sh (.int wy), .ow (.lst ((ks ++ [(1 + x3, y)]).map kD)), .sh e, .sh (.int (1 + x3))], by simp, ?_, d5, ks ++ [(1 + x3, y)], .sh e, .sh (.int (1 + x3)), p5, rfl, by simp; omega, fun p hp => ?_⟩
      · simp [e3, e4, e5, ey, z2, z4, hz, kD]
      · rcases List.mem_append.mp hp with hp | hp
        · exact hb p hp
        · have ep := List.mem_singleton.mp hp
          subst ep
          refine ⟨by omega, by omega, ?_, ?_⟩
          · show 1 ≤ y
            omega
          · show y ≤ most
            omega
  obtain ⟨d6, ks, s5, s6, p6, rfl, hk, hb⟩ := I'
  have hkl : ks.length = (1 + tn).toNat := by rw [hk, rangeD_len]; omega
  obtain ⟨qs, eq, hm, pw, sub⟩ := sset_pairs (ks := ks) (by omega) fun p hp => by have := hb p hp; omega
  have rg := rg1 (f := eBin catO (eC (.int 1)) (eCall m_law_take [] [.o 0, .e (eVar 1)])) (ρ := [.io d1, .sh (.int many), .sh (.int most), .sh (.int wy), .ow (.lst []), .no, .no]) (ρ' := [.io d2, .sh (.int many), .sh (.int most), .sh (.int wy), .ow (.lst []), .no, .no]) (s := .sh (.int (1 + tn))) (n := 1 + tn) (by simp [e2]) rfl (by omega) (by omega)
  refine ⟨d6, qs, p6, ?_, ?_, fun p hp => hb p ((hm p).mp hp), pw, ?_⟩
  · intro hq
    subst hq
    have : ks ≠ [] := by
      intro e
      subst e
      simp at hkl
      omega
    obtain ⟨p, r, rfl⟩ := List.exists_cons_of_ne_nil this
    exact absurd ((hm p).mpr List.mem_cons_self) (by simp)
  · omega
  · simp [m_law_kinds, mb_law_kinds, e1, rg, lp, eq, z0]
theorem lot_ok {d : D} (h : Pot d) :
    ∃ (d' : D) (ks : List (Int × Int)), Pot d' ∧ ks ≠ [] ∧ ks.length ≤ 6 ∧ (∀ p ∈ ks, 1 ≤ p.1 ∧ p.1 ≤ 30 ∧ 1 ≤ p.2 ∧ p.2 ≤ 30) ∧ ks.Pairwise (fun p q => p.1 < q.1 ∨ (p.1 = q.1 ∧ p.2 < q.2)) ∧ m_law_lot [.io d] = some (.sh (.tup (ks.map kD)), [.io d']) := by
  obtain ⟨d1, x, p1, a0, a1, e1⟩ := take_ok (u := 5) h (by decide) (by decide)
  by_cases c : x = 0
  · obtain ⟨d2, ks, p2, k1, k2, k3, k4, e2⟩ := kinds_ok (many := 6) (most := 30) p1 (by decide) (by decide) (by decide) (by decide)
    exact ⟨d2, ks, p2, k1, by omega, k3, k4, by simp [m_law_lot, mb_law_lot, e1, c, e2]⟩
  · have z3 : (3 : Nat) ≤ sizeLine := by rw [sizeLine_eq]; decide
    obtain ⟨d2, y, p2, hy, e2⟩ := of_ok (ds := [.int 4, .int 8, .int 12]) p1 (by simp) z3
    have : ∃ z : Int, y = .int z ∧ 4 ≤ z ∧ z ≤ 12 := by
      simp at hy
      rcases hy with rfl | rfl | rfl <;> exact ⟨_, rfl, by decide, by decide⟩
    obtain ⟨z, rfl, z1, z2⟩ := this
    obtain ⟨d3, ks, p3, k1, k2, k3, k4, e3⟩ := kinds_ok (many := 3) (most := z) p2 (by decide) (by decide) (by omega) (by omega)
    exact ⟨d3, ks, p3, k1, by omega, fun p hp => by have := k3 p hp; omega, k4, by simp [m_law_lot, mb_law_lot, e1, c, e2, z3, e3]⟩
/-- how far each load goes -/
theorem rich_ok {ks : List (Int × Int)} {cap : Int} (c0 : 0 ≤ cap) (c1 : cap ≤ 100000) (hz : ks.length ≤ 1000) (hb : ∀ p ∈ ks, 1 ≤ p.1 ∧ p.1 ≤ 30 ∧ 1 ≤ p.2) :
    ∃ vs : List Int, vs.length = cap.toNat + 1 ∧ (∀ (i : Nat) (v : Int), vs[i]? = some v → 0 ≤ v ∧ v ≤ 30 * i) ∧ m_law_rich [.sh (.lst (ks.map kD)), .sh (.int cap)] = some (.ow (.lst (vs.map .int)), [.no, .no]) := by
  have z1 : (1 : Nat) ≤ sizeLine := by rw [sizeLine_eq]; decide
  obtain ⟨ρ', lp, I'⟩ := loop_nx (t := .n 3) (b := (sApp 2 (eFn (shO maxD) [(eBin catO (eLst [(eIxV 2 (eNeg (eC (.int 1))))]) (eLc [4, 5] (.t [(.n 4), (.n 5)]) (iSeq (eVar 0)) (tOf (eBin leO (eVar 5) (eVar 3))) (eBin catO (eIxV 2 (eBin subO (eVar 3) (eVar 5))) (eVar 4))))])))
    (I := fun k ρ => ∃ (vs : List Int) (s3 : Sl), ρ = [.sh (.lst (ks.map kD)), .sh (.int cap), .ow (.lst (vs.map .int)), s3, .no, .no] ∧ vs.length = k + 1 ∧ ∀ (i : Nat) (v : Int), vs[i]? = some v → 0 ≤ v ∧ v ≤ 30 * i)
    (xs := rangeD 1 cap.toNat) (k := 0) (ρ := [.sh (.lst (ks.map kD)), .sh (.int cap), .ow (.lst [.int 0]), .no, .no, .no])
    ⟨[0], .no, rfl, rfl, fun i v hv => by
      cases i with
      | zero => cases hv; decide
      | succ i => simp at hv⟩ fun i e ρ he hi => by
      obtain ⟨vs, s3, rfl, hl, hv⟩ := hi
      obtain ⟨h1, rfl⟩ := rangeD_get he
      have hne : vs ≠ [] := by intro z; subst z; simp at hl
      have lk : ∀ p ∈ ks, p.2 ≤ 1 + (i : Int) → ∃ v, vs[(1 + (i : Int) - p.2).toNat]? = some v ∧ 0 ≤ v ∧ v ≤ 30 * (i : Int) := fun p hp h2 => by
        have h3 := hb p hp
        have h4 : (1 + (i : Int) - p.2).toNat < vs.length := by omega
        refine ⟨_, List.getElem?_eq_getElem h4, ?_⟩
        have := hv _ _ (List.getElem?_eq_getElem h4)
        omega
      have comp := eLc_over kD (as := ks) (vs := [4, 5]) (t := .t [(.n 4), (.n 5)]) (src := iSeq (eVar 0)) (c := tOf (eBin leO (eVar 5) (eVar 3))) (f := eBin catO (eIxV 2 (eBin subO (eVar 3) (eVar 5))) (eVar 4))
        (fun p => decide (p.2 ≤ 1 + (i : Int))) (fun p => .int ((vs.getD (1 + (i : Int) - p.2).toNat 0) + p.1)) (ρ := [.sh (.lst (ks.map kD)), .sh (.int cap), .ow (.lst (vs.map .int)), .sh (.int (1 + (i : Int))), .no, .no])
        (ρ0 := [.sh (.lst (ks.map kD)), .sh (.int cap), .ow (.lst (vs.map .int)), .sh (.int (1 + (i : Int))), .no, .no]) (by simp) (by simp) (by rw [sizeLine_eq]; omega) fun p hp => by
          refine ⟨[.sh (.lst (ks.map kD)), .sh (.int cap), .ow (.lst (vs.map .int)), .sh (.int (1 + (i : Int))), .sh (.int p.1), .sh (.int p.2)], [.sh (.lst (ks.map kD)), .sh (.int cap), .ow (.lst (vs.map .int)), .sh (.int (1 + (i : Int))), .sh (.int p.1), .sh (.int p.2)], by simp [kD], by simp, fun h => ?_, fun h => by simp⟩
          obtain ⟨v, e1, _, _⟩ := lk p hp (of_decide_eq_true h)
          have e2 := ix_int (ns := vs) (i := 1 + (i : Int) - p.2) (by have := of_decide_eq_true h; omega) e1
          refine ⟨.sh (.int (vs.getD (1 + (i : Int) - p.2).toNat 0 + p.1)), [.sh (.lst (ks.map kD)), .sh (.int cap), .ow (.lst (vs.map .int)), .sh (.int (1 + (i : Int))), .sh (.int p.1), .sh (.int p.2)], ?_, rfl, by simp⟩
          have e3 : vs.getD (1 + (i : Int) - p.2).toNat 0 = v := by rw [List.getD_eq_getElem?_getD, e1]; rfl
          rw [e3]
          simp [e2]
      have em : (ks.filter fun p => decide (p.2 ≤ 1 + (i : Int))).map (fun p => D.int ((vs.getD (1 + (i : Int) - p.2).toNat 0) + p.1)) = ((ks.filter fun p => decide (p.2 ≤ 1 + (i : Int))).map fun p => (vs.getD (1 + (i : Int) - p.2).toNat 0) + p.1).map .int := by rw [List.map_map]; rfl
      rw [em] at comp
      generalize hys : ((ks.filter fun p => decide (p.2 ≤ 1 + (i : Int))).map fun p => (vs.getD (1 + (i : Int) - p.2).toNat 0) + p.1) = ys at comp
      have hy : ∀ y ∈ ys, 0 ≤ y ∧ y ≤ 30 * (i : Int) + 30 := fun y hy => by
        rw [← hys] at hy
        obtain ⟨p, hp, rfl⟩ := List.mem_map.mp hy
        obtain ⟨hp, hc⟩ := List.mem_filter.mp hp
        obtain ⟨v, e1, v0, v1⟩ := lk p hp (of_decide_eq_true hc)
        have e3 : vs.getD (1 + (i : Int) - p.2).toNat 0 = v := by rw [List.getD_eq_getElem?_getD, e1]; rfl
        have := hb p hp
        rw [e3]
        omega
      have hyl : ys.length ≤ 1000 := by
        rw [← hys, List.length_map]
        exact Nat.le_trans (List.length_filter_le _ _) hz
      have hcat := cat_l (a := [.int (vs.getLast hne)]) (b := ys.map .int) (by rw [sizeLine_eq]; simp; omega)
      have hmx : maxD [.lst (.int (vs.getLast hne) :: ys.map .int)] = some (.int (maxI (vs.getLast hne :: ys))) := max_l (ns := vs.getLast hne :: ys) (by simp)
      have hlast : 0 ≤ vs.getLast hne ∧ vs.getLast hne ≤ 30 * (i : Int) := by
        have := hv (vs.length - 1) (vs.getLast hne) (by rw [List.getLast_eq_getElem]; exact List.getElem?_eq_getElem _)
        omega
      have hM : 0 ≤ maxI (vs.getLast hne :: ys) ∧ maxI (vs.getLast hne :: ys) ≤ 30 * (i : Int) + 30 := by
        rcases List.mem_cons.mp (maxI_mem (ns := vs.getLast hne :: ys) (by simp)) with e | e
        · rw [e]; omega
        · exact hy _ e
      have hsz : vs.length < sizeLine := by rw [sizeLine_eq]; omega
      refine ⟨[.sh (.lst (ks.map kD)), .sh (.int cap), .ow (.lst (vs.map .int)), .sh (.int (1 + (i : Int))), .no, .no], [.sh (.lst (ks.map kD)), .sh (.int cap), .ow (.lst ((vs ++ [maxI (vs.getLast hne :: ys)]).map .int)), .sh (.int (1 + (i : Int))), .no, .no], by simp, ?_, _, _, rfl, by simp; omega, fun j v hj => ?_⟩
      · have ixl := ix_lastI hne
        simp [ixl, z1, comp, hcat, hsz, hmx]
      · by_cases hj2 : j < vs.length
        · rw [List.getElem?_append_left hj2] at hj
          exact hv j v hj
        · rw [List.getElem?_append_right (by omega)] at hj
          have : j - vs.length = 0 := by
            have := (List.getElem?_eq_some_iff.mp hj).1
            simp at this
            omega
          rw [this] at hj
          have e : maxI (vs.getLast hne :: ys) = v := by simpa using hj
          rw [← e]
          omega
  obtain ⟨vs, s3, rfl, hl, hv⟩ := I'
  rw [rangeD_len] at hl
  refine ⟨vs, by omega, hv, ?_⟩
  have rg := rg2 (f := eC (.int 1)) (g := eBin catO (eVar 1) (eC (.int 1))) (ρ := [.sh (.lst (ks.map kD)), .sh (.int cap), .ow (.lst [.int 0]), .no, .no, .no]) (a := 1) (b := cap + 1) rfl rfl (by simp; exact ⟨rfl, rfl⟩) rfl (by decide) (by decide) (by omega) (by omega)
  rw [show cap + 1 - 1 = cap by omega] at rg
  simp [m_law_rich, mb_law_rich, z1, rg, lp]
/-- which totals are met -/
theorem yes_ok {ks : List (Int × Int)} {N : Int} (c0 : 0 ≤ N) (c1 : N ≤ 100000) (hz : ks.length ≤ 1000) (hb : ∀ p ∈ ks, 1 ≤ p.1) :
    ∃ bs : List Bool, bs.length = N.toNat + 1 ∧ bs[0]? = some true ∧ (∀ p ∈ ks, ∀ i : Nat, bs[i]? = some true → (i : Int) + p.1 ≤ N → bs[i + p.1.toNat]? = some true) ∧ m_law_yes [.sh (.lst (ks.map kD)), .sh (.int N)] = some (.ow (.lst (bs.map .bl)), [.no, .no]) := by
  have z1 : (1 : Nat) ≤ sizeLine := by rw [sizeLine_eq]; decide
  obtain ⟨ρ', lp, I'⟩ := loop_nx (t := .n 3) (b := (sApp 2 (eFn (shO anyD) [(eLc [4, 5] (.t [(.n 4), (.n 5)]) (iSeq (eVar 0)) tTrue ((eAnd (eBin geO (eVar 3) (eVar 4)) (eIxV 2 (eBin subO (eVar 3) (eVar 4))))))])))
    (I := fun k ρ => ∃ (bs : List Bool) (s3 : Sl), ρ = [.sh (.lst (ks.map kD)), .sh (.int N), .ow (.lst (bs.map .bl)), s3, .no, .no] ∧ bs.length = k + 1 ∧ bs[0]? = some true ∧ ∀ p ∈ ks, ∀ i : Nat, bs[i]? = some true → (i : Int) + p.1 ≤ k → bs[i + p.1.toNat]? = some true)
    (xs := rangeD 1 N.toNat) (k := 0) (ρ := [.sh (.lst (ks.map kD)), .sh (.int N), .ow (.lst [.bl true]), .no, .no, .no])
    ⟨[true], .no, rfl, rfl, rfl, fun p hp i hi hk => by have := hb p hp; omega⟩ fun i e ρ he hi => by
      obtain ⟨bs, s3, rfl, hl, h0, hc⟩ := hi
      obtain ⟨h1, rfl⟩ := rangeD_get he
      have comp := eLc_over kD (as := ks) (vs := [4, 5]) (t := .t [(.n 4), (.n 5)]) (src := iSeq (eVar 0)) (c := tTrue) (f := (eAnd (eBin geO (eVar 3) (eVar 4)) (eIxV 2 (eBin subO (eVar 3) (eVar 4)))))
        (fun p => true) (fun p => .bl (decide (p.1 ≤ 1 + (i : Int)) && bs.getD (1 + (i : Int) - p.1).toNat false)) (ρ := [.sh (.lst (ks.map kD)), .sh (.int N), .ow (.lst (bs.map .bl)), .sh (.int (1 + (i : Int))), .no, .no])
        (ρ0 := [.sh (.lst (ks.map kD)), .sh (.int N), .ow (.lst (bs.map .bl)), .sh (.int (1 + (i : Int))), .no, .no]) (by simp) (by simp) (by rw [sizeLine_eq]; omega) fun p hp => by
          refine ⟨[.sh (.lst (ks.map kD)), .sh (.int N), .ow (.lst (bs.map .bl)), .sh (.int (1 + (i : Int))), .sh (.int p.1), .sh (.int p.2)], [.sh (.lst (ks.map kD)), .sh (.int N), .ow (.lst (bs.map .bl)), .sh (.int (1 + (i : Int))), .sh (.int p.1), .sh (.int p.2)], by simp [kD], by simp, fun h => ?_, fun h => by cases h⟩
          refine ⟨.sh (.bl (decide (p.1 ≤ 1 + (i : Int)) && bs.getD (1 + (i : Int) - p.1).toNat false)), [.sh (.lst (ks.map kD)), .sh (.int N), .ow (.lst (bs.map .bl)), .sh (.int (1 + (i : Int))), .sh (.int p.1), .sh (.int p.2)], ?_, rfl, by simp⟩
          by_cases c : p.1 ≤ 1 + (i : Int)
          · have hp1 := hb p hp
            have lt : (1 + (i : Int) - p.1).toNat < bs.length := by omega
            have e2 := ix_map (f := D.bl) (as := bs) (i := 1 + (i : Int) - p.1) (by omega) (List.getElem?_eq_getElem lt)
            have e3 : bs.getD (1 + (i : Int) - p.1).toNat false = bs[(1 + (i : Int) - p.1).toNat] := by rw [List.getD_eq_getElem?_getD, List.getElem?_eq_getElem lt]; rfl
            rw [e3]
            simp [c, e2]
          · simp [c]
      have em : (ks.filter fun _ => true).map (fun p => D.bl (decide (p.1 ≤ 1 + (i : Int)) && bs.getD (1 + (i : Int) - p.1).toNat false)) = (ks.map fun p => (decide (p.1 ≤ 1 + (i : Int)) && bs.getD (1 + (i : Int) - p.1).toNat false)).map .bl := by rw [List.map_map, List.filter_eq_self.mpr (by simp)]; rfl
      rw [em] at comp
      have hsz : bs.length < sizeLine := by rw [sizeLine_eq]; omega
      refine ⟨[.sh (.lst (ks.map kD)), .sh (.int N), .ow (.lst (bs.map .bl)), .sh (.int (1 + (i : Int))), .no, .no], [.sh (.lst (ks.map kD)), .sh (.int N), .ow (.lst ((bs ++ [(ks.map fun p => (decide (p.1 ≤ 1 + (i : Int)) && bs.getD (1 + (i : Int) - p.1).toNat false)).any id]).map .bl)), .sh (.int (1 + (i : Int))), .no, .no], by simp, ?_, _, _, rfl, by simp; omega, ?_, fun p hp j hj hk => ?_⟩
      · generalize (ks.map fun p => (decide (p.1 ≤ 1 + (i : Int)) && bs.getD (1 + (i : Int) - p.1).toNat false)) = ys at comp
        have ha := any_l (bs := ys)
        simp only [sApp_e, eFn_e, evs_cons, comp]
        simp [ha, hsz, -any_l]
      · rw [List.getElem?_append_left (by omega)]; exact h0
      · have hp1 := hb p hp
        by_cases hj2 : j + p.1.toNat < bs.length
        · rw [List.getElem?_append_left (by omega)] at hj
          rw [List.getElem?_append_left hj2]
          exact hc p hp j hj (by omega)
        · have ej : j + p.1.toNat = bs.length := by omega
          rw [List.getElem?_append_left (by omega)] at hj
          rw [List.getElem?_append_right (by omega), ej]
          simp only [Nat.sub_self, List.getElem?_cons_zero]
          congr 1
          rw [List.any_eq_true]
          refine ⟨_, List.mem_map_of_mem hp, ?_⟩
          have e4 : (1 + (i : Int) - p.1).toNat = j := by omega
          have e5 : p.1 ≤ 1 + (i : Int) := by omega
          rw [e4, List.getD_eq_getElem?_getD, hj]
          simp [e5]
  obtain ⟨bs, s3, rfl, hl, h0, hc⟩ := I'
  rw [rangeD_len] at hl hc
  refine ⟨bs, by omega, h0, fun p hp i hi hk => hc p hp i hi (by omega), ?_⟩
  have rg := rg2 (f := eC (.int 1)) (g := eBin catO (eVar 1) (eC (.int 1))) (ρ := [.sh (.lst (ks.map kD)), .sh (.int N), .ow (.lst [.bl true]), .no, .no, .no]) (a := 1) (b := N + 1) rfl rfl (by simp; exact ⟨rfl, rfl⟩) rfl (by decide) (by decide) (by omega) (by omega)
  rw [show N + 1 - 1 = N by omega] at rg
  simp [m_law_yes, mb_law_yes, z1, rg, lp]
/-- multiples of a span are met -/
theorem yes_mult {ks : List (Int × Int)} {N : Int} {bs : List Bool} (h0 : bs[0]? = some true) (hc : ∀ p ∈ ks, ∀ i : Nat, bs[i]? = some true → (i : Int) + p.1 ≤ N → bs[i + p.1.toNat]? = some true) {p : Int × Int} (hp : p ∈ ks) (hp1 : 1 ≤ p.1) : ∀ m : Nat, (m : Int) * p.1 ≤ N → bs[m * p.1.toNat]? = some true
  | 0, _ => by simpa using h0
  | m + 1, h => by
    have e : ((m + 1 : Nat) : Int) * p.1 = (m : Int) * p.1 + p.1 := by
      rw [Int.natCast_add, Int.add_mul]; simp
    rw [e] at h
    have ih := yes_mult h0 hc hp hp1 m (by omega)
    have e2 : ((m * p.1.toNat : Nat) : Int) = (m : Int) * p.1 := by
      rw [Int.natCast_mul, Int.toNat_of_nonneg (by omega)]
    have := hc p hp _ ih (by omega)
    rw [Nat.add_mul, Nat.one_mul]
    exact this
def oD : Option Int → D
  | none => .non
  | some v => .int v
@[simp] theorem oD_non {o : Option Int} : (oD o).isNon = o.isNone := by cases o <;> rfl
/-- the least load of each total -/
theorem slim_ok {ks : List (Int × Int)} {N : Int} (c0 : 0 ≤ N) (c1 : N ≤ 100000) (hz : ks.length ≤ 1000) (hb : ∀ p ∈ ks, 1 ≤ p.1) :
    ∃ vs : List (Option Int), vs.length = N.toNat + 1 ∧ m_law_slim [.sh (.lst (ks.map kD)), .sh (.int N)] = some (.ow (.lst (vs.map oD)), [.no, .no]) := by
  have z0 : (0 : Nat) ≤ sizeLine := Nat.zero_le _
  have z1 : (1 : Nat) ≤ sizeLine := by rw [sizeLine_eq]; decide
  obtain ⟨ρ', lp, I'⟩ := loop_nx (t := .n 3) (b := (sSeq (sSet 4 (eLc [6, 7] (.t [(.n 6), (.n 7)]) (iSeq (eVar 0)) (tOf (eBin leO (eVar 6) (eVar 3))) (eIxV 2 (eBin subO (eVar 3) (eVar 6)))))
      (sSeq (sSet 5 (eLc [6, 7] (.t [(.n 6), (.n 7)]) (iSeq (eVar 0)) (tOf (eBin leO (eVar 6) (eVar 3))) (eVar 7)))
      (sSeq (sSet 4 (eLc [8, 7] (.t [(.n 8), (.n 7)]) (iZp (eVar 4) (eVar 5)) (tOf (eBin notNonO (eVar 8) (eC .non))) (eBin catO (eVar 8) (eVar 7))))
      (sApp 2 (eIf (tOf (eBin neO (eVar 4) (eLst []))) (eFnV minD 4) (eC .non)))))))
    (I := fun k ρ => ∃ (vs : List (Option Int)) (s3 s4 s5 : Sl), ρ = [.sh (.lst (ks.map kD)), .sh (.int N), .ow (.lst (vs.map oD)), s3, s4, s5, .no, .no, .no] ∧ vs.length = k + 1)
    (xs := rangeD 1 N.toNat) (k := 0) (ρ := [.sh (.lst (ks.map kD)), .sh (.int N), .ow (.lst [.int 0]), .no, .no, .no, .no, .no, .no])
    ⟨[some 0], .no, .no, .no, rfl, rfl⟩ fun i e ρ he hi => by
      obtain ⟨vs, s3, s4, s5, rfl, hl⟩ := hi
      obtain ⟨h1, rfl⟩ := rangeD_get he
      generalize hT : (1 + (i : Int)) = T
      have hsz : vs.length < sizeLine := by rw [sizeLine_eq]; omega
      have cA := eLc_over kD (as := ks) (vs := [6, 7]) (t := .t [(.n 6), (.n 7)]) (src := iSeq (eVar 0)) (c := tOf (eBin leO (eVar 6) (eVar 3))) (f := eIxV 2 (eBin subO (eVar 3) (eVar 6)))
        (fun p => decide (p.1 ≤ T)) (fun p => oD (vs.getD (T - p.1).toNat none)) (ρ := [.sh (.lst (ks.map kD)), .sh (.int N), .ow (.lst (vs.map oD)), .sh (.int T), s4, s5, .no, .no, .no])
        (ρ0 := [.sh (.lst (ks.map kD)), .sh (.int N), .ow (.lst (vs.map oD)), .sh (.int T), s4, s5, .no, .no, .no]) (by simp) (by simp) (by rw [sizeLine_eq]; omega) fun p hp => by
          refine ⟨[.sh (.lst (ks.map kD)), .sh (.int N), .ow (.lst (vs.map oD)), .sh (.int T), s4, s5, .sh (.int p.1), .sh (.int p.2), .no], [.sh (.lst (ks.map kD)), .sh (.int N), .ow (.lst (vs.map oD)), .sh (.int T), s4, s5, .sh (.int p.1), .sh (.int p.2), .no], by simp [kD], by simp, fun h => ?_, fun h => by simp⟩
          have hp1 := hb p hp
          have hpt := of_decide_eq_true h
          have lt : (T - p.1).toNat < vs.length := by omega
          have e2 := ix_map (f := oD) (as := vs) (i := T - p.1) (by omega) (List.getElem?_eq_getElem lt)
          have e3 : vs.getD (T - p.1).toNat none = vs[(T - p.1).toNat] := by rw [List.getD_eq_getElem?_getD, List.getElem?_eq_getElem lt]; rfl
          refine ⟨.sh (oD (vs.getD (T - p.1).toNat none)), [.sh (.lst (ks.map kD)), .sh (.int N), .ow (.lst (vs.map oD)), .sh (.int T), s4, s5, .sh (.int p.1), .sh (.int p.2), .no], ?_, rfl, by simp⟩
          rw [e3]
          simp [e2]
      generalize hA : D.lst ((ks.filter fun p => decide (p.1 ≤ T)).map fun p => oD (vs.getD (T - p.1).toNat none)) = dA at cA
      have cB := eLc_over kD (as := ks) (vs := [6, 7]) (t := .t [(.n 6), (.n 7)]) (src := iSeq (eVar 0)) (c := tOf (eBin leO (eVar 6) (eVar 3))) (f := eVar 7)
        (fun p => decide (p.1 ≤ T)) (fun p => .int p.2) (ρ := [.sh (.lst (ks.map kD)), .sh (.int N), .ow (.lst (vs.map oD)), .sh (.int T), .ow dA, s5, .no, .no, .no])
        (ρ0 := [.sh (.lst (ks.map kD)), .sh (.int N), .ow (.lst (vs.map oD)), .sh (.int T), .ow dA, s5, .no, .no, .no]) (by simp) (by simp) (by rw [sizeLine_eq]; omega) fun p hp => by
          exact ⟨[.sh (.lst (ks.map kD)), .sh (.int N), .ow (.lst (vs.map oD)), .sh (.int T), .ow dA, s5, .sh (.int p.1), .sh (.int p.2), .no], [.sh (.lst (ks.map kD)), .sh (.int N), .ow (.lst (vs.map oD)), .sh (.int T), .ow dA, s5, .sh (.int p.1), .sh (.int p.2), .no], by simp [kD], by simp, fun h => ⟨_, _, by simp; exact ⟨rfl, rfl⟩, rfl, by simp⟩, fun h => by simp⟩
      have hzq : (ks.filter fun p => decide (p.1 ≤ T)).length ≤ 1000 := Nat.le_trans (List.length_filter_le _ _) hz
      have cC := eLc_over (fun p : Int × Int => D.tup [oD (vs.getD (T - p.1).toNat none), .int p.2]) (as := ks.filter fun p => decide (p.1 ≤ T)) (vs := [8, 7]) (t := .t [(.n 8), (.n 7)]) (src := iZp (eVar 4) (eVar 5)) (c := tOf (eBin notNonO (eVar 8) (eC .non))) (f := eBin catO (eVar 8) (eVar 7))
        (fun p => (vs.getD (T - p.1).toNat none).isSome) (fun p => .int ((vs.getD (T - p.1).toNat none).getD 0 + p.2))
        (ρ := [.sh (.lst (ks.map kD)), .sh (.int N), .ow (.lst (vs.map oD)), .sh (.int T), .ow dA, .ow (.lst ((ks.filter fun p => decide (p.1 ≤ T)).map fun p => D.int p.2)), .no, .no, .no])
        (ρ0 := [.sh (.lst (ks.map kD)), .sh (.int N), .ow (.lst (vs.map oD)), .sh (.int T), .sh dA, .sh (.lst ((ks.filter fun p => decide (p.1 ≤ T)).map fun p => D.int p.2)), .no, .no, .no]) (by simp [← hA, pairD_map]) (by simp) (by rw [sizeLine_eq]; omega) fun p hp => by
          cases eo : vs.getD (T - p.1).toNat none with
          | none => exact ⟨[.sh (.lst (ks.map kD)), .sh (.int N), .ow (.lst (vs.map oD)), .sh (.int T), .sh dA, .sh (.lst ((ks.filter fun p => decide (p.1 ≤ T)).map fun p => D.int p.2)), .no, .sh (.int p.2), .sh .non], _, by simp [oD], by simp; rfl, fun h => by simp at h, fun h => by simp⟩
          | some v => exact ⟨[.sh (.lst (ks.map kD)), .sh (.int N), .ow (.lst (vs.map oD)), .sh (.int T), .sh dA, .sh (.lst ((ks.filter fun p => decide (p.1 ≤ T)).map fun p => D.int p.2)), .no, .sh (.int p.2), .sh (.int v)], _, by simp [oD], by simp; rfl, fun h => ⟨_, _, by simp; exact ⟨rfl, rfl⟩, by simp, by simp⟩, fun h => by simp at h⟩
      have em : ((ks.filter fun p => decide (p.1 ≤ T)).filter fun p => (vs.getD (T - p.1).toNat none).isSome).map (fun p => D.int ((vs.getD (T - p.1).toNat none).getD 0 + p.2)) = (((ks.filter fun p => decide (p.1 ≤ T)).filter fun p => (vs.getD (T - p.1).toNat none).isSome).map fun p => (vs.getD (T - p.1).toNat none).getD 0 + p.2).map .int := by rw [List.map_map]; rfl
      rw [em] at cC
      generalize (((ks.filter fun p => decide (p.1 ≤ T)).filter fun p => (vs.getD (T - p.1).toNat none).isSome).map fun p => (vs.getD (T - p.1).toNat none).getD 0 + p.2) = rs at cC
      generalize ((ks.filter fun p => decide (p.1 ≤ T)).map fun p => D.int p.2) = bs at cB cC
      have hne := ne_nil (n := 0) (ds := rs.map .int) (fun d hd => by obtain ⟨x, _, rfl⟩ := List.mem_map.mp hd; exact nice_int x) (by decide)
      refine ⟨[.sh (.lst (ks.map kD)), .sh (.int N), .ow (.lst (vs.map oD)), .sh (.int T), s4, s5, .no, .no, .no], [.sh (.lst (ks.map kD)), .sh (.int N), .ow (.lst ((vs ++ [if rs = [] then none else some (minI rs)]).map oD)), .sh (.int T), .sh (.lst (rs.map .int)), .sh (.lst bs), .no, .no, .no], by simp, ?_, _, _, _, _, rfl, by simp; omega⟩
      by_cases c : rs = []
      · subst c
        simp at hne
        simp [cA, cB, cC, z0, hne, hsz, oD]
      · have hm := min_l c
        simp only [List.isEmpty_map] at hne
        have hc : rs.isEmpty = false := by simpa using c
        rw [hc] at hne
        simp [cA, cB, cC, z0, hne, hsz, oD, hm, c]
  obtain ⟨vs, s3, s4, s5, rfl, hl⟩ := I'
  rw [rangeD_len] at hl
  refine ⟨vs, by omega, ?_⟩
  have rg := rg2 (f := eC (.int 1)) (g := eBin catO (eVar 1) (eC (.int 1))) (ρ := [.sh (.lst (ks.map kD)), .sh (.int N), .ow (.lst [.int 0]), .no, .no, .no, .no, .no, .no]) (a := 1) (b := N + 1) rfl rfl (by simp; exact ⟨rfl, rfl⟩) rfl (by decide) (by decide) (by omega) (by omega)
  rw [show N + 1 - 1 = N by omega] at rg
  simp [m_law_slim, mb_law_slim, z1, rg, lp]
def nD (n : Nat) : D := .int n
def FigOk (ks : List (Int × Int)) (fg : D) (n : Nat) : Prop := n < ks.length ∧ (fg = .tup [.str "long"] ∨ (∃ a b : Int, 0 ≤ a ∧ a ≤ 10000 ∧ 0 ≤ b ∧ b ≤ 10000 ∧ fg = .tup [.str "short end", .int a, .int b]) ∨
  ∃ (a b c : Int) (f : Nat), 0 ≤ a ∧ a ≤ 10000 ∧ 0 ≤ b ∧ b ≤ 10000 ∧ f < ks.length ∧ fg = .tup [.str "caught up", .int a, .int b, .int c, .int f])
def FormOk (ks : List (Int × Int)) (r : D) : Prop := r = .non ∨ ∃ fg n, r = .tup [fg, .int (n : Nat)] ∧ FigOk ks fg n
theorem mem_zipIdx {α : Type} {as : List α} {a : α} {n : Nat} (h : (a, n) ∈ as.zipIdx) : as[n]? = some a := by
  have := List.mem_zipIdx_iff_getElem?.mp h
  simpa using this
def rD (r : Int × Nat) : D := .tup [.int r.1, nD r.2]

theorem drawn_ok {d : D} {ks : List (Int × Int)} {cap : Int} (h : Pot d) (hk : ks.length ≤ 6) (hb : ∀ p ∈ ks, 1 ≤ p.1 ∧ p.1 ≤ 30 ∧ 1 ≤ p.2 ∧ p.2 ≤ 30) (c0 : 0 ≤ cap) (c1 : cap ≤ 30) :
    ∃ d' r, Pot d' ∧ FormOk ks r ∧ m_law_drawn_form [.io d, .sh (.tup (ks.map kD)), .sh (.int cap)] = some (.sh r, [.io d', .no, .no]) := by
  suffices hs : Leads mb_law_drawn_form ([.io d, .sh (.tup (ks.map kD)), .sh (.int cap)] ++ List.replicate 20 .no) (fun r => ∃ d' v ρ, Pot d' ∧ FormOk ks v ∧ r = .rt (.sh v) ρ ∧ takeN 3 ρ = [.io d', .no, .no]) by
    obtain ⟨r, ⟨d', v, ρ, h2, h3, rfl, h4⟩, h5⟩ := leads_run (n := 3) rfl hs
    exact ⟨d', v, h2, h3, h5.trans (by rw [out_rt, h4])⟩
  have z1 : (1 : Nat) ≤ sizeLine := by rw [sizeLine_eq]; decide
  have z2 : (2 : Nat) ≤ sizeLine := by rw [sizeLine_eq]; decide
  have z3 : (3 : Nat) ≤ sizeLine := by rw [sizeLine_eq]; decide
  have z5 : (5 : Nat) ≤ sizeLine := by rw [sizeLine_eq]; decide
  have z0 : (0 : Nat) ≤ sizeLine := Nat.zero_le _
  have ltN : ∀ (n : Nat) (k : Int), ltO (nD n) (.int k) = some (.sh (.bl (decide ((n : Int) < k)))) := fun _ _ => rfl
  have leN : ∀ (k : Int) (n : Nat), leO (.int k) (nD n) = some (.sh (.bl (decide (k ≤ (n : Int))))) := fun _ _ => rfl
  generalize eT : D.tup (ks.map kD) = T
  have ixT : ∀ {n : Nat} {p : Int × Int}, ks[n]? = some p → dIx T (nD n) = some (.sh (kD p)) := fun {n p} h => by
    rw [← eT]
    exact ix_t (by rw [List.getElem?_map, h]; rfl)
  unfold mb_law_drawn_form
  simp only [List.replicate, List.cons_append, List.nil_append]
  -- free
  have cF := eLc_over (fun q : (Int × Int) × Nat => D.tup [.int (q.2 : Nat), kD q.1]) (as := ks.zipIdx) (vs := [19, 20]) (t := .t [(.n 19), (.n 20)]) (src := iEnu (eVar 1)) (c := tOf (eBin leO (eIxV 20 (eC (.int 1))) (eVar 2))) (f := eVar 19)
    (fun q => decide (q.1.2 ≤ cap)) (fun q => nD q.2) (ρ := [.io d, .sh T, .sh (.int cap), .no, .no, .no, .no, .no, .no, .no, .no, .no, .no, .no, .no, .no, .no, .no, .no, .no, .no, .no, .no]) (ρ0 := [.io d, .sh T, .sh (.int cap), .no, .no, .no, .no, .no, .no, .no, .no, .no, .no, .no, .no, .no, .no, .no, .no, .no, .no, .no, .no]) (by rw [← eT]; simp [numD_map]) (by simp) (by rw [sizeLine_eq]; simp; omega) fun q hq => by
      exact ⟨[.io d, .sh T, .sh (.int cap), .no, .no, .no, .no, .no, .no, .no, .no, .no, .no, .no, .no, .no, .no, .no, .no, .sh (.int (q.2 : Nat)), .sh (kD q.1), .no, .no], _, by simp, by simp [kD]; rfl, fun h => ⟨_, _, by simp; exact ⟨rfl, rfl⟩, rfl, by simp⟩, fun h => by simp⟩
  generalize hfr : (ks.zipIdx.filter fun q => decide (q.1.2 ≤ cap)).map (fun q => q.2) = fr
  have efr : (ks.zipIdx.filter fun q => decide (q.1.2 ≤ cap)).map (fun q => nD q.2) = fr.map nD := by rw [← hfr, List.map_map]; rfl
  rw [efr] at cF
  have hfree : ∀ n ∈ fr, ∃ p, ks[n]? = some p ∧ p.2 ≤ cap := fun n hn => by
    rw [← hfr] at hn
    obtain ⟨⟨p, m⟩, hq, rfl⟩ := List.mem_map.mp hn
    obtain ⟨h1, h2⟩ := List.mem_filter.mp hq
    exact ⟨p, mem_zipIdx h1, of_decide_eq_true h2⟩
  have hfl : fr.length ≤ 6 := by
    rw [← hfr, List.length_map]
    exact Nat.le_trans (List.length_filter_le _ _) (by simpa using hk)
  refine leads_nx (ρ' := [.io d, .sh T, .sh (.int cap), .ow (.lst (fr.map nD)), .no, .no, .no, .no, .no, .no, .no, .no, .no, .no, .no, .no, .no, .no, .no, .no, .no, .no, .no]) (by simp [cF]) ?_
  have eq3 := eq_nil (n := 0) (ds := fr.map nD) (fun d hd => by obtain ⟨x, _, rfl⟩ := List.mem_map.mp hd; exact nice_int _) (by decide)
  by_cases cf : fr = []
  · subst cf
    simp at eq3
    exact leads_rt (s := .sh .non) (ρ' := [.io d, .sh T, .sh (.int cap), .sh (.lst []), .no, .no, .no, .no, .no, .no, .no, .no, .no, .no, .no, .no, .no, .no, .no, .no, .no, .no, .no]) (by simp [z0, eq3]) ⟨d, .non, _, h, .inl rfl, rfl, by simp⟩
  have ef : (fr.map nD).isEmpty = false := by cases fr with | nil => exact absurd rfl cf | cons a r => rfl
  rw [ef] at eq3
  refine leads_nx (ρ' := [.io d, .sh T, .sh (.int cap), .sh (.lst (fr.map nD)), .no, .no, .no, .no, .no, .no, .no, .no, .no, .no, .no, .no, .no, .no, .no, .no, .no, .no, .no]) (by simp [z0, eq3]) ?_
  -- pushed, some
  obtain ⟨d1, y, p1, hy, e1⟩ := of_ok (ds := fr.map nD) h (by simpa using cf) (by rw [sizeLine_eq]; simp; omega)
  obtain ⟨n0, hn0, rfl⟩ := List.mem_map.mp hy
  generalize hsm : fr.map (fun n => ks.getD n (1, 1)) = sm
  have hget : ∀ n ∈ fr, ks[n]? = some (ks.getD n (1, 1)) := fun n hn => by
    obtain ⟨p, h1, _⟩ := hfree n hn
    rw [List.getD_eq_getElem?_getD, h1]; rfl
  have cS := eLc_over nD (as := fr) (vs := [19]) (t := .n 19) (src := iSeq (eVar 3)) (c := tTrue) (f := eIxV 1 (eVar 19)) (fun _ => true) (fun n => kD (ks.getD n (1, 1)))
    (ρ := [.io d1, .sh T, .sh (.int cap), .sh (.lst (fr.map nD)), .no, .no, .no, .no, .no, .no, .no, .no, .no, .no, .no, .no, .no, .no, .no, .no, .no, .no, .no]) (ρ0 := [.io d1, .sh T, .sh (.int cap), .sh (.lst (fr.map nD)), .no, .no, .no, .no, .no, .no, .no, .no, .no, .no, .no, .no, .no, .no, .no, .no, .no, .no, .no]) (by simp) (by simp) (by rw [sizeLine_eq]; omega) fun n hn => by
      have ix := ixT (hget n hn)
      exact ⟨[.io d1, .sh T, .sh (.int cap), .sh (.lst (fr.map nD)), .no, .no, .no, .no, .no, .no, .no, .no, .no, .no, .no, .no, .no, .no, .no, .sh (nD n), .no, .no, .no], _, by simp, by simp; rfl, fun _ => ⟨_, _, by simp [ix]; exact ⟨rfl, rfl⟩, rfl, by simp⟩, fun h => by cases h⟩
  have esm : (fr.filter fun _ => true).map (fun n => kD (ks.getD n (1, 1))) = sm.map kD := by rw [← hsm, List.map_map, List.filter_eq_self.mpr (by simp)]; rfl
  rw [esm] at cS
  have hsb : ∀ p ∈ sm, 1 ≤ p.1 ∧ p.1 ≤ 30 ∧ 1 ≤ p.2 := fun p hp => by
    rw [← hsm] at hp
    obtain ⟨n, hn, rfl⟩ := List.mem_map.mp hp
    have := hb _ (List.mem_of_getElem? (hget n hn))
    omega
  have hsl : sm.length ≤ 6 := by rw [← hsm, List.length_map]; exact hfl
  refine leads_nx (ρ' := [.io d1, .sh T, .sh (.int cap), .sh (.lst (fr.map nD)), .sh (nD n0), .ow (.lst (sm.map kD)), .no, .no, .no, .no, .no, .no, .no, .no, .no, .no, .no, .no, .no, .no, .no, .no, .no]) (by simp [e1, cS]) ?_
  have g0 := hget n0 hn0
  have mem0 : ks.getD n0 (1, 1) ∈ sm := by rw [← hsm]; exact List.mem_map_of_mem hn0
  generalize hpp : ks.getD n0 (1, 1) = pp at g0 mem0
  obtain ⟨sp, hv⟩ := pp
  have ix0 := ixT g0
  have b0 := hb _ (List.mem_of_getElem? g0)
  refine leads_nx (ρ' := [.io d1, .sh T, .sh (.int cap), .sh (.lst (fr.map nD)), .sh (nD n0), .ow (.lst (sm.map kD)), .sh (.int sp), .sh (.int hv), .no, .no, .no, .no, .no, .no, .no, .no, .no, .no, .no, .no, .no, .no, .no]) (by simp [ix0, kD]) ?_
  -- many
  obtain ⟨rv, rl, rb, er⟩ := rich_ok (ks := sm) (cap := cap) c0 (by omega) (by omega) hsb
  have rlt : cap.toNat < rv.length := by omega
  have ixr := ix_int (ns := rv) (i := cap) c0 (List.getElem?_eq_getElem rlt)
  have rbd := rb _ _ (List.getElem?_eq_getElem rlt)
  generalize hM : rv[cap.toNat] + 2 = M
  have hM2 : 2 ≤ M ∧ M ≤ 902 := by omega
  refine leads_nx (ρ' := [.io d1, .sh T, .sh (.int cap), .sh (.lst (fr.map nD)), .sh (nD n0), .sh (.lst (sm.map kD)), .sh (.int sp), .sh (.int hv), .sh (.int M), .no, .no, .no, .no, .no, .no, .no, .no, .no, .no, .no, .no, .no, .no]) (by simp [er, ixr, hM]) ?_
  -- sums
  obtain ⟨bs, bl, b00, bc, ey⟩ := yes_ok (ks := sm) (N := 2 * M + 60) (by omega) (by omega) (by omega) (fun p hp => (hsb p hp).1)
  have s2 : small (2 : Int) := small_nat (n := 62) (by decide) (by decide) (by decide)
  have sM : small M := small_nat (n := 62) (by omega) (by omega) (by decide)
  have cY := eLc_over (fun q : Bool × Nat => D.tup [.int (q.2 : Nat), .bl q.1]) (as := bs.zipIdx) (vs := [21, 22]) (t := .t [(.n 21), (.n 22)]) (src := iEnu (eCall m_law_yes [] [.e (eVar 5), .e (eBin catO (eBin mulO (eC (.int 2)) (eVar 8)) (eC (.int 60)))])) (c := tOf (eVar 22)) (f := eVar 21)
    (fun q => q.1) (fun q => nD q.2) (ρ := [.io d1, .sh T, .sh (.int cap), .sh (.lst (fr.map nD)), .sh (nD n0), .sh (.lst (sm.map kD)), .sh (.int sp), .sh (.int hv), .sh (.int M), .no, .no, .no, .no, .no, .no, .no, .no, .no, .no, .no, .no, .no, .no]) (ρ0 := [.io d1, .sh T, .sh (.int cap), .sh (.lst (fr.map nD)), .sh (nD n0), .sh (.lst (sm.map kD)), .sh (.int sp), .sh (.int hv), .sh (.int M), .no, .no, .no, .no, .no, .no, .no, .no, .no, .no, .no, .no, .no, .no]) (by simp [mul_i s2 sM, ey, numD_map]) (by simp) (by rw [sizeLine_eq]; simp; omega) fun q hq => by
      exact ⟨[.io d1, .sh T, .sh (.int cap), .sh (.lst (fr.map nD)), .sh (nD n0), .sh (.lst (sm.map kD)), .sh (.int sp), .sh (.int hv), .sh (.int M), .no, .no, .no, .no, .no, .no, .no, .no, .no, .no, .no, .no, .sh (.int (q.2 : Nat)), .sh (.bl q.1)], _, by simp, by simp; rfl, fun h => ⟨_, _, by simp; exact ⟨rfl, rfl⟩, rfl, by simp⟩, fun h => by simp⟩
  generalize hsu : (bs.zipIdx.filter fun q => q.1).map (fun q => q.2) = sums
  have esu : (bs.zipIdx.filter fun q => q.1).map (fun q => nD q.2) = sums.map nD := by rw [← hsu, List.map_map]; rfl
  rw [esu] at cY
  have hsums : ∀ n, n ∈ sums ↔ bs[n]? = some true := fun n => by
    rw [← hsu]
    constructor
    · intro hn
      obtain ⟨⟨b, m⟩, hq, rfl⟩ := List.mem_map.mp hn
      obtain ⟨h1, h2⟩ := List.mem_filter.mp hq
      have h2 : b = true := h2
      rw [← h2]
      exact mem_zipIdx h1
    · intro hn
      refine List.mem_map.mpr ⟨(true, n), List.mem_filter.mpr ⟨List.mem_zipIdx_iff_getElem?.mpr (by simpa using hn), rfl⟩, rfl⟩
  have hsumb : ∀ n ∈ sums, (n : Int) ≤ 2 * M + 60 := fun n hn => by
    have := (List.getElem?_eq_some_iff.mp ((hsums n).mp hn)).1
    omega
  have hsuml : sums.length ≤ 5000 := by
    rw [← hsu, List.length_map]
    refine Nat.le_trans (List.length_filter_le _ _) ?_
    simp
    omega
  refine leads_nx (ρ' := [.io d1, .sh T, .sh (.int cap), .sh (.lst (fr.map nD)), .sh (nD n0), .sh (.lst (sm.map kD)), .sh (.int sp), .sh (.int hv), .sh (.int M), .ow (.lst (sums.map nD)), .no, .no, .no, .no, .no, .no, .no, .no, .no, .no, .no, .no, .no]) (by simp [cY]) ?_
  -- slim, old
  obtain ⟨vs, vl', es⟩ := slim_ok (ks := sm) (N := M) (by omega) (by omega) (by omega) (fun p hp => (hsb p hp).1)
  refine leads_nx (ρ' := [.io d1, .sh T, .sh (.int cap), .sh (.lst (fr.map nD)), .sh (nD n0), .sh (.lst (sm.map kD)), .sh (.int sp), .sh (.int hv), .sh (.int M), .ow (.lst (sums.map nD)), .ow (.lst (vs.map oD)), .no, .no, .no, .no, .no, .no, .no, .no, .no, .no, .no, .no]) (by simp [es]) ?_
  have ixv : ∀ {n : Nat}, (n : Int) < M → dIx (.lst (vs.map oD)) (nD n) = some (.sh (oD (vs.getD n none))) := fun {n} hn => by
    have lt : n < vs.length := by omega
    have := ix_map (f := oD) (as := vs) (i := (n : Int)) (by omega) (List.getElem?_eq_getElem (show ((n : Int)).toNat < vs.length by simpa using lt))
    have e3 : vs.getD n none = vs[n] := by rw [List.getD_eq_getElem?_getD, List.getElem?_eq_getElem lt]; rfl
    rw [e3]
    show dIx _ (.int (n : Nat)) = _
    simpa using this
  have cO := eLc_over (fun n : Nat => nD (n + 1)) (as := List.range (M - 1).toNat) (vs := [21]) (t := .n 21) (src := iRg2 (eC (.int 1)) (eVar 8)) (c := tAnd' (tOf (eBin notNonO (eIxV 10 (eVar 21)) (eC .non))) (tOf (eBin leO (eBin catO (eIxV 10 (eVar 21)) (eVar 7)) (eVar 2)))) (f := eVar 21)
    (fun n => (vs.getD (n + 1) none).isSome && decide ((vs.getD (n + 1) none).getD 0 + hv ≤ cap)) (fun n => nD (n + 1)) (ρ := [.io d1, .sh T, .sh (.int cap), .sh (.lst (fr.map nD)), .sh (nD n0), .sh (.lst (sm.map kD)), .sh (.int sp), .sh (.int hv), .sh (.int M), .ow (.lst (sums.map nD)), .ow (.lst (vs.map oD)), .no, .no, .no, .no, .no, .no, .no, .no, .no, .no, .no, .no]) (ρ0 := [.io d1, .sh T, .sh (.int cap), .sh (.lst (fr.map nD)), .sh (nD n0), .sh (.lst (sm.map kD)), .sh (.int sp), .sh (.int hv), .sh (.int M), .ow (.lst (sums.map nD)), .ow (.lst (vs.map oD)), .no, .no, .no, .no, .no, .no, .no, .no, .no, .no, .no, .no])
    (by
      have q := rg2 (f := eC (.int 1)) (g := eVar 8) (ρ := [.io d1, .sh T, .sh (.int cap), .sh (.lst (fr.map nD)), .sh (nD n0), .sh (.lst (sm.map kD)), .sh (.int sp), .sh (.int hv), .sh (.int M), .ow (.lst (sums.map nD)), .ow (.lst (vs.map oD)), .no, .no, .no, .no, .no, .no, .no, .no, .no, .no, .no, .no]) (a := 1) (b := M) rfl rfl (by simp; exact ⟨rfl, rfl⟩) rfl (by decide) (by decide) (by omega) (by omega)
      rw [q]
      congr 2
      unfold rangeD
      refine List.map_congr_left fun i _ => ?_
      show D.int _ = D.int _
      congr 1
      omega) (by simp) (by rw [sizeLine_eq]; simp; omega) fun n hn => by
      have hn := List.mem_range.mp hn
      have ix := ixv (n := n + 1) (by omega)
      cases eo : vs.getD (n + 1) none with
      | none =>
        rw [eo] at ix
        exact ⟨[.io d1, .sh T, .sh (.int cap), .sh (.lst (fr.map nD)), .sh (nD n0), .sh (.lst (sm.map kD)), .sh (.int sp), .sh (.int hv), .sh (.int M), .ow (.lst (sums.map nD)), .ow (.lst (vs.map oD)), .no, .no, .no, .no, .no, .no, .no, .no, .no, .no, .sh (nD (n + 1)), .no], [.io d1, .sh T, .sh (.int cap), .sh (.lst (fr.map nD)), .sh (nD n0), .sh (.lst (sm.map kD)), .sh (.int sp), .sh (.int hv), .sh (.int M), .ow (.lst (sums.map nD)), .ow (.lst (vs.map oD)), .no, .no, .no, .no, .no, .no, .no, .no, .no, .no, .sh (nD (n + 1)), .no], by simp, by simp [ix], fun h => by simp at h, fun h => by simp⟩
      | some v =>
        rw [eo] at ix
        exact ⟨[.io d1, .sh T, .sh (.int cap), .sh (.lst (fr.map nD)), .sh (nD n0), .sh (.lst (sm.map kD)), .sh (.int sp), .sh (.int hv), .sh (.int M), .ow (.lst (sums.map nD)), .ow (.lst (vs.map oD)), .no, .no, .no, .no, .no, .no, .no, .no, .no, .no, .sh (nD (n + 1)), .no], [.io d1, .sh T, .sh (.int cap), .sh (.lst (fr.map nD)), .sh (nD n0), .sh (.lst (sm.map kD)), .sh (.int sp), .sh (.int hv), .sh (.int M), .ow (.lst (sums.map nD)), .ow (.lst (vs.map oD)), .no, .no, .no, .no, .no, .no, .no, .no, .no, .no, .sh (nD (n + 1)), .no], by simp, by simp [ix, oD], fun h => ⟨_, _, by simp; exact ⟨rfl, rfl⟩, rfl, by simp⟩, fun h => by simp⟩
  generalize hold : ((List.range (M - 1).toNat).filter fun n => (vs.getD (n + 1) none).isSome && decide ((vs.getD (n + 1) none).getD 0 + hv ≤ cap)).map (fun n => n + 1) = old
  have eold : ((List.range (M - 1).toNat).filter fun n => (vs.getD (n + 1) none).isSome && decide ((vs.getD (n + 1) none).getD 0 + hv ≤ cap)).map (fun n => nD (n + 1)) = old.map nD := by rw [← hold, List.map_map]; rfl
  rw [eold] at cO
  have holdm : ∀ n ∈ old, (n : Int) < M ∧ ∃ v, vs.getD n none = some v := fun n hn => by
    rw [← hold] at hn
    obtain ⟨m, hm, rfl⟩ := List.mem_map.mp hn
    obtain ⟨h1, h2⟩ := List.mem_filter.mp hm
    have h1 := List.mem_range.mp h1
    obtain ⟨h3, _⟩ := Bool.and_eq_true_iff.mp h2
    exact ⟨by omega, Option.isSome_iff_exists.mp h3⟩
  have holdl : old.length ≤ 2000 := by
    rw [← hold, List.length_map]
    refine Nat.le_trans (List.length_filter_le _ _) ?_
    simp
    omega
  refine leads_nx (ρ' := [.io d1, .sh T, .sh (.int cap), .sh (.lst (fr.map nD)), .sh (nD n0), .sh (.lst (sm.map kD)), .sh (.int sp), .sh (.int hv), .sh (.int M), .ow (.lst (sums.map nD)), .ow (.lst (vs.map oD)), .ow (.lst (old.map nD)), .no, .no, .no, .no, .no, .no, .no, .no, .no, .no, .no]) (by simp [cO]) ?_
  have fig : ∀ {dd : D} {fg : D} {ρ : Ev}, Pot dd → takeN 3 ρ = [.io dd, .no, .no] → FigOk ks fg n0 → ∃ d' v ρ', Pot d' ∧ FormOk ks v ∧ Rs.rt (.sh (.tup [fg, nD n0])) ρ = .rt (.sh v) ρ' ∧ takeN 3 ρ' = [.io d', .no, .no] :=
    fun hp ht hf => ⟨_, _, _, hp, .inr ⟨_, n0, rfl, hf⟩, rfl, ht⟩
  have lt0 : n0 < ks.length := (List.getElem?_eq_some_iff.mp g0).1
  have eqo := eq_nil (n := 0) (ds := old.map nD) (fun d hd => by obtain ⟨x, _, rfl⟩ := List.mem_map.mp hd; exact nice_int _) (by decide)
  by_cases co : old = []
  · subst co
    simp at eqo
    exact leads_rt (s := .sh (.tup [.tup [.str "long"], nD n0])) (ρ' := [.io d1, .sh T, .sh (.int cap), .sh (.lst (fr.map nD)), .sh (nD n0), .sh (.lst (sm.map kD)), .sh (.int sp), .sh (.int hv), .sh (.int M), .ow (.lst (sums.map nD)), .ow (.lst (vs.map oD)), .sh (.lst []), .no, .no, .no, .no, .no, .no, .no, .no, .no, .no, .no]) (by simp [z0, z1, z2, eqo]) (fig p1 (by simp) ⟨lt0, .inl rfl⟩)
  have eo2 : (old.map nD).isEmpty = false := by cases old with | nil => exact absurd rfl co | cons a r => rfl
  rw [eo2] at eqo
  obtain ⟨d2, x2, p2, a20, a21, e2⟩ := take_ok (u := 6) p1 (by decide) (by decide)
  by_cases cx : x2 = 0
  · exact leads_rt (s := .sh (.tup [.tup [.str "long"], nD n0])) (ρ' := [.io d2, .sh T, .sh (.int cap), .sh (.lst (fr.map nD)), .sh (nD n0), .sh (.lst (sm.map kD)), .sh (.int sp), .sh (.int hv), .sh (.int M), .ow (.lst (sums.map nD)), .ow (.lst (vs.map oD)), .sh (.lst (old.map nD)), .no, .no, .no, .no, .no, .no, .no, .no, .no, .no, .no]) (by simp [z0, z1, z2, eqo, e2, cx]) (fig p2 (by simp) ⟨lt0, .inl rfl⟩)
  refine leads_nx (ρ' := [.io d2, .sh T, .sh (.int cap), .sh (.lst (fr.map nD)), .sh (nD n0), .sh (.lst (sm.map kD)), .sh (.int sp), .sh (.int hv), .sh (.int M), .ow (.lst (sums.map nD)), .ow (.lst (vs.map oD)), .sh (.lst (old.map nD)), .no, .no, .no, .no, .no, .no, .no, .no, .no, .no, .no]) (by simp [z0, eqo, e2, cx]) ?_
  obtain ⟨d3, x3, p3, a30, a31, e3⟩ := take_ok (u := 3) p2 (by decide) (by decide)
  have sumlt : ∀ (dd : D) (s11 s12 s13 s14 s15 s16 : Sl), eLc [21] (.n 21) (iSeq (eVar 9)) (tOf (eBin ltO (eVar 21) (eVar 6))) (eVar 21) [.io dd, .sh T, .sh (.int cap), .sh (.lst (fr.map nD)), .sh (nD n0), .sh (.lst (sm.map kD)), .sh (.int sp), .sh (.int hv), .sh (.int M), .ow (.lst (sums.map nD)), .ow (.lst (vs.map oD)), s11, s12, s13, s14, s15, s16, .no, .no, .no, .no, .no, .no] = some (.ow (.lst ((sums.filter fun n : Nat => decide ((n : Int) < sp)).map nD)), [.io dd, .sh T, .sh (.int cap), .sh (.lst (fr.map nD)), .sh (nD n0), .sh (.lst (sm.map kD)), .sh (.int sp), .sh (.int hv), .sh (.int M), .sh (.lst (sums.map nD)), .ow (.lst (vs.map oD)), s11, s12, s13, s14, s15, s16, .no, .no, .no, .no, .no, .no]) := fun dd s11 s12 s13 s14 s15 s16 => by
    refine eLc_over nD (as := sums) (fun n : Nat => decide ((n : Int) < sp)) nD (by simp) (by simp) (by rw [sizeLine_eq]; omega) fun n hn => ?_
    exact ⟨[.io dd, .sh T, .sh (.int cap), .sh (.lst (fr.map nD)), .sh (nD n0), .sh (.lst (sm.map kD)), .sh (.int sp), .sh (.int hv), .sh (.int M), .sh (.lst (sums.map nD)), .ow (.lst (vs.map oD)), s11, s12, s13, s14, s15, s16, .no, .no, .no, .no, .sh (nD n), .no], _, by simp, by simp [ltN]; rfl, fun h => ⟨_, _, by simp; exact ⟨rfl, rfl⟩, rfl, by simp⟩, fun h => by simp⟩
  have low0 : (sums.filter fun n : Nat => decide ((n : Int) < sp)) ≠ [] := by
    intro z
    have : 0 ∈ (sums.filter fun n : Nat => decide ((n : Int) < sp)) := List.mem_filter.mpr ⟨(hsums 0).mpr b00, by simp; omega⟩
    rw [z] at this
    exact absurd this (by simp)
  have lowm : ∀ n ∈ (sums.filter fun n : Nat => decide ((n : Int) < sp)), (n : Int) ≤ 2 * M + 60 := fun n hn => hsumb n (List.mem_filter.mp hn).1
  have lowl : (sums.filter fun n : Nat => decide ((n : Int) < sp)).length ≤ 5000 := Nat.le_trans (List.length_filter_le _ _) hsuml
  generalize (sums.filter fun n : Nat => decide ((n : Int) < sp)) = low at sumlt low0 lowm lowl
  by_cases cy : x3 = 0
  · obtain ⟨d4, y1, p4, hy1, e4⟩ := of_ok (ds := low.map nD) p3 (by simpa using low0) (by rw [sizeLine_eq]; simp; omega)
    obtain ⟨n1, hn1, rfl⟩ := List.mem_map.mp hy1
    obtain ⟨d5, y2, p5, hy2, e5⟩ := of_ok (ds := old.map nD) p4 (by simpa using co) (by rw [sizeLine_eq]; simp; omega)
    obtain ⟨n2, hn2, rfl⟩ := List.mem_map.mp hy2
    have bn1 := lowm n1 hn1
    have bn2 := (holdm n2 hn2).1
    exact leads_rt (s := .sh (.tup [.tup [.str "short end", nD n1, nD n2], nD n0])) (ρ' := [.io d5, .sh T, .sh (.int cap), .sh (.lst (fr.map nD)), .sh (nD n0), .sh (.lst (sm.map kD)), .sh (.int sp), .sh (.int hv), .sh (.int M), .sh (.lst (sums.map nD)), .ow (.lst (vs.map oD)), .sh (.lst (old.map nD)), .no, .no, .no, .no, .no, .no, .no, .no, .no, .no, .no]) (by simp [z2, z3, e3, cy, sumlt, e4, e5]) (fig p5 (by simp) ⟨lt0, .inr (.inl ⟨n1, n2, by omega, by omega, by omega, by omega, rfl⟩)⟩)
  refine leads_nx (ρ' := [.io d3, .sh T, .sh (.int cap), .sh (.lst (fr.map nD)), .sh (nD n0), .sh (.lst (sm.map kD)), .sh (.int sp), .sh (.int hv), .sh (.int M), .ow (.lst (sums.map nD)), .ow (.lst (vs.map oD)), .sh (.lst (old.map nD)), .no, .no, .no, .no, .no, .no, .no, .no, .no, .no, .no]) (by simp [e3, cy]) ?_
  obtain ⟨d4, y4, p4, hy4, e4⟩ := of_ok (ds := old.map nD) p3 (by simpa using co) (by rw [sizeLine_eq]; simp; omega)
  obtain ⟨bh, hbh, rfl⟩ := List.mem_map.mp hy4
  obtain ⟨bh1, bv, hbv⟩ := holdm bh hbh
  refine leads_nx (ρ' := [.io d4, .sh T, .sh (.int cap), .sh (.lst (fr.map nD)), .sh (nD n0), .sh (.lst (sm.map kD)), .sh (.int sp), .sh (.int hv), .sh (.int M), .ow (.lst (sums.map nD)), .ow (.lst (vs.map oD)), .sh (.lst (old.map nD)), .sh (nD bh), .no, .no, .no, .no, .no, .no, .no, .no, .no, .no]) (by simp [e4]) ?_
  refine leads_nx (ρ' := [.io d4, .sh T, .sh (.int cap), .sh (.lst (fr.map nD)), .sh (nD n0), .sh (.lst (sm.map kD)), .sh (.int sp), .sh (.int hv), .sh (.int M), .ow (.lst (sums.map nD)), .ow (.lst (vs.map oD)), .sh (.lst (old.map nD)), .sh (nD bh), .ow (.lst []), .no, .no, .no, .no, .no, .no, .no, .no, .no]) (by simp [z0]) ?_
  have ixb := ixv bh1
  rw [hbv] at ixb
  -- rows
  refine leads_loop (ρ0 := [.io d4, .sh T, .sh (.int cap), .sh (.lst (fr.map nD)), .sh (nD n0), .sh (.lst (sm.map kD)), .sh (.int sp), .sh (.int hv), .sh (.int M), .ow (.lst (sums.map nD)), .ow (.lst (vs.map oD)), .sh (.lst (old.map nD)), .sh (nD bh), .ow (.lst []), .no, .no, .no, .no, .no, .no, .no, .no, .no]) (xs := fr.map nD) (fun k ρ => ∃ (rows : List (Int × Nat)) (s14 s15 s16 : Sl), ρ = [.io d4, .sh T, .sh (.int cap), .sh (.lst (fr.map nD)), .sh (nD n0), .sh (.lst (sm.map kD)), .sh (.int sp), .sh (.int hv), .sh (.int M), .ow (.lst (sums.map nD)), .ow (.lst (vs.map oD)), .sh (.lst (old.map nD)), .sh (nD bh), .ow (.lst (rows.map rD)), s14, s15, s16, .no, .no, .no, .no, .no, .no] ∧ (∀ r ∈ rows, 0 ≤ r.1 ∧ r.1 ≤ M + 29 ∧ r.2 < ks.length) ∧ rows.length ≤ k * 1000)
    (by simp) ⟨[], .no, .no, .no, rfl, fun r hr => absurd hr (by simp), by simp⟩ (fun k e ρ he hi => ?_) (fun ρ' hI => ?_)
  · obtain ⟨rows, s14, s15, s16, rfl, hr, hrl⟩ := hi
    rw [List.getElem?_map] at he
    obtain ⟨f, hf, rfl⟩ := Option.map_eq_some_iff.mp he
    have hk6 : k < fr.length := (List.getElem?_eq_some_iff.mp hf).1
    obtain ⟨q, hq, _⟩ := hfree f (List.mem_of_getElem? hf)
    have ixq := ixT hq
    have bq := hb _ (List.mem_of_getElem? hq)
    have ltf : f < ks.length := (List.getElem?_eq_some_iff.mp hq).1
    obtain ⟨ρ2, lp, rows2, t16, rfl, hr2, hrl2⟩ := for_loop (t := .n 16) (src := iRg1 (eVar 8)) (b := sIf ((tAnd' (tOf (eBin notNonO (eIxV 10 (eVar 16)) (eC .non))) (tOf (eBin leO (eIxV 10 (eVar 16)) (eVar 15))))) (sApp 13 (eTup [(eBin catO (eVar 16) (eBin dIx (eIxV 1 (eVar 14)) (eC (.int 0)))), (eVar 14)])) sNil)
      (ρ := [.io d4, .sh T, .sh (.int cap), .sh (.lst (fr.map nD)), .sh (nD n0), .sh (.lst (sm.map kD)), .sh (.int sp), .sh (.int hv), .sh (.int M), .ow (.lst (sums.map nD)), .ow (.lst (vs.map oD)), .sh (.lst (old.map nD)), .sh (nD bh), .ow (.lst (rows.map rD)), .sh (nD f), .sh (.int (cap - hv - bv - q.2)), s16, .no, .no, .no, .no, .no, .no]) (ρ0 := [.io d4, .sh T, .sh (.int cap), .sh (.lst (fr.map nD)), .sh (nD n0), .sh (.lst (sm.map kD)), .sh (.int sp), .sh (.int hv), .sh (.int M), .ow (.lst (sums.map nD)), .ow (.lst (vs.map oD)), .sh (.lst (old.map nD)), .sh (nD bh), .ow (.lst (rows.map rD)), .sh (nD f), .sh (.int (cap - hv - bv - q.2)), s16, .no, .no, .no, .no, .no, .no]) (xs := rangeD 0 M.toNat)
      (fun j ρ => ∃ (rows2 : List (Int × Nat)) (t16 : Sl), ρ = [.io d4, .sh T, .sh (.int cap), .sh (.lst (fr.map nD)), .sh (nD n0), .sh (.lst (sm.map kD)), .sh (.int sp), .sh (.int hv), .sh (.int M), .ow (.lst (sums.map nD)), .ow (.lst (vs.map oD)), .sh (.lst (old.map nD)), .sh (nD bh), .ow (.lst (rows2.map rD)), .sh (nD f), .sh (.int (cap - hv - bv - q.2)), t16, .no, .no, .no, .no, .no, .no] ∧ (∀ r ∈ rows2, 0 ≤ r.1 ∧ r.1 ≤ M + 29 ∧ r.2 < ks.length) ∧ rows2.length ≤ k * 1000 + j)
      (rg1 (s := .sh (.int M)) (by simp) rfl (by omega) (by omega)) ⟨rows, s16, rfl, hr, by omega⟩ fun j e ρ he hi => by
        obtain ⟨rows2, t16, rfl, hr2, hrl2⟩ := hi
        obtain ⟨hj, rfl⟩ := rangeD_get he
        have ixj := ixv (n := j) (by omega)
        have ej : (0 + (j : Int)) = (j : Int) := by omega
        have hsz : rows2.length < sizeLine := by rw [sizeLine_eq]; omega
        rw [ej]
        have stay : ∃ (rows3 : List (Int × Nat)) (u16 : Sl), [.io d4, .sh T, .sh (.int cap), .sh (.lst (fr.map nD)), .sh (nD n0), .sh (.lst (sm.map kD)), .sh (.int sp), .sh (.int hv), .sh (.int M), .ow (.lst (sums.map nD)), .ow (.lst (vs.map oD)), .sh (.lst (old.map nD)), .sh (nD bh), .ow (.lst (rows2.map rD)), .sh (nD f), .sh (.int (cap - hv - bv - q.2)), .sh (nD j), .no, .no, .no, .no, .no, .no] = [.io d4, .sh T, .sh (.int cap), .sh (.lst (fr.map nD)), .sh (nD n0), .sh (.lst (sm.map kD)), .sh (.int sp), .sh (.int hv), .sh (.int M), .ow (.lst (sums.map nD)), .ow (.lst (vs.map oD)), .sh (.lst (old.map nD)), .sh (nD bh), .ow (.lst (rows3.map rD)), .sh (nD f), .sh (.int (cap - hv - bv - q.2)), u16, .no, .no, .no, .no, .no, .no] ∧ (∀ r ∈ rows3, 0 ≤ r.1 ∧ r.1 ≤ M + 29 ∧ r.2 < ks.length) ∧ rows3.length ≤ k * 1000 + (j + 1) := ⟨rows2, _, rfl, hr2, by omega⟩
        cases eo : vs.getD j none with
        | none =>
          rw [eo] at ixj
          exact ⟨[.io d4, .sh T, .sh (.int cap), .sh (.lst (fr.map nD)), .sh (nD n0), .sh (.lst (sm.map kD)), .sh (.int sp), .sh (.int hv), .sh (.int M), .ow (.lst (sums.map nD)), .ow (.lst (vs.map oD)), .sh (.lst (old.map nD)), .sh (nD bh), .ow (.lst (rows2.map rD)), .sh (nD f), .sh (.int (cap - hv - bv - q.2)), .sh (nD j), .no, .no, .no, .no, .no, .no], _, by simp [nD], by simp [ixj], stay⟩
        | some v =>
          rw [eo] at ixj
          by_cases cv : v ≤ cap - hv - bv - q.2
          · refine ⟨[.io d4, .sh T, .sh (.int cap), .sh (.lst (fr.map nD)), .sh (nD n0), .sh (.lst (sm.map kD)), .sh (.int sp), .sh (.int hv), .sh (.int M), .ow (.lst (sums.map nD)), .ow (.lst (vs.map oD)), .sh (.lst (old.map nD)), .sh (nD bh), .ow (.lst (rows2.map rD)), .sh (nD f), .sh (.int (cap - hv - bv - q.2)), .sh (nD j), .no, .no, .no, .no, .no, .no], [.io d4, .sh T, .sh (.int cap), .sh (.lst (fr.map nD)), .sh (nD n0), .sh (.lst (sm.map kD)), .sh (.int sp), .sh (.int hv), .sh (.int M), .ow (.lst (sums.map nD)), .ow (.lst (vs.map oD)), .sh (.lst (old.map nD)), .sh (nD bh), .ow (.lst ((rows2 ++ [((j : Int) + q.1, f)]).map rD)), .sh (nD f), .sh (.int (cap - hv - bv - q.2)), .sh (nD j), .no, .no, .no, .no, .no, .no], by simp [nD], ?_, _, _, rfl, fun r hr => ?_, by simp; omega⟩
            · have e9 : catO (nD j) (.int q.1) = some (.sh (.int (j + q.1))) := rfl
              simp [ixj, oD, cv, ixq, kD, z2, hsz, rD, e9]
            · rcases List.mem_append.mp hr with hr | hr
              · exact hr2 r hr
              · have er := List.mem_singleton.mp hr
                subst er
                exact ⟨by show 0 ≤ (j : Int) + q.1; omega, by show (j : Int) + q.1 ≤ M + 29; omega, ltf⟩
          · exact ⟨[.io d4, .sh T, .sh (.int cap), .sh (.lst (fr.map nD)), .sh (nD n0), .sh (.lst (sm.map kD)), .sh (.int sp), .sh (.int hv), .sh (.int M), .ow (.lst (sums.map nD)), .ow (.lst (vs.map oD)), .sh (.lst (old.map nD)), .sh (nD bh), .ow (.lst (rows2.map rD)), .sh (nD f), .sh (.int (cap - hv - bv - q.2)), .sh (nD j), .no, .no, .no, .no, .no, .no], _, by simp [nD], by simp [ixj, oD, cv], stay⟩
    rw [rangeD_len] at hrl2
    refine ⟨[.io d4, .sh T, .sh (.int cap), .sh (.lst (fr.map nD)), .sh (nD n0), .sh (.lst (sm.map kD)), .sh (.int sp), .sh (.int hv), .sh (.int M), .ow (.lst (sums.map nD)), .ow (.lst (vs.map oD)), .sh (.lst (old.map nD)), .sh (nD bh), .ow (.lst (rows.map rD)), .sh (nD f), s15, s16, .no, .no, .no, .no, .no, .no], [.io d4, .sh T, .sh (.int cap), .sh (.lst (fr.map nD)), .sh (nD n0), .sh (.lst (sm.map kD)), .sh (.int sp), .sh (.int hv), .sh (.int M), .ow (.lst (sums.map nD)), .ow (.lst (vs.map oD)), .sh (.lst (old.map nD)), .sh (nD bh), .ow (.lst (rows2.map rD)), .sh (nD f), .sh (.int (cap - hv - bv - q.2)), t16, .no, .no, .no, .no, .no, .no], by simp, ?_, rows2, .sh (nD f), .sh (.int (cap - hv - bv - q.2)), t16, rfl, hr2, by omega⟩
    have e8 : subO (.int (cap - hv)) (oD (some bv)) = some (.sh (.int (cap - hv - bv))) := rfl
    simp [ixb, ixq, kD, e8, lp, -sFor_e]
  · obtain ⟨rows, s14, s15, s16, rfl, hr, hrl⟩ := hI
    have rlen : rows.length ≤ 6000 := by simp at hrl; omega
    have eqr := eq_nil (n := 1) (ds := rows.map rD) (fun d hd => by
      obtain ⟨x, _, rfl⟩ := List.mem_map.mp hd
      exact nice_tup fun e he => by
        rcases List.mem_cons.mp he with rfl | he
        · exact nice_int _
        · rw [List.mem_singleton.mp he]; exact nice_int _) (by decide)
    have bbh : (bh : Int) ≤ 10000 := by omega
    by_cases cr : rows = []
    · subst cr
      obtain ⟨d5, y1, p5, hy1, e5⟩ := of_ok (ds := low.map nD) p4 (by simpa using low0) (by rw [sizeLine_eq]; simp; omega)
      obtain ⟨n1, hn1, rfl⟩ := List.mem_map.mp hy1
      have bn1 := lowm n1 hn1
      simp at eqr
      exact leads_rt (s := .sh (.tup [.tup [.str "short end", nD n1, nD bh], nD n0])) (ρ' := [.io d5, .sh T, .sh (.int cap), .sh (.lst (fr.map nD)), .sh (nD n0), .sh (.lst (sm.map kD)), .sh (.int sp), .sh (.int hv), .sh (.int M), .sh (.lst (sums.map nD)), .ow (.lst (vs.map oD)), .sh (.lst (old.map nD)), .sh (nD bh), .sh (.lst []), s14, s15, s16, .no, .no, .no, .no, .no, .no]) (by simp [z0, z2, z3, eqr, sumlt, e5]) (fig p5 (by simp) ⟨lt0, .inr (.inl ⟨n1, bh, by omega, by omega, by omega, by omega, rfl⟩)⟩)
    have er2 : (rows.map rD).isEmpty = false := by cases rows with | nil => exact absurd rfl cr | cons a r => rfl
    rw [er2] at eqr
    refine leads_nx (ρ' := [.io d4, .sh T, .sh (.int cap), .sh (.lst (fr.map nD)), .sh (nD n0), .sh (.lst (sm.map kD)), .sh (.int sp), .sh (.int hv), .sh (.int M), .ow (.lst (sums.map nD)), .ow (.lst (vs.map oD)), .sh (.lst (old.map nD)), .sh (nD bh), .sh (.lst (rows.map rD)), s14, s15, s16, .no, .no, .no, .no, .no, .no]) (by simp [z0, eqr]) ?_
    obtain ⟨d6, y6, p6, hy6, e6⟩ := of_ok (ds := rows.map rD) p4 (by simpa using cr) (by rw [sizeLine_eq]; simp; omega)
    obtain ⟨⟨nw, fi⟩, hnw, rfl⟩ := List.mem_map.mp hy6
    obtain ⟨nw0, nw1, fi1⟩ := hr _ hnw
    have nw0 : 0 ≤ nw := nw0
    have nw1 : nw ≤ M + 29 := nw1
    refine leads_nx (ρ' := [.io d6, .sh T, .sh (.int cap), .sh (.lst (fr.map nD)), .sh (nD n0), .sh (.lst (sm.map kD)), .sh (.int sp), .sh (.int hv), .sh (.int M), .ow (.lst (sums.map nD)), .ow (.lst (vs.map oD)), .sh (.lst (old.map nD)), .sh (nD bh), .sh (.lst (rows.map rD)), .sh (nD fi), s15, s16, .sh (.int nw), .no, .no, .no, .no, .no]) (by simp [e6, rD]) ?_
    have cH := eLc_over nD (as := sums) (vs := [21]) (t := .n 21) (src := iSeq (eVar 9)) (c := tOf (eChain leO ltO (eVar 17) (eVar 21) (eBin catO (eVar 17) (eVar 6)))) (f := eVar 21) (fun n : Nat => decide (nw ≤ (n : Int)) && decide ((n : Int) < nw + sp)) nD
      (ρ := [.io d6, .sh T, .sh (.int cap), .sh (.lst (fr.map nD)), .sh (nD n0), .sh (.lst (sm.map kD)), .sh (.int sp), .sh (.int hv), .sh (.int M), .ow (.lst (sums.map nD)), .ow (.lst (vs.map oD)), .sh (.lst (old.map nD)), .sh (nD bh), .sh (.lst (rows.map rD)), .sh (nD fi), s15, s16, .sh (.int nw), .no, .no, .no, .no, .no]) (ρ0 := [.io d6, .sh T, .sh (.int cap), .sh (.lst (fr.map nD)), .sh (nD n0), .sh (.lst (sm.map kD)), .sh (.int sp), .sh (.int hv), .sh (.int M), .sh (.lst (sums.map nD)), .ow (.lst (vs.map oD)), .sh (.lst (old.map nD)), .sh (nD bh), .sh (.lst (rows.map rD)), .sh (nD fi), s15, s16, .sh (.int nw), .no, .no, .no, .no, .no]) (by simp) (by simp) (by rw [sizeLine_eq]; omega) fun n hn => by
        refine ⟨[.io d6, .sh T, .sh (.int cap), .sh (.lst (fr.map nD)), .sh (nD n0), .sh (.lst (sm.map kD)), .sh (.int sp), .sh (.int hv), .sh (.int M), .sh (.lst (sums.map nD)), .ow (.lst (vs.map oD)), .sh (.lst (old.map nD)), .sh (nD bh), .sh (.lst (rows.map rD)), .sh (nD fi), s15, s16, .sh (.int nw), .no, .no, .no, .sh (nD n), .no], [.io d6, .sh T, .sh (.int cap), .sh (.lst (fr.map nD)), .sh (nD n0), .sh (.lst (sm.map kD)), .sh (.int sp), .sh (.int hv), .sh (.int M), .sh (.lst (sums.map nD)), .ow (.lst (vs.map oD)), .sh (.lst (old.map nD)), .sh (nD bh), .sh (.lst (rows.map rD)), .sh (nD fi), s15, s16, .sh (.int nw), .no, .no, .no, .sh (nD n), .no], by simp, ?_, fun h => ⟨_, _, by simp; exact ⟨rfl, rfl⟩, rfl, by simp⟩, fun h => by simp⟩
        by_cases c1 : nw ≤ (n : Int)
        · simp [ltN, leN, c1]
        · simp [leN, c1]
    generalize hhd : (sums.filter fun n : Nat => decide (nw ≤ (n : Int)) && decide ((n : Int) < nw + sp)) = heads at cH
    have hne : heads ≠ [] := by
      have e1 : ((-((-nw) / sp)).toNat : Int) = -((-nw) / sp) := Int.toNat_of_nonneg (by
        have : (-nw) / sp ≤ 0 := by
          have := Int.ediv_le_ediv (show 0 < sp by omega) (show -nw ≤ 0 by omega)
          simpa using this
        omega)
      have e2 := Int.mul_ediv_add_emod (-nw) sp
      have e3 := Int.emod_nonneg (-nw) (show sp ≠ 0 by omega)
      have e4 := Int.emod_lt_of_pos (-nw) (show 0 < sp by omega)
      have e5 : -((-nw) / sp) * sp = nw + (-nw) % sp := by
        rw [Int.neg_mul, Int.mul_comm]
        omega
      have ym := yes_mult b00 bc mem0 (by omega) (-((-nw) / sp)).toNat (by
        rw [e1]
        show -((-nw) / sp) * sp ≤ _
        rw [e5]
        omega)
      have e6 : (((-((-nw) / sp)).toNat * sp.toNat : Nat) : Int) = nw + (-nw) % sp := by
        rw [Int.natCast_mul, e1, Int.toNat_of_nonneg (by omega), e5]
      intro z
      have : (-((-nw) / sp)).toNat * sp.toNat ∈ heads := by
        rw [← hhd]
        refine List.mem_filter.mpr ⟨(hsums _).mpr ym, ?_⟩
        rw [Bool.and_eq_true_iff]
        exact ⟨decide_eq_true (by omega), decide_eq_true (by omega)⟩
      rw [z] at this
      exact absurd this (by simp)
    have hhb : ∀ n ∈ heads, (n : Int) ≤ 10000 := fun n hn => by
      rw [← hhd] at hn
      have := hsumb n (List.mem_filter.mp hn).1
      omega
    have hhl : heads.length ≤ 5000 := by rw [← hhd]; exact Nat.le_trans (List.length_filter_le _ _) hsuml
    refine leads_nx (ρ' := [.io d6, .sh T, .sh (.int cap), .sh (.lst (fr.map nD)), .sh (nD n0), .sh (.lst (sm.map kD)), .sh (.int sp), .sh (.int hv), .sh (.int M), .sh (.lst (sums.map nD)), .ow (.lst (vs.map oD)), .sh (.lst (old.map nD)), .sh (nD bh), .sh (.lst (rows.map rD)), .sh (nD fi), s15, s16, .sh (.int nw), .ow (.lst (heads.map nD)), .no, .no, .no, .no]) (by simp [cH]) ?_
    obtain ⟨d7, y7, p7, hy7, e7⟩ := of_ok (ds := heads.map nD) p6 (by simpa using hne) (by rw [sizeLine_eq]; simp; omega)
    obtain ⟨n7, hn7, rfl⟩ := List.mem_map.mp hy7
    have b7 := hhb n7 hn7
    exact leads_end (r := .rt (.sh (.tup [.tup [.str "caught up", nD n7, nD bh, .int nw, nD fi], nD n0])) [.io d7, .sh T, .sh (.int cap), .sh (.lst (fr.map nD)), .sh (nD n0), .sh (.lst (sm.map kD)), .sh (.int sp), .sh (.int hv), .sh (.int M), .sh (.lst (sums.map nD)), .ow (.lst (vs.map oD)), .sh (.lst (old.map nD)), .sh (nD bh), .sh (.lst (rows.map rD)), .sh (nD fi), s15, s16, .sh (.int nw), .sh (.lst (heads.map nD)), .no, .no, .no, .no]) (by simp [e7, z2, z5]) (fig p7 (by simp) ⟨lt0, .inr (.inr ⟨n7, bh, nw, fi, by omega, by omega, by omega, by omega, fi1, rfl⟩)⟩)

theorem getM {ks : List (Int × Int)} {n : Nat} {p : Int × Int} (h : ks[n]? = some p) : dIx (.tup (ks.map kD)) (.int (n : Nat)) = some (.sh (kD p)) := ix_t (by rw [List.getElem?_map, h]; rfl)
/-- what the sizes are: the least and the greatest -/
def Sz (ks : List (Int × Int)) (fg : D) (n : Nat) (lo hi : Int) : Prop := ∃ sp hv, ks[n]? = some (sp, hv) ∧ 1 ≤ sp ∧ sp ≤ 30 ∧
  ((fg = .tup [.str "long"] ∧ lo = 0 ∧ hi = sp - 1) ∨ (∃ a b : Int, 0 ≤ a ∧ 0 ≤ b ∧ a + b ≤ 2 * 10 ^ 18 ∧ fg = .tup [.str "short end", .int a, .int b] ∧ lo = a + b ∧ hi = a + b + sp - 1) ∨
    ∃ (a b c : Int) (f : Nat) (s2 h2 : Int), 0 ≤ a ∧ 0 ≤ b ∧ a + b ≤ 2 * 10 ^ 18 ∧ ks[f]? = some (s2, h2) ∧ 1 ≤ s2 ∧ s2 ≤ 30 ∧ fg = .tup [.str "caught up", .int a, .int b, .int c, .int f] ∧ lo = a + b ∧ hi = a + b + s2 - 1)
theorem ne1 : (("short end" : Str) == "long") = false := by decide
theorem ne2 : (("caught up" : Str) == "long") = false := by decide
theorem ne3 : (("caught up" : Str) == "short end") = false := by decide
theorem eq1 : (("long" : Str) == "long") = true := by decide
theorem eq2 : (("short end" : Str) == "short end") = true := by decide
theorem sizes_ok {ks : List (Int × Int)} {fg : D} {n : Nat} {lo hi : Int} (h : Sz ks fg n lo hi) :
    m_sizes_of [.sh (.tup (ks.map kD)), .sh fg, .sh (.int n)] = some (.sh (.tup [.int lo, .int hi]), [.no, .no, .no]) := by
  have z2 : (2 : Nat) ≤ sizeLine := by rw [sizeLine_eq]; decide
  obtain ⟨sp, hv, hn, _, _, h⟩ := h
  have g := getM hn
  rcases h with ⟨rfl, rfl, rfl⟩ | ⟨a, b, _, _, _, rfl, rfl, rfl⟩ | ⟨a, b, c, f, s2, h2, _, _, _, hf, _, _, rfl, rfl, rfl⟩
  · simp [m_sizes_of, mb_sizes_of, g, kD, eq1, z2]
  · simp [m_sizes_of, mb_sizes_of, g, kD, ne1, eq2, z2]
  · have g2 := getM hf
    simp [m_sizes_of, mb_sizes_of, g, g2, kD, ne2, ne3, z2]
theorem holds_ok {ks : List (Int × Int)} {fg : D} {n : Nat} {lo hi w : Int} (h : Sz ks fg n lo hi) :
    ∃ b : Bool, (lo ≤ w → w ≤ hi → b = true) ∧ (0 ≤ w → w < lo ∨ hi < w → b = false) ∧ m_law_holds [.sh (.tup (ks.map kD)), .sh fg, .sh (.int n), .sh (.int w)] = some (.sh (.bl b), [.no, .no, .no, .no]) := by
  obtain ⟨sp, hv, hn, _, _, h⟩ := h
  have g := getM hn
  rcases h with ⟨rfl, rfl, rfl⟩ | ⟨a, b, _, _, _, rfl, rfl, rfl⟩ | ⟨a, b, c, f, s2, h2, _, _, _, hf, _, _, rfl, rfl, rfl⟩
  · exact ⟨decide (w < sp), fun h1 h2 => decide_eq_true (by omega), fun h1 h2 => decide_eq_false (by omega), by simp [m_law_holds, mb_law_holds, g, kD, eq1]⟩
  · refine ⟨decide (a + b ≤ w) && decide (w < a + b + sp), fun h1 h2 => by simp; omega, fun h1 h2 => by simp; omega, ?_⟩
    by_cases c : a + b ≤ w
    · simp [m_law_holds, mb_law_holds, g, kD, ne1, eq2, c]
    · simp [m_law_holds, mb_law_holds, g, kD, ne1, eq2, c]
  · have g2 := getM hf
    refine ⟨decide (a + b ≤ w) && decide (w < a + b + s2), fun h1 h2 => by simp; omega, fun h1 h2 => by simp; omega, ?_⟩
    by_cases c : a + b ≤ w
    · simp [m_law_holds, mb_law_holds, g, g2, kD, ne2, ne3, c]
    · simp [m_law_holds, mb_law_holds, g, g2, kD, ne2, ne3, c]
theorem number_ok {i lo hi : Int} (h1 : lo ≤ i) (h2 : i ≤ hi) : m_law_is_number [.sh (.int i), .sh (.int lo), .sh (.int hi)] = some (.sh (.bl true), [.no, .no, .no]) := by
  have e1 : isiD [.int i, .ty "int"] = some (.bl true) := by show ((D.int i).tyn.bind fun a => kitB a "int").map _ = _; simp [D.tyn, kit_a]
  have e2 : isiD [.int i, .ty "bool"] = some (.bl false) := by show ((D.int i).tyn.bind fun a => kitB a "bool").map _ = _; simp [D.tyn, kit_c]
  simp [m_law_is_number, mb_law_is_number, e1, e2, h1, h2]
theorem sz_bounds {ks : List (Int × Int)} {fg : D} {n : Nat} {lo hi : Int} (h : Sz ks fg n lo hi) : 0 ≤ lo ∧ lo ≤ hi ∧ hi ≤ 3 * 10 ^ 18 := by
  obtain ⟨sp, hv, hn, _, _, h⟩ := h
  rcases h with ⟨rfl, rfl, rfl⟩ | ⟨a, b, _, _, _, rfl, rfl, rfl⟩ | ⟨a, b, c, f, s2, h2, _, _, _, hf, _, _, rfl, rfl, rfl⟩ <;> omega
theorem form_right_ok {ks : List (Int × Int)} {fg : D} {n : Nat} {lo hi : Int} (h : Sz ks fg n lo hi) : m_law_form_right [.sh (.tup (ks.map kD)), .sh fg, .sh (.int n)] = some (.sh (.bl true), [.no, .no, .no]) := by
  have z2 : (2 : Nat) ≤ sizeLine := by rw [sizeLine_eq]; decide
  have z3 : (3 : Nat) ≤ sizeLine := by rw [sizeLine_eq]; decide
  obtain ⟨b1, b2, b3⟩ := sz_bounds h
  have sz := sizes_ok h
  generalize eT : D.tup (ks.map kD) = T at sz
  have hw : ∀ w : Int, ∃ b : Bool, (lo ≤ w → w ≤ hi → b = true) ∧ (0 ≤ w → w < lo ∨ hi < w → b = false) ∧ m_law_holds [.sh T, .sh fg, .sh (.int n), .sh (.int w)] = some (.sh (.bl b), [.no, .no, .no, .no]) := fun w => by
    rw [← eT]; exact holds_ok h
  have p21 : powO (.int 10) (.int 21) = some (.sh (.int 1000000000000000000000)) := by
    have e : (10 : Int) ^ 21 = 1000000000000000000000 := by decide
    rw [← e]
    exact pow_i (i := 10) (n := 21) (by decide) (by decide)
  have e1 : isiD [.tup [.int lo, .int hi], .ty "tuple"] = some (.bl true) := by show ((D.tup [.int lo, .int hi]).tyn.bind fun a => kitB a "tuple").map _ = _; simp [D.tyn, kit_f]
  have sm2 : small (2 : Int) := small_nat (n := 62) (by decide) (by decide) (by decide)
  have c1 := eLc_over D.int (as := [lo, hi]) (vs := [7]) (t := .n 7) (src := iSeq (eVar 3)) (c := tTrue) (f := eCall m_law_is_number [] [.e (eVar 7), .e (eC (.int 0)), .e (eBin powO (eC (.int 10)) (eC (.int 21)))]) (fun _ => true) (fun _ => .bl true)
    (ρ := [.sh T, .sh fg, .sh (.int n), .sh (.tup [.int lo, .int hi]), .no, .no, .no, .no]) (ρ0 := [.sh T, .sh fg, .sh (.int n), .sh (.tup [.int lo, .int hi]), .no, .no, .no, .no]) (by simp) (by simp) (by rw [sizeLine_eq]; simp) fun w hw => by
      have bw : 0 ≤ w ∧ w ≤ 1000000000000000000000 := by
        simp at hw
        rcases hw with rfl | rfl <;> omega
      have nk := number_ok bw.1 bw.2
      exact ⟨[.sh T, .sh fg, .sh (.int n), .sh (.tup [.int lo, .int hi]), .no, .no, .no, .sh (.int w)], _, by simp, by simp; rfl, fun _ => ⟨_, _, by simp [p21, nk]; exact ⟨rfl, rfl⟩, rfl, by simp⟩, fun h => by cases h⟩
  have c2 := eLc_over D.int (as := [lo, hi, (lo + hi) / 2]) (vs := [7]) (t := .n 7) (src := iSeq (eVar 6)) (c := tTrue) (f := eCall m_law_holds [] [.e (eVar 0), .e (eVar 1), .e (eVar 2), .e (eVar 7)]) (fun _ => true) (fun _ => .bl true)
    (ρ := [.sh T, .sh fg, .sh (.int n), .sh (.tup [.int lo, .int hi]), .sh (.int lo), .sh (.int hi), .ow (.lst [.int lo, .int hi, .int ((lo + hi) / 2)]), .no]) (ρ0 := [.sh T, .sh fg, .sh (.int n), .sh (.tup [.int lo, .int hi]), .sh (.int lo), .sh (.int hi), .sh (.lst [.int lo, .int hi, .int ((lo + hi) / 2)]), .no]) (by simp) (by simp) (by rw [sizeLine_eq]; simp) fun w hm => by
      have bw : lo ≤ w ∧ w ≤ hi := by
        simp at hm
        rcases hm with rfl | rfl | rfl <;> omega
      obtain ⟨b, t1, _, e⟩ := hw w
      have := t1 bw.1 bw.2
      subst this
      exact ⟨[.sh T, .sh fg, .sh (.int n), .sh (.tup [.int lo, .int hi]), .sh (.int lo), .sh (.int hi), .sh (.lst [.int lo, .int hi, .int ((lo + hi) / 2)]), .sh (.int w)], _, by simp, by simp; rfl, fun _ => ⟨_, _, by simp [e]; exact ⟨rfl, rfl⟩, rfl, by simp⟩, fun h => by cases h⟩
  have c3 := eLc_over D.int (as := [lo - 1, hi + 1]) (vs := [7]) (t := .n 7) (src := iSeq (eTup [(eBin subO (eVar 4) (eC (.int 1))), (eBin catO (eVar 5) (eC (.int 1)))])) (c := tOf (eBin geO (eVar 7) (eC (.int 0)))) (f := eCall m_law_holds [] [.e (eVar 0), .e (eVar 1), .e (eVar 2), .e (eVar 7)]) (fun w => decide (0 ≤ w)) (fun _ => .bl false)
    (ρ := [.sh T, .sh fg, .sh (.int n), .sh (.tup [.int lo, .int hi]), .sh (.int lo), .sh (.int hi), .sh (.lst [.int lo, .int hi, .int ((lo + hi) / 2)]), .no]) (ρ0 := [.sh T, .sh fg, .sh (.int n), .sh (.tup [.int lo, .int hi]), .sh (.int lo), .sh (.int hi), .sh (.lst [.int lo, .int hi, .int ((lo + hi) / 2)]), .no]) (by simp [z2]) (by simp) (by rw [sizeLine_eq]; simp) fun w hm => by
      obtain ⟨b, _, t2, e⟩ := hw w
      refine ⟨[.sh T, .sh fg, .sh (.int n), .sh (.tup [.int lo, .int hi]), .sh (.int lo), .sh (.int hi), .sh (.lst [.int lo, .int hi, .int ((lo + hi) / 2)]), .sh (.int w)], [.sh T, .sh fg, .sh (.int n), .sh (.tup [.int lo, .int hi]), .sh (.int lo), .sh (.int hi), .sh (.lst [.int lo, .int hi, .int ((lo + hi) / 2)]), .sh (.int w)], by simp, by simp, fun h => ?_, fun h => by simp⟩
      have bf : b = false := t2 (of_decide_eq_true h) (by
        simp at hm
        rcases hm with rfl | rfl <;> omega)
      subst bf
      exact ⟨_, _, by simp [e]; exact ⟨rfl, rfl⟩, rfl, by simp⟩
  have a1 := all_l (bs := [true, true])
  have a2 := all_l (bs := [true, true, true])
  have a3 := any_l (bs := ([lo - 1, hi + 1].filter fun w => decide (0 ≤ w)).map fun _ => false)
  have e3 : ([lo - 1, hi + 1].filter fun w => decide (0 ≤ w)).map (fun _ => D.bl false) = (([lo - 1, hi + 1].filter fun w => decide (0 ≤ w)).map fun _ => false).map .bl := by rw [List.map_map]; rfl
  rw [e3] at c3
  have e4 : ((([lo - 1, hi + 1].filter fun w => decide (0 ≤ w)).map fun _ => false).any id) = false := by
    rw [List.any_eq_false]
    intro x hx
    obtain ⟨_, _, rfl⟩ := List.mem_map.mp hx
    decide
  rw [e4] at a3
  generalize (([lo - 1, hi + 1].filter fun w => decide (0 ≤ w)).map fun _ => false).map D.bl = zs at c3 a3
  simp at c1 c2 a1 a2
  simp [m_law_form_right, mb_law_form_right, sz, e1, c1, a1, z3, div_i (j := 2) (by decide) sm2, c2, a2, c3, a3]
theorem cut3a {x y z : D} : cutD [x, y, z] none (some 2) = [x, y] := rfl
theorem cut3b {x y z : D} : cutD [x, y, z] (some 3) none = [] := rfl
theorem cut5a {x y z u v : D} : cutD [x, y, z, u, v] none (some 2) = [x, y] := rfl
theorem cut5b {x y z u v : D} : cutD [x, y, z, u, v] (some 3) none = [u, v] := rfl
theorem turn_ok {d T : D} {ks : List (Int × Int)} {cap : Int} {s3 s4 s5 s6 s7 s8 s9 : Sl} (eT : D.tup (ks.map kD) = T) (h : Pot d) (hk : ks.length ≤ 6) (hb : ∀ p ∈ ks, 1 ≤ p.1 ∧ p.1 ≤ 30 ∧ 1 ≤ p.2 ∧ p.2 ≤ 30) (c0 : 0 ≤ cap) (c1 : cap ≤ 30) :
    ∃ (d' : D) (t4 t5 t6 t7 t8 t9 : Sl), Pot d' ∧ (sSeq (sSet 4 (eCall m_law_drawn_form [] [.o 0, .e (eVar 1), .e (eVar 2)]))
  (sIf (tOf (eBin notNonO (eVar 4) (eC .non))) (sSeq (sAsg (.t [(.n 5), (.n 6)]) (eVar 4))
  (sSeq (sPar 7 8 (eBin mulO (eBin powO (eC (.int 10)) (eC (.int 15))) (eBin catO (eC (.int 1)) (eCall m_law_take [] [.o 0, .e (eC (.int 999))]))) (eVar 5))
  (sSeq (sIf (tOf (eBin gtO (eFnV lenD 5) (eC (.int 1)))) (sSet 8 (eBin catO (eBin catO (eSl sliceO (eVar 5) oNone (oSome (eC (.int 2)))) (eTup [(eBin catO (eIxV 5 (eC (.int 2))) (eVar 7))])) (eSl sliceO (eVar 5) (oSome (eC (.int 3))) oNone))) sNil)
  (sSeq (sFor (.n 9) (iSeq (eTup [(eVar 5), (eVar 8)])) (sIf (tNot' (tOf (eCall m_law_form_right [] [.e (eVar 1), .e (eVar 9), .e (eVar 6)]))) (sRet (eC (.bl false))) sNil))
  (sIf (tOf (eBin neO (eCallK m_sizes_of [2, 1, 0] [(eVar 6), (eVar 5), (eVar 1)]) (eCall m_sizes_of [] [.e (eVar 1), .e (eVar 5), .e (eVar 6)]))) (sRet (eC (.bl false))) sNil))))) sNil)) [.io d, .sh T, .sh (.int cap), s3, s4, s5, s6, s7, s8, s9] = some (.nx [.io d', .sh T, .sh (.int cap), s3, t4, t5, t6, t7, t8, t9]) := by
  have z1 : (1 : Nat) ≤ sizeLine := by rw [sizeLine_eq]; decide
  have z2 : (2 : Nat) ≤ sizeLine := by rw [sizeLine_eq]; decide
  have z3 : (3 : Nat) ≤ sizeLine := by rw [sizeLine_eq]; decide
  have z5 : (5 : Nat) ≤ sizeLine := by rw [sizeLine_eq]; decide
  obtain ⟨d1, r, p1, hr, e1⟩ := drawn_ok h hk hb c0 c1
  rw [eT] at e1
  rcases hr with rfl | ⟨fg, n, rfl, hn, hf⟩
  · exact ⟨d1, .sh .non, s5, s6, s7, s8, s9, p1, by simp [e1]⟩
  have g := List.getElem?_eq_getElem hn
  have b0 := hb _ (List.getElem_mem hn)
  generalize ks[n] = pp at g b0
  obtain ⟨sp, hv⟩ := pp
  obtain ⟨d2, x, p2, x0, x1, e2⟩ := take_ok (u := 999) p1 (by decide) (by decide)
  have p15 : powO (.int 10) (.int 15) = some (.sh (.int 1000000000000000)) := by
    have e : (10 : Int) ^ 15 = 1000000000000000 := by decide
    rw [← e]
    exact pow_i (i := 10) (n := 15) (by decide) (by decide)
  have s0 : ∀ {k : Int}, 0 ≤ k → k < 2 ^ 62 → small k := fun h1 h2 => small_nat (n := 62) h1 h2 (by decide)
  have ml := mul_i (i := 1000000000000000) (j := 1 + x) (s0 (by decide) (by decide)) (s0 (by omega) (by omega))
  have sz2 : ∀ {f2 : D} {lo hi : Int}, Sz ks f2 n lo hi → m_sizes_of [.sh T, .sh f2, .sh (.int n)] = some (.sh (.tup [.int lo, .int hi]), [.no, .no, .no]) := fun h => by rw [← eT]; exact sizes_ok h
  have fr2 : ∀ {f2 : D} {lo hi : Int}, Sz ks f2 n lo hi → m_law_form_right [.sh T, .sh f2, .sh (.int n)] = some (.sh (.bl true), [.no, .no, .no]) := fun h => by rw [← eT]; exact form_right_ok h
  have nes : ∀ lo hi : Int, neO (.tup [.int lo, .int hi]) (.tup [.int lo, .int hi]) = some (.sh (.bl false)) := fun lo hi => ne_same (n := 0) (fun d hd => by
    rcases List.mem_cons.mp hd with rfl | hd
    · exact nice_int _
    · rw [List.mem_singleton.mp hd]; exact nice_int _) (by decide)
  generalize hmo : 1000000000000000 * (1 + x) = more at ml
  have bmo : 0 ≤ more ∧ more ≤ 10 ^ 18 := by omega
  rcases hf with rfl | ⟨a, b, a0, a1, b00, b1, rfl⟩ | ⟨a, b, c, f, a0, a1, b00, b1, hf, rfl⟩
  · have hz : Sz ks (.tup [.str "long"]) n 0 (sp - 1) := ⟨sp, hv, g, b0.1, b0.2.1, .inl ⟨rfl, rfl, rfl⟩⟩
    exact ⟨d2, .sh (.tup [.tup [.str "long"], .int n]), .sh (.tup [.str "long"]), .sh (.int n), .sh (.int more), .sh (.tup [.str "long"]), .sh (.tup [.str "long"]), p2, by simp [e1, e2, p15, ml, z2, fr2 hz, sz2 hz, nes]⟩
  · have hz : Sz ks (.tup [.str "short end", .int a, .int b]) n (a + b) (a + b + sp - 1) := ⟨sp, hv, g, b0.1, b0.2.1, .inr (.inl ⟨a, b, a0, b00, by omega, rfl, rfl, rfl⟩)⟩
    have hz2 : Sz ks (.tup [.str "short end", .int a, .int (b + more)]) n (a + (b + more)) (a + (b + more) + sp - 1) := ⟨sp, hv, g, b0.1, b0.2.1, .inr (.inl ⟨a, b + more, a0, by omega, by omega, rfl, rfl, rfl⟩)⟩
    exact ⟨d2, .sh (.tup [.tup [.str "short end", .int a, .int b], .int n]), .sh (.tup [.str "short end", .int a, .int b]), .sh (.int n), .sh (.int more), .sh (.tup [.str "short end", .int a, .int (b + more)]), .sh (.tup [.str "short end", .int a, .int (b + more)]), p2,
      by simp [e1, e2, p15, ml, z1, z2, z3, cut3a, cut3b, cat_t, fr2 hz, fr2 hz2, sz2 hz, nes]⟩
  · have g2 := List.getElem?_eq_getElem hf
    have b2 := hb _ (List.getElem_mem hf)
    generalize ks[f] = qq at g2 b2
    obtain ⟨s2, h2⟩ := qq
    have hz : Sz ks (.tup [.str "caught up", .int a, .int b, .int c, .int f]) n (a + b) (a + b + s2 - 1) := ⟨sp, hv, g, b0.1, b0.2.1, .inr (.inr ⟨a, b, c, f, s2, h2, a0, b00, by omega, g2, b2.1, b2.2.1, rfl, rfl, rfl⟩)⟩
    have hz2 : Sz ks (.tup [.str "caught up", .int a, .int (b + more), .int c, .int f]) n (a + (b + more)) (a + (b + more) + s2 - 1) := ⟨sp, hv, g, b0.1, b0.2.1, .inr (.inr ⟨a, b + more, c, f, s2, h2, a0, by omega, by omega, g2, b2.1, b2.2.1, rfl, rfl, rfl⟩)⟩
    exact ⟨d2, .sh (.tup [.tup [.str "caught up", .int a, .int b, .int c, .int f], .int n]), .sh (.tup [.str "caught up", .int a, .int b, .int c, .int f]), .sh (.int n), .sh (.int more), .sh (.tup [.str "caught up", .int a, .int (b + more), .int c, .int f]), .sh (.tup [.str "caught up", .int a, .int (b + more), .int c, .int f]), p2,
      by simp [e1, e2, p15, ml, z1, z2, z3, z5, cut5a, cut5b, cat_t, fr2 hz, fr2 hz2, sz2 hz, nes]⟩
theorem right_ok {d : D} (h : Pot d) : ∃ d' : D, m_law_right [.io d] = some (.sh (.bl true), [.io d']) := by
  obtain ⟨d1, ks, p1, k1, k2, k3, k4, e1⟩ := lot_ok h
  obtain ⟨d2, cap, p2, c0, c1, e2⟩ := take_ok (u := 31) p1 (by decide) (by decide)
  generalize eT : D.tup (ks.map kD) = T at e1
  obtain ⟨ρ', lp, d3, t3, t4, t5, t6, t7, t8, t9, rfl, p3⟩ := loop_nx (t := .n 3) (b := (sSeq (sSet 4 (eCall m_law_drawn_form [] [.o 0, .e (eVar 1), .e (eVar 2)]))
  (sIf (tOf (eBin notNonO (eVar 4) (eC .non))) (sSeq (sAsg (.t [(.n 5), (.n 6)]) (eVar 4))
  (sSeq (sPar 7 8 (eBin mulO (eBin powO (eC (.int 10)) (eC (.int 15))) (eBin catO (eC (.int 1)) (eCall m_law_take [] [.o 0, .e (eC (.int 999))]))) (eVar 5))
  (sSeq (sIf (tOf (eBin gtO (eFnV lenD 5) (eC (.int 1)))) (sSet 8 (eBin catO (eBin catO (eSl sliceO (eVar 5) oNone (oSome (eC (.int 2)))) (eTup [(eBin catO (eIxV 5 (eC (.int 2))) (eVar 7))])) (eSl sliceO (eVar 5) (oSome (eC (.int 3))) oNone))) sNil)
  (sSeq (sFor (.n 9) (iSeq (eTup [(eVar 5), (eVar 8)])) (sIf (tNot' (tOf (eCall m_law_form_right [] [.e (eVar 1), .e (eVar 9), .e (eVar 6)]))) (sRet (eC (.bl false))) sNil))
  (sIf (tOf (eBin neO (eCallK m_sizes_of [2, 1, 0] [(eVar 6), (eVar 5), (eVar 1)]) (eCall m_sizes_of [] [.e (eVar 1), .e (eVar 5), .e (eVar 6)]))) (sRet (eC (.bl false))) sNil))))) sNil)))
    (I := fun _ ρ => ∃ (d' : D) (t3 t4 t5 t6 t7 t8 t9 : Sl), ρ = [.io d', .sh T, .sh (.int cap), t3, t4, t5, t6, t7, t8, t9] ∧ Pot d') (xs := rangeD 0 6) (k := 0) (ρ := [.io d2, .sh T, .sh (.int cap), .no, .no, .no, .no, .no, .no, .no]) ⟨d2, .no, .no, .no, .no, .no, .no, .no, rfl, p2⟩ fun i e ρ he hi => by
      obtain ⟨d', t3, t4, t5, t6, t7, t8, t9, rfl, pd⟩ := hi
      obtain ⟨d'', u4, u5, u6, u7, u8, u9, pu, eu⟩ := turn_ok (s3 := .sh e) (s4 := t4) (s5 := t5) (s6 := t6) (s7 := t7) (s8 := t8) (s9 := t9) eT pd k2 k3 c0 (by omega)
      exact ⟨_, _, by simp, eu, d'', .sh e, u4, u5, u6, u7, u8, u9, rfl, pu⟩
  have rg : iRg1 (eC (.int 6)) [.io d2, .sh T, .sh (.int cap), .no, .no, .no, .no, .no, .no, .no] = some (rangeD 0 6, [.io d2, .sh T, .sh (.int cap), .no, .no, .no, .no, .no, .no, .no]) := rg1 (n := 6) rfl rfl (by decide) (by decide)
  refine ⟨d3, ?_⟩
  unfold m_law_right mb_law_right
  generalize (sSeq (sSet 4 (eCall m_law_drawn_form [] [.o 0, .e (eVar 1), .e (eVar 2)])) _) = body at lp ⊢
  simp [e1, e2, rg, lp]
theorem law_true (ns : List Int) (h : ns.length ≤ 63) : ∃ outs, m_law [.sh (.scr (ns.map .int))] = some (.sh (.bl true), outs) := by
  have e0 : (if (1 : Int) < (if (ns.length : Int) < 2 then (ns.length : Int) else 2) then (if (ns.length : Int) < 2 then (ns.length : Int) else 2) else 1) = (if (ns.length : Int) < 2 then 1 else 2) := by
    split <;> split <;> omega
  generalize hc : (if (ns.length : Int) < 2 then (1 : Int) else 2) = c at e0
  have hc2 : 1 ≤ c ∧ c ≤ 2 := by rw [← hc]; split <;> omega
  have comp := eLc_over (fun n : Nat => D.int (n : Nat)) (as := List.range c.toNat) (vs := [1]) (t := .n 1) (src := iRg1 (eFn (shO maxD) [(eC (.int 1)), (eFn (shO minD) [(eC (.int 2)), (eFnV lenD 0)])])) (c := tTrue) (f := eCallF m_law_right (eCall m_law_pot [] [.e (eVar 0), .e (eVar 1)]) []) (fun _ => true) (fun _ => .bl true)
    (ρ := [.sh (.scr (ns.map .int)), .no]) (ρ0 := [.sh (.scr (ns.map .int)), .no]) (by
      have q := rg1 (f := eFn (shO maxD) [(eC (.int 1)), (eFn (shO minD) [(eC (.int 2)), (eFnV lenD 0)])]) (ρ := [.sh (.scr (ns.map .int)), .no]) (ρ' := [.sh (.scr (ns.map .int)), .no]) (s := .sh (.int c)) (n := c) (by simp; exact e0) rfl (by omega) (by omega)
      rw [q]
      congr 2
      unfold rangeD
      refine List.map_congr_left fun i _ => ?_
      show D.int _ = D.int _
      congr 1
      omega) (by simp) (by rw [sizeLine_eq]; simp; omega) fun n hn => by
      have hn := List.mem_range.mp hn
      obtain ⟨d, pd, ep⟩ := pot_ok (ns := ns) (k := n) (by omega) h
      obtain ⟨d', er⟩ := right_ok pd
      exact ⟨[.sh (.scr (ns.map .int)), .sh (.int (n : Nat))], _, by simp, by simp; rfl, fun _ => ⟨_, _, by simp [ep, er]; exact ⟨rfl, rfl⟩, rfl, by simp⟩, fun h => by cases h⟩
  have ea : ((List.range c.toNat).filter fun _ => true).map (fun _ => D.bl true) = (List.replicate c.toNat true).map .bl := by
    rw [List.filter_eq_self.mpr (by simp), List.map_replicate, List.map_const', List.length_range]
  rw [ea] at comp
  have al := all_l (bs := List.replicate c.toNat true)
  have al2 : (List.replicate c.toNat true).all id = true := by simp
  rw [al2] at al
  generalize (List.replicate c.toNat true).map D.bl = zs at comp al
  exact ⟨[.no], by simp [m_law, mb_law, comp, al]⟩

end T
namespace T
open PySem PySem.Spec PyProof.Rows L2
section
variable {P : Program} {w : World} {K : Fg} {mg : Mg} {base : Heap}
set_option maxHeartbeats 0
theorem ok_law_pot (T : Fx K mg) (hb : base.NoDigits) : FnG P w K mg base CX0 1 T.f_law_pot T.d_law_pot ["_law_script", "_law_k"] (spT K mg m_law_pot) := okT T.F_law_pot sc_law_pot fun cdv A outer s H E hr => by
  have hu := hr.rm.units
  exact (b_cons (s_set 2 sc_law_pot.nd (e_bin op_plus x_plus (e_bin op_mulW x_mul (e_int) (e_var 1)) (e_fnV 0 c_len p_len rfl T.z_len PySem.boot_len)))
  (b_cons (s_if (t_cmp op_lt x_lt (e_var 1) (e_fnV 0 c_len p_len rfl T.z_len PySem.boot_len) (nomark _)) (b_one (s_set 2 sc_law_pot.nd (e_ixV 0 (e_var 1)))) b_nil)
  (b_cons (s_set 3 sc_law_pot.nd (e_bin op_mulW x_mul (e_bin op_mod x_mod (e_fnV 2 call_abs p_abs rfl T.z_abs boot_abs) (e_big hb rfl T.z_int)) (e_fnT call_int1 p_int.s rfl T.z_int boot_int (l_cons (e_cmp op_ge x_ge (e_fnV 2 call_abs p_abs rfl T.z_abs boot_abs) (e_bin op_pow x_pow (e_int) (e_int)) (nomark _)) l_nil))))
  (b_one (s_ret (e_lst (l_cons (e_var 3) (l_cons (e_bin op_mod x_mod (e_bin op_mulW x_mul (e_bin op_plus x_plus (e_bin op_plus x_plus (e_bin op_mod x_mod (e_var 2) (e_int)) (e_bin op_mulW x_mul (e_bin op_mulW x_mul (e_int) (e_var 1)) (e_var 1))) (e_int)) (e_int)) (e_int)) l_nil))))))))
theorem ok_law_take (T : Fx K mg) (hb : base.NoDigits) : FnG P w K mg base CX0 1 T.f_law_take T.d_law_take ["_law_pot_here", "_law_upto"] (spT K mg m_law_take) := okT T.F_law_take sc_law_take fun cdv A outer s H E hr => by
  have hu := hr.rm.units
  exact (b_cons (s_if (t_cmp op_gt x_gt (e_ixV 0 (e_int)) (e_int) (nomark _)) (b_cons (s_set 2 sc_law_take.nd (e_bin op_mod x_mod (e_ixV 0 (e_int)) (e_var 1)))
  (b_cons (s_sub (ps_asg (e_bin op_fdivW x_div (e_ixV 0 (e_int)) (e_var 1)) (pg_sub (pv 0) (e_int) set_list)))
  (b_one (s_retO 2)))) b_nil)
  (b_cons (s_sub (ps_asg (e_bin op_mod x_mod (e_bin op_plus x_plus (e_bin op_mulW x_mul (e_ixV 0 (e_int)) (e_int)) (e_int)) (e_int)) (pg_sub (pv 0) (e_int) set_list)))
  (b_one (s_ret (e_bin op_mod x_mod (e_bin op_fdivW x_div (e_bin op_mod x_mod (e_bin op_mulW x_mul (e_bin op_fdivW x_div (e_ixV 0 (e_int)) (e_int)) (e_bin op_plus x_plus (e_bin op_mod x_mod (e_ixV 0 (e_int)) (e_int)) (e_int))) (e_int)) (e_int)) (e_var 1))))))
theorem ok_law_of (T : Fx K mg) (hb : base.NoDigits) : FnG P w K mg base CX0 2 T.f_law_of T.d_law_of ["_law_pot_here", "_law_some"] (spT K mg m_law_of) := okT T.F_law_of sc_law_of fun cdv A outer s H E hr => by
  have hu := hr.rm.units
  exact (b_one (s_ret (e_ixV 1 (e_call (ok_law_take T hb) (hr.mono (by decide)) rfl T.g_law_take T.F_law_take.kp (b_law_take T) .nil (fun _ _ => .nil) (ga_o 0 (ga_e (e_fnV 1 c_len p_len rfl T.z_len PySem.boot_len) ga_nil))))))
theorem ok_law_rich (T : Fx K mg) (hb : base.NoDigits) : FnG P w K mg base CX0 1 T.f_law_rich T.d_law_rich ["_law_kinds_here", "_law_many"] (spT K mg m_law_rich) := okT T.F_law_rich sc_law_rich fun cdv A outer s H E hr => by
  have hu := hr.rm.units
  exact (b_cons (s_set 2 sc_law_rich.nd (e_lst (l_cons (e_int) l_nil)))
  (b_cons (s_for PassesOwn.never rfl (i_rg2 rfl T.z_range (e_int) (e_bin op_plus x_plus (e_var 1) (e_int))) (t_n 3 sc_law_rich.nd) (b_one (s_app (pe_bm PySem.F.plainAttrs_list PySem.F.slot_list_append PySem.F.type_list_append mt_append (pv 2) (pa_cons (e_fnB (p_max rfl).1 (p_max rfl).2.s rfl T.z_max boot_max (l_cons (e_bin op_plus x_plus (e_lst (l_cons (e_ixV 2 (e_neg (e_int))) l_nil)) (e_lc (by decide) (pe_lc (own := [("_law_span", 4), ("_law_heavy", 5)]) rfl sc_law_rich.nd (i_seq (e_var 0)) (blkOk_by (own := [("_law_span", 4), ("_law_heavy", 5)]) (N := N_law_rich) (sc := defScope st_law_rich) (by decide +kernel)) (fun _ _ _ _ _ => (t_t rfl (ts_cons (t_n 4 sc_law_rich.nd) (ts_cons (t_n 5 sc_law_rich.nd) ts_nil)))) (fun _ _ _ _ _ => (ts_one (t_cmp op_le x_le (e_var 5) (e_var 3) (nomark _)))) (fun _ _ _ _ _ => (e_bin op_plus x_plus (e_ixV 2 (e_bin op_sub x_sub (e_var 3) (e_var 5))) (e_var 4)))))) l_nil)) pa_nil)))))
  (b_one (s_retO 2))))
theorem ok_law_slim (T : Fx K mg) (hb : base.NoDigits) : FnG P w K mg base CX0 1 T.f_law_slim T.d_law_slim ["_law_kinds_here", "_law_many"] (spT K mg m_law_slim) := okT T.F_law_slim sc_law_slim fun cdv A outer s H E hr => by
  have hu := hr.rm.units
  exact (b_cons (s_set 2 sc_law_slim.nd (e_lst (l_cons (e_int) l_nil)))
  (b_cons (s_for PassesOwn.never rfl (i_rg2 rfl T.z_range (e_int) (e_bin op_plus x_plus (e_var 1) (e_int))) (t_n 3 sc_law_slim.nd) (b_cons (s_setLc (by decide) (ps_setLc (i := 4) (own := [("_law_span", 6), ("_law_heavy", 7)]) rfl sc_law_slim.nd rfl rfl (sw_true rfl rfl rfl (by decide +kernel)) (i_seq (e_var 0)) (blkOk_by (own := [("_law_span", 6), ("_law_heavy", 7)]) (N := N_law_slim) (sc := defScope st_law_slim) (by decide +kernel)) (fun _ _ _ _ _ => (t_t rfl (ts_cons (t_n 6 sc_law_slim.nd) (ts_cons (t_n 7 sc_law_slim.nd) ts_nil)))) (fun _ _ _ _ _ => (ts_one (t_cmp op_le x_le (e_var 6) (e_var 3) (nomark _)))) (fun _ _ _ _ _ => (e_ixV 2 (e_bin op_sub x_sub (e_var 3) (e_var 6))))))
  (b_cons (s_setLc (by decide) (ps_setLc (i := 5) (own := [("_law_span", 6), ("_law_heavy", 7)]) rfl sc_law_slim.nd rfl rfl (sw_true rfl rfl rfl (by decide +kernel)) (i_seq (e_var 0)) (blkOk_by (own := [("_law_span", 6), ("_law_heavy", 7)]) (N := N_law_slim) (sc := defScope st_law_slim) (by decide +kernel)) (fun _ _ _ _ _ => (t_t rfl (ts_cons (t_n 6 sc_law_slim.nd) (ts_cons (t_n 7 sc_law_slim.nd) ts_nil)))) (fun _ _ _ _ _ => (ts_one (t_cmp op_le x_le (e_var 6) (e_var 3) (nomark _)))) (fun _ _ _ _ _ => (e_var 7))))
  (b_cons (s_setLc (by decide) (ps_setLc (i := 4) (own := [("_law_item", 8), ("_law_heavy", 7)]) rfl sc_law_slim.nd rfl rfl (sw_true rfl rfl rfl (by decide +kernel)) (i_zp rfl T.z_zip (e_var 4) (e_var 5)) (blkOk_by (own := [("_law_item", 8), ("_law_heavy", 7)]) (N := N_law_slim) (sc := defScope st_law_slim) (by decide +kernel)) (fun _ _ _ _ _ => (t_t rfl (ts_cons (t_n 8 sc_law_slim.nd) (ts_cons (t_n 7 sc_law_slim.nd) ts_nil)))) (fun _ _ _ _ _ => (ts_one (t_cmp op_notN x_notN (e_var 8) (e_non) (nomark _)))) (fun _ _ _ _ _ => (e_bin op_plus x_plus (e_var 8) (e_var 7)))))
  (b_one (s_app (pe_bm PySem.F.plainAttrs_list PySem.F.slot_list_append PySem.F.type_list_append mt_append (pv 2) (pa_cons (e_if (t_cmp (op_neA hu) x_ne (e_var 4) (e_lst l_nil) (nomark _)) (e_fnV 4 (p_min rfl).1 (p_min rfl).2 rfl T.z_min boot_min) (e_non)) pa_nil))))))))
  (b_one (s_retO 2))))
theorem ok_law_yes (T : Fx K mg) (hb : base.NoDigits) : FnG P w K mg base CX0 1 T.f_law_yes T.d_law_yes ["_law_kinds_here", "_law_many"] (spT K mg m_law_yes) := okT T.F_law_yes sc_law_yes fun cdv A outer s H E hr => by
  have hu := hr.rm.units
  exact (b_cons (s_set 2 sc_law_yes.nd (e_lst (l_cons (e_bl) l_nil)))
  (b_cons (s_for PassesOwn.never rfl (i_rg2 rfl T.z_range (e_int) (e_bin op_plus x_plus (e_var 1) (e_int))) (t_n 3 sc_law_yes.nd) (b_one (s_app (pe_bm PySem.F.plainAttrs_list PySem.F.slot_list_append PySem.F.type_list_append mt_append (pv 2) (pa_cons (e_fnB (cr_any rfl) p_any.s rfl T.z_any boot_any (l_cons (e_lc (by decide) (pe_lc (own := [("_law_span", 4), ("_law_heavy", 5)]) rfl sc_law_yes.nd (i_seq (e_var 0)) (blkOk_by (own := [("_law_span", 4), ("_law_heavy", 5)]) (N := N_law_yes) (sc := defScope st_law_yes) (by decide +kernel)) (fun _ _ _ _ _ => (t_t rfl (ts_cons (t_n 4 sc_law_yes.nd) (ts_cons (t_n 5 sc_law_yes.nd) ts_nil)))) (fun _ _ _ _ _ => ts_yes) (fun _ _ _ _ _ => ((e_and (e_cmp op_ge x_ge (e_var 3) (e_var 4) (nomark _)) (e_one (e_ixV 2 (e_bin op_sub x_sub (e_var 3) (e_var 4))))))))) l_nil)) pa_nil)))))
  (b_one (s_retO 2))))
theorem ok_law_drawn_form (T : Fx K mg) (hb : base.NoDigits) : FnG P w K mg base CX0 3 T.f_law_drawn_form T.d_law_drawn_form ["_law_pot_here", "_law_kinds_here", "_law_cap"] (spT K mg m_law_drawn_form) := okT T.F_law_drawn_form sc_law_drawn_form fun cdv A outer s H E hr => by
  have hu := hr.rm.units
  exact (b_cons (s_setLc (by decide) (ps_setLc (i := 3) (own := [("_law_number", 19), ("_law_item", 20)]) rfl sc_law_drawn_form.nd rfl rfl (sw_true rfl rfl rfl (by decide +kernel)) (i_enu rfl T.z_enumerate (e_var 1)) (blkOk_by (own := [("_law_number", 19), ("_law_item", 20)]) (N := N_law_drawn_form) (sc := defScope st_law_drawn_form) (by decide +kernel)) (fun _ _ _ _ _ => (t_t rfl (ts_cons (t_n 19 sc_law_drawn_form.nd) (ts_cons (t_n 20 sc_law_drawn_form.nd) ts_nil)))) (fun _ _ _ _ _ => (ts_one (t_cmp op_le x_le (e_ixV 20 (e_int)) (e_var 2) (nomark _)))) (fun _ _ _ _ _ => (e_var 19))))
  (b_cons (s_if (t_cmp (op_eqA hu) x_eq (e_var 3) (e_lst l_nil) (nomark _)) (b_one (s_ret (e_non))) b_nil)
  (b_cons (s_par (ps_par rfl sc_law_drawn_form.nd rfl rfl (by decide) rfl rfl (pa_cons (e_call (ok_law_of T hb) (hr.mono (by decide)) rfl T.g_law_of T.F_law_of.kp (b_law_of T) .nil (fun _ _ => .nil) (ga_o 0 (ga_e (e_var 3) ga_nil))) (pa_cons (e_lc (by decide) (pe_lc (own := [("_law_number", 19)]) rfl sc_law_drawn_form.nd (i_seq (e_var 3)) (blkOk_by (own := [("_law_number", 19)]) (N := N_law_drawn_form) (sc := defScope st_law_drawn_form) (by decide +kernel)) (fun _ _ _ _ _ => (t_n 19 sc_law_drawn_form.nd)) (fun _ _ _ _ _ => ts_yes) (fun _ _ _ _ _ => (e_ixV 1 (e_var 19))))) pa_nil)) rfl))
  (b_cons (s_asg (e_ixV 1 (e_var 4)) (t_t rfl (ts_cons (t_n 6 sc_law_drawn_form.nd) (ts_cons (t_n 7 sc_law_drawn_form.nd) ts_nil))))
  (b_cons (s_set 8 sc_law_drawn_form.nd (e_bin op_plus x_plus (e_ix ix_seq x_ix (e_call (ok_law_rich T hb) (hr.mono (by decide)) rfl T.g_law_rich T.F_law_rich.kp (b_law_rich T) .nil (fun _ _ => .nil) (ga_e (e_var 5) (ga_e (e_var 2) ga_nil))) (e_var 2)) (e_int)))
  (b_cons (s_setLc (by decide) (ps_setLc (i := 9) (own := [("_law_total", 21), ("_law_is_met", 22)]) rfl sc_law_drawn_form.nd rfl rfl (sw_true rfl rfl rfl (by decide +kernel)) (i_enu rfl T.z_enumerate (e_call (ok_law_yes T hb) (hr.mono (by decide)) rfl T.g_law_yes T.F_law_yes.kp (b_law_yes T) .nil (fun _ _ => .nil) (ga_e (e_var 5) (ga_e (e_bin op_plus x_plus (e_bin op_mulW x_mul (e_int) (e_var 8)) (e_int)) ga_nil)))) (blkOk_by (own := [("_law_total", 21), ("_law_is_met", 22)]) (N := N_law_drawn_form) (sc := defScope st_law_drawn_form) (by decide +kernel)) (fun _ _ _ _ _ => (t_t rfl (ts_cons (t_n 21 sc_law_drawn_form.nd) (ts_cons (t_n 22 sc_law_drawn_form.nd) ts_nil)))) (fun _ _ _ _ _ => (ts_one (t_val (e_var 22)))) (fun _ _ _ _ _ => (e_var 21))))
  (b_cons (s_set 10 sc_law_drawn_form.nd (e_call (ok_law_slim T hb) (hr.mono (by decide)) rfl T.g_law_slim T.F_law_slim.kp (b_law_slim T) .nil (fun _ _ => .nil) (ga_e (e_var 5) (ga_e (e_var 8) ga_nil))))
  (b_cons (s_setLc (by decide) (ps_setLc (i := 11) (own := [("_law_total", 21)]) rfl sc_law_drawn_form.nd rfl rfl (sw_true rfl rfl rfl (by decide +kernel)) (i_rg2 rfl T.z_range (e_int) (e_var 8)) (blkOk_by (own := [("_law_total", 21)]) (N := N_law_drawn_form) (sc := defScope st_law_drawn_form) (by decide +kernel)) (fun _ _ _ _ _ => (t_n 21 sc_law_drawn_form.nd)) (fun _ _ _ _ _ => (ts_one (t_w (w_and (t_cmp op_notN x_notN (e_ixV 10 (e_var 21)) (e_non) (nomark _)) (w_and1 (t_cmp op_le x_le (e_bin op_plus x_plus (e_ixV 10 (e_var 21)) (e_var 7)) (e_var 2) (nomark _))))))) (fun _ _ _ _ _ => (e_var 21))))
  (b_cons (s_if (t_w (w_or (t_cmp (op_eqA hu) x_eq (e_var 11) (e_lst l_nil) (nomark _)) (w_or1 (t_cmp (op_eqA hu) x_eq (e_call (ok_law_take T hb) (hr.mono (by decide)) rfl T.g_law_take T.F_law_take.kp (b_law_take T) .nil (fun _ _ => .nil) (ga_o 0 (ga_e (e_int) ga_nil))) (e_int) (nomark _))))) (b_one (s_ret (e_tup (l_cons (e_tup (l_cons (e_str) l_nil)) (l_cons (e_var 4) l_nil))))) b_nil)
  (b_cons (s_if (t_cmp (op_eqA hu) x_eq (e_call (ok_law_take T hb) (hr.mono (by decide)) rfl T.g_law_take T.F_law_take.kp (b_law_take T) .nil (fun _ _ => .nil) (ga_o 0 (ga_e (e_int) ga_nil))) (e_int) (nomark _)) (b_one (s_ret (e_tup (l_cons (e_tup (l_cons (e_str) (l_cons (e_call (ok_law_of T hb) (hr.mono (by decide)) rfl T.g_law_of T.F_law_of.kp (b_law_of T) .nil (fun _ _ => .nil) (ga_o 0 (ga_e (e_lc (by decide) (pe_lc (own := [("_law_total", 21)]) rfl sc_law_drawn_form.nd (i_seq (e_var 9)) (blkOk_by (own := [("_law_total", 21)]) (N := N_law_drawn_form) (sc := defScope st_law_drawn_form) (by decide +kernel)) (fun _ _ _ _ _ => (t_n 21 sc_law_drawn_form.nd)) (fun _ _ _ _ _ => (ts_one (t_cmp op_lt x_lt (e_var 21) (e_var 6) (nomark _)))) (fun _ _ _ _ _ => (e_var 21)))) ga_nil))) (l_cons (e_call (ok_law_of T hb) (hr.mono (by decide)) rfl T.g_law_of T.F_law_of.kp (b_law_of T) .nil (fun _ _ => .nil) (ga_o 0 (ga_e (e_var 11) ga_nil))) l_nil)))) (l_cons (e_var 4) l_nil))))) b_nil)
  (b_cons (s_set 12 sc_law_drawn_form.nd (e_call (ok_law_of T hb) (hr.mono (by decide)) rfl T.g_law_of T.F_law_of.kp (b_law_of T) .nil (fun _ _ => .nil) (ga_o 0 (ga_e (e_var 11) ga_nil))))
  (b_cons (s_set 13 sc_law_drawn_form.nd (e_lst l_nil))
  (b_cons (s_for PassesOwn.never rfl (i_seq (e_var 3)) (t_n 14 sc_law_drawn_form.nd) (b_cons (s_set 15 sc_law_drawn_form.nd (e_bin op_sub x_sub (e_bin op_sub x_sub (e_bin op_sub x_sub (e_var 2) (e_var 7)) (e_ixV 10 (e_var 12))) (e_ix ix_seq x_ix (e_ixV 1 (e_var 14)) (e_int))))
  (b_one (s_for PassesOwn.never rfl (i_rg1 rfl T.z_range (e_var 8)) (t_n 16 sc_law_drawn_form.nd) (b_one (s_if (t_w (w_and (t_cmp op_notN x_notN (e_ixV 10 (e_var 16)) (e_non) (nomark _)) (w_and1 (t_cmp op_le x_le (e_ixV 10 (e_var 16)) (e_var 15) (nomark _))))) (b_one (s_app (pe_bm PySem.F.plainAttrs_list PySem.F.slot_list_append PySem.F.type_list_append mt_append (pv 13) (pa_cons (e_tup (l_cons (e_bin op_plus x_plus (e_var 16) (e_ix ix_seq x_ix (e_ixV 1 (e_var 14)) (e_int))) (l_cons (e_var 14) l_nil))) pa_nil)))) b_nil))))))
  (b_cons (s_if (t_cmp (op_eqA hu) x_eq (e_var 13) (e_lst l_nil) (nomark _)) (b_one (s_ret (e_tup (l_cons (e_tup (l_cons (e_str) (l_cons (e_call (ok_law_of T hb) (hr.mono (by decide)) rfl T.g_law_of T.F_law_of.kp (b_law_of T) .nil (fun _ _ => .nil) (ga_o 0 (ga_e (e_lc (by decide) (pe_lc (own := [("_law_total", 21)]) rfl sc_law_drawn_form.nd (i_seq (e_var 9)) (blkOk_by (own := [("_law_total", 21)]) (N := N_law_drawn_form) (sc := defScope st_law_drawn_form) (by decide +kernel)) (fun _ _ _ _ _ => (t_n 21 sc_law_drawn_form.nd)) (fun _ _ _ _ _ => (ts_one (t_cmp op_lt x_lt (e_var 21) (e_var 6) (nomark _)))) (fun _ _ _ _ _ => (e_var 21)))) ga_nil))) (l_cons (e_var 12) l_nil)))) (l_cons (e_var 4) l_nil))))) b_nil)
  (b_cons (s_asg (e_call (ok_law_of T hb) (hr.mono (by decide)) rfl T.g_law_of T.F_law_of.kp (b_law_of T) .nil (fun _ _ => .nil) (ga_o 0 (ga_e (e_var 13) ga_nil))) (t_t rfl (ts_cons (t_n 17 sc_law_drawn_form.nd) (ts_cons (t_n 14 sc_law_drawn_form.nd) ts_nil))))
  (b_cons (s_setLc (by decide) (ps_setLc (i := 18) (own := [("_law_total", 21)]) rfl sc_law_drawn_form.nd rfl rfl (sw_true rfl rfl rfl (by decide +kernel)) (i_seq (e_var 9)) (blkOk_by (own := [("_law_total", 21)]) (N := N_law_drawn_form) (sc := defScope st_law_drawn_form) (by decide +kernel)) (fun _ _ _ _ _ => (t_n 21 sc_law_drawn_form.nd)) (fun _ _ _ _ _ => (ts_one (t_chain op_le op_lt x_le x_lt (e_var 17) (e_var 21) (e_bin op_plus x_plus (e_var 17) (e_var 6))))) (fun _ _ _ _ _ => (e_var 21))))
  (b_one (s_ret (e_tup (l_cons (e_tup (l_cons (e_str) (l_cons (e_call (ok_law_of T hb) (hr.mono (by decide)) rfl T.g_law_of T.F_law_of.kp (b_law_of T) .nil (fun _ _ => .nil) (ga_o 0 (ga_e (e_var 18) ga_nil))) (l_cons (e_var 12) (l_cons (e_var 17) (l_cons (e_var 14) l_nil)))))) (l_cons (e_var 4) l_nil)))))))))))))))))))))
theorem ok_law_holds (T : Fx K mg) (hb : base.NoDigits) : FnG P w K mg base CX0 1 T.f_law_holds T.d_law_holds ["_law_kinds_here", "_law_figure", "_law_number", "_law_words_here"] (spT K mg m_law_holds) := okT T.F_law_holds sc_law_holds fun cdv A outer s H E hr => by
  have hu := hr.rm.units
  exact (b_cons (s_set 4 sc_law_holds.nd (e_ix ix_seq x_ix (e_ixV 0 (e_var 2)) (e_int)))
  (b_cons (s_if (t_cmp (op_eqA hu) x_eq (e_ixV 1 (e_int)) (e_str) (nomark _)) (b_one (s_ret (e_cmp op_gt x_gt (e_var 4) (e_var 3) (nomark _)))) b_nil)
  (b_cons (s_set 5 sc_law_holds.nd (e_if (t_cmp (op_eqA hu) x_eq (e_ixV 1 (e_int)) (e_str) (nomark _)) (e_var 4) (e_ix ix_seq x_ix (e_ixV 0 (e_ixV 1 (e_int))) (e_int))))
  (b_one (s_ret (e_chain op_le op_lt x_le x_lt (e_bin op_plus x_plus (e_ixV 1 (e_int)) (e_ixV 1 (e_int))) (e_var 3) (e_bin op_plus x_plus (e_bin op_plus x_plus (e_ixV 1 (e_int)) (e_ixV 1 (e_int))) (e_var 5))))))))
theorem ok_law_is_number (T : Fx K mg) (hb : base.NoDigits) : FnG P w K mg base CX0 1 T.f_law_is_number T.d_law_is_number ["_law_thing", "_law_least", "_law_most"] (spT K mg m_law_is_number) := okT T.F_law_is_number sc_law_is_number fun cdv A outer s H E hr => by
  have hu := hr.rm.units
  exact (b_one (s_ret ((e_and (e_fnB call_isi p_isi.s rfl T.z_isinstance boot_isinstance (l_cons (e_var 0) (l_cons (e_ty rfl T.z_int boot_int) l_nil))) (e_and (e_not (e_fnB call_isi p_isi.s rfl T.z_isinstance boot_isinstance (l_cons (e_var 0) (l_cons (e_ty rfl T.z_bool boot_bool) l_nil)))) (e_one (e_chain op_le op_le x_le x_le (e_var 1) (e_var 0) (e_var 2))))))))
theorem ok_sizes_of (T : Fx K mg) (hb : base.NoDigits) : FnG P w K mg base CX0 1 T.f_sizes_of T.d_sizes_of ["system", "shape", "kind"] (spT K mg m_sizes_of) := okT T.F_sizes_of sc_sizes_of fun cdv A outer s H E hr => by
  have hu := hr.rm.units
  exact (b_cons (s_set 3 sc_sizes_of.nd (e_ix ix_seq x_ix (e_ixV 0 (e_var 2)) (e_int)))
  (b_cons (s_if (t_cmp (op_eqA hu) x_eq (e_ixV 1 (e_int)) (e_gstr rfl T.k_LONG) (nomark _)) (b_one (s_ret (e_tup (l_cons (e_int) (l_cons (e_bin op_sub x_sub (e_var 3) (e_int)) l_nil))))) b_nil)
  (b_cons (s_set 4 sc_sizes_of.nd (e_bin op_plus x_plus (e_ixV 1 (e_int)) (e_ixV 1 (e_int))))
  (b_cons (s_set 5 sc_sizes_of.nd (e_if (t_cmp (op_eqA hu) x_eq (e_ixV 1 (e_int)) (e_gstr rfl T.k_SHORT_END) (nomark _)) (e_var 3) (e_ix ix_seq x_ix (e_ixV 0 (e_ixV 1 (e_int))) (e_int))))
  (b_one (s_ret (e_tup (l_cons (e_var 4) (l_cons (e_bin op_sub x_sub (e_bin op_plus x_plus (e_var 4) (e_var 5)) (e_int)) l_nil)))))))))
theorem ok_law_form_right (T : Fx K mg) (hb : base.NoDigits) : FnG P w K mg base CX0 2 T.f_law_form_right T.d_law_form_right ["_law_kinds_here", "_law_figure", "_law_number"] (spT K mg m_law_form_right) := okT T.F_law_form_right sc_law_form_right fun cdv A outer s H E hr => by
  have hu := hr.rm.units
  exact (b_cons (s_set 3 sc_law_form_right.nd (e_call (ok_sizes_of T hb) (hr.mono (by decide)) rfl T.g_sizes_of T.F_sizes_of.kp (b_sizes_of T) .nil (fun _ _ => .nil) (ga_e (e_var 0) (ga_e (e_var 1) (ga_e (e_var 2) ga_nil)))))
  (b_cons (s_if (t_w (w_or (t_not (t_val (e_fnB call_isi p_isi.s rfl T.z_isinstance boot_isinstance (l_cons (e_var 3) (l_cons (e_ty rfl T.z_tuple boot_tuple) l_nil))))) (w_or (t_cmp (op_neA hu) x_ne (e_fnV 3 c_len p_len rfl T.z_len PySem.boot_len) (e_int) (nomark _)) (w_or1 (t_not (t_val (e_fnB (cr_all rfl) p_all.s rfl T.z_all boot_all (l_cons (e_lc (by decide) (pe_lc (own := [("_law_item", 7)]) rfl sc_law_form_right.nd (i_seq (e_var 3)) (blkOk_by (own := [("_law_item", 7)]) (N := N_law_form_right) (sc := defScope st_law_form_right) (by decide +kernel)) (fun _ _ _ _ _ => (t_n 7 sc_law_form_right.nd)) (fun _ _ _ _ _ => ts_yes) (fun _ _ _ _ _ => (e_call (ok_law_is_number T hb) (hr.mono (by decide)) rfl T.g_law_is_number T.F_law_is_number.kp (b_law_is_number T) .nil (fun _ _ => .nil) (ga_e (e_var 7) (ga_e (e_int) (ga_e (e_bin op_pow x_pow (e_int) (e_int)) ga_nil))))))) l_nil)))))))) (b_one (s_ret (e_bl))) b_nil)
  (b_cons (s_asg (e_var 3) (t_t rfl (ts_cons (t_n 4 sc_law_form_right.nd) (ts_cons (t_n 5 sc_law_form_right.nd) ts_nil))))
  (b_cons (s_set 6 sc_law_form_right.nd (e_lst (l_cons (e_var 4) (l_cons (e_var 5) (l_cons (e_bin op_fdivW x_div (e_bin op_plus x_plus (e_var 4) (e_var 5)) (e_int)) l_nil)))))
  (b_cons (s_if (t_not (t_val (e_fnB (cr_all rfl) p_all.s rfl T.z_all boot_all (l_cons (e_lc (by decide) (pe_lc (own := [("_law_item", 7)]) rfl sc_law_form_right.nd (i_seq (e_var 6)) (blkOk_by (own := [("_law_item", 7)]) (N := N_law_form_right) (sc := defScope st_law_form_right) (by decide +kernel)) (fun _ _ _ _ _ => (t_n 7 sc_law_form_right.nd)) (fun _ _ _ _ _ => ts_yes) (fun _ _ _ _ _ => (e_call (ok_law_holds T hb) (hr.mono (by decide)) rfl T.g_law_holds T.F_law_holds.kp (b_law_holds T) .nil (fun _ _ => .nil) (ga_e (e_var 0) (ga_e (e_var 1) (ga_e (e_var 2) (ga_e (e_var 7) ga_nil)))))))) l_nil)))) (b_one (s_ret (e_bl))) b_nil)
  (b_one (s_ret (e_not (e_fnB (cr_any rfl) p_any.s rfl T.z_any boot_any (l_cons (e_lc (by decide) (pe_lc (own := [("_law_item", 7)]) rfl sc_law_form_right.nd (i_seq (e_tup (l_cons (e_bin op_sub x_sub (e_var 4) (e_int)) (l_cons (e_bin op_plus x_plus (e_var 5) (e_int)) l_nil)))) (blkOk_by (own := [("_law_item", 7)]) (N := N_law_form_right) (sc := defScope st_law_form_right) (by decide +kernel)) (fun _ _ _ _ _ => (t_n 7 sc_law_form_right.nd)) (fun _ _ _ _ _ => (ts_one (t_cmp op_ge x_ge (e_var 7) (e_int) (nomark _)))) (fun _ _ _ _ _ => (e_call (ok_law_holds T hb) (hr.mono (by decide)) rfl T.g_law_holds T.F_law_holds.kp (b_law_holds T) .nil (fun _ _ => .nil) (ga_e (e_var 0) (ga_e (e_var 1) (ga_e (e_var 2) (ga_e (e_var 7) ga_nil)))))))) l_nil))))))))))
theorem ok_law_kinds (T : Fx K mg) (hb : base.NoDigits) : FnG P w K mg base CX0 2 T.f_law_kinds T.d_law_kinds ["_law_pot_here", "_law_many", "_law_most"] (spT K mg m_law_kinds) := okT T.F_law_kinds sc_law_kinds fun cdv A outer s H E hr => by
  have hu := hr.rm.units
  exact (b_cons (s_par (ps_par rfl sc_law_kinds.nd rfl rfl (by decide) rfl rfl (pa_cons (e_call (ok_law_take T hb) (hr.mono (by decide)) rfl T.g_law_take T.F_law_take.kp (b_law_take T) .nil (fun _ _ => .nil) (ga_o 0 (ga_e (e_int) ga_nil))) (pa_cons (e_lst l_nil) pa_nil)) rfl))
  (b_cons (s_for PassesOwn.never rfl (i_rg1 rfl T.z_range (e_bin op_plus x_plus (e_int) (e_call (ok_law_take T hb) (hr.mono (by decide)) rfl T.g_law_take T.F_law_take.kp (b_law_take T) .nil (fun _ _ => .nil) (ga_o 0 (ga_e (e_var 1) ga_nil))))) (t_n 5 sc_law_kinds.nd) (b_cons (s_set 6 sc_law_kinds.nd (e_bin op_plus x_plus (e_int) (e_call (ok_law_take T hb) (hr.mono (by decide)) rfl T.g_law_take T.F_law_take.kp (b_law_take T) .nil (fun _ _ => .nil) (ga_o 0 (ga_e (e_var 2) ga_nil)))))
  (b_one (s_app (pe_bm PySem.F.plainAttrs_list PySem.F.slot_list_append PySem.F.type_list_append mt_append (pv 4) (pa_cons (e_tup (l_cons (e_var 6) (l_cons (e_ix ix_seq x_ix (e_lst (l_cons (e_var 6) (l_cons (e_int) (l_cons (e_bin op_plus x_plus (e_int) (e_call (ok_law_take T hb) (hr.mono (by decide)) rfl T.g_law_take T.F_law_take.kp (b_law_take T) .nil (fun _ _ => .nil) (ga_o 0 (ga_e (e_var 2) ga_nil)))) (l_cons (e_bin op_plus x_plus (e_int) (e_call (ok_law_take T hb) (hr.mono (by decide)) rfl T.g_law_take T.F_law_take.kp (b_law_take T) .nil (fun _ _ => .nil) (ga_o 0 (ga_e (e_var 2) ga_nil)))) l_nil))))) (e_var 3)) l_nil))) pa_nil))))))
  (b_one (s_ret (e_fnT call_tuple_of s_tuple rfl T.z_tuple boot_tuple (l_cons (e_sset rfl hr.rm.units rfl T.z_sorted rfl T.z_set (e_var 4)) l_nil))))))
theorem ok_law_lot (T : Fx K mg) (hb : base.NoDigits) : FnG P w K mg base CX0 3 T.f_law_lot T.d_law_lot ["_law_pot_here"] (spT K mg m_law_lot) := okT T.F_law_lot sc_law_lot fun cdv A outer s H E hr => by
  have hu := hr.rm.units
  exact (b_cons (s_if (t_cmp (op_eqA hu) x_eq (e_call (ok_law_take T hb) (hr.mono (by decide)) rfl T.g_law_take T.F_law_take.kp (b_law_take T) .nil (fun _ _ => .nil) (ga_o 0 (ga_e (e_int) ga_nil))) (e_int) (nomark _)) (b_one (s_ret (e_call (ok_law_kinds T hb) (hr.mono (by decide)) rfl T.g_law_kinds T.F_law_kinds.kp (b_law_kinds T) .nil (fun _ _ => .nil) (ga_o 0 (ga_e (e_int) (ga_e (e_int) ga_nil)))))) b_nil)
  (b_one (s_ret (e_call (ok_law_kinds T hb) (hr.mono (by decide)) rfl T.g_law_kinds T.F_law_kinds.kp (b_law_kinds T) .nil (fun _ _ => .nil) (ga_o 0 (ga_e (e_int) (ga_e (e_call (ok_law_of T hb) (hr.mono (by decide)) rfl T.g_law_of T.F_law_of.kp (b_law_of T) .nil (fun _ _ => .nil) (ga_o 0 (ga_e (e_lst (l_cons (e_int) (l_cons (e_int) (l_cons (e_int) l_nil)))) ga_nil))) ga_nil)))))))
theorem ok_law_right (T : Fx K mg) (hb : base.NoDigits) : FnG P w K mg base CX0 4 T.f_law_right T.d_law_right ["_law_pot_here"] (spT K mg m_law_right) := okT T.F_law_right sc_law_right fun cdv A outer s H E hr => by
  have hu := hr.rm.units
  exact (b_cons (s_par (ps_par rfl sc_law_right.nd rfl rfl (by decide) rfl rfl (pa_cons (e_call (ok_law_lot T hb) (hr.mono (by decide)) rfl T.g_law_lot T.F_law_lot.kp (b_law_lot T) .nil (fun _ _ => .nil) (ga_o 0 ga_nil)) (pa_cons (e_call (ok_law_take T hb) (hr.mono (by decide)) rfl T.g_law_take T.F_law_take.kp (b_law_take T) .nil (fun _ _ => .nil) (ga_o 0 (ga_e (e_int) ga_nil))) pa_nil)) rfl))
  (b_cons (s_for PassesOwn.never rfl (i_rg1 rfl T.z_range (e_int)) (t_n 3 sc_law_right.nd) (b_cons (s_set 4 sc_law_right.nd (e_call (ok_law_drawn_form T hb) (hr.mono (by decide)) rfl T.g_law_drawn_form T.F_law_drawn_form.kp (b_law_drawn_form T) .nil (fun _ _ => .nil) (ga_o 0 (ga_e (e_var 1) (ga_e (e_var 2) ga_nil)))))
  (b_one (s_if (t_cmp op_notN x_notN (e_var 4) (e_non) (nomark _)) (b_cons (s_asg (e_var 4) (t_t rfl (ts_cons (t_n 5 sc_law_right.nd) (ts_cons (t_n 6 sc_law_right.nd) ts_nil))))
  (b_cons (s_par (ps_par rfl sc_law_right.nd rfl rfl (by decide) rfl rfl (pa_cons (e_bin op_mulW x_mul (e_bin op_pow x_pow (e_int) (e_int)) (e_bin op_plus x_plus (e_int) (e_call (ok_law_take T hb) (hr.mono (by decide)) rfl T.g_law_take T.F_law_take.kp (b_law_take T) .nil (fun _ _ => .nil) (ga_o 0 (ga_e (e_int) ga_nil))))) (pa_cons (e_var 5) pa_nil)) rfl))
  (b_cons (s_if (t_cmp op_gt x_gt (e_fnV 5 c_len p_len rfl T.z_len PySem.boot_len) (e_int) (nomark _)) (b_one (s_set 8 sc_law_right.nd (e_bin op_plus x_plus (e_bin op_plus x_plus (e_sl (pe_slice sl_U (e_var 5) o_none (o_some (e_int)))) (e_tup (l_cons (e_bin op_plus x_plus (e_ixV 5 (e_int)) (e_var 7)) l_nil))) (e_sl (pe_slice sl_U (e_var 5) (o_some (e_int)) o_none))))) b_nil)
  (b_cons (s_for PassesOwn.never rfl (i_seq (e_tup (l_cons (e_var 5) (l_cons (e_var 8) l_nil)))) (t_n 9 sc_law_right.nd) (b_one (s_if (t_not (t_val (e_call (ok_law_form_right T hb) (hr.mono (by decide)) rfl T.g_law_form_right T.F_law_form_right.kp (b_law_form_right T) .nil (fun _ _ => .nil) (ga_e (e_var 1) (ga_e (e_var 9) (ga_e (e_var 6) ga_nil)))))) (b_one (s_ret (e_bl))) b_nil)))
  (b_one (s_if (t_cmp (op_neA hu) x_ne (e_callK (ok_sizes_of T hb) (hr.mono (by decide)) rfl T.g_sizes_of T.F_sizes_of.kp (kb_sizes_of_kind_shape_system T) (k_cons (e_var 6) (k_cons (e_var 5) (k_cons (e_var 1) k_nil))) rfl) (e_call (ok_sizes_of T hb) (hr.mono (by decide)) rfl T.g_sizes_of T.F_sizes_of.kp (b_sizes_of T) .nil (fun _ _ => .nil) (ga_e (e_var 1) (ga_e (e_var 5) (ga_e (e_var 6) ga_nil)))) (nomark _)) (b_one (s_ret (e_bl))) b_nil)))))) b_nil))))
  (b_one (s_ret (e_bl)))))
theorem ok_law (T : Fx K mg) (hb : base.NoDigits) : FnG P w K mg base CX0 5 T.f_law T.d_law ["_law_script"] (spT K mg m_law) := okT T.F_law sc_law fun cdv A outer s H E hr => by
  have hu := hr.rm.units
  exact (b_one (s_ret (e_fnB (cr_all rfl) p_all.s rfl T.z_all boot_all (l_cons (e_lc (by decide) (pe_lc (own := [("_law_k", 1)]) rfl sc_law.nd (i_rg1 rfl T.z_range (e_fnB (p_max rfl).1 (p_max rfl).2.s rfl T.z_max boot_max (l_cons (e_int) (l_cons (e_fnB (p_min rfl).1 (p_min rfl).2.s rfl T.z_min boot_min (l_cons (e_int) (l_cons (e_fnV 0 c_len p_len rfl T.z_len PySem.boot_len) l_nil))) l_nil)))) (blkOk_by (own := [("_law_k", 1)]) (N := N_law) (sc := defScope st_law) (by decide +kernel)) (fun _ _ _ _ _ => (t_n 1 sc_law.nd)) (fun _ _ _ _ _ => ts_yes) (fun _ _ _ _ _ => (e_callF (ok_law_right T hb) (hr.mono (by decide)) rfl T.g_law_right T.F_law_right.kp (b_law_right T) (e_call (ok_law_pot T hb) (hr.mono (by decide)) rfl T.g_law_pot T.F_law_pot.kp (b_law_pot T) .nil (fun _ _ => .nil) (ga_e (e_var 0) (ga_e (e_var 1) ga_nil))) l_nil)))) l_nil))))
end
theorem fx_mk {l : PySem.W.OpenLaw} {w : World} {K : Fg} {h : Heap} {mg : Str → Option Value} {fa : Addr} {f1 f2 f3 f4 f5 f6 f7 f8 f9 f10 f11 f12 f13 f14 f15 : Addr} (hk : K.In h) (hg : h.Ns mainGlobals mg) (hfa : mg "law" = some (.ref fa))
    {od1 an1 od2 an2 od3 an3 od4 an4 od5 an5 od6 an6 od7 an7 od8 an8 od9 an9 od10 an10 od11 an11 od12 an12 od13 an13 od14 an14 od15 an15 : Option Addr} {sl1 sl2 sl3 sl4 sl5 sl6 sl7 sl8 sl9 sl10 sl11 sl12 sl13 sl14 sl15 : Array (Option Value)} {oc1 kV1 dc1 pm1 cd1 ct1 oc2 kV2 dc2 pm2 cd2 ct2 oc3 kV3 dc3 pm3 cd3 ct3 oc4 kV4 dc4 pm4 cd4 ct4 oc5 kV5 dc5 pm5 cd5 ct5 oc6 kV6 dc6 pm6 cd6 ct6 oc7 kV7 dc7 pm7 cd7 ct7 oc8 kV8 dc8 pm8 cd8 ct8 oc9 kV9 dc9 pm9 cd9 ct9 oc10 kV10 dc10 pm10 cd10 ct10 oc11 kV11 dc11 pm11 cd11 ct11 oc12 kV12 dc12 pm12 cd12 ct12 oc13 kV13 dc13 pm13 cd13 ct13 oc14 kV14 dc14 pm14 cd14 ct14 oc15 kV15 dc15 pm15 cd15 ct15 : Value}
    {t1 : Tok}
    {t0 : Tok}
    (a1 : PySem.W.nsIn K mainGlobals "_law_pot" = some (some (.ref f1))) (l1 : K.lookup f1 = some ⟨oc1, od1, .func (PySem.W.fnOf "_law_pot" "_law_pot" (defArgs st_law_pot) (defBody st_law_pot) (defScope st_law_pot) .none kV1 dc1 pm1 an1 cd1 ct1), sl1⟩) (c1 : PySem.W.codeIn K cd1 "_law_pot" = true) (k1 : PySem.W.keepIn K (.ref f1) = true)
    (a2 : PySem.W.nsIn K mainGlobals "_law_take" = some (some (.ref f2))) (l2 : K.lookup f2 = some ⟨oc2, od2, .func (PySem.W.fnOf "_law_take" "_law_take" (defArgs st_law_take) (defBody st_law_take) (defScope st_law_take) .none kV2 dc2 pm2 an2 cd2 ct2), sl2⟩) (c2 : PySem.W.codeIn K cd2 "_law_take" = true) (k2 : PySem.W.keepIn K (.ref f2) = true)
    (a3 : PySem.W.nsIn K mainGlobals "_law_of" = some (some (.ref f3))) (l3 : K.lookup f3 = some ⟨oc3, od3, .func (PySem.W.fnOf "_law_of" "_law_of" (defArgs st_law_of) (defBody st_law_of) (defScope st_law_of) .none kV3 dc3 pm3 an3 cd3 ct3), sl3⟩) (c3 : PySem.W.codeIn K cd3 "_law_of" = true) (k3 : PySem.W.keepIn K (.ref f3) = true)
    (a4 : PySem.W.nsIn K mainGlobals "_law_rich" = some (some (.ref f4))) (l4 : K.lookup f4 = some ⟨oc4, od4, .func (PySem.W.fnOf "_law_rich" "_law_rich" (defArgs st_law_rich) (defBody st_law_rich) (defScope st_law_rich) .none kV4 dc4 pm4 an4 cd4 ct4), sl4⟩) (c4 : PySem.W.codeIn K cd4 "_law_rich" = true) (k4 : PySem.W.keepIn K (.ref f4) = true)
    (a5 : PySem.W.nsIn K mainGlobals "_law_slim" = some (some (.ref f5))) (l5 : K.lookup f5 = some ⟨oc5, od5, .func (PySem.W.fnOf "_law_slim" "_law_slim" (defArgs st_law_slim) (defBody st_law_slim) (defScope st_law_slim) .none kV5 dc5 pm5 an5 cd5 ct5), sl5⟩) (c5 : PySem.W.codeIn K cd5 "_law_slim" = true) (k5 : PySem.W.keepIn K (.ref f5) = true)
    (a6 : PySem.W.nsIn K mainGlobals "_law_yes" = some (some (.ref f6))) (l6 : K.lookup f6 = some ⟨oc6, od6, .func (PySem.W.fnOf "_law_yes" "_law_yes" (defArgs st_law_yes) (defBody st_law_yes) (defScope st_law_yes) .none kV6 dc6 pm6 an6 cd6 ct6), sl6⟩) (c6 : PySem.W.codeIn K cd6 "_law_yes" = true) (k6 : PySem.W.keepIn K (.ref f6) = true)
    (a7 : PySem.W.nsIn K mainGlobals "_law_drawn_form" = some (some (.ref f7))) (l7 : K.lookup f7 = some ⟨oc7, od7, .func (PySem.W.fnOf "_law_drawn_form" "_law_drawn_form" (defArgs st_law_drawn_form) (defBody st_law_drawn_form) (defScope st_law_drawn_form) .none kV7 dc7 pm7 an7 cd7 ct7), sl7⟩) (c7 : PySem.W.codeIn K cd7 "_law_drawn_form" = true) (k7 : PySem.W.keepIn K (.ref f7) = true)
    (a8 : PySem.W.nsIn K mainGlobals "_law_holds" = some (some (.ref f8))) (l8 : K.lookup f8 = some ⟨oc8, od8, .func (PySem.W.fnOf "_law_holds" "_law_holds" (defArgs st_law_holds) (defBody st_law_holds) (defScope st_law_holds) .none kV8 dc8 pm8 an8 cd8 ct8), sl8⟩) (c8 : PySem.W.codeIn K cd8 "_law_holds" = true) (k8 : PySem.W.keepIn K (.ref f8) = true)
    (a9 : PySem.W.nsIn K mainGlobals "_law_is_number" = some (some (.ref f9))) (l9 : K.lookup f9 = some ⟨oc9, od9, .func (PySem.W.fnOf "_law_is_number" "_law_is_number" (defArgs st_law_is_number) (defBody st_law_is_number) (defScope st_law_is_number) .none kV9 dc9 pm9 an9 cd9 ct9), sl9⟩) (c9 : PySem.W.codeIn K cd9 "_law_is_number" = true) (k9 : PySem.W.keepIn K (.ref f9) = true)
    (a10 : PySem.W.nsIn K mainGlobals "sizes_of" = some (some (.ref f10))) (l10 : K.lookup f10 = some ⟨oc10, od10, .func (PySem.W.fnOf "sizes_of" "sizes_of" (defArgs st_sizes_of) (defBody st_sizes_of) (defScope st_sizes_of) .none kV10 dc10 pm10 an10 cd10 ct10), sl10⟩) (c10 : PySem.W.codeIn K cd10 "sizes_of" = true) (k10 : PySem.W.keepIn K (.ref f10) = true)
    (a11 : PySem.W.nsIn K mainGlobals "_law_form_right" = some (some (.ref f11))) (l11 : K.lookup f11 = some ⟨oc11, od11, .func (PySem.W.fnOf "_law_form_right" "_law_form_right" (defArgs st_law_form_right) (defBody st_law_form_right) (defScope st_law_form_right) .none kV11 dc11 pm11 an11 cd11 ct11), sl11⟩) (c11 : PySem.W.codeIn K cd11 "_law_form_right" = true) (k11 : PySem.W.keepIn K (.ref f11) = true)
    (a12 : PySem.W.nsIn K mainGlobals "_law_kinds" = some (some (.ref f12))) (l12 : K.lookup f12 = some ⟨oc12, od12, .func (PySem.W.fnOf "_law_kinds" "_law_kinds" (defArgs st_law_kinds) (defBody st_law_kinds) (defScope st_law_kinds) .none kV12 dc12 pm12 an12 cd12 ct12), sl12⟩) (c12 : PySem.W.codeIn K cd12 "_law_kinds" = true) (k12 : PySem.W.keepIn K (.ref f12) = true)
    (a13 : PySem.W.nsIn K mainGlobals "_law_lot" = some (some (.ref f13))) (l13 : K.lookup f13 = some ⟨oc13, od13, .func (PySem.W.fnOf "_law_lot" "_law_lot" (defArgs st_law_lot) (defBody st_law_lot) (defScope st_law_lot) .none kV13 dc13 pm13 an13 cd13 ct13), sl13⟩) (c13 : PySem.W.codeIn K cd13 "_law_lot" = true) (k13 : PySem.W.keepIn K (.ref f13) = true)
    (a14 : PySem.W.nsIn K mainGlobals "_law_right" = some (some (.ref f14))) (l14 : K.lookup f14 = some ⟨oc14, od14, .func (PySem.W.fnOf "_law_right" "_law_right" (defArgs st_law_right) (defBody st_law_right) (defScope st_law_right) .none kV14 dc14 pm14 an14 cd14 ct14), sl14⟩) (c14 : PySem.W.codeIn K cd14 "_law_right" = true) (k14 : PySem.W.keepIn K (.ref f14) = true)
    (a15 : PySem.W.nsIn K mainGlobals "law" = some (some (.ref f15))) (l15 : K.lookup f15 = some ⟨oc15, od15, .func (PySem.W.fnOf "law" "law" (defArgs st_law) (defBody st_law) (defScope st_law) .none kV15 dc15 pm15 an15 cd15 ct15), sl15⟩) (c15 : PySem.W.codeIn K cd15 "law" = true) (k15 : PySem.W.keepIn K (.ref f15) = true)
    (z_abs : PySem.W.nsIn K mainGlobals "abs" = some none)
    (z_all : PySem.W.nsIn K mainGlobals "all" = some none)
    (z_any : PySem.W.nsIn K mainGlobals "any" = some none)
    (z_bool : PySem.W.nsIn K mainGlobals "bool" = some none)
    (z_enumerate : PySem.W.nsIn K mainGlobals "enumerate" = some none)
    (z_int : PySem.W.nsIn K mainGlobals "int" = some none)
    (z_isinstance : PySem.W.nsIn K mainGlobals "isinstance" = some none)
    (z_len : PySem.W.nsIn K mainGlobals "len" = some none)
    (z_max : PySem.W.nsIn K mainGlobals "max" = some none)
    (z_min : PySem.W.nsIn K mainGlobals "min" = some none)
    (z_range : PySem.W.nsIn K mainGlobals "range" = some none)
    (z_set : PySem.W.nsIn K mainGlobals "set" = some none)
    (z_sorted : PySem.W.nsIn K mainGlobals "sorted" = some none)
    (z_tuple : PySem.W.nsIn K mainGlobals "tuple" = some none)
    (z_zip : PySem.W.nsIn K mainGlobals "zip" = some none)
    (q_LONG : PySem.W.nsIn K mainGlobals "LONG" = some (some (.str "long" t0)))
    (q_SHORT_END : PySem.W.nsIn K mainGlobals "SHORT_END" = some (some (.str "short end" t1)))
    : ∃ fd : FuncData, (∀ (s : Shared) (v : Value), BindsTo s fd ⟨[v], []⟩ [("_law_script", v)]) ∧ ∀ base : Heap, K.In base → base.Ns mainGlobals mg → base.NoDigits → FnG l.prog w K mg base CX0 5 fa fd ["_law_script"] (spT K mg m_law) := by
  have e := hfa.symm.trans (PySem.W.mg_of hk hg a15)
  cases e
  let T : Fx K mg := ⟨f1, _, fun_mk (st := st_law_pot) l1 c1 k1, PySem.W.mg_of hk hg a1, f2, _, fun_mk (st := st_law_take) l2 c2 k2, PySem.W.mg_of hk hg a2, f3, _, fun_mk (st := st_law_of) l3 c3 k3, PySem.W.mg_of hk hg a3, f4, _, fun_mk (st := st_law_rich) l4 c4 k4, PySem.W.mg_of hk hg a4, f5, _, fun_mk (st := st_law_slim) l5 c5 k5, PySem.W.mg_of hk hg a5, f6, _, fun_mk (st := st_law_yes) l6 c6 k6, PySem.W.mg_of hk hg a6, f7, _, fun_mk (st := st_law_drawn_form) l7 c7 k7, PySem.W.mg_of hk hg a7, f8, _, fun_mk (st := st_law_holds) l8 c8 k8, PySem.W.mg_of hk hg a8, f9, _, fun_mk (st := st_law_is_number) l9 c9 k9, PySem.W.mg_of hk hg a9, f10, _, fun_mk (st := st_sizes_of) l10 c10 k10, PySem.W.mg_of hk hg a10, f11, _, fun_mk (st := st_law_form_right) l11 c11 k11, PySem.W.mg_of hk hg a11, f12, _, fun_mk (st := st_law_kinds) l12 c12 k12, PySem.W.mg_of hk hg a12, f13, _, fun_mk (st := st_law_lot) l13 c13 k13, PySem.W.mg_of hk hg a13, f14, _, fun_mk (st := st_law_right) l14 c14 k14, PySem.W.mg_of hk hg a14, _, _, fun_mk (st := st_law) l15 c15 k15, PySem.W.mg_of hk hg a15, PySem.W.mg_none_of hk hg z_abs, PySem.W.mg_none_of hk hg z_all, PySem.W.mg_none_of hk hg z_any, PySem.W.mg_none_of hk hg z_bool, PySem.W.mg_none_of hk hg z_enumerate, PySem.W.mg_none_of hk hg z_int, PySem.W.mg_none_of hk hg z_isinstance, PySem.W.mg_none_of hk hg z_len, PySem.W.mg_none_of hk hg z_max, PySem.W.mg_none_of hk hg z_min, PySem.W.mg_none_of hk hg z_range, PySem.W.mg_none_of hk hg z_set, PySem.W.mg_none_of hk hg z_sorted, PySem.W.mg_none_of hk hg z_tuple, PySem.W.mg_none_of hk hg z_zip, ⟨t0, PySem.W.mg_of hk hg q_LONG⟩, ⟨t1, PySem.W.mg_of hk hg q_SHORT_END⟩⟩
  exact ⟨PySem.W.fnOf "law" "law" (defArgs st_law) (defBody st_law) (defScope st_law) .none kV15 dc15 pm15 an15 cd15 ct15, fun s v => .of_eq rfl, fun base _ _ hb => ok_law T hb⟩
end T
open PySem PySem.W PyProof.Rows
set_option maxHeartbeats 0 in
theorem PySem.Challenge.cw_wholering_k70_sizes_of_shapes_holds : PySem.Challenge.rw_wholering_k70_sizes_of_shapes.Holds := by
  w_on; o_law; k_head; (case hw => w_witness2)
  k_fill
  refine T.walkG (l := PySem.Challenge.rw_wholering_k70_sizes_of_shapes) (n := 63) (k := 5) (x := "_law_script") (F := T.m_law) rfl (by decide) rfl ⟨⟨rfl, by decide, by decide⟩, rfl⟩ (fun w h Y => PySem.W.kIn_of Y) ?F (fun ns h => T.law_true ns h)
  case F =>
    intro w mg fa h KX G hmg
    refine' T.fx_mk KX G hmg ?a1 ?l1 ?c1 ?k1 ?a2 ?l2 ?c2 ?k2 ?a3 ?l3 ?c3 ?k3 ?a4 ?l4 ?c4 ?k4 ?a5 ?l5 ?c5 ?k5 ?a6 ?l6 ?c6 ?k6 ?a7 ?l7 ?c7 ?k7 ?a8 ?l8 ?c8 ?k8 ?a9 ?l9 ?c9 ?k9 ?a10 ?l10 ?c10 ?k10 ?a11 ?l11 ?c11 ?k11 ?a12 ?l12 ?c12 ?k12 ?a13 ?l13 ?c13 ?k13 ?a14 ?l14 ?c14 ?k14 ?a15 ?l15 ?c15 ?k15 ?z_abs ?z_all ?z_any ?z_bool ?z_enumerate ?z_int ?z_isinstance ?z_len ?z_max ?z_min ?z_range ?z_set ?z_sorted ?z_tuple ?z_zip ?q_LONG ?q_SHORT_END
    (case a1 => k_is); (case l1 => k_is); (case c1 => k_is); (case k1 => k_is); (case a2 => k_is); (case l2 => k_is); (case c2 => k_is); (case k2 => k_is); (case a3 => k_is); (case l3 => k_is); (case c3 => k_is); (case k3 => k_is); (case a4 => k_is); (case l4 => k_is); (case c4 => k_is); (case k4 => k_is); (case a5 => k_is); (case l5 => k_is); (case c5 => k_is); (case k5 => k_is); (case a6 => k_is); (case l6 => k_is); (case c6 => k_is); (case k6 => k_is); (case a7 => k_is); (case l7 => k_is); (case c7 => k_is); (case k7 => k_is); (case a8 => k_is); (case l8 => k_is); (case c8 => k_is); (case k8 => k_is); (case a9 => k_is); (case l9 => k_is); (case c9 => k_is); (case k9 => k_is); (case a10 => k_is); (case l10 => k_is); (case c10 => k_is); (case k10 => k_is); (case a11 => k_is); (case l11 => k_is); (case c11 => k_is); (case k11 => k_is); (case a12 => k_is); (case l12 => k_is); (case c12 => k_is); (case k12 => k_is); (case a13 => k_is); (case l13 => k_is); (case c13 => k_is); (case k13 => k_is); (case a14 => k_is); (case l14 => k_is); (case c14 => k_is); (case k14 => k_is); (case a15 => k_is); (case l15 => k_is); (case c15 => k_is); (case k15 => k_is); (case z_abs => k_is); (case z_all => k_is); (case z_any => k_is); (case z_bool => k_is); (case z_enumerate => k_is); (case z_int => k_is); (case z_isinstance => k_is); (case z_len => k_is); (case z_max => k_is); (case z_min => k_is); (case z_range => k_is); (case z_set => k_is); (case z_sorted => k_is); (case z_tuple => k_is); (case z_zip => k_is); (case q_LONG => k_is); (case q_SHORT_END => k_is)
